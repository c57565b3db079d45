import PyProof.Rows.All
import Wide.All
import OpenK.AllK
import Wide.FinOn
import HandS.ForMost
import HandS.ForExc
import HandS.OwnEq
import HandS.Property
import HandS.IsInst
import HandS.Defaults
import HandS.MakeKw
import HandS.Lambda
import HandS.DictComp
import HandS.Flow
import HandS.More
import HandS.TupAny
import HandS.WideBits
import HandS.Deep
import HandS.Star
import HandS.Conv
import HandS.Style
import KE.KDictKeyed
import KE.SortData
import KE.KeyNested
import KE.KNest
import HandS.TupMul
import HandS.SortInts
import HandS.NoneIn
import KE.KDictCopyH
import HandS.ListItems
import HandS.MakeKwOnly
import HandS.EndBits
import KE.GoesEnum
import HandS.DictEq
import PyProof.DictUpdate
import PyProof.DictDisplay
import HandS.Strs
import HandS.Zip
import KE.DataFind
import HandS.Set
import KE.KDictZip
import KE.KItemsList
import KE.GoesZip
import KE.GoesMore
import KE.KDictPairs
import PyProof.TupleOfSeq
import KE.KDictSum
import KE.KDictWalk
import HandS.Finally
import HandS.ExcInit
import HandS.ExcValue
import KE.KExcSuper
import HandS.HeadWalk
import HandS.ExcOwn
import HandS.TryOnly
import HandS.ExcIs
import HandS.ExcField
import HandS.TupLe
import KE.KDictDisplayH
import HandS.TupLen
import KE.KRevSl
import KE.DataMinMax
import HandS.SortKw
import KE.KTupSum
import HandS.ListEq
import PySem.Challenge.RW_unheard_k32_lists_in_order
set_option Elab.async false
set_option linter.all false
set_option maxRecDepth 100000
set_option maxHeartbeats 4000000
namespace U
open PySem L2
inductive Val where
  | non | bl (b : Bool) | int (i : Int) | str (x : Str) | tup (vs : List Val) | ref (n : Nat) | ty (n : String) | gl (x : Str)
inductive Ob where
  | lst (vs : List Val)
  | fro (vs : List Val)
  | dct (kvs : List (Val × Val))
  | fdc (kvs : List (Val × Val))
  | dcn (kvs : List (Val × Val))
  | fdn (kvs : List (Val × Val))
  | ins (C : Str) (fs : List (Str × Val))
  | exc (C : Str) (d : Option Nat)
  | xdo (f : Str) (v : Val)
abbrev Hh := List Ob
abbrev Loc := List (Option Val)
structure Xc where
  C : Str
  at? : Option (Str × Val)
inductive Res (α : Type) where
  | ok (a : α) (h : Hh)
  | rs (x : Xc) (h : Hh)
  | no
def Res.bind {α β : Type} (r : Res α) (k : α → Hh → Res β) : Res β := match r with
  | .ok a h => k a h
  | .rs x h => .rs x h
  | .no => .no
@[simp] theorem bind_ok {α β : Type} (a : α) (h : Hh) (k : α → Hh → Res β) : (Res.ok a h).bind k = k a h := rfl
@[simp] theorem bind_rs {α β : Type} (x : Xc) (h : Hh) (k : α → Hh → Res β) : (Res.rs x h : Res α).bind k = .rs x h := rfl
@[simp] theorem bind_no {α β : Type} (k : α → Hh → Res β) : (Res.no : Res α).bind k = .no := rfl
abbrev ME := Loc → Hh → Res Val
abbrev Fn := List Val → Hh → Res Val
def TupAt (K : PySem.W.Frag) (H : Hp) (a : Addr) (ws : List V) : Prop :=
  H a = some (.tup ws) ∨ ∃ (o : Obj) (its : Array Value) (n : Nat), K.lookup a = some o ∧ o.cls = .type "tuple" ∧ o.data = .seq its n ∧ its.size ≤ sizeLine ∧ Vals ws its.toList
theorem TupAt.sq {K : PySem.W.Frag} {H : Hp} {a : Addr} {ws : List V} (t : TupAt K H a ws) : SqT K H a ws := by
  rcases t with t | t
  · exact .inl (.inl t)
  · exact .inr t
def Et (H H' : Hp) : Prop := ∀ a ws, H a = some (.tup ws) → H' a = some (.tup ws)
theorem Et.new {H : Hp} {p : Addr} {o : HO} (hp : H p = none) : Et H (upd H p o) := fun a ws e => by
  rw [upd_ne (ne_of_none e hp)]; exact e
theorem Et.put {H : Hp} {p : Addr} {u o : HO} (hp : H p = some u) (hu : ∀ ws, u ≠ .tup ws) : Et H (upd H p o) := fun a ws e => by
  rw [upd_ne (ne_of e hp fun z => hu ws z.symm)]; exact e
structure Ex (H H' : Hp) : Prop where
  et : Et H H'
  fz : ∀ a o u, H a = some (.frz o u) → H' a = some (.frz o u)
instance {H H' : Hp} : CoeOut (Ex H H') (Et H H') := ⟨Ex.et⟩
theorem Ex.refl (H : Hp) : Ex H H := ⟨fun _ _ e => e, fun _ _ _ e => e⟩
theorem Ex.trans {H H1 H2 : Hp} (a : Ex H H1) (b : Ex H1 H2) : Ex H H2 := ⟨fun c ws e => b.et c ws (a.et c ws e), fun c o u e => b.fz c o u (a.fz c o u e)⟩
theorem Ex.new {H : Hp} {p : Addr} {o : HO} (hp : H p = none) : Ex H (upd H p o) := ⟨Et.new hp, fun a x u e => by rw [upd_ne (ne_of_none e hp)]; exact e⟩
theorem Ex.put {H : Hp} {p : Addr} {u o : HO} (hp : H p = some u) (hu : ∀ ws, u ≠ .tup ws) (hf : ∀ x y, u ≠ .frz x y) : Ex H (upd H p o) := ⟨Et.put hp hu, fun a x y e => by rw [upd_ne (ne_of e hp fun z => hf x y z.symm)]; exact e⟩
structure Gm where
  K : PySem.W.Frag
  mg : Str → Option Value
  w : World
mutual
inductive RV (G : Gm) (μ : List Addr) (H : Hp) : Val → V → Prop
  | non : RV G μ H .non .non
  | bl (b : Bool) : RV G μ H (.bl b) (.bl b)
  | int (i : Int) : RV G μ H (.int i) (.int i)
  | str (x : Str) : RV G μ H (.str x) (.str x)
  | tup {vs : List Val} {ws : List V} {a : Addr} : TupAt G.K H a ws → RVs G μ H vs ws → RV G μ H (.tup vs) (.ref a)
  | ref {n : Nat} {a : Addr} : μ[n]? = some a → RV G μ H (.ref n) (.ref a)
  | ty (n : String) : RV G μ H (.ty n) (.ty n)
  | gl {x : Str} {a : Addr} : G.mg x = some (.ref a) → RV G μ H (.gl x) (.ref a)
inductive RVs (G : Gm) (μ : List Addr) (H : Hp) : List Val → List V → Prop
  | nil : RVs G μ H [] []
  | cons {v : Val} {w : V} {vs : List Val} {ws : List V} : RV G μ H v w → RVs G μ H vs ws → RVs G μ H (v :: vs) (w :: ws)
end
section
variable {G : Gm} {μ μ' : List Addr} {H H' : Hp}
theorem TupAt.mono {K : PySem.W.Frag} {a : Addr} {ws : List V} (t : TupAt K H a ws) (e : Et H H') : TupAt K H' a ws := by
  rcases t with t | t
  · exact .inl (e _ _ t)
  · exact .inr t
theorem pre_get {n : Nat} {a : Addr} (p : μ <+: μ') (e : μ[n]? = some a) : μ'[n]? = some a := by
  obtain ⟨t, rfl⟩ := p
  rw [List.getElem?_append_left (List.getElem?_eq_some_iff.mp e).1]; exact e
mutual
theorem RV.mono (p : μ <+: μ') (e : Et H H') : ∀ {v : Val} {w : V}, RV G μ H v w → RV G μ' H' v w
  | _, _, .non => .non
  | _, _, .bl b => .bl b
  | _, _, .int i => .int i
  | _, _, .str x => .str x
  | _, _, .tup t r => .tup (t.mono e) (RVs.mono p e r)
  | _, _, .ref q => .ref (pre_get p q)
  | _, _, .ty n => .ty n
  | _, _, .gl q => .gl q
theorem RVs.mono (p : μ <+: μ') (e : Et H H') : ∀ {vs : List Val} {ws : List V}, RVs G μ H vs ws → RVs G μ' H' vs ws
  | _, _, .nil => .nil
  | _, _, .cons r t => .cons (RV.mono p e r) (RVs.mono p e t)
end
theorem RVs.length : ∀ {vs : List Val} {ws : List V}, RVs G μ H vs ws → vs.length = ws.length
  | _, _, .nil => rfl
  | _, _, .cons _ t => by simp [RVs.length t]
theorem RVs.get : ∀ {vs : List Val} {ws : List V} {i : Nat} {v : Val}, RVs G μ H vs ws → vs[i]? = some v → ∃ w, ws[i]? = some w ∧ RV G μ H v w
  | _, _, _, _, .nil, e => by simp at e
  | _, _, 0, _, .cons r _, e => by simp at e; subst e; exact ⟨_, rfl, r⟩
  | _, _, i + 1, v, .cons _ t, e => by
    obtain ⟨w, h1, h2⟩ := RVs.get (i := i) (v := v) t (by simpa using e)
    exact ⟨w, by simpa using h1, h2⟩
theorem RVs.append : ∀ {vs vs' : List Val} {ws ws' : List V}, RVs G μ H vs ws → RVs G μ H vs' ws' → RVs G μ H (vs ++ vs') (ws ++ ws')
  | _, _, _, _, .nil, s => s
  | _, _, _, _, .cons r t, s => .cons r (RVs.append t s)
theorem RVs.take : ∀ {vs : List Val} {ws : List V} (n : Nat), RVs G μ H vs ws → RVs G μ H (vs.take n) (ws.take n)
  | _, _, 0, _ => .nil
  | _, _, _ + 1, .nil => .nil
  | _, _, n + 1, .cons r t => .cons r (RVs.take n t)
theorem RVs.drop : ∀ {vs : List Val} {ws : List V} (n : Nat), RVs G μ H vs ws → RVs G μ H (vs.drop n) (ws.drop n)
  | _, _, 0, r => r
  | _, _, _ + 1, .nil => .nil
  | _, _, n + 1, .cons _ t => RVs.drop n t
theorem RVs.reverse : ∀ {vs : List Val} {ws : List V}, RVs G μ H vs ws → RVs G μ H vs.reverse ws.reverse
  | _, _, .nil => .nil
  | _, _, .cons r t => by
    rw [List.reverse_cons, List.reverse_cons]
    exact RVs.append (RVs.reverse t) (.cons r .nil)
theorem RVs.set {v : Val} {w : V} (r : RV G μ H v w) : ∀ {vs : List Val} {ws : List V} (i : Nat), RVs G μ H vs ws → RVs G μ H (vs.set i v) (ws.set i w)
  | _, _, _, .nil => .nil
  | _, _, 0, .cons _ t => .cons r t
  | _, _, i + 1, .cons q t => .cons q (RVs.set r i t)
theorem RVs.eraseIdx : ∀ {vs : List Val} {ws : List V} (i : Nat), RVs G μ H vs ws → RVs G μ H (vs.eraseIdx i) (ws.eraseIdx i)
  | _, _, _, .nil => .nil
  | _, _, 0, .cons _ t => t
  | _, _, i + 1, .cons q t => .cons q (RVs.eraseIdx i t)
theorem RVs.ints : ∀ {ns : List Int} {ws : List V}, RVs G μ H (ns.map Val.int) ws → ws = ns.map V.int
  | [], _, h => by cases h; rfl
  | n :: ns, _, h => by
    cases h with
    | cons r t => cases r; rw [RVs.ints t]; rfl
theorem RVs.ofInts : ∀ (ns : List Int), RVs G μ H (ns.map Val.int) (ns.map V.int)
  | [] => .nil
  | n :: ns => .cons (.int n) (RVs.ofInts ns)
theorem RVs.strs : ∀ {ns : List Str} {ws : List V}, RVs G μ H (ns.map Val.str) ws → ws = ns.map V.str
  | [], _, h => by cases h; rfl
  | n :: ns, _, h => by
    cases h with
    | cons r t => cases r; rw [RVs.strs t]; rfl
theorem RVs.ofStrs : ∀ (ns : List Str), RVs G μ H (ns.map Val.str) (ns.map V.str)
  | [] => .nil
  | n :: ns => .cons (.str n) (RVs.ofStrs ns)
theorem RVs.bls : ∀ {ns : List Bool} {ws : List V}, RVs G μ H (ns.map Val.bl) ws → ws = ns.map V.bl
  | [], _, h => by cases h; rfl
  | n :: ns, _, h => by
    cases h with
    | cons r t => cases r; rw [RVs.bls t]; rfl
end
def keyOf : Val → Option Key
  | .int i => some (.inl i)
  | .str x => some (.inr x)
  | _ => none
inductive RKs (G : Gm) (μ : List Addr) (H : Hp) : List (Val × Val) → List (Key × V) → Prop
  | nil : RKs G μ H [] []
  | cons {k v : Val} {k' : Key} {w : V} {kvs : List (Val × Val)} {kws : List (Key × V)} : keyOf k = some k' → RV G μ H v w → RKs G μ H kvs kws → RKs G μ H ((k, v) :: kvs) ((k', w) :: kws)
mutual
def nk : Val → Option NestedKey
  | .non => some .none
  | .bl b => some (.num (if b = true then 1 else 0))
  | .int i => some (.num i)
  | .str x => some (.text x)
  | .tup vs => (nks vs).map .tup
  | _ => none
def nks : List Val → Option (List NestedKey)
  | [] => some []
  | v :: vs => match nk v, nks vs with
    | some k, some ks => some (k :: ks)
    | _, _ => none
end
def tkey (v : Val) : Option NestedKey := match v with
  | .tup vs => (match nk (.tup vs) with
    | some k => if k.depth ≤ 8 then some k else none
    | none => none)
  | _ => none
theorem tkey_nk {v : Val} {k : NestedKey} (e : tkey v = some k) : nk v = some k ∧ k.depth ≤ 8 ∧ ∃ vs, v = .tup vs := by
  unfold tkey at e
  split at e
  · rename_i vs
    split at e
    · rename_i k' q
      split at e
      · cases e; exact ⟨q, by assumption, vs, rfl⟩
      · cases e
    · cases e
  · cases e
def ndF (w : World) (x : NestedKey × Addr × Value) : DictEntry := ⟨x.1.hash w, .ref x.2.1, x.2.2⟩
def NDo (w : World) (a : Addr) (xs : List (NestedKey × Addr × Value)) : HO := .ext fun h => (a == sysModules) = false ∧ xs.length ≤ sizeLine ∧ ∃ (o : Obj) (es : Array DictEntry) (ep : Nat), h.get? a = some o ∧ o.ExactDict ∧ o.data = .dict es ep ∧ es.toList = xs.map (ndF w) ∧ (xs.map (·.1)).Nodup
inductive RNs (G : Gm) (μ : List Addr) (H : Hp) : List (Val × Val) → List (NestedKey × Addr × Value) → Prop
  | nil : RNs G μ H [] []
  | cons {k v : Val} {k' : NestedKey} {ka : Addr} {w : V} {u : Value} {kvs : List (Val × Val)} {xs : List (NestedKey × Addr × Value)} : tkey k = some k' → RV G μ H k (.ref ka) → RelV w u → RV G μ H v w → RNs G μ H kvs xs → RNs G μ H ((k, v) :: kvs) ((k', ka, u) :: xs)
inductive RFs (G : Gm) (μ : List Addr) (H : Hp) : List (Str × Val) → List (Str × V) → Prop
  | nil : RFs G μ H [] []
  | cons {f : Str} {v : Val} {w : V} {fs : List (Str × Val)} {gs : List (Str × V)} : RV G μ H v w → RFs G μ H fs gs → RFs G μ H ((f, v) :: fs) ((f, w) :: gs)
def exH (a C : Addr) (d : Option Addr) : HO := .ext fun h => ∃ (oe : Obj) (vs : Array Value), h.get? a = some oe ∧ Zc (.ref C) d oe ∧ oe.data = .fields vs
def RO (G : Gm) (μ : List Addr) (H : Hp) (a : Addr) : Ob → Prop
  | .lst vs => ∃ ws, H a = some (.lst ws) ∧ RVs G μ H vs ws
  | .fro vs => ∃ o ws, H a = some (.frz o (.lst ws)) ∧ RVs G μ H vs ws
  | .dct kvs => ∃ kws, H a = some (.dK kws) ∧ RKs G μ H kvs kws
  | .fdc kvs => ∃ o kws, H a = some (.frz o (.dK kws)) ∧ RKs G μ H kvs kws
  | .dcn kvs => ∃ xs, H a = some (NDo G.w a xs) ∧ RNs G μ H kvs xs
  | .fdn kvs => ∃ o xs, H a = some (.frz o (NDo G.w a xs)) ∧ RNs G μ H kvs xs
  | .ins C fs => ∃ Ca dx gs, G.mg C = some (.ref Ca) ∧ H a = some (.ins Ca dx gs) ∧ RFs G μ H fs gs
  | .exc C d => ∃ Ca, G.mg C = some (.ref Ca) ∧ (match d with
    | none => H a = some (exH a Ca none)
    | some j => ∃ da, μ[j]? = some da ∧ H a = some (exH a Ca (some da)))
  | .xdo f v => ∃ w, H a = some (.xd [(f, w)]) ∧ RV G μ H v w
section
variable {G : Gm} {μ μ' : List Addr} {H H' : Hp}
theorem RKs.mono (p : μ <+: μ') (e : Et H H') : ∀ {kvs : List (Val × Val)} {kws : List (Key × V)}, RKs G μ H kvs kws → RKs G μ' H' kvs kws
  | _, _, .nil => .nil
  | _, _, .cons q r t => .cons q (r.mono p e) (RKs.mono p e t)
theorem RNs.mono (p : μ <+: μ') (e : Et H H') : ∀ {kvs : List (Val × Val)} {xs : List (NestedKey × Addr × Value)}, RNs G μ H kvs xs → RNs G μ' H' kvs xs
  | _, _, .nil => .nil
  | _, _, .cons q r u v t => .cons q (r.mono p e) u (v.mono p e) (RNs.mono p e t)
theorem RNs.length : ∀ {kvs : List (Val × Val)} {xs : List (NestedKey × Addr × Value)}, RNs G μ H kvs xs → kvs.length = xs.length
  | _, _, .nil => rfl
  | _, _, .cons _ _ _ _ t => by simp [RNs.length t]
theorem RFs.mono (p : μ <+: μ') (e : Et H H') : ∀ {fs : List (Str × Val)} {gs : List (Str × V)}, RFs G μ H fs gs → RFs G μ' H' fs gs
  | _, _, .nil => .nil
  | _, _, .cons r t => .cons (r.mono p e) (RFs.mono p e t)
theorem RKs.length : ∀ {kvs : List (Val × Val)} {kws : List (Key × V)}, RKs G μ H kvs kws → kvs.length = kws.length
  | _, _, .nil => rfl
  | _, _, .cons _ _ t => by simp [RKs.length t]
theorem RFs.length : ∀ {fs : List (Str × Val)} {gs : List (Str × V)}, RFs G μ H fs gs → fs.length = gs.length
  | _, _, .nil => rfl
  | _, _, .cons _ t => by simp [RFs.length t]
theorem RO.mono {a : Addr} {o : Ob} (p : μ <+: μ') (e : Et H H') (s : H' a = H a) (r : RO G μ H a o) : RO G μ' H' a o := by
  cases o with
  | lst vs => obtain ⟨ws, h1, h2⟩ := r; exact ⟨ws, s.trans h1, h2.mono p e⟩
  | fro vs => obtain ⟨o, ws, h1, h2⟩ := r; exact ⟨o, ws, s.trans h1, h2.mono p e⟩
  | dct vs => obtain ⟨ws, h1, h2⟩ := r; exact ⟨ws, s.trans h1, h2.mono p e⟩
  | fdc vs => obtain ⟨o, ws, h1, h2⟩ := r; exact ⟨o, ws, s.trans h1, h2.mono p e⟩
  | dcn vs => obtain ⟨ws, h1, h2⟩ := r; exact ⟨ws, s.trans h1, h2.mono p e⟩
  | fdn vs => obtain ⟨o, ws, h1, h2⟩ := r; exact ⟨o, ws, s.trans h1, h2.mono p e⟩
  | ins C fs => obtain ⟨Ca, dx, gs, h0, h1, h2⟩ := r; exact ⟨Ca, dx, gs, h0, s.trans h1, h2.mono p e⟩
  | exc C d =>
    obtain ⟨Ca, h0, h1⟩ := r
    refine ⟨Ca, h0, ?_⟩
    cases d with
    | none => exact s.trans h1
    | some j => obtain ⟨da, h2, h3⟩ := h1; exact ⟨da, pre_get p h2, s.trans h3⟩
  | xdo f v => obtain ⟨w, h1, h2⟩ := r; exact ⟨w, s.trans h1, h2.mono p e⟩
theorem RO.some {a : Addr} {o : Ob} (r : RO G μ H a o) : ∃ u, H a = some u ∧ ∀ ws, u ≠ .tup ws := by
  cases o with
  | lst vs => obtain ⟨ws, h1, h2⟩ := r; exact ⟨_, h1, fun _ z => nomatch z⟩
  | fro vs => obtain ⟨o, ws, h1, h2⟩ := r; exact ⟨_, h1, fun _ z => nomatch z⟩
  | dct vs => obtain ⟨ws, h1, h2⟩ := r; exact ⟨_, h1, fun _ z => nomatch z⟩
  | fdc vs => obtain ⟨o, ws, h1, h2⟩ := r; exact ⟨_, h1, fun _ z => nomatch z⟩
  | dcn vs => obtain ⟨ws, h1, h2⟩ := r; exact ⟨_, h1, fun _ z => nomatch z⟩
  | fdn vs => obtain ⟨o, ws, h1, h2⟩ := r; exact ⟨_, h1, fun _ z => nomatch z⟩
  | ins C fs => obtain ⟨Ca, dx, gs, h0, h1, h2⟩ := r; exact ⟨_, h1, fun _ z => nomatch z⟩
  | exc C d =>
    obtain ⟨Ca, h0, h1⟩ := r
    cases d with
    | none => exact ⟨_, h1, fun _ z => nomatch z⟩
    | some j => obtain ⟨da, h2, h3⟩ := h1; exact ⟨_, h3, fun _ z => nomatch z⟩
  | xdo f v => obtain ⟨w, h1, h2⟩ := r; exact ⟨_, h1, fun _ z => nomatch z⟩
end
def lamNames : List Str := ["law", "_law_words", "_law_great_right", "_law_asked_right", "_law_large_right", "_law_same", "_law_block"]
def lamT (K : PySem.W.Frag) : List (Addr × Str) := lamNames.filterMap fun x => (PySem.W.tabIn K x).map fun p => (p.2, x ++ ".<locals>.<lambda>")
def TabN (H : Hp) (μ : List Addr) (P : Addr) (q : Str) : Prop := P ∉ μ ∧ ∃ ps : Array Value, H P = some (.tbl ps) ∧ TriplesOk ps.toList ∧ ∀ (pos : Pos) (cv : Value), codeAmong pos ps.toList = some cv → ∃ c, cv = .ref c ∧ H c = some (LamX.CodeO c q) ∧ c ∉ μ
theorem TabN.mono {H H' : Hp} {μ μ' : List Addr} {P : Addr} {q : Str} (t : TabN H μ P q) (h1 : ∀ b u, H b = some u → b ∉ μ → H' b = some u) (h2 : ∀ b ∈ μ', b ∈ μ ∨ ∀ u, H b = some u → (∀ ps, u ≠ .tbl ps) ∧ ∀ φ, u ≠ .ext φ) : TabN H' μ' P q := by
  obtain ⟨n, ps, e, ok, cs⟩ := t
  refine ⟨fun z => ?_, ps, h1 P _ e n, ok, fun pos cv hc => ?_⟩
  · rcases h2 P z with z | z
    · exact n z
    · exact (z _ e).1 ps rfl
  · obtain ⟨c, e1, e2, e3⟩ := cs pos cv hc
    refine ⟨c, e1, h1 c _ e2 e3, fun z => ?_⟩
    rcases h2 c z with z | z
    · exact e3 z
    · exact (z _ e2).2 _ rfl
structure HR (G : Gm) (μ : List Addr) (h : Hh) (H : Hp) : Prop where
  len : μ.length = h.length
  nd : μ.Nodup
  ob : ∀ (i : Nat) (o : Ob) (a : Addr), h[i]? = some o → μ[i]? = some a → RO G μ H a o
  tb : ∀ p ∈ lamT G.K, TabN H μ p.1 p.2
section
variable {G : Gm} {μ μ' : List Addr} {h : Hh} {H H' : Hp}
theorem HR.addr (r : HR G μ h H) {i : Nat} {o : Ob} (e : h[i]? = some o) : ∃ a, μ[i]? = some a ∧ RO G μ H a o := by
  have hi : i < μ.length := by rw [r.len]; exact (List.getElem?_eq_some_iff.mp e).1
  exact ⟨μ[i], List.getElem?_eq_getElem hi, r.ob i o _ e (List.getElem?_eq_getElem hi)⟩
theorem HR.obj (r : HR G μ h H) {i : Nat} {a : Addr} (e : μ[i]? = some a) : ∃ o, h[i]? = some o ∧ RO G μ H a o := by
  have hi : i < h.length := by rw [← r.len]; exact (List.getElem?_eq_some_iff.mp e).1
  exact ⟨h[i], List.getElem?_eq_getElem hi, r.ob i _ a (List.getElem?_eq_getElem hi) e⟩
theorem HR.keepAll (r : HR G μ h H) (kp : ∀ b u, H b = some u → H' b = some u) : HR G μ h H' :=
  ⟨r.len, r.nd, fun i o a e1 e2 => by
    have ro := r.ob i o a e1 e2
    obtain ⟨u, hu, _⟩ := ro.some
    exact ro.mono (List.prefix_refl μ) (fun b ws z => kp b _ z) ((kp a u hu).trans hu.symm), fun p hp => (r.tb p hp).mono (fun b u e _ => kp b u e) fun b hb => .inl hb⟩
theorem HR.none (r : HR G μ h H) {p : Addr} (hp : H p = none) : p ∉ μ := fun m => by
  obtain ⟨i, hi⟩ := List.getElem?_of_mem m
  obtain ⟨o, _, z⟩ := r.obj hi
  obtain ⟨u, q, _⟩ := z.some
  rw [hp] at q; cases q
theorem HR.tup (r : HR G μ h H) {p : Addr} {ws : List V} (hp : H p = .some (.tup ws)) : p ∉ μ := fun m => by
  obtain ⟨i, hi⟩ := List.getElem?_of_mem m
  obtain ⟨o, _, z⟩ := r.obj hi
  obtain ⟨u, q, n⟩ := z.some
  rw [hp] at q; cases q; exact n ws rfl
theorem HR.laidT (r : HR G μ h H) {p : Addr} {o : HO} (hp : H p = .none) : HR G μ h (upd H p o) :=
  r.keepAll fun b u e => by rw [upd_ne (ne_of_none e hp)]; exact e
theorem HR.adopt (r : HR G μ h H) {p : Addr} {o : Ob} (hp : p ∉ μ) (h1 : ∀ u, H p = some u → (∀ ps, u ≠ .tbl ps) ∧ ∀ φ, u ≠ .ext φ) (ho : RO G (μ ++ [p]) H p o) : HR G (μ ++ [p]) (h ++ [o]) H where
  len := by simp [r.len]
  nd := List.nodup_append.mpr ⟨r.nd, by simp, fun a ha b hb => by
    have : b = p := by simpa using hb
    subst this
    exact fun z => hp (z ▸ ha)⟩
  ob := fun i o' a e1 e2 => by
    by_cases hi : i < μ.length
    · rw [List.getElem?_append_left hi] at e2
      rw [List.getElem?_append_left (by rw [← r.len]; exact hi)] at e1
      exact (r.ob i o' a e1 e2).mono (List.prefix_append μ [p]) (fun _ _ e => e) rfl
    · have hlt : i < (μ ++ [p]).length := (List.getElem?_eq_some_iff.mp e2).1
      rw [List.length_append, List.length_singleton] at hlt
      have : i = μ.length := by omega
      subst this
      rw [List.getElem?_append_right (Nat.le_refl _), Nat.sub_self] at e2
      rw [r.len, List.getElem?_append_right (Nat.le_refl _), Nat.sub_self] at e1
      simp at e1 e2
      subst e1; subst e2
      exact ho
  tb := fun q hq => (r.tb q hq).mono (fun b u e _ => e) fun b hb => by
    rcases List.mem_append.mp hb with hb | hb
    · exact .inl hb
    · refine .inr ?_
      rw [List.mem_singleton] at hb
      subst hb
      exact h1
theorem HR.laid (r : HR G μ h H) {p : Addr} {u : HO} {o : Ob} (hp : H p = .none) (ho : RO G (μ ++ [p]) (upd H p u) p o) : HR G (μ ++ [p]) (h ++ [o]) (upd H p u) where
  len := by simp [r.len]
  nd := List.nodup_append.mpr ⟨r.nd, by simp, fun a ha b hb => by
    have : b = p := by simpa using hb
    subst this
    exact fun z => r.none hp (z ▸ ha)⟩
  ob := fun i o' a e1 e2 => by
    by_cases hi : i < μ.length
    · rw [List.getElem?_append_left hi] at e2
      rw [List.getElem?_append_left (by rw [← r.len]; exact hi)] at e1
      have hm : a ∈ μ := List.mem_of_getElem? e2
      exact (r.ob i o' a e1 e2).mono (List.prefix_append μ [p]) (Et.new hp) (upd_ne fun z => r.none hp (z ▸ hm))
    · have hlt : i < (μ ++ [p]).length := (List.getElem?_eq_some_iff.mp e2).1
      rw [List.length_append, List.length_singleton] at hlt
      have : i = μ.length := by omega
      subst this
      rw [List.getElem?_append_right (Nat.le_refl _), Nat.sub_self] at e2
      rw [r.len, List.getElem?_append_right (Nat.le_refl _), Nat.sub_self] at e1
      simp at e1 e2
      subst e1; subst e2
      exact ho
  tb := fun q hq => (r.tb q hq).mono (fun b u e _ => by rw [upd_ne (ne_of_none e hp)]; exact e) fun b hb => by
    rcases List.mem_append.mp hb with hb | hb
    · exact .inl hb
    · refine .inr fun u e => ?_
      rw [List.mem_singleton] at hb
      rw [hb, hp] at e
      cases e
theorem HR.put (r : HR G μ h H) {n : Nat} {p : Addr} {u u' : HO} {o : Ob} (hn : μ[n]? = some p) (hp : H p = .some u) (hu : ∀ ws, u ≠ .tup ws) (ho : RO G μ (upd H p u') p o) : HR G μ (h.set n o) (upd H p u') where
  len := by simp [r.len]
  nd := r.nd
  ob := fun i o' a e1 e2 => by
    by_cases hi : i = n
    · subst hi
      rw [hn] at e2; cases e2
      have hl : i < h.length := by rw [← r.len]; exact (List.getElem?_eq_some_iff.mp hn).1
      rw [List.getElem?_set_self hl] at e1
      cases e1
      exact ho
    · rw [List.getElem?_set_ne (Ne.symm hi)] at e1
      have hne : a ≠ p := fun z => by
        subst z
        obtain ⟨h1, q1⟩ := List.getElem?_eq_some_iff.mp e2
        obtain ⟨h2, q2⟩ := List.getElem?_eq_some_iff.mp hn
        exact hi ((List.getElem_inj r.nd).mp (q1.trans q2.symm))
      exact (r.ob i o' a e1 e2).mono (List.prefix_refl μ) (Et.put hp hu) (upd_ne hne)
  tb := fun q hq => (r.tb q hq).mono (fun b v e nb => by
    rw [upd_ne (fun z : b = p => nb (by rw [z]; exact List.mem_of_getElem? hn))]
    exact e) fun b hb => .inl hb
end
def LR (G : Gm) (μ : List Addr) (H : Hp) (σ : Loc) (τ : St) : Prop :=
  σ.length = τ.length ∧ ∀ (i : Nat) (v : Val), σ[i]? = some (some v) → ∃ w, τ[i]? = some (some w) ∧ RV G μ H v w
theorem LR.mono {G : Gm} {μ μ' : List Addr} {H H' : Hp} {σ : Loc} {τ : St} (p : μ <+: μ') (e : Et H H') (l : LR G μ H σ τ) : LR G μ' H' σ τ :=
  ⟨l.1, fun i v q => let ⟨w, q1, q2⟩ := l.2 i v q; ⟨w, q1, q2.mono p e⟩⟩
theorem LR.set {G : Gm} {μ : List Addr} {H : Hp} {σ : Loc} {τ : St} {v : Val} {w : V} (l : LR G μ H σ τ) (i : Nat) (r : RV G μ H v w) : LR G μ H (σ.set i (some v)) (τ.set i (some w)) := by
  refine ⟨by simp [l.1], fun j v' e => ?_⟩
  by_cases hj : j = i
  · subst hj
    have hl : j < σ.length := by
      have := (List.getElem?_eq_some_iff.mp e).1
      simpa using this
    rw [List.getElem?_set_self hl] at e
    cases e
    exact ⟨w, by rw [List.getElem?_set_self (by rw [← l.1]; exact hl)], r⟩
  · rw [List.getElem?_set_ne (Ne.symm hj)] at e
    obtain ⟨w', q1, q2⟩ := l.2 j v' e
    exact ⟨w', by rw [List.getElem?_set_ne (Ne.symm hj)]; exact q1, q2⟩
end U
namespace U
open PySem L2
def RX (G : Gm) (μ : List Addr) (H : Hp) (x : Xc) (cls : Value) (d : Option Addr) : Prop :=
  G.mg x.C = some cls ∧ match x.at? with
    | none => d = none
    | some (f, v) => ∃ da w, d = some da ∧ da ∉ μ ∧ H da = some (.xd [(f, w)]) ∧ RV G μ H v w
def Ps {α : Type} (G : Gm) (W : XK) (μ : List Addr) (H : Hp) (r : Res α) (Q : α → List Addr → Hh → Hp → Prop) : Prop := match r with
  | .ok a h => ∀ μ' H', μ <+: μ' → Ex H H' → HR G μ' h H' → Q a μ' h H'
  | .rs x h => ∀ μ' H' cls d, μ <+: μ' → Ex H H' → HR G μ' h H' → RX G μ' H' x cls d → W cls d H'
  | .no => False
section
variable {α β : Type} {G : Gm} {W : XK} {μ μ' : List Addr} {H H' : Hp} {r : Res α} {Q Q' : α → List Addr → Hh → Hp → Prop}
theorem Ps.mono (p : μ <+: μ') (e : Ex H H') (h : Ps G W μ H r Q) : Ps G W μ' H' r Q := by
  cases r with
  | ok a k => exact fun μ2 H2 p2 e2 r2 => h μ2 H2 (p.trans p2) (e.trans e2) r2
  | rs x k => exact fun μ2 H2 c d p2 e2 r2 rx => h μ2 H2 c d (p.trans p2) (e.trans e2) r2 rx
  | no => exact h
theorem Ps.imp (h : Ps G W μ H r Q) (k : ∀ a μ' h' H', μ <+: μ' → Ex H H' → HR G μ' h' H' → Q a μ' h' H' → Q' a μ' h' H') : Ps G W μ H r Q' := by
  cases r with
  | ok a k' => exact fun μ2 H2 p2 e2 r2 => k _ _ _ _ p2 e2 r2 (h μ2 H2 p2 e2 r2)
  | rs x k' => exact h
  | no => exact h
theorem Ps.bind {f : α → Hh → Res β} {R : β → List Addr → Hh → Hp → Prop} (h : Ps G W μ H (r.bind f) R) : Ps G W μ H r (fun a μ' h' H' => Ps G W μ' H' (f a h') R) := by
  cases r with
  | ok a k => exact fun μ2 H2 p2 e2 r2 => Ps.mono p2 e2 h
  | rs x k => exact h
  | no => exact h
theorem Ps.at {a : α} {h : Hh} (p : Ps G W μ H (.ok a h) Q) (r : HR G μ h H) : Q a μ h H := p μ H (List.prefix_refl μ) (Ex.refl H) r
end
abbrev gm (X : Cx) : Gm := ⟨X.K, X.mg, X.w⟩
abbrev qV (G : Gm) (Q : VK) : Val → List Addr → Hh → Hp → Prop := fun v μ _ H => ∀ w, RV G μ H v w → Q w H
abbrev MA := Loc → Hh → Res (List Val)
abbrev MT := Loc → Hh → Res Bool
def tM (G : Gm) (W : WX) (m : ME) : TE := fun τ H Q => ∃ μ σ h, LR G μ H σ τ ∧ HR G μ h H ∧ Ps G (WE W τ) μ H (m σ h) (qV G Q)
def tMA (G : Gm) (W : WX) (m : MA) : TA := fun τ H Q => ∃ μ σ h, LR G μ H σ τ ∧ HR G μ h H ∧ Ps G (WE W τ) μ H (m σ h) (fun vs μ' _ H' => ∀ ws, RVs G μ' H' vs ws → Q ws H')
def tMT (G : Gm) (W : WX) (m : MT) : TT := fun τ H Q => ∃ μ σ h, LR G μ H σ τ ∧ HR G μ h H ∧ Ps G (WE W τ) μ H (m σ h) (fun b _ _ H' => Q b H')
abbrev CE (X : Cx) (W : WX) (e : Expr) (m : ME) : Prop := PE X e (tM (gm X) W m)
abbrev CA (X : Cx) (W : WX) (es : List Expr) (m : MA) : Prop := PA X es (tMA (gm X) W m)
abbrev CT (X : Cx) (W : WX) (e : Expr) (m : MT) : Prop := PT X e (tMT (gm X) W m)
abbrev CWt (X : Cx) (W : WX) (e : Expr) (m : MT) : Prop := PW X e (tMT (gm X) W m)
abbrev CK (X : Cx) (W : WX) (ks : List Keyword) (m : MA) : Prop := PK X ks (tMA (gm X) W m)
theorem peI {X : Cx} {e : Expr} {t t' : TE} (h : PE X e t) (k : ∀ τ H Q, t' τ H Q → t τ H Q) : PE X e t' := ⟨fun pins s σ H Q I q => h.run pins s σ H Q I (k _ _ _ q)⟩
theorem ptI {X : Cx} {e : Expr} {t t' : TT} (h : PT X e t) (k : ∀ τ H Q, t' τ H Q → t τ H Q) : PT X e t' := ⟨fun pins s σ H Q I q => h.run pins s σ H Q I (k _ _ _ q)⟩
theorem pwI {X : Cx} {e : Expr} {t t' : TT} (h : PW X e t) (k : ∀ τ H Q, t' τ H Q → t τ H Q) : PW X e t' := ⟨fun wh pins s σ H Q I q => h.run wh pins s σ H Q I (k _ _ _ q)⟩
theorem paI {X : Cx} {es : List Expr} {t t' : TA} (h : PA X es t) (k : ∀ τ H Q, t' τ H Q → t τ H Q) : PA X es t' := ⟨fun pos pins s σ H Q I q => h.run pos pins s σ H Q I (k _ _ _ q)⟩
theorem pkI {X : Cx} {es : List Keyword} {t t' : TA} (h : PK X es t) (k : ∀ τ H Q, t' τ H Q → t τ H Q) : PK X es t' := ⟨fun pos pins s σ H Q I q => h.run pos pins s σ H Q I (k _ _ _ q)⟩
def mVar (i : Nat) : ME := fun σ h => match σ[i]? with
  | some (some v) => .ok v h
  | _ => .no
def mC (v : Val) : ME := fun _ h => .ok v h
def mOp (f : Val → Val → Hh → Res Val) (a b : ME) : ME := fun σ h => (a σ h).bind fun x h1 => (b σ h1).bind fun y h2 => f x y h2
def mUn (f : Val → Hh → Res Val) (a : ME) : ME := fun σ h => (a σ h).bind fun x h1 => f x h1
def maNil : MA := fun _ h => .ok [] h
def maCons (a : ME) (r : MA) : MA := fun σ h => (a σ h).bind fun x h1 => (r σ h1).bind fun xs h2 => .ok (x :: xs) h2
def mApp (f : Fn) (a : MA) : ME := fun σ h => (a σ h).bind fun vs h1 => f vs h1
def mChain (f g : Val → Val → Hh → Res Val) (a b c : ME) : ME := fun σ h => (a σ h).bind fun x h1 => (b σ h1).bind fun y h2 => (f x y h2).bind fun z h3 => match z with
  | .bl true => (c σ h3).bind fun w h4 => g y w h4
  | .bl false => .ok (.bl false) h3
  | _ => .no
def mAnd (a b : ME) : ME := fun σ h => (a σ h).bind fun x h1 => match x with
  | .bl true => b σ h1
  | .bl false => .ok (.bl false) h1
  | _ => .no
def mOr (a b : ME) : ME := fun σ h => (a σ h).bind fun x h1 => match x with
  | .bl true => .ok (.bl true) h1
  | .bl false => b σ h1
  | _ => .no
def truth (v : Val) (h : Hh) : Option Bool := match v with
  | .non => some false
  | .bl b => some b
  | .int i => some (i != 0)
  | .str y => if y.length ≤ sizeLine then some ((y.length : Int) != 0) else none
  | .tup vs => some !vs.isEmpty
  | .ref n => match h[n]? with
    | some (.lst vs) => some !vs.isEmpty
    | some (.fro vs) => some !vs.isEmpty
    | some (.dct vs) => some !vs.isEmpty
    | _ => none
  | _ => none
def mNot (a : ME) : ME := fun σ h => (a σ h).bind fun x h1 => match truth x h1 with
  | some b => .ok (.bl !b) h1
  | none => .no
def mIf (t : MT) (a b : ME) : ME := fun σ h => (t σ h).bind fun c h1 => if c = true then a σ h1 else b σ h1
def tVal (a : ME) : MT := fun σ h => (a σ h).bind fun x h1 => match truth x h1 with
  | some b => .ok b h1
  | none => .no
def tAnd2 (a b : MT) : MT := fun σ h => (a σ h).bind fun c h1 => if c = true then b σ h1 else .ok false h1
def tOr2 (a b : MT) : MT := fun σ h => (a σ h).bind fun c h1 => if c = true then .ok true h1 else b σ h1
def tNot1 (a : MT) : MT := fun σ h => (a σ h).bind fun c h1 => .ok (!c) h1
def tBl (a : ME) : MT := fun σ h => (a σ h).bind fun x h1 => match x with
  | .bl b => .ok b h1
  | _ => .no
def rM2 (G : Gm) (W : XK) (f : Val → Val → Hh → Res Val) : R2 := fun x' y' H Q => ∃ μ h x y, HR G μ h H ∧ RV G μ H x x' ∧ RV G μ H y y' ∧ Ps G W μ H (f x y h) (qV G Q)
def rMs (G : Gm) (W : XK) (f : Fn) : List V → Hp → VK → Prop := fun xs' H Q => ∃ μ h xs, HR G μ h H ∧ RVs G μ H xs xs' ∧ Ps G W μ H (f xs h) (qV G Q)
abbrev W0 : XK := fun _ _ _ => False
section
variable {X : Cx} {W : WX} {a b c e : Expr} {ma mb mc : ME} {pos : Pos}
theorem ps_nv {G : Gm} {W : XK} {μ : List Addr} {H : Hp} {r : Res Val} {Q : VK} (h : Ps G W μ H r (qV G Q)) (hn : ∀ x k, r ≠ .rs x k) : Ps G W0 μ H r (qV G Q) := by
  cases r with
  | ok a k => exact h
  | rs x k => exact absurd rfl (hn x k)
  | no => exact h
theorem s_var (i : Nat) {x : Str} (hN : X.N[i]? = some x := by rfl) (hv : Vis X.env.scope x := by first | exact Or.inl rfl | exact Or.inr (Or.inl rfl) | exact Or.inr (Or.inr rfl)) (hd : (x == ("__debug__" : Str)) = false := by decide)
    (hcd : (x == ("__classdict__" : Str)) = false := by decide) : CE X W (.Name x pos) (mVar i) := by
  refine peI (pe_var hN hv hd hcd) fun τ H Q ⟨μ, σ, h, l, r, p⟩ => ?_
  unfold mVar at p
  cases e : σ[i]? with
  | none => rw [e] at p; exact p.elim
  | some o =>
    cases o with
    | none => rw [e] at p; exact p.elim
    | some v =>
      rw [e] at p
      obtain ⟨w, q1, q2⟩ := l.2 i v e
      exact ⟨w, q1, (p.at r) w q2⟩
theorem s_cst {v : Val} {w : V} (h : PE X e (tC w)) (r : ∀ μ H, RV (gm X) μ H v w) : CE X W e (mC v) :=
  peI h fun τ H Q ⟨μ, σ, h, l, r1, p⟩ => (p.at r1) w (r μ H)
theorem s_int {i j} : CE X W (.Constant (.int i) j pos) (mC (.int i)) := s_cst pe_int fun _ _ => .int i
theorem s_bl {i j} : CE X W (.Constant (.bool i) j pos) (mC (.bl i)) := s_cst pe_bl fun _ _ => .bl i
theorem s_non {j} : CE X W (.Constant .none j pos) (mC .non) := s_cst pe_non fun _ _ => .non
theorem s_str {i j} : CE X W (.Constant (.str i) j pos) (mC (.str i)) := s_cst pe_str fun _ _ => .str i
theorem s_gl {x : Str} {f : Addr} (hm : X.mg x = some (.ref f)) (hg : Gl X x := by rfl) (hd : (x == ("__debug__" : Str)) = false := by decide) : CE X W (.Name x pos) (mC (.gl x)) :=
  s_cst (pe_glob hg hm (v := .ref f) rfl hd) fun _ _ => .gl hm
theorem s_glI {x : Str} {i : Int} {t : Tok} (hm : X.mg x = some (.int i t)) (hg : Gl X x := by rfl) (hd : (x == ("__debug__" : Str)) = false := by decide) : CE X W (.Name x pos) (mC (.int i)) :=
  s_cst (pe_glob hg hm (v := .int i) ⟨t, rfl⟩ hd) fun _ _ => .int i
theorem s_glS {x : Str} {i : Str} {t : Tok} (hm : X.mg x = some (.str i t)) (hg : Gl X x := by rfl) (hd : (x == ("__debug__" : Str)) = false := by decide) : CE X W (.Name x pos) (mC (.str i)) :=
  s_cst (pe_glob hg hm (v := .str i) ⟨t, rfl⟩ hd) fun _ _ => .str i
theorem s_ty {x : Str} {T : String} (hm : X.mg x = none) (hv : bootBuiltins x = some (.type T)) (hg : Gl X x := by rfl) (hn : x ≠ "__name__" := by decide) (hd : (x == ("__debug__" : Str)) = false := by decide) : CE X W (.Name x pos) (mC (.ty T)) :=
  s_cst (pe_bltn hg hm hv (v := .ty T) rfl hn hd) fun _ _ => .ty T
theorem s_two {r : R2} {f : Val → Val → Hh → Res Val} (h : PE X e (tOp r (tM (gm X) W ma) (tM (gm X) W mb))) (hr : ∀ τ x y H Q, rM2 (gm X) (WE W τ) f x y H Q → r x y H Q) : CE X W e (mOp f ma mb) := by
  refine peI h fun τ H Q ⟨μ, σ, h, l, r, p⟩ => ⟨μ, σ, h, l, r, ?_⟩
  refine (Ps.bind p).imp fun x μ1 h1 H1 p1 e1 r1 q1 w1 rw1 => ?_
  refine ⟨μ1, σ, h1, l.mono p1 e1, r1, ?_⟩
  refine (Ps.bind q1).imp fun y μ2 h2 H2 p2 e2 r2 q2 w2 rw2 => ?_
  exact hr τ w1 w2 H2 Q ⟨μ2, h2, x, y, r2, rw1.mono p2 e2, rw2, q2⟩
theorem s_op {op : Operator} {f : Val → Val → Hh → Res Val} (ho : OpR X (binaryOp op) (rM2 (gm X) W0 f)) (hn : ∀ x y h z k, f x y h ≠ .rs z k) (ha : CE X W a ma) (hb : CE X W b mb) : CE X W (.BinOp a op b pos) (mOp f ma mb) :=
  s_two (pe_op ho ha hb) fun τ x y H Q ⟨μ, h, u, v, r1, r2, r3, p⟩ => ⟨μ, h, u, v, r1, r2, r3, ps_nv p (hn u v h)⟩
theorem s_cmp {op : CmpOp} {f : Val → Val → Hh → Res Val} (ho : OpR X (compareOp op) (rM2 (gm X) W0 f)) (hn : ∀ x y h z k, f x y h ≠ .rs z k) (ha : CE X W a ma) (hb : CE X W b mb) (hm : behindInMarks op b = false := by rfl) : CE X W (.Compare a [op] [b] pos) (mOp f ma mb) :=
  s_two (pe_cmpR ho ha hb hm) fun τ x y H Q ⟨μ, h, u, v, r1, r2, r3, p⟩ => ⟨μ, h, u, v, r1, r2, r3, ps_nv p (hn u v h)⟩
theorem truth_ok {G : Gm} {μ : List Addr} {h : Hh} {H : Hp} {v : Val} {w : V} {k : Bool} (r : HR G μ h H) (rv : RV G μ H v w) (e : truth v h = some k) : TruV G.K w H k := by
  cases rv with
  | non => cases e; rfl
  | bl b => cases e; rfl
  | int i => cases e; rfl
  | str x =>
    unfold truth at e
    dsimp only at e
    split at e
    · cases e; exact ⟨by assumption, rfl⟩
    · cases e
  | tup t rs =>
    cases e
    refine .inr (.inl ⟨_, t.sq, ?_⟩)
    cases rs <;> rfl
  | @ref n a q =>
    obtain ⟨o, ho, ro⟩ := r.obj q
    unfold truth at e
    dsimp only at e
    rw [ho] at e
    cases o with
    | lst vs => obtain ⟨ws, h1, h2⟩ := ro; cases e; exact .inl ⟨ws, .inl (.inl h1), by cases h2 <;> rfl⟩
    | fro vs => obtain ⟨o, ws, h1, h2⟩ := ro; cases e; exact .inl ⟨ws, .inl (.inr ⟨o, h1⟩), by cases h2 <;> rfl⟩
    | dct vs => obtain ⟨ws, h1, h2⟩ := ro; cases e; exact .inr (.inr ⟨ws, h1, by cases h2 <;> rfl⟩)
    | fdc vs => cases e
    | dcn vs => cases e
    | fdn vs => cases e
    | ins C fs => cases e
    | exc _ _ => cases e
    | xdo _ _ => cases e
  | ty n => cases e
  | gl q => cases e
theorem c_val (ha : CE X W a ma) (he : ∀ whole, isTrue a X.env whole = (do let v ← whole; standAt a.pos; holding [v] (truthy v)) := by intro _; rfl) : CT X W a (tVal ma) := by
  refine ptI (pt_truth ha he) fun τ H Q ⟨μ, σ, h, l, r, p⟩ => ⟨μ, σ, h, l, r, ?_⟩
  refine (Ps.bind p).imp fun x μ1 h1 H1 p1 e1 r1 q1 w1 rw1 => ?_
  cases e : truth x h1 with
  | none => rw [e] at q1; exact q1.elim
  | some k =>
    rw [e] at q1
    exact ⟨k, truth_ok r1 rw1 e, Ps.at q1 r1⟩
theorem c_cmp {op : CmpOp} {f : Val → Val → Hh → Res Val} (ho : OpR X (compareOp op) (rM2 (gm X) W0 f)) (hn : ∀ x y h z k, f x y h ≠ .rs z k) (ha : CE X W a ma) (hb : CE X W b mb) (hm : behindInMarks op b = false := by rfl) : CT X W (.Compare a [op] [b] pos) (tBl (mOp f ma mb)) := by
  refine ptI (pt_cmpR ho ha hb hm) fun τ H Q ⟨μ, σ, h, l, r, p⟩ => ⟨μ, σ, h, l, r, ?_⟩
  refine (Ps.bind (Ps.bind p)).imp fun x μ1 h1 H1 p1 e1 r1 q1 w1 rw1 => ?_
  refine ⟨μ1, σ, h1, l.mono p1 e1, r1, ?_⟩
  refine (Ps.bind q1).imp fun y μ2 h2 H2 p2 e2 r2 q2 w2 rw2 => ?_
  refine ⟨μ2, h2, x, y, r2, rw1.mono p2 e2, rw2, ?_⟩
  cases e : f x y h2 with
  | no => rw [e] at q2; exact q2
  | rs z k => exact absurd e (hn x y h2 z k)
  | ok z h3 =>
    rw [e] at q2
    intro μ3 H3 p3 e3 r3 w3 rw3
    have q3 := q2 μ3 H3 p3 e3 r3
    cases z with
    | bl k => cases rw3; exact ⟨k, rfl, Ps.at q3 r3⟩
    | _ => exact q3.elim
theorem c_not {m : MT} (ha : CT X W a m) : CT X W (.UnaryOp .Not a pos) (tNot1 m) := by
  refine ptI (pt_not ha) fun τ H Q ⟨μ, σ, h, l, r, p⟩ => ⟨μ, σ, h, l, r, ?_⟩
  exact (Ps.bind p).imp fun x μ1 h1 H1 p1 e1 r1 q1 => Ps.at q1 r1
theorem c_and1 {m : MT} (ha : CT X W a m) : CWt X W (.BoolOp .And [a] pos) m := pw_and1 ha
theorem c_or1 {m : MT} (ha : CT X W a m) : CWt X W (.BoolOp .Or [a] pos) m := pw_or1 ha
theorem c_and {m n : MT} {rest : List Expr} (ha : CT X W a m) (hb : CWt X W (.BoolOp .And (b :: rest) pos) n) : CWt X W (.BoolOp .And (a :: b :: rest) pos) (tAnd2 m n) := by
  refine pwI (pw_and ha hb) fun τ H Q ⟨μ, σ, h, l, r, p⟩ => ⟨μ, σ, h, l, r, ?_⟩
  refine (Ps.bind p).imp fun x μ1 h1 H1 p1 e1 r1 q1 => ?_
  cases x with
  | true => exact iteT ⟨μ1, σ, h1, l.mono p1 e1, r1, q1⟩
  | false => exact iteF (Ps.at q1 r1)
theorem c_or {m n : MT} {rest : List Expr} (ha : CT X W a m) (hb : CWt X W (.BoolOp .Or (b :: rest) pos) n) : CWt X W (.BoolOp .Or (a :: b :: rest) pos) (tOr2 m n) := by
  refine pwI (pw_or ha hb) fun τ H Q ⟨μ, σ, h, l, r, p⟩ => ⟨μ, σ, h, l, r, ?_⟩
  refine (Ps.bind p).imp fun x μ1 h1 H1 p1 e1 r1 q1 => ?_
  cases x with
  | true => exact iteT (Ps.at q1 r1)
  | false => exact iteF ⟨μ1, σ, h1, l.mono p1 e1, r1, q1⟩
theorem s_one {op : BoolOp} (ha : CE X W a ma) : CE X W (.BoolOp op [a] pos) ma := pe_one ha
theorem s_and {rest : List Expr} (ha : CE X W a ma) (hb : CE X W (.BoolOp .And (b :: rest) pos) mb) : CE X W (.BoolOp .And (a :: b :: rest) pos) (mAnd ma mb) := by
  refine peI (pe_and ha hb) fun τ H Q ⟨μ, σ, h, l, r, p⟩ => ⟨μ, σ, h, l, r, ?_⟩
  refine (Ps.bind p).imp fun x μ1 h1 H1 p1 e1 r1 q1 w1 rw1 => ?_
  cases x with
  | bl k =>
    cases rw1
    cases k with
    | true => exact ⟨true, rfl, iteT ⟨μ1, σ, h1, l.mono p1 e1, r1, q1⟩⟩
    | false => exact ⟨false, rfl, iteF ((Ps.at q1 r1) _ (.bl false))⟩
  | _ => exact q1.elim
theorem s_not (ha : CE X W a ma) : CE X W (.UnaryOp .Not a pos) (mNot ma) := by
  refine peI (pe_notT ha) fun τ H Q ⟨μ, σ, h, l, r, p⟩ => ⟨μ, σ, h, l, r, ?_⟩
  refine (Ps.bind p).imp fun x μ1 h1 H1 p1 e1 r1 q1 w1 rw1 => ?_
  cases e : truth x h1 with
  | none => rw [e] at q1; exact q1.elim
  | some k =>
    rw [e] at q1
    exact ⟨k, truth_ok r1 rw1 e, (Ps.at q1 r1) _ (.bl _)⟩
theorem a_nil : CA X W [] maNil := paI pa_nil fun τ H Q ⟨μ, σ, h, l, r, p⟩ => (p.at r) [] .nil
theorem a_cons {es : List Expr} {m : MA} (ha : CE X W e ma) (hr : CA X W es m) (hs : starEach (e :: es) X.env = (false, eval e X.env) :: starEach es X.env := by rfl) : CA X W (e :: es) (maCons ma m) := by
  refine paI (pa_cons ha hr hs) fun τ H Q ⟨μ, σ, h, l, r, p⟩ => ⟨μ, σ, h, l, r, ?_⟩
  refine (Ps.bind p).imp fun x μ1 h1 H1 p1 e1 r1 q1 w1 rw1 => ?_
  refine ⟨μ1, σ, h1, l.mono p1 e1, r1, ?_⟩
  refine (Ps.bind q1).imp fun xs μ2 h2 H2 p2 e2 r2 q2 ws rws => ?_
  exact (Ps.at q2 r2) _ (.cons (rw1.mono p2 e2) rws)
theorem k_nil : CK X W [] maNil := pkI pk_nil fun τ H Q ⟨μ, σ, h, l, r, p⟩ => (p.at r) [] .nil
theorem k_cons {ks : List Keyword} {m : MA} {nm : Option Str} {kpos : Pos} (ha : CE X W e ma) (hr : CK X W ks m) : CK X W (⟨nm, e, kpos⟩ :: ks) (maCons ma m) := by
  refine pkI (pk_cons ha hr) fun τ H Q ⟨μ, σ, h, l, r, p⟩ => ⟨μ, σ, h, l, r, ?_⟩
  refine (Ps.bind p).imp fun x μ1 h1 H1 p1 e1 r1 q1 w1 rw1 => ?_
  refine ⟨μ1, σ, h1, l.mono p1 e1, r1, ?_⟩
  refine (Ps.bind q1).imp fun xs μ2 h2 H2 p2 e2 r2 q2 ws rws => ?_
  exact (Ps.at q2 r2) _ (.cons (rw1.mono p2 e2) rws)
def vTup : Fn := fun vs h => if vs.length ≤ sizeLine then .ok (.tup vs) h else .no
def vLst : Fn := fun vs h => if vs.length ≤ sizeLine then .ok (.ref h.length) (h ++ [.lst vs]) else .no
theorem lay_tup {G : Gm} {μ : List Addr} {h : Hh} {H : Hp} {vs : List Val} {ws : List V} (r : HR G μ h H) (rv : RVs G μ H vs ws) {Q : VK} {W : XK} (p : Ps G W μ H (.ok (.tup vs) h) (qV G Q)) : ∀ a, H a = none → Q (.ref a) (upd H a (.tup ws)) := fun a ha =>
  p μ _ (List.prefix_refl μ) (Ex.new ha) (r.laidT ha) _ (.tup (.inl upd_same) (rv.mono (List.prefix_refl μ) (Et.new ha)))
theorem lay_lst {G : Gm} {μ : List Addr} {h : Hh} {H : Hp} {vs : List Val} {ws : List V} (r : HR G μ h H) (rv : RVs G μ H vs ws) {Q : VK} {W : XK} (p : Ps G W μ H (.ok (.ref h.length) (h ++ [.lst vs])) (qV G Q)) : ∀ a, H a = none → Q (.ref a) (upd H a (.lst ws)) := fun a ha =>
  p (μ ++ [a]) _ (List.prefix_append μ [a]) (Ex.new ha) (r.laid ha ⟨ws, upd_same, rv.mono (List.prefix_append μ [a]) (Et.new ha)⟩) _ (.ref (by rw [← r.len]; simp))
theorem s_tup {es : List Expr} {m : MA} {x1} (h : CA X W es m) : CE X W (.Tuple es x1 pos) (mApp vTup m) := by
  refine peI (pe_tup h) fun τ H Q ⟨μ, σ, h, l, r, p⟩ => ⟨μ, σ, h, l, r, ?_⟩
  refine (Ps.bind p).imp fun xs μ1 h1 H1 p1 e1 r1 q1 ws rws => ?_
  unfold vTup at q1
  split at q1
  · rename_i hz
    exact ⟨by rw [← rws.length]; exact hz, lay_tup r1 rws q1⟩
  · exact q1.elim
theorem s_lst {es : List Expr} {m : MA} (h : CA X W es m) : CE X W (.List es pos) (mApp vLst m) := by
  refine peI (pe_lst h) fun τ H Q ⟨μ, σ, h, l, r, p⟩ => ⟨μ, σ, h, l, r, ?_⟩
  refine (Ps.bind p).imp fun xs μ1 h1 H1 p1 e1 r1 q1 ws rws => ?_
  unfold vLst at q1
  split at q1
  · rename_i hz
    exact ⟨by rw [← rws.length]; exact hz, lay_lst r1 rws q1⟩
  · exact q1.elim
end
end U
namespace U
open PySem L2
section
variable {X : Cx} {pins : List (Addr × Obj)} {τ : St} {H : Hp} {s : Shared} {μ : List Addr}
mutual
theorem nk_is (I : L2.Inv X pins τ H s) : ∀ {v : Val} {w : V}, RV (gm X) μ H v w → ∀ {k : NestedKey} {u : Value}, nk v = some k → RelV w u → NestedIs s.heap k u
  | _, _, .non, k, u, e, r => by simp only [nk, Option.some.injEq] at e; subst e; cases r; exact .none
  | _, _, .bl b, k, u, e, r => by simp only [nk, Option.some.injEq] at e; subst e; cases r; exact .bool rfl
  | _, _, .int i, k, u, e, r => by simp only [nk, Option.some.injEq] at e; subst e; obtain ⟨t, rfl⟩ := r; exact .int _ _
  | _, _, .str x, k, u, e, r => by simp only [nk, Option.some.injEq] at e; subst e; obtain ⟨t, rfl⟩ := r; exact .text _ _
  | _, _, .tup (vs := vs) (ws := ws) (a := a) t rs, k, u, e, r => by
    simp only [nk] at e
    cases q : nks vs with
    | none => rw [q] at e; cases e
    | some ks =>
      rw [q] at e
      cases e
      cases r
      obtain ⟨its, rv, ⟨o, h1, h2, n, h3⟩, _⟩ := I.tuple t.sq
      exact .tup h1 h2 h3 (by simpa using nks_is I rs q rv)
  | _, _, .ref q, k, u, e, r => by simp [nk] at e
  | _, _, .ty n, k, u, e, r => by simp [nk] at e
  | _, _, .gl q, k, u, e, r => by simp [nk] at e
theorem nks_is (I : L2.Inv X pins τ H s) : ∀ {vs : List Val} {ws : List V}, RVs (gm X) μ H vs ws → ∀ {ks : List NestedKey} {us : List Value}, nks vs = some ks → Vals ws us → NestedAll s.heap ks us
  | _, _, .nil, ks, us, e, r => by simp only [nks, Option.some.injEq] at e; subst e; cases r; exact .nil
  | _, _, .cons (v := v) (vs := vs) rv rs, ks, us, e, r => by
    simp only [nks] at e
    cases q1 : nk v with
    | none => simp [q1] at e
    | some k =>
      cases q2 : nks vs with
      | none => simp [q1, q2] at e
      | some ks' =>
        simp only [q1, q2, Option.some.injEq] at e
        subst e
        cases r with
        | cons r1 r2 => exact .cons (nk_is I rv q1 r1) (nks_is I rs q2 r2)
end
theorem tkey_is (I : L2.Inv X pins τ H s) {v : Val} {a : Addr} {k : NestedKey} (rv : RV (gm X) μ H v (.ref a)) (e : tkey v = some k) : (nestedKind X.prog X.w).is s.heap k a := by
  obtain ⟨e1, e2, _⟩ := tkey_nk e
  exact ⟨nk_is I rv e1 rfl, e2⟩
theorem rns_mem : ∀ {kvs : List (Val × Val)} {xs : List (NestedKey × Addr × Value)}, RNs (gm X) μ H kvs xs → ∀ x ∈ xs, ∃ v, tkey v = some x.1 ∧ RV (gm X) μ H v (.ref x.2.1)
  | _, _, .nil, x, hx => by cases hx
  | _, _, .cons q r _ _ t, x, hx => by
    rcases List.mem_cons.mp hx with rfl | hx
    · exact ⟨_, q, r⟩
    · exact rns_mem t x hx
theorem nd_ok {P : Program} {w : World} {H : Hp} {h : Heap} {a : Addr} {xs : List (NestedKey × Addr × Value)} (h1 : (a == sysModules) = false) (h2 : xs.length ≤ sizeLine) (d : h.DictOfH (nestedKind P w) a xs) : ObjOk P w H h a (NDo w a xs) := by
  obtain ⟨o, es, ep, q1, q2, q3, q4, _, q5⟩ := d
  exact ⟨⟨h1, h2, o, es, ep, q1, q2, q3, q4, q5⟩, ⟨o, q1⟩, fun _ _ ⟨a1, a2, o, es, ep, q1, r⟩ k => ⟨a1, a2, o, es, ep, k o q1, r⟩⟩
theorem nd_rd (I : L2.Inv X pins τ H s) {a : Addr} {kvs : List (Val × Val)} {xs : List (NestedKey × Addr × Value)} (e : Rd H a (NDo X.w a xs)) (r : RNs (gm X) μ H kvs xs) : (a == sysModules) = false ∧ xs.length ≤ sizeLine ∧ s.heap.DictOfH (nestedKind X.prog X.w) a xs := by
  obtain ⟨⟨h1, h2, o, es, ep, q1, q2, q3, q4, q5⟩, _, _⟩ := e.ok I.hok
  refine ⟨h1, h2, o, es, ep, q1, q2, q3, q4, fun x hx => ?_, q5⟩
  obtain ⟨v, e1, e2⟩ := rns_mem r x hx
  exact tkey_is I e2 e1
end
def nGet (kvs : List (Val × Val)) (k : NestedKey) : Option Val := (kvs.find? fun p => decide (tkey p.1 = some k)).map (·.2)
def nPut (kvs : List (Val × Val)) (k : Val) (kk : NestedKey) (v : Val) : List (Val × Val) :=
  if (nGet kvs kk).isSome then kvs.map fun p => if tkey p.1 = some kk then (p.1, v) else p else kvs ++ [(k, v)]
section
variable {G : Gm} {μ : List Addr} {H : Hp}
theorem nGet_cons (p : Val × Val) (r : List (Val × Val)) (k : NestedKey) : nGet (p :: r) k = if tkey p.1 = some k then some p.2 else nGet r k := by
  unfold nGet
  rw [List.find?_cons]
  by_cases h : tkey p.1 = some k
  · rw [if_pos h, decide_eq_true h]; rfl
  · rw [if_neg h, decide_eq_false h]
theorem atKey_cons {K : Type} [DecidableEq K] (x : K × Addr × Value) (r : List (K × Addr × Value)) (k : K) : atKey (x :: r) k = if x.1 = k then some x.2 else atKey r k := by
  unfold atKey
  rw [List.find?_cons]
  by_cases h : x.1 = k
  · rw [if_pos h, decide_eq_true h]; rfl
  · rw [if_neg h, decide_eq_false h]
theorem nGet_ok (k : NestedKey) : ∀ {kvs : List (Val × Val)} {xs : List (NestedKey × Addr × Value)}, RNs G μ H kvs xs → (∀ v, nGet kvs k = some v → ∃ p w, atKey xs k = some p ∧ RelV w p.2 ∧ RV G μ H v w) ∧ (nGet kvs k = none → atKey xs k = none)
  | _, _, .nil => ⟨fun v e => by simp [nGet] at e, fun _ => rfl⟩
  | _, _, .cons (k' := k') (ka := ka) (w := w) (u := u) q r ru rv t => by
    obtain ⟨i1, i2⟩ := nGet_ok k t
    rw [nGet_cons, atKey_cons, q]
    by_cases hk : k' = k
    · subst hk
      rw [if_pos rfl, if_pos rfl]
      exact ⟨fun v e => by cases e; exact ⟨(ka, u), w, rfl, ru, rv⟩, fun e => by cases e⟩
    · rw [if_neg (fun z => hk (Option.some.inj z)), if_neg hk]
      exact ⟨i1, i2⟩
theorem nGet_some {kvs : List (Val × Val)} {xs : List (NestedKey × Addr × Value)} (k : NestedKey) (r : RNs G μ H kvs xs) : (nGet kvs k).isSome = (atKey xs k).isSome := by
  obtain ⟨i1, i2⟩ := nGet_ok k r
  cases q : nGet kvs k with
  | none => rw [i2 q]; rfl
  | some v => obtain ⟨p, w, e, _⟩ := i1 v q; rw [e]; rfl
theorem rns_app : ∀ {kvs kvs' : List (Val × Val)} {xs xs' : List (NestedKey × Addr × Value)}, RNs G μ H kvs xs → RNs G μ H kvs' xs' → RNs G μ H (kvs ++ kvs') (xs ++ xs')
  | _, _, _, _, .nil, s => s
  | _, _, _, _, .cons q r u v t, s => .cons q r u v (rns_app t s)
theorem rns_map {kk : NestedKey} {v : Val} {w : V} {u : Value} (ru : RelV w u) (rv : RV G μ H v w) : ∀ {kvs : List (Val × Val)} {xs : List (NestedKey × Addr × Value)}, RNs G μ H kvs xs → RNs G μ H (kvs.map fun p => if tkey p.1 = some kk then (p.1, v) else p) (xs.map (putAt kk u))
  | _, _, .nil => .nil
  | _, _, .cons (k' := k') q r u' v' t => by
    rw [List.map_cons, List.map_cons]
    unfold putAt
    by_cases hk : k' = kk
    · subst hk
      rw [if_pos q, if_pos rfl]
      exact .cons q r ru rv (rns_map ru rv t)
    · rw [if_neg (by rw [q]; exact fun z => hk (Option.some.inj z)), if_neg hk]
      exact .cons q r u' v' (rns_map ru rv t)
theorem nPut_ok {k v : Val} {kk : NestedKey} {ka : Addr} {w : V} {u : Value} {kvs : List (Val × Val)} {xs : List (NestedKey × Addr × Value)} (r : RNs G μ H kvs xs) (q : tkey k = some kk) (rk : RV G μ H k (.ref ka)) (ru : RelV w u) (rv : RV G μ H v w) :
    RNs G μ H (nPut kvs k kk v) (storedH xs kk ka u) := by
  unfold nPut storedH
  rw [nGet_some kk r]
  split
  · exact rns_map ru rv r
  · exact rns_app r (.cons q rk ru rv .nil)
end
theorem storedH_le {xs : List (NestedKey × Addr × Value)} (k : NestedKey) (a : Addr) (v : Value) : (storedH xs k a v).length ≤ xs.length + 1 := by
  unfold storedH; split <;> simp
section
variable {X : Cx} {pins : List (Addr × Obj)} {τ : St} {H : Hp} {s : Shared} {μ : List Addr} {a b : Addr} {kvs : List (Val × Val)} {xs : List (NestedKey × Addr × Value)} {y z : Val} {k : NestedKey} {A : Around} {E : Value → Shared → Prop}
theorem nk_room (hu : A.units + 64 < cLine) : (nestedKind X.prog X.w).room A.in1 := by
  show A.in1.units + 8 < cLine
  rw [Around.in1_units]; omega
theorem nd_getItem {Q : Value → Shared → Prop} (hu : A.units + 64 < cLine) (I : L2.Inv X pins τ H s) (e : Rd H a (NDo X.w a xs)) (r : RNs (gm X) μ H kvs xs) (ry : RV (gm X) μ H y (.ref b)) (hk : tkey y = some k) (g : nGet kvs k = some z)
    (h : ∀ w w' s', L2.Inv X pins τ H s' → RelV w w' → RV (gm X) μ H z w → Q w' s') : wpAny (model X.prog X.w) A (getItem (.ref a) (.ref b)) Q E s := by
  obtain ⟨_, _, d⟩ := nd_rd I e r
  obtain ⟨p, w, e1, e2, e3⟩ := (nGet_ok k r).1 z g
  exact wpAny_getItem_heap (nk_room hu) (tkey_is I ry hk) d e1 (h w _ _ (I.tok _) e2 e3)
theorem nd_in {Q : Value → Shared → Prop} (hu : A.units + 64 < cLine) (I : L2.Inv X pins τ H s) (e : Rd H a (NDo X.w a xs)) (r : RNs (gm X) μ H kvs xs) (ry : RV (gm X) μ H y (.ref b)) (hk : tkey y = some k)
    (h : ∀ s', L2.Inv X pins τ H s' → Q (.bool (nGet kvs k).isSome) s') : wpAny (model X.prog X.w) A (compareOp .In (.ref b) (.ref a)) Q E s := by
  obtain ⟨h1, _, d⟩ := nd_rd I e r
  refine wpAny_in_heap (nk_room hu) (tkey_is I ry hk) h1 d ?_
  rw [← nGet_some k r]
  exact h _ (I.tok _)
theorem nd_notIn {Q : Value → Shared → Prop} (hu : A.units + 64 < cLine) (I : L2.Inv X pins τ H s) (e : Rd H a (NDo X.w a xs)) (r : RNs (gm X) μ H kvs xs) (ry : RV (gm X) μ H y (.ref b)) (hk : tkey y = some k)
    (h : ∀ s', L2.Inv X pins τ H s' → Q (.bool (!(nGet kvs k).isSome)) s') : wpAny (model X.prog X.w) A (compareOp .NotIn (.ref b) (.ref a)) Q E s := by
  obtain ⟨h1, _, d⟩ := nd_rd I e r
  refine PyProof.Rows.wpAny_notIn_heap (nk_room hu) (tkey_is I ry hk) h1 d ?_
  rw [← nGet_some k r]
  exact h _ (I.tok _)
theorem nd_of_nil (I : L2.Inv X pins τ H s) (e : Rd H a (.dK [])) : (a == sysModules) = false ∧ s.heap.DictOfH (nestedKind X.prog X.w) a [] := by
  obtain ⟨z, hd, vs, rel, o, es, ep, h1, h2, h3, h4, h5, h6⟩ := e.ok I.hok
  cases rel
  have h0 : es.toList = [] := by
    generalize es.toList = l at h5
    cases h5; rfl
  exact ⟨hd, o, es, ep, h1, h2, h3, by rw [h0]; rfl, fun x hx => (by cases hx), List.nodup_nil⟩
theorem nd0_in {Q : Value → Shared → Prop} (hu : A.units + 64 < cLine) (I : L2.Inv X pins τ H s) (e : Rd H a (.dK [])) (ry : RV (gm X) μ H y (.ref b)) (hk : tkey y = some k)
    (h : ∀ s', L2.Inv X pins τ H s' → Q (.bool false) s') : wpAny (model X.prog X.w) A (compareOp .In (.ref b) (.ref a)) Q E s := by
  obtain ⟨h1, d⟩ := nd_of_nil I e
  exact wpAny_in_heap (nk_room hu) (tkey_is I ry hk) h1 d (h _ (I.tok _))
theorem nd0_notIn {Q : Value → Shared → Prop} (hu : A.units + 64 < cLine) (I : L2.Inv X pins τ H s) (e : Rd H a (.dK [])) (ry : RV (gm X) μ H y (.ref b)) (hk : tkey y = some k)
    (h : ∀ s', L2.Inv X pins τ H s' → Q (.bool true) s') : wpAny (model X.prog X.w) A (compareOp .NotIn (.ref b) (.ref a)) Q E s := by
  obtain ⟨h1, d⟩ := nd_of_nil I e
  exact PyProof.Rows.wpAny_notIn_heap (nk_room hu) (tkey_is I ry hk) h1 d (h _ (I.tok _))
theorem nd_setItem {Q : Unit → Shared → Prop} {u : Value} (hu : A.units + 64 < cLine) (I : L2.Inv X pins τ H s) (e : H a = some (NDo X.w a xs)) (r : RNs (gm X) μ H kvs xs) (hz : kvs.length < sizeLine) (ry : RV (gm X) μ H y (.ref b)) (hk : tkey y = some k)
    (h : ∀ s', L2.Inv X pins τ (upd H a (NDo X.w a (storedH xs k b u))) s' → Q () s') : wpAny (model X.prog X.w) A (setItem (.ref a) (.ref b) u) Q E s := by
  obtain ⟨h1, h2, d⟩ := nd_rd I (.inl e) r
  refine wpAny_setItem_heap (hsz := h2) (nk_room hu) (tkey_is I ry hk) d fun h' d' hs => h _ ?_
  have l := storedH_le (xs := xs) k b u
  have lr := r.length
  have he : ∃ q, h'.get? a = some q := let ⟨q, _, _, hq, _⟩ := d'; ⟨q, hq⟩
  exact d_write I (by rw [e]; exact True.intro) hs he (nd_ok h1 (by omega) d')
theorem nd0_setItem {Q : Unit → Shared → Prop} {u : Value} (hu : A.units + 64 < cLine) (I : L2.Inv X pins τ H s) (e : H a = some (.dK [])) (ry : RV (gm X) μ H y (.ref b)) (hk : tkey y = some k)
    (h : ∀ s', L2.Inv X pins τ (upd H a (NDo X.w a [(k, b, u)])) s' → Q () s') : wpAny (model X.prog X.w) A (setItem (.ref a) (.ref b) u) Q E s := by
  obtain ⟨h1, d⟩ := nd_of_nil I (.inl e)
  refine wpAny_setItem_heap (hsz := Nat.zero_le _) (nk_room hu) (tkey_is I ry hk) d fun h' d' hs => h _ ?_
  have he : ∃ q, h'.get? a = some q := let ⟨q, _, _, hq, _⟩ := d'; ⟨q, hq⟩
  exact d_write I (by rw [e]; exact True.intro) hs he (nd_ok h1 (by simp [storedH, atKey]; decide) d')
theorem nd_type (I : L2.Inv X pins τ H s) (e : Rd H a (NDo X.w a xs)) : s.TypeIs (.ref a) "dict" := by
  obtain ⟨⟨h1, h2, o, es, ep, q1, q2, q3, q4, q5⟩, _, _⟩ := e.ok I.hok
  exact ⟨o, q1, q2.1⟩
end
theorem Inv_frzN {X : Cx} {pins : List (Addr × Obj)} {τ : St} {H : Hp} {s : Shared} {d : Addr} {o : Obj} {xs : List (NestedKey × Addr × Value)} (I : L2.Inv X pins τ H s) (h : H d = some (.frz o (NDo X.w d xs))) :
    (d == sysModules) = false ∧ s.heap.get? d = some o ∧ o.ExactDict ∧ ∃ (es : Array DictEntry) (ep : Nat), o.data = .dict es ep ∧ es.size = xs.length ∧ ∀ (i : Nat) (x : NestedKey × Addr × Value), xs[i]? = some x → ∃ en : DictEntry, es[i]? = some en ∧ en.key = .ref x.2.1 ∧ en.val = x.2.2 := by
  obtain ⟨hd, ⟨h1, h2, o', es, ep, q1, q2, q3, q4, q5⟩, _, _⟩ := I.hok d _ h
  rw [hd] at q1
  cases q1
  refine ⟨h1, hd, q2, es, ep, q3, by rw [← Array.length_toList, q4, List.length_map], fun i x hx => ⟨ndF X.w x, ?_, rfl, rfl⟩⟩
  rw [← Array.getElem?_toList, q4, List.getElem?_map, hx]; rfl
def Itn (w : World) (d : Addr) (o : Obj) (xs : List (NestedKey × Addr × Value)) : It :=
  ⟨fun i H => H d = some (.frz o (NDo w d xs)) ∧ i < xs.length, fun i H x H' => H' = H ∧ ∃ p, xs[i]? = some p ∧ x = .ref p.2.1, fun i H => H d = some (.frz o (NDo w d xs)) ∧ xs.length ≤ i⟩
theorem turn_keysN {P : Program} {w : World} {K : PySem.W.Frag} {tg : Expr} {d : Addr} {o : Obj} {es : Array DictEntry} {ep : Nat} {xs : List (NestedKey × Addr × Value)} (it : Addr) (hod : o.data = .dict es ep) : Turn P w K tg (Itn w d o xs) [it] it (fun i h => h.IsKeyIter it d i xs.length ep) where
  mem := by simp
  obj := fun i h st b hb => by
    have e : b = it := by simpa using hb
    subst e
    obtain ⟨oi, e, c, dd⟩ := st
    exact ⟨oi, e, fun v z => by rw [dd] at z; cases z⟩
  keep := fun i h h' st k => st.at fun oi e => k it (by simp) oi e
  item := by
    intro X hP hw hK hc i pins s σ H E I hf st hg
    subst hP hw hK
    obtain ⟨hd, hi⟩ := hg
    obtain ⟨f0, f1, f2, f3, f4, f5⟩ := hf it (by simp)
    obtain ⟨hs, hgd, hx, es', ep', hdt, hsz, ent⟩ := Inv_frzN I hd
    obtain ⟨rfl, rfl⟩ := dict_ep hod hdt
    obtain ⟨p, hp⟩ : ∃ p, xs[i]? = some p := ⟨xs[i], List.getElem?_eq_getElem hi⟩
    obtain ⟨en, hen, hkey, _⟩ := ent i p hp
    refine next_key_item st hgd hdt hsz hen fun h' st' sb => ?_
    have I1 : L2.Inv X pins σ H { s with heap := h' } := I.turned (t' := s.toks) (fun b ob hb e => (sb.2 b hb).trans e) f0 f1 f3 f4 f5
    obtain ⟨oi, e, c, dd⟩ := id st'
    exact ⟨en.key, rfl, go_of (s := { s with heap := h' }) e c dd (by decide) ⟨.ref p.2.1, H, I1, hkey, ⟨rfl, p, hp, rfl⟩, st', fun b hb => (hf b hb).1⟩⟩
  done := by
    intro X hP hw hK hc i pins s σ H E I hf st hg
    subst hP hw hK
    obtain ⟨hd, hi⟩ := hg
    obtain ⟨f0, f1, f2, f3, f4, f5⟩ := hf it (by simp)
    obtain ⟨hs, hgd, hx, es', ep', hdt, hsz, ent⟩ := Inv_frzN I hd
    obtain ⟨rfl, rfl⟩ := dict_ep hod hdt
    exact next_key_end (I.ok.hd hc) st hgd hdt hsz hi fun h' eb => ⟨rfl, I.turned (t' := s.toks) (fun b ob hb e => eb b ob hb e) f0 f1 f3 f4 f5⟩
  self := fun A i s Q E st h => by
    refine wpAny_pyIter_slot st.typeIs F.slot_dict_keyiterator_iter (wpAny_call_entry F.slot_dict_keyiterator_iter st.typeIs F.entry_dict_keyiterator_iter ?_ (F.args_dict_keyiterator_iter_1 _))
    show wpAny _ _ (ret (.ref it)) _ _ s
    exact wpAny_pure ⟨_, rfl, "dict_keyiterator", _, st.typeIs, F.slot_dict_keyiterator_next.lookup, h⟩
def iKeysN (w : World) (td : TE) : TI := fun σ H R => td σ H fun x H1 => ∃ d o xs, x = .ref d ∧ H1 d = some (.frz o (NDo w d xs)) ∧ R (Itn w d o xs) H1
theorem pi_keysN {X : Cx} {tg e : Expr} {td : TE} (he : PE X e td) : PI X tg e (iKeysN X.w td) := by
  refine ⟨fun pins s σ H R I h => ?_⟩
  refine thn (he.run pins s σ H _ I h) fun u s1 ⟨x, H1, I1, rx, d, o, xs, ex, hd, q⟩ => ?_
  subst ex
  obtain rfl : u = Value.ref d := rx
  obtain ⟨hs, hgd, hx, es, ep, hdt, hsz, ent⟩ := Inv_frzN I1 hd
  refine iter_keys hs hgd hx hdt (pi_one (tk := s1.toks) I1 _ (turn_keysN _ hdt) ⟨_, Heap.get?_push_size _ rfl, rfl, ?_⟩ q)
  rw [hsz] <;> rfl
end U
namespace U
open PySem L2
open PyProof.Rows (envOfC)
structure Cok (X : Cx) (W : WX) (k : Nat) : Prop where
  tk : Takes X W
  rm : Room k X.A
  gu : X.A.guards = some []
  po : PassesOwn (model X.prog X.w) X.A X.env X.xe
  calm : X.calm = true
  nd : X.N.Nodup
abbrev WN : WX := fun _ _ _ _ => False
theorem Cok.mono {X : Cx} {W : WX} {j k : Nat} (c : Cok X W k) (h : j ≤ k) : Cok X W j := ⟨c.tk, c.rm.mono h, c.gu, c.po, c.calm, c.nd⟩
theorem Cok.hu {X : Cx} {W : WX} {k : Nat} (c : Cok X W k) : X.A.units + 1 < cLine := hu_of c.rm
theorem Cok.u64 {X : Cx} {W : WX} {k : Nat} (c : Cok X W k) : X.A.units + 64 < cLine := c.rm.units
theorem Cok.u65 {X : Cx} {W : WX} {k : Nat} (c : Cok X W k) : X.A.units + 65 < cLine := by have := c.rm.un; omega
theorem Cok.u0 {X : Cx} {W : WX} {k : Nat} (c : Cok X W k) : X.A.units < cLine := c.rm.units0
theorem Cok.blk {X : Cx} {W : WX} {k : Nat} (c : Cok X W k) (s : Shared) (H : Hp) (scope : Scope) (cenv : Env) (fp : List Addr) : Cok (X.blk s H scope cenv fp) WN k :=
  ⟨takes0, c.rm, c.gu, PassesOwn.never, c.calm, c.nd⟩
inductive Fl where
  | nx (σ : Loc) (h : Hh)
  | rt (v : Val) (h : Hh)
  | bk (σ : Loc) (h : Hh)
  | ct (σ : Loc) (h : Hh)
  | rs (x : Xc) (σ : Loc) (h : Hh)
  | no
abbrev MS := Loc → Hh → Fl
def PsF (G : Gm) (W : WX) (μ : List Addr) (H : Hp) (r : Fl) (D : Ends) : Prop := match r with
  | .nx σ h => ∀ μ' H' τ, μ <+: μ' → Ex H H' → HR G μ' h H' → LR G μ' H' σ τ → D.nx τ H'
  | .rt v h => ∀ μ' H' w, μ <+: μ' → Ex H H' → HR G μ' h H' → RV G μ' H' v w → D.rt w H'
  | .bk σ h => ∀ μ' H' τ, μ <+: μ' → Ex H H' → HR G μ' h H' → LR G μ' H' σ τ → D.bk τ H'
  | .ct σ h => ∀ μ' H' τ, μ <+: μ' → Ex H H' → HR G μ' h H' → LR G μ' H' σ τ → D.ct τ H'
  | .rs x σ h => ∀ μ' H' τ cls d, μ <+: μ' → Ex H H' → HR G μ' h H' → LR G μ' H' σ τ → RX G μ' H' x cls d → W cls d τ H'
  | .no => False
def tMS (G : Gm) (W : WX) (m : MS) : TS := fun D τ H => ∃ μ σ h, LR G μ H σ τ ∧ HR G μ h H ∧ PsF G W μ H (m σ h) D
abbrev CS (X : Cx) (W : WX) (st : Stmt) (m : MS) : Prop := PS X st (tMS (gm X) W m)
abbrev CB (X : Cx) (W : WX) (sts : List Stmt) (m : MS) : Prop := PSs X sts (tMS (gm X) W m)
theorem psI {X : Cx} {st : Stmt} {t t' : TS} (h : PS X st t) (k : ∀ D τ H, t' D τ H → t D τ H) : PS X st t' := ⟨fun pins s σ H D I q => h.run pins s σ H D I (k _ _ _ q)⟩
theorem pssI {X : Cx} {st : List Stmt} {t t' : TS} (h : PSs X st t) (k : ∀ D τ H, t' D τ H → t D τ H) : PSs X st t' := ⟨fun pins s σ H D I q => h.run pins s σ H D I (k _ _ _ q)⟩
section
variable {G : Gm} {W : WX} {μ μ' : List Addr} {H H' : Hp} {r : Fl} {D : Ends} {h : Hh} {σ : Loc} {τ : St}
theorem PsF.mono (p : μ <+: μ') (e : Ex H H') (h : PsF G W μ H r D) : PsF G W μ' H' r D := by
  cases r with
  | nx σ k => exact fun μ2 H2 t p2 e2 => h μ2 H2 t (p.trans p2) (e.trans e2)
  | rt σ k => exact fun μ2 H2 t p2 e2 => h μ2 H2 t (p.trans p2) (e.trans e2)
  | bk σ k => exact fun μ2 H2 t p2 e2 => h μ2 H2 t (p.trans p2) (e.trans e2)
  | ct σ k => exact fun μ2 H2 t p2 e2 => h μ2 H2 t (p.trans p2) (e.trans e2)
  | rs x σ k => exact fun μ2 H2 t c d p2 e2 => h μ2 H2 t c d (p.trans p2) (e.trans e2)
  | no => exact h
theorem PsF.atN (p : PsF G W μ H (.nx σ h) D) (l : LR G μ H σ τ) (r : HR G μ h H) : D.nx τ H := p μ H τ (List.prefix_refl μ) (Ex.refl H) r l
end
def Res.fl {α : Type} (r : Res α) (σ : Loc) (k : α → Hh → Fl) : Fl := match r with
  | .ok a h => k a h
  | .rs x h => .rs x σ h
  | .no => .no
@[simp] theorem fl_ok {α : Type} (a : α) (h : Hh) (σ : Loc) (k : α → Hh → Fl) : (Res.ok a h).fl σ k = k a h := rfl
@[simp] theorem fl_rs {α : Type} (x : Xc) (h : Hh) (σ : Loc) (k : α → Hh → Fl) : (Res.rs x h : Res α).fl σ k = .rs x σ h := rfl
@[simp] theorem fl_no {α : Type} (σ : Loc) (k : α → Hh → Fl) : (Res.no : Res α).fl σ k = .no := rfl
theorem PsF.bind {α : Type} {G : Gm} {W : WX} {μ : List Addr} {H : Hp} {r : Res α} {σ : Loc} {τ : St} {k : α → Hh → Fl} {D : Ends} (l : LR G μ H σ τ) (h : PsF G W μ H (r.fl σ k) D) :
    Ps G (WE W τ) μ H r (fun a μ' h' H' => PsF G W μ' H' (k a h') D) := by
  cases r with
  | ok a k' => exact fun μ2 H2 p2 e2 r2 => PsF.mono p2 e2 h
  | rs x k' => exact fun μ2 H2 c d p2 e2 r2 rx => h μ2 H2 τ c d p2 e2 r2 (l.mono p2 e2) rx
  | no => exact h
def Fl.next (r : Fl) (k : MS) : Fl := match r with
  | .nx σ h => k σ h
  | r => r
@[simp] theorem next_nx (σ : Loc) (h : Hh) (k : MS) : (Fl.nx σ h).next k = k σ h := rfl
@[simp] theorem next_rt (v : Val) (h : Hh) (k : MS) : (Fl.rt v h).next k = .rt v h := rfl
@[simp] theorem next_bk (σ : Loc) (h : Hh) (k : MS) : (Fl.bk σ h).next k = .bk σ h := rfl
@[simp] theorem next_ct (σ : Loc) (h : Hh) (k : MS) : (Fl.ct σ h).next k = .ct σ h := rfl
@[simp] theorem next_rs (x : Xc) (σ : Loc) (h : Hh) (k : MS) : (Fl.rs x σ h).next k = .rs x σ h := rfl
@[simp] theorem next_no (k : MS) : Fl.no.next k = .no := rfl
def msNil : MS := fun σ h => .nx σ h
def msSeq (a b : MS) : MS := fun σ h => (a σ h).next b
def msIf (t : MT) (a b : MS) : MS := fun σ h => (t σ h).fl σ fun c h1 => if c = true then a σ h1 else b σ h1
def msRet (a : ME) : MS := fun σ h => (a σ h).fl σ fun v h1 => .rt v h1
def msRetN : MS := fun _ h => .rt .non h
def msExpr (a : ME) : MS := fun σ h => (a σ h).fl σ fun _ h1 => .nx σ h1
def msNo : MS := fun _ _ => .no
abbrev MG := Val → Loc → Hh → Fl
def mgName (i : Nat) : MG := fun v σ h => .nx (σ.set i (some v)) h
def msAsg (a : ME) (g : MG) : MS := fun σ h => (a σ h).fl σ fun v h1 => g v σ h1
abbrev MGs := List Val → Loc → Hh → Fl
def mgNil : MGs := fun vs σ h => match vs with
  | [] => .nx σ h
  | _ => .no
def mgCons (g : MG) (gs : MGs) : MGs := fun vs σ h => match vs with
  | v :: r => (g v σ h).next (gs r)
  | [] => .no
def mgTup (n : Nat) (gs : MGs) : MG := fun v σ h => match v with
  | .tup vs => if vs.length = n then gs vs σ h else .no
  | _ => .no
def tMG (G : Gm) (g : MG) : TG := fun w τ H Q => ∃ μ σ h v, LR G μ H σ τ ∧ HR G μ h H ∧ RV G μ H v w ∧ PsF G WN μ H (g v σ h) { nx := Q, rt := fun _ _ => False }
def tMGs (G : Gm) (g : MGs) : TGs := fun ws τ H Q => ∃ μ σ h vs, LR G μ H σ τ ∧ HR G μ h H ∧ RVs G μ H vs ws ∧ PsF G WN μ H (g vs σ h) { nx := Q, rt := fun _ _ => False }
abbrev CG (X : Cx) (tg : Expr) (g : MG) : Prop := PG X tg (tMG (gm X) g)
abbrev CGs (X : Cx) (tg : List Expr) (g : MGs) : Prop := PGs X tg (tMGs (gm X) g)
theorem pgI {X : Cx} {e : Expr} {t t' : TG} (h : PG X e t) (k : ∀ v τ H Q, t' v τ H Q → t v τ H Q) : PG X e t' := ⟨fun pins s σ H v u Q I r q => h.run pins s σ H v u Q I r (k _ _ _ _ q)⟩
theorem pgsI {X : Cx} {e : List Expr} {t t' : TGs} (h : PGs X e t) (k : ∀ v τ H Q, t' v τ H Q → t v τ H Q) : PGs X e t' := ⟨fun pins s σ H v u Q I r q => h.run pins s σ H v u Q I r (k _ _ _ _ q)⟩
def Plain (g : MG) : Prop := ∀ v σ h, (∃ σ' h', g v σ h = .nx σ' h') ∨ g v σ h = .no
def Plains (g : MGs) : Prop := ∀ v σ h, (∃ σ' h', g v σ h = .nx σ' h') ∨ g v σ h = .no
theorem plain_name (i : Nat) : Plain (mgName i) := fun v σ h => .inl ⟨_, _, rfl⟩
theorem plains_nil : Plains mgNil := fun v σ h => by
  cases v with
  | nil => exact .inl ⟨_, _, rfl⟩
  | cons a b => exact .inr rfl
theorem plains_cons {g : MG} {gs : MGs} (a : Plain g) (b : Plains gs) : Plains (mgCons g gs) := fun v σ h => by
  cases v with
  | nil => exact .inr rfl
  | cons x r =>
    rcases a x σ h with ⟨σ', h', e⟩ | e
    · show (∃ σ' h', (g x σ h).next (gs r) = .nx σ' h') ∨ (g x σ h).next (gs r) = .no
      rw [e]; exact b r σ' h'
    · refine .inr ?_
      show (g x σ h).next (gs r) = .no
      rw [e]; rfl
theorem plain_tup {n : Nat} {gs : MGs} (b : Plains gs) : Plain (mgTup n gs) := fun v σ h => by
  cases v with
  | tup vs =>
    show (∃ σ' h', (if vs.length = n then gs vs σ h else .no) = .nx σ' h') ∨ (if vs.length = n then gs vs σ h else .no) = .no
    split
    · exact b vs σ h
    · exact .inr rfl
  | _ => exact .inr rfl
theorem plain_ps {G : Gm} {W W' : WX} {μ : List Addr} {H : Hp} {g : MG} {v : Val} {σ : Loc} {h : Hh} {D D' : Ends} (pl : Plain g) (p : PsF G W μ H (g v σ h) D) (e : D'.nx = D.nx) : PsF G W' μ H (g v σ h) D' := by
  rcases pl v σ h with ⟨σ', h', q⟩ | q
  · rw [q] at p ⊢
    intro μ2 H2 t p2 e2 r2 l2
    rw [e]
    exact p μ2 H2 t p2 e2 r2 l2
  · rw [q] at p; exact p.elim
section
variable {X : Cx} {W : WX} {k : Nat} {pos : Pos} {e c : Expr} {m : ME} {st : Stmt} {rest a b : List Stmt} {ms mr ma mb : MS} {t : MT} {g : MG} {gs : MGs}
theorem b_nil : CB X W [] msNil := pssI pss_nil fun D τ H ⟨μ, σ, h, l, r, p⟩ => p.atN l r
theorem b_cons (h1 : CS X W st ms) (h2 : CB X W rest mr) : CB X W (st :: rest) (msSeq ms mr) := by
  refine pssI (pss_cons h1 h2) fun D τ H ⟨μ, σ, h, l, r, p⟩ => ⟨μ, σ, h, l, r, ?_⟩
  unfold msSeq at p
  cases e : ms σ h with
  | nx σ' h' =>
    rw [e] at p
    exact fun μ2 H2 t p2 e2 r2 l2 => ⟨μ2, σ', h', l2, r2, PsF.mono p2 e2 p⟩
  | rt v h' => rw [e] at p; exact p
  | bk v h' => rw [e] at p; exact p
  | ct v h' => rw [e] at p; exact p
  | rs x v h' => rw [e] at p; exact p
  | no => rw [e] at p; exact p
theorem b_one (h1 : CS X W st ms) : CB X W [st] ms := pss_one h1
theorem t_if (hc : CT X W c t) (ha : CB X W a ma) (hb : CB X W b mb) : CS X W (.If c a b pos) (msIf t ma mb) := by
  refine psI (ps_if hc ha hb) fun D τ H ⟨μ, σ, h, l, r, p⟩ => ⟨μ, σ, h, l, r, ?_⟩
  refine (PsF.bind l p).imp fun x μ1 h1 H1 p1 e1 r1 q1 => ?_
  cases x with
  | true => exact iteT ⟨μ1, σ, h1, l.mono p1 e1, r1, q1⟩
  | false => exact iteF ⟨μ1, σ, h1, l.mono p1 e1, r1, q1⟩
theorem t_ret (he : CE X W e m) : CS X W (.Return (some e) pos) (msRet m) := by
  refine psI (ps_ret he) fun D τ H ⟨μ, σ, h, l, r, p⟩ => ⟨μ, σ, h, l, r, ?_⟩
  exact (PsF.bind l p).imp fun x μ1 h1 H1 p1 e1 r1 q1 w rw1 => q1 μ1 H1 w (List.prefix_refl _) (Ex.refl _) r1 rw1
theorem t_expr (he : CE X W e m) (hs : swapsWith e none pos.line X.env = pure false := by rfl) : CS X W (.Expr e pos) (msExpr m) := by
  refine psI (ps_expr he hs) fun D τ H ⟨μ, σ, h, l, r, p⟩ => ⟨μ, σ, h, l, r, ?_⟩
  exact (PsF.bind l p).imp fun x μ1 h1 H1 p1 e1 r1 q1 w rw1 => PsF.atN q1 (l.mono p1 e1) r1
theorem t_no : CS X W st msNo := psI ps_never fun D τ H ⟨μ, σ, h, l, r, p⟩ => p
theorem g_name (i : Nat) {x : Str} (hN : X.N.Nodup) (hi : X.N[i]? = some x := by rfl) (hx : L2.Loc X.env.scope x := by first | exact Or.inl rfl | exact Or.inr rfl) (hf : X.fn x = true ∨ X.env.scope.names.lookup x = some .local := by first | exact .inl rfl | exact .inr rfl | assumption) : CG X (.Name x pos) (mgName i) := by
  refine pgI (pg_name hN hi hx hf) fun w τ H Q ⟨μ, σ, h, v, l, r, rv, p⟩ => ?_
  exact p μ H _ (List.prefix_refl _) (Ex.refl _) r (l.set i rv)
theorem gs_nil : CGs X [] mgNil := by
  refine pgsI pgs_nil fun ws τ H Q ⟨μ, σ, h, vs, l, r, rv, p⟩ => ?_
  cases rv with
  | nil => exact ⟨rfl, p.atN l r⟩
  | cons a b => exact p.elim
theorem gs_cons {es : List Expr} (h1 : CG X e g) (h2 : CGs X es gs) (pl : Plain g) (hs : (assignEach (e :: es) X.env).map (·.2) = assign e X.env :: (assignEach es X.env).map (·.2) := by rfl) : CGs X (e :: es) (mgCons g gs) := by
  refine pgsI (pgs_cons h1 h2 hs) fun ws τ H Q ⟨μ, σ, h, vs, l, r, rv, p⟩ => ?_
  cases rv with
  | nil => exact p.elim
  | @cons v w vr wr a b =>
    refine ⟨w, wr, rfl, μ, σ, h, v, l, r, a, ?_⟩
    have p' : PsF (gm X) WN μ H ((g v σ h).next (gs vr)) { nx := Q, rt := fun _ _ => False } := p
    rcases pl v σ h with ⟨σ', h', q⟩ | q
    · rw [q] at p' ⊢
      exact fun μ2 H2 t p2 e2 r2 l2 => ⟨μ2, σ', h', vr, l2, r2, b.mono p2 e2, PsF.mono p2 e2 p'⟩
    · rw [q] at p'; exact p'.elim
theorem g_tup {es : List Expr} {k : Nat} {n : Nat} (hc : X.calm = true) (h : CGs X es gs) (hn : (assignEach es X.env).length = n := by rfl) (hst : (assignEach es X.env).findIdx? (·.1) = none := by rfl) : CG X (.Tuple es k pos) (mgTup n gs) := by
  refine pgI (pg_tup hc h hn hst) fun w τ H Q ⟨μ, σ, h, v, l, r, rv, p⟩ => ?_
  cases rv with
  | @tup vs ws a ta rs =>
    have p' : PsF (gm X) WN μ H (if vs.length = n then gs vs σ h else .no) { nx := Q, rt := fun _ _ => False } := p
    split at p'
    · rename_i hl
      exact ⟨a, ws, rfl, ta.sq, by rw [← rs.length]; exact hl, μ, σ, h, vs, l, r, rs, p'⟩
    · exact p'.elim
  | _ => exact p.elim
theorem t_asg {tg : Expr} (he : CE X W e m) (hg : CG X tg g) (pl : Plain g) (hs : swapsWithSole [tg] e pos.line X.env = pure false := by rfl) (hw : swappedStores [tg] e X.env = pure none := by rfl)
    (h1 : (assignEach [tg] X.env).map (·.2) = [assign tg X.env] := by rfl) : CS X W (.Assign [tg] e pos) (msAsg m g) := by
  refine psI (ps_asg he hg hs hw h1) fun D τ H ⟨μ, σ, h, l, r, p⟩ => ⟨μ, σ, h, l, r, ?_⟩
  exact (PsF.bind l p).imp fun x μ1 h1 H1 p1 e1 r1 q1 w rw1 => ⟨μ1, σ, h1, x, l.mono p1 e1, r1, rw1, plain_ps pl q1 rfl⟩
theorem t_set (i : Nat) {x : Str} {pos' : Pos} (he : CE X W e m) (hN : X.N.Nodup) (hi : X.N[i]? = some x := by rfl) (hx : L2.Loc X.env.scope x := by first | exact Or.inl rfl | exact Or.inr rfl) (hs : swapsWith e (some (.Name x pos')) pos.line X.env = pure false := by rfl)
    (hf : X.fn x = true ∨ X.env.scope.names.lookup x = some .local := by first | exact .inl rfl | exact .inr rfl | assumption) : CS X W (.Assign [.Name x pos'] e pos) (msAsg m (mgName i)) := by
  refine psI (ps_set (i := i) hN hi hx he hs hf) fun D τ H ⟨μ, σ, h, l, r, p⟩ => ⟨μ, σ, h, l, r, ?_⟩
  exact (PsF.bind l p).imp fun x μ1 h1 H1 p1 e1 r1 q1 w rw1 => q1 μ1 H1 _ (List.prefix_refl _) (Ex.refl _) r1 ((l.mono p1 e1).set i rw1)
def msPar (i j : Nat) (a : MA) : MS := fun σ h => (a σ h).fl σ fun vs h1 => match vs with
  | [v, w] => .nx ((σ.set i (some v)).set j (some w)) h1
  | _ => .no
theorem t_par (i j : Nat) {x y : Str} {e1 e2 : Expr} {ma : MA} {px py pt : Pos} {kt k2 pt2} (ha : CA X W [e1, e2] ma) (hN : X.N.Nodup) (hc : X.calm = true) (hi : X.N[i]? = some x := by rfl) (hj : X.N[j]? = some y := by rfl) (hij : i ≠ j := by decide)
    (hx : X.env.scope.names.lookup x = some .local := by rfl) (hy : X.env.scope.names.lookup y = some .local := by rfl)
    (hw : swappedStores [.Tuple [.Name x px, .Name y py] kt pt] (.Tuple [e1, e2] k2 pt2) X.env = pure (some [x, y]) := by rfl)
    (hs : swapsWithSole [.Tuple [.Name x px, .Name y py] kt pt] (.Tuple [e1, e2] k2 pt2) pos.line X.env = pure false := by rfl) : CS X W (.Assign [.Tuple [.Name x px, .Name y py] kt pt] (.Tuple [e1, e2] k2 pt2) pos) (msPar i j ma) := by
  refine psI (ps_par hc hN hi hj hij hx hy ha hw hs) fun D τ H ⟨μ, σ, h, l, r, p⟩ => ⟨μ, σ, h, l, r, ?_⟩
  refine (PsF.bind l p).imp fun xs μ1 h1 H1 p1 e1 r1 q1 ws rws => ?_
  cases rws with
  | nil => exact q1.elim
  | cons a1 b1 =>
    cases b1 with
    | nil => exact q1.elim
    | cons a2 b2 =>
      cases b2 with
      | nil => exact ⟨_, _, rfl, q1 μ1 H1 _ (List.prefix_refl _) (Ex.refl _) r1 (((l.mono p1 e1).set i a1).set j a2)⟩
      | cons _ _ => exact q1.elim
end
def spF (G : Gm) (F : Fn) (n : Nat) : Sp := fun ws H Q E => ws.length = n ∧ ∃ μ h vs, HR G μ h H ∧ RVs G μ H vs ws ∧ Ps G E μ H (F vs h) (qV G Q)
structure FK (P : Program) (w : World) (K : PySem.W.Frag) (mg : Str → Option Value) (base : Heap) (k : Nat) (f : Addr) (fd : FuncData) (ps : List Str) (sp : Sp) : Prop where
  len : ∀ vs H Q E, sp vs H Q E → vs.length = ps.length
  run : ∀ (A : Around) (outer : List Env) (s : Shared) (H : Hp) (args : Args) (us : List Value) (vs : List V) (Q : VK) (E : XK), Room k A → A.guards = some [] → Env0 P w K mg base A outer s H → BindsTo s fd args (ps.zip us) → Vals vs us → sp vs H Q E →
    codeAny (model P w) A (.call (.ref f) args) (CR (L2.CX P w) outer P w H s Q E) s
theorem FK.mono {P : Program} {w : World} {K : PySem.W.Frag} {mg : Str → Option Value} {base : Heap} {j k : Nat} {f : Addr} {fd : FuncData} {ps : List Str} {sp : Sp} (F : FK P w K mg base j f fd ps sp) (h : j ≤ k) : FK P w K mg base k f fd ps sp :=
  ⟨F.len, fun A outer s H args us vs Q E hr => F.run A outer s H args us vs Q E (hr.mono h)⟩
theorem guards_make (A : Around) (C : Addr) (us : List Value) (kw : List (Str × Value)) : (A.under (.builtin "type.__call__" ⟨.ref C :: us, kw⟩)).guards = A.guards := by
  first | rfl | simp [Around.under, Code.guards, Code.isGuard, guardIds, pushGuards]
theorem fk_of {P : Program} {w : World} {K : PySem.W.Frag} {mg : Str → Option Value} {base : Heap} {k : Nat} {f : Addr} {name qual : Str} {params : Arguments} {body : List Stmt} {scope : Scope} {dV kV doc pm cdv ct oc : Value} {an od : Option Addr}
    {osl : Array (Option Value)} {N ps : List Str} {sp : Sp} (lk : K.lookup f = some ⟨oc, od, .func (PySem.W.fnOf name qual params body scope dV kV doc pm an cdv ct), osl⟩) (hcd : PySem.W.codeIn K cdv qual = true) (S : FnScope N ps scope)
    (len : ∀ vs H Q E, sp vs H Q E → vs.length = ps.length)
    (hbody : ∀ (A : Around) (outer : List Env) (s : Shared) (H : Hp) (vs : List V) (Q : VK) (E : XK), Room k (A.deeper (envOfC qual scope s.heap.objs.size f cdv)) → A.guards = some [] → sp vs H Q E →
      ∃ t, PSs (cxOf (L2.CX P w) P w K mg base N qual scope f cdv A outer s H E) body t ∧ t { nx := fun _ H' => Q .non H', rt := Q } (start N vs) H) :
    FK P w K mg base (k + 1) f (PySem.W.fnOf name qual params body scope dV kV doc pm an cdv ct) ps sp := by
  refine ⟨len, fun A outer s H args us vs Q E room gu env0 binds rel prom => ?_⟩
  have kin : K.In s.heap := env0.mod.kin.keeps fun b o e => (env0.bs b o e).1
  have nolim : s.heap.NoLimit := env0.mod.nolimit.keeps fun b o e => (env0.bs b o e).1
  have kinds : ∀ y ∈ ps.zip us, scope.names.lookup y.1 = some .local ∨ (scope.names.lookup y.1 = some .cell ∧ ((cellsFrom (s.heap.objs.size + 1) scope.names []).lookup y.1).isSome = true) := by
    rintro ⟨n, v⟩ hy
    exact (S.par n (List.of_mem_zip hy).1).imp id fun q => ⟨q, PySem.W.cellsFrom_some _ _ _ (.inl q)⟩
  refine codeAny_call_function room.depth (kin _ _ lk) rfl S.co S.gen rfl (PySem.W.codeRec_of kin hcd) (binds _ _ _ _ ?_)
  refine wpAny_newFunctionEnv_cells S.kind kinds fun env he s1 x => ?_
  subst he
  refine ⟨nolim.keeps x.toInCall.keep, codeAny_func ?_⟩
  obtain ⟨t, ht, hq⟩ := hbody A outer s H vs Q E (room.deeper _) gu prom
  have inv : Inv (cxOf (L2.CX P w) P w K mg base N qual scope f cdv A outer s H E) [] (start N vs) H s1 := inv_start S room.hd env0 (len _ _ _ _ prom) rel x
  refine wpAny_mono (ht.run [] s1 (start N vs) H _ inv hq) (fun fl s' ends => ?_) fun e s' hs => hs
  have done : ∀ {σ' : St} {H' : Hp} {v : V} {u : Value}, Inv (cxOf (L2.CX P w) P w K mg base N qual scope f cdv A outer s H E) [] σ' H' s' → RelV v u → Q v H' → L2.CE outer P w H s Q u s' := fun J rv q => ⟨_, _, J.os, J.bare, J.base, J.hok, rv, q⟩
  cases fl with
  | ret u => obtain ⟨v, σ', H', J, rv, q⟩ := ends; exact done J rv q
  | next => obtain ⟨σ', H', J, q⟩ := ends; exact done (v := V.non) (u := Value.none) J rfl q
  | brk => obtain ⟨_, _, _, q⟩ := ends; exact q.elim
  | cont => obtain ⟨_, _, _, q⟩ := ends; exact q.elim
def mkFn (n : Nat) (body : MS) : Fn := fun vs h => match body (vs.map some ++ List.replicate (n - vs.length) none) h with
  | .nx _ h' => .ok .non h'
  | .rt v h' => .ok v h'
  | .rs x _ h' => .rs x h'
  | _ => .no
theorem lr_start {G : Gm} {μ : List Addr} {H : Hp} : ∀ {vs : List Val} {ws : List V} (n : Nat), RVs G μ H vs ws → LR G μ H (vs.map some ++ List.replicate n none) (ws.map some ++ List.replicate n none) := fun {vs ws} n r => by
  refine ⟨by simp [r.length], fun i v e => ?_⟩
  by_cases hi : i < vs.length
  · rw [List.getElem?_append_left (by simpa using hi), List.getElem?_map] at e
    cases q : vs[i]? with
    | none => rw [q] at e; cases e
    | some v' =>
      rw [q] at e
      have : v' = v := by simpa using e
      subst this
      obtain ⟨w, q1, q2⟩ := r.get q
      exact ⟨w, by rw [List.getElem?_append_left (by rw [List.length_map, ← r.length]; exact hi), List.getElem?_map, q1]; rfl, q2⟩
  · rw [List.getElem?_append_right (by simpa using hi)] at e
    rw [List.getElem?_replicate] at e
    split at e
    · cases e
    · cases e
abbrev wOf (E : XK) : WX := fun cls d _ H => E cls d H
abbrev bx (P : Program) (w : World) (K : PySem.W.Frag) (mg : Str → Option Value) (base : Heap) (N : List Str) (qual : Str) (st : Stmt) (f : Addr) (cdv : Value) (A : Around) (outer : List Env) (s : Shared) (H : Hp) (E : XK) : Cx :=
  cxOf (L2.CX P w) P w K mg base N qual (defScope st) f cdv A outer s H E
def Bd (P : Program) (w : World) (K : PySem.W.Frag) (mg : Str → Option Value) (base : Heap) (N : List Str) (qual : Str) (st : Stmt) (k : Nat) (body : MS) : Prop :=
  ∀ (f : Addr) (cdv : Value) (A : Around) (outer : List Env) (s : Shared) (H : Hp) (E : XK), Cok (bx P w K mg base N qual st f cdv A outer s H E) (wOf E) k → CB (bx P w K mg base N qual st f cdv A outer s H E) (wOf E) (defBody st) body
theorem fk_fn {P : Program} {w : World} {K : PySem.W.Frag} {mg : Str → Option Value} {base : Heap} {k : Nat} {f : Addr} {x qual : Str} {st : Stmt} {fd : FuncData} {N ps : List Str} {body : MS} (F : Fun K x qual st f fd) (S : FnScope N ps (defScope st)) {n : Nat} (hn : ps.length = n)
    (hbody : Bd P w K mg base N qual st k body) : FK P w K mg base (k + 1) f fd ps (spF ⟨K, mg, w⟩ (mkFn N.length body) n) := by
  obtain ⟨oc, od, kV, doc, pm, an, cdv, ct, osl, rfl, lk, hcd⟩ := F.ex
  refine fk_of lk hcd S (fun vs H Q E h => h.1.trans hn.symm) fun A outer s H vs Q E hr gu h => ?_
  obtain ⟨hl, μ, hh, us, r, rv, p⟩ := h
  refine ⟨_, hbody f cdv A outer s H E ⟨takes_of rfl rfl rfl rfl, hr, gu, PassesOwn.leaving, rfl, S.nd⟩, ?_⟩
  have e : us.length = vs.length := rv.length
  have hs : start N vs = vs.map some ++ List.replicate (N.length - us.length) none := by rw [e]; rfl
  refine ⟨μ, us.map some ++ List.replicate (N.length - us.length) none, hh, by rw [hs]; exact lr_start _ rv, r, ?_⟩
  unfold mkFn at p
  cases q : body (us.map some ++ List.replicate (N.length - us.length) none) hh with
  | nx σ h' => rw [q] at p; exact fun μ2 H2 t p2 e2 r2 l2 => p μ2 H2 p2 e2 r2 .non .non
  | rt v h' => rw [q] at p; exact fun μ2 H2 w2 p2 e2 r2 rv2 => p μ2 H2 p2 e2 r2 w2 rv2
  | bk σ h' => rw [q] at p; exact p.elim
  | ct σ h' => rw [q] at p; exact p.elim
  | rs x σ h' => rw [q] at p; exact fun μ2 H2 t c d p2 e2 r2 l2 rx => p μ2 H2 c d p2 e2 r2 rx
  | no => rw [q] at p; exact p.elim
section
variable {X : Cx} {W : WX} {j k : Nat} {f C : Addr} {fd : FuncData} {ps ks : List Str} {sp : Sp} {x m : Str} {p pos apos : Pos} {e o : Expr} {es : List Expr} {F : Fn} {n : Nat} {ma : ME} {mm mk : MA}
theorem run_fk {pins : List (Addr × Obj)} {τ : St} {H : Hp} {s : Shared} {Q : VK} {ws : List Value} {vs : List V} {args : Args} (c : Cok X W k) (T : FK X.prog X.w X.K X.mg X.base k f fd ps sp) (hb : BindsTo s fd args (ps.zip ws))
    (I : Inv X pins τ H s) (r : Vals vs ws) (h : sp vs H Q (WE W τ)) : codeAny (model X.prog X.w) X.A (.call (.ref f) args) (fun r s' => match r with
      | .error e => X.xe e s'
      | .ok (.ret u) => EP X pins τ Q u s'
      | .ok _ => False) s := by
  refine codeAny_mono (T.run X.A X.stack s H args ws vs Q (WE W τ) c.rm c.gu I.env0 hb r h) fun r s' hq => ?_
  cases r with
  | error e => exact passAt c.tk τ pins H s e s' I hq
  | ok fl =>
    cases fl with
    | ret u => exact I.after hq
    | next => exact hq.elim
    | brk => exact hq.elim
    | cont => exact hq.elim
structure FnAt (P : Program) (w : World) (K : PySem.W.Frag) (mg : Str → Option Value) (base : Heap) (x : Str) (k n : Nat) (F : Fn) : Prop where
  ex : ∃ f fd ps, mg x = some (.ref f) ∧ PySem.W.keepIn K (.ref f) = true ∧ Binds K fd ps [] ∧ FK P w K mg base k f fd ps (spF ⟨K, mg, w⟩ F n)
theorem spF_of {G : Gm} {μ : List Addr} {h : Hh} {H : Hp} {vs : List Val} {ws : List V} {Q : VK} {E : XK} (r : HR G μ h H) (rv : RVs G μ H vs ws) (hl : vs.length = n) (p : Ps G E μ H (F vs h) (qV G Q)) : spF G F n ws H Q E :=
  ⟨by rw [← rv.length]; exact hl, μ, h, vs, r, rv, p⟩
def callF (n : Nat) (F : Fn) : Fn := fun vs h => if vs.length = n then F vs h else .no
theorem run_call {pins : List (Addr × Obj)} {τ : St} {H : Hp} {s : Shared} {Q : VK} {us : List Value} {vs : List V} (c : Cok X W k) (T : FK X.prog X.w X.K X.mg X.base k f fd ps sp) (hb : Binds X.K fd ps [])
    (I : Inv X pins τ H s) (r : Vals vs us) (h : sp vs H Q (WE W τ)) : wpAny (model X.prog X.w) X.A (call (.ref f) us) (EP X pins τ Q) X.xe s := by
  have hl : us.length = ps.length := by rw [← r.length]; exact T.len _ _ _ _ h
  have b := hb s us I.kIn (by rw [List.append_nil]; exact hl)
  rw [List.append_nil] at b
  refine wpAny_call (codeAny_mono (run_fk c T b I r h) fun r s' hq => ?_)
  cases r with
  | error e => exact hq
  | ok fl => cases fl <;> exact hq
theorem s_call (c : Cok X W k) (T : FnAt X.prog X.w X.K X.mg X.base x j n F) (hj : j ≤ k) (ha : CA X W (e :: es) mm) (hg : Gl X x := by rfl) (hdb : (x == ("__debug__" : Str)) = false := by decide)
    (he : starEach (e :: es) X.env = (false, eval e X.env) :: starEach es X.env := by rfl) (hpl : (backTo pos (starEach es X.env)).any (·.1) = false := by rfl) : CE X W (.Call (.Name x p) (e :: es) [] pos) (mApp (callF n F) mm) := by
  obtain ⟨f, fd, ps, hm, kp, hb, T⟩ := T.ex
  refine ⟨fun pins s τ H Q I h => ?_⟩
  refine wpAny_Call_Name_kw (ld_glob I hg hm ?_ hdb)
  obtain ⟨μ, σ, hh, l, r, pp⟩ := h
  refine PySem.W.callWith_K (h₀ := X.base) I.ok.mod.kin kp (thn (ha.run pos pins s τ H (fun ws H' => spF (gm X) F n ws H' Q (WE W τ)) I ⟨μ, σ, hh, l, r, ?_⟩) fun us s1 ⟨vs, H1, I1, rr, q⟩ => ⟨I1.kIn, run_call (c.mono hj) T hb I1 rr q⟩) he hpl
  refine (Ps.bind pp).imp fun vs μ1 h1 H1 p1 e1 r1 q1 ws rws => ?_
  unfold callF at q1
  split at q1
  · rename_i hl; exact spF_of r1 rws hl q1
  · exact q1.elim
end
end U
namespace U
open PySem L2
open Classical
structure Itb where
  items : List Val
  src : Hh → Prop
  lk : Option Nat
abbrev MI := Loc → Hh → Res Itb
def ItOk (G : Gm) (μ : List Addr) (H : Hp) (J : It) (it : Itb) : Prop := ∀ μ2 h2 H2, μ <+: μ2 → Ex H H2 → HR G μ2 h2 H2 → it.src h2 →
  (∀ i v, it.items[i]? = some v → J.go i H2 ∧ ∀ x H3, J.yld i H2 x H3 → Ex H2 H3 ∧ HR G μ2 h2 H3 ∧ RV G μ2 H3 v x) ∧ ∀ i, it.items.length ≤ i → J.stop i H2
def LkOk (H0 Hb : Hp) (μ : List Addr) (it : Itb) : Prop := ∀ n a, it.lk = some n → μ[n]? = some a → ∀ o' u', H0 a ≠ some (.frz o' u') ∧ Hb a ≠ some (.frz o' u')
def tMI (H0 : Hp) (G : Gm) (W : WX) (m : MI) : TI := fun τ H R => ∃ μ σ h, LR G μ H σ τ ∧ HR G μ h H ∧ Ps G (WE W τ) μ H (m σ h) (fun it μ' h' H' => ∀ J, ItOk G μ' H' J it → LkOk H0 H μ' it → R J H')
abbrev CI (X : Cx) (W : WX) (tg iter : Expr) (m : MI) : Prop := PI X tg iter (tMI X.H_0 (gm X) W m)
theorem piI {X : Cx} {tg e : Expr} {t t' : TI} (h : PI X tg e t) (k : ∀ τ H R, t' τ H R → t τ H R) : PI X tg e t' := ⟨fun pins s σ H Q I q => h.run pins s σ H Q I (k _ _ _ q)⟩
def tLk (H0 : Hp) (t : TE) : TE := fun σ H Q => t σ H fun x H1 => Q x H1 ∨ ∃ d u, x = .ref d ∧ H1 d = some u ∧ Mut (some u) ∧ ∀ od, (∀ o' u', H0 d ≠ some (.frz o' u')) → Q x (upd H1 d (.frz od u))
theorem pe_lk {X : Cx} {e : Expr} {t : TE} (h : PE X e t) : PE X e (tLk X.H_0 t) := by
  refine ⟨fun pins s σ H Q I q => thn (h.run pins s σ H _ I q) fun v s1 ⟨x, H1, I1, r, q1⟩ => ?_⟩
  rcases q1 with q1 | ⟨d, u, ex, hd, mu, q1⟩
  · exact ⟨x, H1, I1, r, q1⟩
  · obtain ⟨od, I2⟩ := I1.lock hd mu
    exact ⟨x, _, I2, r, q1 od (I1.nofrz hd mu)⟩
def unl (H0 : Hp) (P : Hp → Prop) (H : Hp) : Prop := P H ∨ ∃ d od u, H d = some (.frz od u) ∧ (∀ o' u', H0 d ≠ some (.frz o' u')) ∧ P (upd H d u)
def unlD (H0 : Hp) (D : Ends) : Ends := ⟨fun τ => unl H0 (D.nx τ), fun v => unl H0 (D.rt v), fun τ => unl H0 (D.bk τ), fun τ => unl H0 (D.ct τ)⟩
theorem inv_unl {X : Cx} {pins : List (Addr × Obj)} {σ : St} {H : Hp} {s : Shared} {P : Hp → Prop} (I : L2.Inv X pins σ H s) (h : unl X.H_0 P H) : ∃ H', L2.Inv X pins σ H' s ∧ P H' := by
  rcases h with h | ⟨d, od, u, hd, hn, p⟩
  · exact ⟨H, I, h⟩
  · exact ⟨_, I.unlock hd hn, p⟩
theorem ps_unl {X : Cx} {st : Stmt} {t : TS} (h : PS X st t) : PS X st (fun D τ H => t (unlD X.H_0 D) τ H) := by
  refine ⟨fun pins s σ H D I hw => thn (h.run pins s σ H _ I hw) fun f s1 q => ?_⟩
  cases f with
  | next => obtain ⟨σ', H', I2, q⟩ := q; obtain ⟨H3, I3, q3⟩ := inv_unl I2 q; exact ⟨σ', H3, I3, q3⟩
  | brk => obtain ⟨σ', H', I2, q⟩ := q; obtain ⟨H3, I3, q3⟩ := inv_unl I2 q; exact ⟨σ', H3, I3, q3⟩
  | cont => obtain ⟨σ', H', I2, q⟩ := q; obtain ⟨H3, I3, q3⟩ := inv_unl I2 q; exact ⟨σ', H3, I3, q3⟩
  | ret v => obtain ⟨x, σ', H', I2, r, q⟩ := q; obtain ⟨H3, I3, q3⟩ := inv_unl I2 q; exact ⟨x, σ', H3, I3, r, q3⟩
theorem pe_unl {X : Cx} {e : Expr} {t : TE} (h : PE X e t) : PE X e (fun τ H Q => t τ H (fun v => unl X.H_0 (Q v))) := by
  refine ⟨fun pins s σ H Q I hw => thn (h.run pins s σ H _ I hw) fun v s1 ⟨x, H1, I1, r, q⟩ => ?_⟩
  obtain ⟨H3, I3, q3⟩ := inv_unl I1 q
  exact ⟨x, H3, I3, r, q3⟩
noncomputable def forV (src : Hh → Prop) (body : Val → MS) : List Val → MS
  | [], σ, h => if src h then .nx σ h else .no
  | v :: vs, σ, h => if src h then (match body v σ h with
      | .nx σ' h' => forV src body vs σ' h'
      | .ct σ' h' => forV src body vs σ' h'
      | .bk σ' h' => .nx σ' h'
      | .rt w h' => .rt w h'
      | .rs x σ' h' => .rs x σ' h'
      | .no => .no) else .no
def unlH (lk : Option Nat) (h : Hh) : Option Hh := match lk with
  | none => some h
  | some n => match h[n]? with
    | some (.fdc kvs) => some (h.set n (.dct kvs))
    | some (.fdn kvs) => some (h.set n (.dcn kvs))
    | _ => none
def unlF (lk : Option Nat) (r : Fl) : Fl := match lk with
  | none => r
  | some n => match r with
    | .nx σ h => (match unlH (some n) h with | some h' => .nx σ h' | none => .no)
    | .rt v h => (match unlH (some n) h with | some h' => .rt v h' | none => .no)
    | _ => .no
noncomputable def msFor (it : MI) (g : MG) (b : MS) : MS := fun σ h => (it σ h).fl σ fun it h1 => unlF it.lk (forV it.src (fun v σ h => (g v σ h).next b) it.items σ h1)
theorem unlH_ok {G : Gm} {μ : List Addr} {h h' : Hh} {H Hb H0 : Hp} {n : Nat} (r : HR G μ h H) (ex : Ex Hb H) (e : unlH (some n) h = some h') (lk : ∀ a, μ[n]? = some a → ∀ o' u', H0 a ≠ some (.frz o' u') ∧ Hb a ≠ some (.frz o' u')) {P : Hp → Prop} (k : ∀ H', Ex Hb H' → Et H H' → HR G μ h' H' → P H') : unl H0 P H := by
  unfold unlH at e
  dsimp only at e
  cases q : h[n]? with
  | none => rw [q] at e; cases e
  | some o =>
    rw [q] at e
    obtain ⟨a, ha, ro⟩ := r.addr q
    cases o with
    | fdc kvs =>
      cases e
      obtain ⟨o, kws, h1, h2⟩ := ro
      have et : Et H (upd H a (.dK kws)) := Et.put h1 fun _ z => nomatch z
      refine .inr ⟨a, o, .dK kws, h1, fun o' u' => (lk a ha o' u').1, k _ ⟨fun b ws z => et b ws (ex.et b ws z), fun b x y z => ?_⟩ et (r.put ha h1 (fun _ z => nomatch z) ⟨kws, upd_same, h2.mono (List.prefix_refl _) et⟩)⟩
      rw [upd_ne (fun w => (lk a ha x y).2 (by rw [← w]; exact z))]
      exact ex.fz b x y z
    | fdn kvs =>
      cases e
      obtain ⟨o, kws, h1, h2⟩ := ro
      have et : Et H (upd H a (NDo G.w a kws)) := Et.put h1 fun _ z => nomatch z
      refine .inr ⟨a, o, NDo G.w a kws, h1, fun o' u' => (lk a ha o' u').1, k _ ⟨fun b ws z => et b ws (ex.et b ws z), fun b x y z => ?_⟩ et (r.put ha h1 (fun _ z => nomatch z) ⟨kws, upd_same, h2.mono (List.prefix_refl _) et⟩)⟩
      rw [upd_ne (fun w => (lk a ha x y).2 (by rw [← w]; exact z))]
      exact ex.fz b x y z
    | _ => cases e
theorem unlF_ps {G : Gm} {W : WX} {μ μ1 : List Addr} {H1 Hb H0 : Hp} {it : Itb} {r : Fl} {D : Ends} (p1 : μ <+: μ1) (e1 : Ex Hb H1) (lk : LkOk H0 Hb μ1 it) (hn : ∀ n, it.lk = some n → n < μ1.length) (p : PsF G W μ Hb (unlF it.lk r) D) : PsF G W μ1 H1 r (unlD H0 D) := by
  cases e : it.lk with
  | none =>
    rw [e] at p
    cases r with
    | nx σ h => exact fun μ2 H2 t p2 e2 r2 l2 => .inl (p μ2 H2 t (p1.trans p2) (e1.trans e2) r2 l2)
    | rt σ h => exact fun μ2 H2 t p2 e2 r2 l2 => .inl (p μ2 H2 t (p1.trans p2) (e1.trans e2) r2 l2)
    | bk σ h => exact fun μ2 H2 t p2 e2 r2 l2 => .inl (p μ2 H2 t (p1.trans p2) (e1.trans e2) r2 l2)
    | ct σ h => exact fun μ2 H2 t p2 e2 r2 l2 => .inl (p μ2 H2 t (p1.trans p2) (e1.trans e2) r2 l2)
    | rs x σ h => exact fun μ2 H2 t c d p2 e2 r2 l2 rx => p μ2 H2 t c d (p1.trans p2) (e1.trans e2) r2 l2 rx
    | no => exact p
  | some n =>
    rw [e] at p
    have lk' : ∀ {μ2 : List Addr}, μ1 <+: μ2 → ∀ a, μ2[n]? = some a → ∀ o' u', H0 a ≠ some (.frz o' u') ∧ Hb a ≠ some (.frz o' u') := fun {μ2} p2 a ha => by
      have hi := hn n e
      refine lk n a e ?_
      obtain ⟨t, rfl⟩ := p2
      rw [List.getElem?_append_left hi] at ha; exact ha
    cases r with
    | nx σ h =>
      intro μ2 H2 t p2 e2 r2 l2
      cases q : unlH (some n) h with
      | none => simp only [unlF, q] at p; exact p.elim
      | some h' =>
        simp only [unlF, q] at p
        exact unlH_ok r2 (e1.trans e2) q (lk' p2) fun H3 e3 t3 r3 => p μ2 H3 t (p1.trans p2) e3 r3 (l2.mono (List.prefix_refl _) t3)
    | rt v h =>
      intro μ2 H2 t p2 e2 r2 l2
      cases q : unlH (some n) h with
      | none => simp only [unlF, q] at p; exact p.elim
      | some h' =>
        simp only [unlF, q] at p
        exact unlH_ok r2 (e1.trans e2) q (lk' p2) fun H3 e3 t3 r3 => p μ2 H3 t (p1.trans p2) e3 r3 (l2.mono (List.prefix_refl _) t3)
    | bk σ h => exact p.elim
    | ct σ h => exact p.elim
    | rs x σ h => exact p.elim
    | no => exact p.elim
section
variable {X : Cx} {W : WX} {k : Nat} {tg iter : Expr} {body : List Stmt} {mi : MI} {g : MG} {mb : MS} {pos : Pos}
def LkIn (mi : MI) : Prop := ∀ σ h it h', mi σ h = .ok it h' → ∀ n, it.lk = some n → n < h'.length
theorem t_for (c : Cok X W k) (hi : CI X W tg iter mi) (li : LkIn mi) (hg : CG X tg g) (pl : Plain g) (hb : CB X W body mb) (hs : ∀ x, foldedSetIterable iter X.env x = pure x := by intro _; rfl) : CS X W (.For tg iter body [] pos) (msFor mi g mb) := by
  refine psI (ps_unl (ps_for c.po c.calm hi hg hb hs)) fun D τ H ⟨μ, σ, h, l, r, p⟩ => ⟨μ, σ, h, l, r, ?_⟩
  have lin : ∀ it h', mi σ h = .ok it h' → ∀ n, it.lk = some n → n < h'.length := li σ h
  unfold msFor at p
  cases em : mi σ h with
  | no => rw [em] at p; exact p
  | rs x h' => rw [em] at p; exact fun μ2 H2 c d p2 e2 r2 rx => p μ2 H2 τ c d p2 e2 r2 (l.mono p2 e2) rx
  | ok it h' =>
  rw [em] at p
  intro μ1 H1 p1 e1 r1 J ok lk
  have pf := unlF_ps (W := W) (H1 := H1) (r := forV it.src (fun v σ h => (g v σ h).next mb) it.items σ h') (D := D) p1 e1 lk (fun n hn => by rw [r1.len]; exact lin it h' em n hn) p
  refine ⟨fun i m τ' H' => m + i = it.items.length ∧ ∃ μ' σ' hh, μ1 <+: μ' ∧ Ex H1 H' ∧ LR (gm X) μ' H' σ' τ' ∧ HR (gm X) μ' hh H' ∧ PsF (gm X) W μ' H' (forV it.src (fun v σ h => (g v σ h).next mb) (it.items.drop i) σ' hh) (unlD X.H_0 D),
    ⟨it.items.length, rfl, μ1, σ, h', List.prefix_refl _, Ex.refl _, l.mono p1 e1, r1, pf⟩, ?_⟩
  rintro i m τ' H' ⟨hm, μ', σ', hh, p2, e2, l2, r2, q2⟩
  cases ed : it.items.drop i with
  | nil =>
    rw [ed] at q2
    have hl : it.items.length ≤ i := by
      have := congrArg List.length ed
      rw [List.length_drop] at this
      simpa using Nat.le_of_sub_eq_zero this
    unfold forV at q2
    split at q2
    · rename_i hsrc
      exact .inl ⟨(ok μ' hh H' p2 e2 r2 hsrc).2 i hl, q2.atN l2 r2⟩
    · exact q2.elim
  | cons v vs =>
    rw [ed] at q2
    have hv : it.items[i]? = some v := by
      have : (it.items.drop i)[0]? = some v := by rw [ed]; rfl
      rw [List.getElem?_drop] at this; simpa using this
    have hr : it.items.drop (i + 1) = vs := by
      have := congrArg (List.drop 1) ed
      rw [List.drop_drop] at this
      simpa using this
    have hi' : i < it.items.length := (List.getElem?_eq_some_iff.mp hv).1
    unfold forV at q2
    split at q2
    · rename_i hsrc
      obtain ⟨go, yl⟩ := (ok μ' hh H' p2 e2 r2 hsrc).1 i v hv
      refine .inr ⟨go, fun τ3 H3 => ∃ μ3 σ3 h3, μ1 <+: μ3 ∧ Ex H1 H3 ∧ LR (gm X) μ3 H3 σ3 τ3 ∧ HR (gm X) μ3 h3 H3 ∧ PsF (gm X) W μ3 H3 (forV it.src (fun v σ h => (g v σ h).next mb) vs σ3 h3) (unlD X.H_0 D), ?_, fun x H3 y3 => ?_⟩
      · rintro τ3 H3 ⟨μ3, σ3, h3, q⟩
        refine ⟨m - 1, by omega, by omega, μ3, σ3, h3, ?_⟩
        rw [hr]; exact q
      · obtain ⟨e3, r3, rv3⟩ := yl x H3 y3
        refine ⟨μ', σ', hh, v, l2.mono (List.prefix_refl _) e3, r3, rv3, ?_⟩
        rcases pl v σ' hh with ⟨σ4, h4, eg⟩ | eg
        · rw [eg] at q2 ⊢
          intro μ4 H4 τ4 p4 e4 r4 l4
          refine ⟨μ4, σ4, h4, l4, r4, ?_⟩
          have q4 := PsF.mono (p4) (e3.trans e4) q2
          have pa : μ1 <+: μ4 := p2.trans p4
          have ea : Ex H1 H4 := e2.trans (e3.trans e4)
          simp only [next_nx] at q4
          cases em' : mb σ4 h4 with
          | nx σ5 h5 => rw [em'] at q4; exact fun μ5 H5 t5 p5 e5 r5 l5 => ⟨μ5, σ5, h5, pa.trans p5, ea.trans e5, l5, r5, PsF.mono p5 e5 q4⟩
          | ct σ5 h5 => rw [em'] at q4; exact fun μ5 H5 t5 p5 e5 r5 l5 => ⟨μ5, σ5, h5, pa.trans p5, ea.trans e5, l5, r5, PsF.mono p5 e5 q4⟩
          | bk σ5 h5 => rw [em'] at q4; exact q4
          | rt v5 h5 => rw [em'] at q4; exact q4
          | rs x5 σ5 h5 => rw [em'] at q4; exact q4
          | no => rw [em'] at q4; exact q4
        · rw [eg] at q2; exact q2.elim
    · exact q2.elim
end
def miVal (m : ME) : MI := fun σ h => (m σ h).bind fun v h1 => match v with
  | .tup vs => .ok ⟨vs, fun _ => True, none⟩ h1
  | .str x => .ok ⟨x.cps.toList.map fun c => .str ⟨#[c]⟩, fun _ => True, none⟩ h1
  | .ref n => match h1[n]? with
    | some (.lst vs) => .ok ⟨vs, fun h => h[n]? = some (.lst vs), none⟩ h1
    | some (.fro vs) => .ok ⟨vs, fun h => h[n]? = some (.fro vs), none⟩ h1
    | some (.dct kvs) => .ok ⟨kvs.map (·.1), fun h => h[n]? = some (.fdc kvs), some n⟩ (h1.set n (.fdc kvs))
    | some (.fdc kvs) => .ok ⟨kvs.map (·.1), fun h => h[n]? = some (.fdc kvs), none⟩ h1
    | some (.dcn kvs) => .ok ⟨kvs.map (·.1), fun h => h[n]? = some (.fdn kvs), some n⟩ (h1.set n (.fdn kvs))
    | some (.fdn kvs) => .ok ⟨kvs.map (·.1), fun h => h[n]? = some (.fdn kvs), none⟩ h1
    | _ => .no
  | _ => .no
def miRng1 (m : ME) : MI := fun σ h => (m σ h).bind fun v h1 => match v with
  | .int j => if -(2 ^ 62) ≤ j ∧ j < 2 ^ 62 then .ok ⟨(List.range j.toNat).map fun i => .int ((i : Nat) : Int), fun _ => True, none⟩ h1 else .no
  | _ => .no
theorem li_val (m : ME) : LkIn (miVal m) := fun σ h it h' e n hn => by
  unfold miVal at e
  cases em : m σ h with
  | no => rw [em] at e; cases e
  | rs x k => rw [em] at e; cases e
  | ok v h1 =>
    rw [em] at e
    cases v with
    | ref q =>
      dsimp only [bind_ok] at e
      cases eo : h1[q]? with
      | none => rw [eo] at e; cases e
      | some o =>
        rw [eo] at e
        cases o with
        | dct kvs => cases e; cases hn; rw [List.length_set]; exact (List.getElem?_eq_some_iff.mp eo).1
        | lst vs => cases e; cases hn
        | fro vs => cases e; cases hn
        | fdc vs => cases e; cases hn
        | dcn kvs => cases e; cases hn; rw [List.length_set]; exact (List.getElem?_eq_some_iff.mp eo).1
        | fdn vs => cases e; cases hn
        | ins C fs => cases e
        | exc _ _ => cases e
        | xdo _ _ => cases e
    | tup vs => cases e; cases hn
    | str vs => cases e; cases hn
    | _ => cases e
theorem li_rng1 (m : ME) : LkIn (miRng1 m) := fun σ h it h' e n hn => by
  unfold miRng1 at e
  cases em : m σ h with
  | no => rw [em] at e; cases e
  | rs x k => rw [em] at e; cases e
  | ok v h1 =>
    rw [em] at e
    cases v with
    | int j =>
      dsimp only [bind_ok] at e
      split at e
      · cases e; cases hn
      · cases e
    | _ => cases e
section
variable {X : Cx} {W : WX} {k : Nat} {tg e e2 : Expr} {m m' : ME} {p pos : Pos}
theorem keys_get {G : Gm} {μ : List Addr} {H : Hp} : ∀ {kvs : List (Val × Val)} {kws : List (Key × V)} {i : Nat} {v : Val}, RKs G μ H kvs kws → (kvs.map (·.1))[i]? = some v → ∃ kk w u, kws[i]? = some (kk, w) ∧ kvs[i]? = some (v, u) ∧ keyOf v = some kk ∧ RV G μ H u w
  | _, _, _, _, .nil, e => by simp at e
  | _, _, 0, _, .cons q r t, e => by simp at e; subst e; exact ⟨_, _, _, rfl, rfl, q, r⟩
  | _, _, i + 1, v, .cons q r t, e => by
    obtain ⟨kk, w, u, h1, h2, h3, h4⟩ := keys_get (i := i) (v := v) t (by simpa using e)
    exact ⟨kk, w, u, by simpa using h1, by simpa using h2, h3, h4⟩
theorem rv_key {G : Gm} {μ : List Addr} {H : Hp} {v : Val} {kk : Key} (e : keyOf v = some kk) : RV G μ H v (kV kk) := by
  cases v with
  | int i => cases e; exact .int i
  | str x => cases e; exact .str x
  | _ => cases e
theorem keys_it {G : Gm} {μ : List Addr} {H : Hp} {a : Addr} {od : Obj} {lk : Option Nat} {kvs : List (Val × Val)} {kws : List (Key × V)} (rk : RKs G μ H kvs kws) (ha : H a = some (.frz od (.dK kws))) {src : Hh → Prop} : ItOk G μ H (Itk a od kws) ⟨kvs.map (·.1), src, lk⟩ := fun μ2 h2 H2 p2 e2 r2 _ => by
  have g1 := e2.fz _ _ _ ha
  refine ⟨fun i v hv => ?_, fun i hi => ⟨g1, by rw [← rk.length]; simpa using hi⟩⟩
  obtain ⟨kk, w, u, q1, q2, q3, q4⟩ := keys_get rk hv
  refine ⟨⟨g1, (List.getElem?_eq_some_iff.mp q1).1⟩, fun x H3 y3 => ?_⟩
  obtain ⟨rfl, k', v', hk, rfl⟩ := y3
  rw [q1] at hk; cases hk
  exact ⟨Ex.refl _, r2, rv_key q3⟩
theorem keysN_get {G : Gm} {μ : List Addr} {H : Hp} : ∀ {kvs : List (Val × Val)} {xs : List (NestedKey × Addr × Value)} {i : Nat} {v : Val}, RNs G μ H kvs xs → (kvs.map (·.1))[i]? = some v → ∃ p, xs[i]? = some p ∧ RV G μ H v (.ref p.2.1)
  | _, _, _, _, .nil, e => by simp at e
  | _, _, 0, _, .cons q r _ _ t, e => by simp at e; subst e; exact ⟨_, rfl, r⟩
  | _, _, i + 1, v, .cons q r _ _ t, e => by
    obtain ⟨p, h1, h2⟩ := keysN_get (i := i) (v := v) t (by simpa using e)
    exact ⟨p, by simpa using h1, h2⟩
theorem keysN_it {G : Gm} {μ : List Addr} {H : Hp} {a : Addr} {od : Obj} {lk : Option Nat} {kvs : List (Val × Val)} {xs : List (NestedKey × Addr × Value)} (rk : RNs G μ H kvs xs) (ha : H a = some (.frz od (NDo G.w a xs))) {src : Hh → Prop} : ItOk G μ H (Itn G.w a od xs) ⟨kvs.map (·.1), src, lk⟩ := fun μ2 h2 H2 p2 e2 r2 _ => by
  have g1 := e2.fz _ _ _ ha
  refine ⟨fun i v hv => ?_, fun i hi => ⟨g1, by rw [← rk.length]; simpa using hi⟩⟩
  obtain ⟨p, q1, q2⟩ := keysN_get rk hv
  refine ⟨⟨g1, (List.getElem?_eq_some_iff.mp q1).1⟩, fun x H3 y3 => ?_⟩
  obtain ⟨rfl, p', hp, rfl⟩ := y3
  rw [q1] at hp; cases hp
  exact ⟨Ex.refl _, r2, q2.mono p2 e2.et⟩
theorem i_val (he : CE X W e m) : CI X W tg e (miVal m) := by
  refine ⟨fun pins s τ H R I h => ?_⟩
  obtain ⟨μ, σ, hh, l, r, q⟩ := h
  unfold miVal at q
  cases em : m σ hh with
  | no => rw [em] at q; exact q.elim
  | rs x h1 =>
    refine (pi_list (tg := tg) he).run pins s τ H R I ⟨μ, σ, hh, l, r, ?_⟩
    rw [em] at q ⊢; exact q
  | ok v h1 =>
    rw [em] at q
    dsimp only [bind_ok] at q
    cases v with
    | tup vs =>
      refine (pi_tup (tg := tg) he).run pins s τ H R I ⟨μ, σ, hh, l, r, ?_⟩
      rw [em]
      intro μ1 H1 p1 e1 r1 w1 rw1
      cases rw1 with
      | @tup _ ws a ta rs =>
        refine ⟨a, rfl, ⟨ws, ta.sq⟩, q μ1 H1 p1 e1 r1 _ (fun μ2 h2 H2 p2 e2 r2 _ => ⟨fun i v hv => ?_, fun i hi => ?_⟩) fun n a hn => by cases hn⟩
        · obtain ⟨w, hw, rvw⟩ := rs.get hv
          refine ⟨⟨ws, w, (ta.mono e2).sq, hw⟩, fun x H3 y3 => ?_⟩
          obtain ⟨rfl, hy⟩ := y3
          have hx := hy ws (ta.mono e2).sq
          rw [hw] at hx; cases hx
          exact ⟨Ex.refl _, r2, rvw.mono p2 e2⟩
        · exact ⟨ws, (ta.mono e2).sq, by rw [← rs.length]; exact hi⟩
    | str x =>
      refine (pi_str (tg := tg) he).run pins s τ H R I ⟨μ, σ, hh, l, r, ?_⟩
      rw [em]
      intro μ1 H1 p1 e1 r1 w1 rw1
      cases rw1
      refine ⟨x, rfl, q μ1 H1 p1 e1 r1 _ (fun μ2 h2 H2 p2 e2 r2 _ => ⟨fun i v hv => ?_, fun i hi => ?_⟩) fun n a hn => by cases hn⟩
      · rw [List.getElem?_map] at hv
        cases ec : x.cps.toList[i]? with
        | none => rw [ec] at hv; cases hv
        | some cc =>
          rw [ec] at hv
          cases hv
          have hlt : i < x.cps.size := by
            have := (List.getElem?_eq_some_iff.mp ec).1
            simpa using this
          refine ⟨hlt, fun y H3 y3 => ?_⟩
          obtain ⟨rfl, c', hc', rfl⟩ := y3
          have : c' = cc := by
            rw [Array.getElem?_toList] at ec
            rw [ec] at hc'; cases hc'; rfl
          subst this
          exact ⟨Ex.refl _, r2, .str _⟩
      · show x.cps.size ≤ i
        simpa using hi
    | ref n =>
      dsimp only at q
      cases eo : h1[n]? with
      | none => rw [eo] at q; exact q.elim
      | some o =>
        rw [eo] at q
        cases o with
        | lst vs =>
          refine (pi_list (tg := tg) he).run pins s τ H R I ⟨μ, σ, hh, l, r, ?_⟩
          rw [em]
          intro μ1 H1 p1 e1 r1 w1 rw1
          cases rw1 with
          | @ref _ a ha =>
            obtain ⟨ws, h1', h2'⟩ := r1.ob n _ a eo ha
            refine ⟨a, rfl, ⟨ws, .inl (.inl h1')⟩, q μ1 H1 p1 e1 r1 _ (fun μ2 h2 H2 p2 e2 r2 hsrc => ?_) fun n a hn => by cases hn⟩
            obtain ⟨ws2, g1, g2⟩ := r2.ob n _ a hsrc (pre_get p2 ha)
            refine ⟨fun i v hv => ?_, fun i hi => ⟨ws2, .inl (.inl g1), by rw [← g2.length]; exact hi⟩⟩
            obtain ⟨w, hw, rvw⟩ := g2.get hv
            refine ⟨⟨ws2, w, .inl (.inl g1), hw⟩, fun x H3 y3 => ?_⟩
            obtain ⟨rfl, hy⟩ := y3
            have hx := hy ws2 (.inl (.inl g1))
            rw [hw] at hx; cases hx
            exact ⟨Ex.refl _, r2, rvw⟩
        | fro vs =>
          refine (pi_list (tg := tg) he).run pins s τ H R I ⟨μ, σ, hh, l, r, ?_⟩
          rw [em]
          intro μ1 H1 p1 e1 r1 w1 rw1
          cases rw1 with
          | @ref _ a ha =>
            obtain ⟨ob, ws, h1', h2'⟩ := r1.ob n _ a eo ha
            refine ⟨a, rfl, ⟨ws, .inl (.inr ⟨ob, h1'⟩)⟩, q μ1 H1 p1 e1 r1 _ (fun μ2 h2 H2 p2 e2 r2 hsrc => ?_) fun n a hn => by cases hn⟩
            obtain ⟨ob2, ws2, g1, g2⟩ := r2.ob n _ a hsrc (pre_get p2 ha)
            refine ⟨fun i v hv => ?_, fun i hi => ⟨ws2, .inl (.inr ⟨ob2, g1⟩), by rw [← g2.length]; exact hi⟩⟩
            obtain ⟨w, hw, rvw⟩ := g2.get hv
            refine ⟨⟨ws2, w, .inl (.inr ⟨ob2, g1⟩), hw⟩, fun x H3 y3 => ?_⟩
            obtain ⟨rfl, hy⟩ := y3
            have hx := hy ws2 (.inl (.inr ⟨ob2, g1⟩))
            rw [hw] at hx; cases hx
            exact ⟨Ex.refl _, r2, rvw⟩
        | dct kvs =>
          refine (pi_keys (tg := tg) (pe_lk he)).run pins s τ H R I ⟨μ, σ, hh, l, r, ?_⟩
          rw [em]
          intro μ1 H1 p1 e1 r1 w1 rw1
          cases rw1 with
          | @ref _ a ha =>
            obtain ⟨kws, h1', h2'⟩ := r1.ob n _ a eo ha
            refine .inr ⟨a, .dK kws, rfl, h1', trivial, fun od hnf => ⟨a, od, rfl, .inl ⟨kws, upd_same, ?_⟩⟩⟩
            have ex : Ex H1 (upd H1 a (.frz od (.dK kws))) := Ex.put h1' (fun _ z => nomatch z) fun _ _ z => nomatch z
            have rr : HR (gm X) μ1 (h1.set n (.fdc kvs)) (upd H1 a (.frz od (.dK kws))) := r1.put ha h1' (fun _ z => nomatch z) ⟨od, kws, upd_same, h2'.mono (List.prefix_refl _) ex⟩
            refine q μ1 _ p1 (e1.trans ex) rr _ (keys_it (h2'.mono (List.prefix_refl _) ex) upd_same) fun n' a' hn' ha' o' u' => ?_
            cases hn'
            rw [ha] at ha'; cases ha'
            exact ⟨hnf o' u', fun z => by have := e1.fz _ _ _ z; rw [h1'] at this; cases this⟩
        | fdc kvs =>
          refine (pi_keys (tg := tg) (pe_lk he)).run pins s τ H R I ⟨μ, σ, hh, l, r, ?_⟩
          rw [em]
          intro μ1 H1 p1 e1 r1 w1 rw1
          cases rw1 with
          | @ref _ a ha =>
            obtain ⟨od, kws, h1', h2'⟩ := r1.ob n _ a eo ha
            exact .inl ⟨a, od, rfl, .inl ⟨kws, h1', q μ1 H1 p1 e1 r1 _ (keys_it h2' h1') fun n' a' hn' => by cases hn'⟩⟩
        | dcn kvs =>
          refine (pi_keysN (tg := tg) (pe_lk he)).run pins s τ H R I ⟨μ, σ, hh, l, r, ?_⟩
          rw [em]
          intro μ1 H1 p1 e1 r1 w1 rw1
          cases rw1 with
          | @ref _ a ha =>
            obtain ⟨kws, h1', h2'⟩ := r1.ob n _ a eo ha
            refine .inr ⟨a, NDo X.w a kws, rfl, h1', trivial, fun od hnf => ⟨a, od, kws, rfl, upd_same, ?_⟩⟩
            have ex : Ex H1 (upd H1 a (.frz od (NDo X.w a kws))) := Ex.put h1' (fun _ z => nomatch z) fun _ _ z => nomatch z
            have rr : HR (gm X) μ1 (h1.set n (.fdn kvs)) (upd H1 a (.frz od (NDo X.w a kws))) := r1.put ha h1' (fun _ z => nomatch z) ⟨od, kws, upd_same, h2'.mono (List.prefix_refl _) ex⟩
            refine q μ1 _ p1 (e1.trans ex) rr _ (keysN_it (h2'.mono (List.prefix_refl _) ex) upd_same) fun n' a' hn' ha' o' u' => ?_
            cases hn'
            rw [ha] at ha'; cases ha'
            exact ⟨hnf o' u', fun z => by have := e1.fz _ _ _ z; rw [h1'] at this; cases this⟩
        | fdn kvs =>
          refine (pi_keysN (tg := tg) (pe_lk he)).run pins s τ H R I ⟨μ, σ, hh, l, r, ?_⟩
          rw [em]
          intro μ1 H1 p1 e1 r1 w1 rw1
          cases rw1 with
          | @ref _ a ha =>
            obtain ⟨od, kws, h1', h2'⟩ := r1.ob n _ a eo ha
            exact .inl ⟨a, od, kws, rfl, h1', q μ1 H1 p1 e1 r1 _ (keysN_it h2' h1') fun n' a' hn' => by cases hn'⟩
        | ins C fs => exact q.elim
        | exc _ _ => exact q.elim
        | xdo _ _ => exact q.elim
    | _ => exact q.elim
theorem rng_it {G : Gm} {μ : List Addr} {H : Hp} (lo : Int) (n : Nat) : ItOk G μ H (Itr lo n) ⟨(List.range n).map fun t => .int (lo + ((t : Nat) : Int)), fun _ => True, none⟩ := fun μ2 h2 H2 p2 e2 r2 _ => by
  refine ⟨fun i v hv => ?_, fun i hi => ?_⟩
  · rw [List.getElem?_map] at hv
    cases ec : (List.range n)[i]? with
    | none => rw [ec] at hv; cases hv
    | some t =>
      rw [ec] at hv
      obtain ⟨hlt, ht⟩ := List.getElem?_eq_some_iff.mp ec
      rw [List.getElem_range] at ht
      subst ht
      cases hv
      refine ⟨show i < n by simpa using hlt, fun x H3 y3 => ?_⟩
      obtain ⟨rfl, rfl⟩ := y3
      exact ⟨Ex.refl _, r2, .int _⟩
  · show n ≤ i
    simpa using hi
theorem i_rng1 (he : CE X W e m) (hm : X.mg "range" = none) (hg : Gl X "range" := by rfl) (hs1 : starEach [e] X.env = (false, eval e X.env) :: starEach [] X.env := by rfl) (hs2 : starEach [e] X.env = [(false, eval e X.env)] := by rfl) : CI X W tg (.Call (.Name "range" p) [e] [] pos) (miRng1 m) := by
  refine piI (pi_range1 hg hm (a_cons he a_nil hs1) hs2) fun τ H R ⟨μ, σ, hh, l, r, q⟩ => ⟨μ, σ, hh, l, r, ?_⟩
  unfold maCons maNil
  cases em : m σ hh with
  | no => unfold miRng1 at q; rw [em] at q; exact q.elim
  | rs x h1 => unfold miRng1 at q; rw [em] at q; exact q
  | ok v h1 =>
    unfold miRng1 at q
    rw [em] at q
    dsimp only [bind_ok] at q
    intro μ1 H1 p1 e1 r1 ws rws
    cases rws with
    | cons rv t =>
      cases t
      cases rv with
      | int j =>
        dsimp only at q
        split at q
        · rename_i hj
          refine ⟨j, rfl, hj.1, hj.2, q μ1 H1 p1 e1 r1 _ ?_ fun n a hn => by cases hn⟩
          have := rng_it (G := gm X) (μ := μ1) (H := H1) 0 j.toNat
          simpa using this
        · exact q.elim
      | _ => exact q.elim
end
end U
namespace U
open PySem L2
open Classical
inductive Tg where
  | one (i : Nat)
  | many (is : List Nat)
def setAll : List Nat → List Val → Loc → Loc
  | i :: is, v :: vs, σ => setAll is vs (σ.set i (some v))
  | _, _, σ => σ
def Tg.bd (t : Tg) (v : Val) (σ : Loc) : Option Loc := match t with
  | .one i => some (σ.set i (some v))
  | .many is => match v with
    | .tup vs => if vs.length = is.length then some (setAll is vs σ) else none
    | _ => none
def Tg.slots : Tg → List Nat
  | .one i => [i]
  | .many is => is
def gNs : List Nat → TGs
  | [] => gNil
  | i :: is => gCons (gName i) (gNs is)
def tgT (K : PySem.W.Frag) : Tg → TG
  | .one i => gName i
  | .many is => gTup K is.length (gNs is)
def wipeL (σ : Loc) : List Nat → Loc
  | [] => σ
  | v :: vs => (wipeL σ vs).set v none
theorem LR.clr {G : Gm} {μ : List Addr} {H : Hp} {σ : Loc} {τ : St} (l : LR G μ H σ τ) (i : Nat) : LR G μ H (σ.set i none) (τ.set i none) := by
  refine ⟨by simp [l.1], fun j v e => ?_⟩
  by_cases hj : j = i
  · subst hj
    have hl : j < σ.length := by simpa using (List.getElem?_eq_some_iff.mp e).1
    rw [List.getElem?_set_self hl] at e; cases e
  · rw [List.getElem?_set_ne (Ne.symm hj)] at e
    obtain ⟨w, q1, q2⟩ := l.2 j v e
    exact ⟨w, by rw [List.getElem?_set_ne (Ne.symm hj)]; exact q1, q2⟩
theorem LR.wipe {G : Gm} {μ : List Addr} {H : Hp} {σ : Loc} {τ : St} (l : LR G μ H σ τ) : ∀ vs : List Nat, LR G μ H (wipeL σ vs) (L2.wipe τ vs)
  | [] => l
  | v :: vs => (LR.wipe l vs).clr v
theorem wipe_aux (σ : St) (i : Nat) (x : Option V) : ∀ vs : List Nat, (L2.wipe (σ.set i x) vs).set i none = (L2.wipe σ vs).set i none
  | [] => by simp [L2.wipe]
  | v :: vs => by
    unfold L2.wipe
    by_cases h : v = i
    · subst h; rw [List.set_set, List.set_set]; exact wipe_aux σ v x vs
    · rw [List.set_comm _ _ h, wipe_aux σ i x vs, List.set_comm _ _ (Ne.symm h)]
theorem wipe_set (σ : St) (i : Nat) (x : Option V) : ∀ {vs : List Nat}, i ∈ vs → L2.wipe (σ.set i x) vs = L2.wipe σ vs
  | v :: vs, h => by
    by_cases hv : i = v
    · subst hv; unfold L2.wipe; exact wipe_aux σ i x vs
    · have hm : i ∈ vs := by simpa [hv] using h
      unfold L2.wipe; rw [wipe_set σ i x hm]
theorem wipe_idem (τ : St) (vs : List Nat) : ∀ ks : List Nat, (∀ k ∈ ks, k ∈ vs) → L2.wipe (L2.wipe τ vs) ks = L2.wipe τ vs
  | [], _ => rfl
  | k :: ks, hk => by
    show (L2.wipe (L2.wipe τ vs) ks).set k none = L2.wipe τ vs
    rw [wipe_idem τ vs ks fun j hj => hk j (List.mem_cons_of_mem _ hj)]
    have hk' : k ∈ vs := hk k List.mem_cons_self
    apply List.ext_getElem?
    intro j
    by_cases hj : j = k
    · subst hj
      by_cases hlt : j < (L2.wipe τ vs).length
      · rw [List.getElem?_set_self hlt]
        cases ev : (L2.wipe τ vs)[j]? with
        | none => rw [List.getElem?_eq_none_iff] at ev; omega
        | some o =>
          cases o with
          | none => rfl
          | some y => exact absurd hk' (wipe_some ev).2
      · rw [List.getElem?_eq_none (by simpa using hlt), List.getElem?_eq_none (by simpa using hlt)]
    · rw [List.getElem?_set_ne (Ne.symm hj)]
theorem gNs_ok {G : Gm} {μ : List Addr} {H : Hp} {Q : St → Hp → Prop} : ∀ {is : List Nat} {vs : List Val} {ws : List V} {σ : Loc} {τ : St}, LR G μ H σ τ → RVs G μ H vs ws → vs.length = is.length →
    (∀ τ', LR G μ H (setAll is vs σ) τ' → (∀ ks : List Nat, (∀ i ∈ is, i ∈ ks) → L2.wipe τ' ks = L2.wipe τ ks) → Q τ' H) → gNs is ws τ H Q
  | [], _, _, σ, τ, l, .nil, _, k => ⟨rfl, k τ l fun _ _ => rfl⟩
  | [], _, _, σ, τ, l, .cons _ _, e, k => by simp at e
  | i :: is, _, _, σ, τ, l, .nil, e, k => by simp at e
  | i :: is, _, _, σ, τ, l, .cons (v := v) (w := w) r t, e, k => ⟨w, _, rfl, gNs_ok (is := is) (l.set i r) t (by simpa using e) fun τ' l' hw => k τ' l' fun ks hk => by
      rw [hw ks fun j hj => hk j (List.mem_cons_of_mem _ hj), wipe_set τ i (some w) (hk i List.mem_cons_self)]⟩
theorem tg_ok {G : Gm} {μ : List Addr} {H : Hp} {Q : St → Hp → Prop} {t : Tg} {v : Val} {w : V} {σ σ' : Loc} {τ : St} (l : LR G μ H σ τ) (rv : RV G μ H v w) (e : t.bd v σ = some σ')
    (k : ∀ τ', LR G μ H σ' τ' → (∀ ks : List Nat, (∀ i ∈ t.slots, i ∈ ks) → L2.wipe τ' ks = L2.wipe τ ks) → Q τ' H) : tgT G.K t w τ H Q := by
  cases t with
  | one i =>
    cases e
    exact k _ (l.set i rv) fun ks hk => wipe_set τ i _ (hk i (List.mem_singleton.mpr rfl))
  | many is =>
    cases rv with
    | @tup vs ws a ta rs =>
      unfold Tg.bd at e
      dsimp only at e
      split at e
      · rename_i hl
        cases e
        exact ⟨a, ws, rfl, ta.sq, by rw [← rs.length]; exact hl, gNs_ok l rs hl k⟩
      · cases e
    | _ => cases e
def Res.nr {α : Type} (r : Res α) : Res α := match r with
  | .rs _ _ => .no
  | r => r
@[simp] theorem nr_ok {α : Type} (a : α) (h : Hh) : (Res.ok a h).nr = .ok a h := rfl
@[simp] theorem nr_no {α : Type} : (Res.no : Res α).nr = .no := rfl
@[simp] theorem nr_rs {α : Type} (x : Xc) (h : Hh) : (Res.rs x h : Res α).nr = .no := rfl
def lcB (vs : List Nat) (t : Tg) (c : MT) (e : ME) (σ : Loc) (v : Val) (h : Hh) : Res (Option Val) := match t.bd v (wipeL σ vs) with
  | none => .no
  | some σ2 => (c σ2 h).nr.bind fun b h1 => if b = true then (e σ2 h1).nr.bind fun y h2 => .ok (some y) h2 else .ok none h1
def push1 (n : Nat) (y : Val) (h : Hh) : Option Hh := match h[n]? with
  | some (.lst acc) => if acc.length < sizeLine then some (h.set n (.lst (acc ++ [y]))) else none
  | _ => none
noncomputable def lcV (src : Hh → Prop) (n : Nat) (body : Val → Hh → Res (Option Val)) : List Val → Hh → Res Unit
  | [], h => if src h then .ok () h else .no
  | v :: vs, h => if src h then (match body v h with
      | .ok none h' => lcV src n body vs h'
      | .ok (some y) h' => (match push1 n y h' with
        | some h2 => lcV src n body vs h2
        | none => .no)
      | _ => .no) else .no
noncomputable def mLc (mi : MI) (vs : List Nat) (t : Tg) (c : MT) (e : ME) : ME := fun σ h => (mi σ h).bind fun it h1 => (lcV it.src h1.length (lcB vs t c e σ) it.items (h1 ++ [.lst []])).bind fun _ h2 => match unlH it.lk h2 with
  | some h3 => .ok (.ref h1.length) h3
  | none => .no
def tTrue : MT := fun _ h => .ok true h
theorem push_ok {G : Gm} {μ : List Addr} {h h' : Hh} {H : Hp} {n : Nat} {D : Addr} {y : Val} {w : V} (r : HR G μ h H) (hD : μ[n]? = some D) (rv : RV G μ H y w) (e : push1 n y h = some h') : ∃ acc, H D = some (.lst acc) ∧ acc.length < sizeLine ∧ Ex H (upd H D (.lst (acc ++ [w]))) ∧ HR G μ h' (upd H D (.lst (acc ++ [w]))) := by
  unfold push1 at e
  cases q : h[n]? with
  | none => rw [q] at e; cases e
  | some o =>
    rw [q] at e
    have ro := r.ob n o D q hD
    cases o with
    | lst vs =>
      dsimp only at e
      split at e
      · rename_i hl
        cases e
        obtain ⟨ws, h1, h2⟩ := ro
        have ex : Ex H (upd H D (.lst (ws ++ [w]))) := Ex.put h1 (fun _ z => nomatch z) fun _ _ z => nomatch z
        exact ⟨ws, h1, by rw [← h2.length]; exact hl, ex, r.put hD h1 (fun _ z => nomatch z) ⟨_, upd_same, (h2.append (.cons rv .nil)).mono (List.prefix_refl _) ex⟩⟩
      · cases e
    | _ => cases e
theorem lcR {H0 : Hp} {G : Gm} {W : WX} {mi : MI} {vs : List Nat} {t : Tg} {c : MT} {e : ME} (li : LkIn mi) (hsl : ∀ i ∈ t.slots, i ∈ vs) {τ : St} {H : Hp} {Q : VK} (hh : tM G W (mLc mi vs t c e) τ H Q) :
    tLc (tMI H0 G W mi) (tgT G.K t) (tMT G WN c) (tM G WN e) vs τ H (fun v => unl H0 (Q v)) := by
  obtain ⟨μ, σ, h, l, r, p⟩ := hh
  refine ⟨μ, σ, h, l, r, ?_⟩
  have lin := li σ h
  unfold mLc at p
  cases em : mi σ h with
  | no => rw [em] at p; exact p
  | rs x h' => rw [em] at p; exact p
  | ok it h1 =>
  rw [em] at p
  simp only [bind_ok] at p
  cases el : lcV it.src h1.length (lcB vs t c e σ) it.items (h1 ++ [.lst []]) with
  | no => rw [el] at p; exact p.elim
  | rs x h' =>
    exfalso
    have key : ∀ (xs : List Val) (h : Hh) x h', lcV it.src h1.length (lcB vs t c e σ) xs h ≠ .rs x h' := by
      intro xs
      induction xs with
      | nil => intro h x h' z; unfold lcV at z; split at z <;> cases z
      | cons v xs ih =>
        intro h x h' z
        unfold lcV at z
        split at z
        · split at z
          · exact ih _ _ _ z
          · split at z
            · exact ih _ _ _ z
            · cases z
          · cases z
        · cases z
    exact key _ _ _ _ el
  | ok u h2 =>
  rw [el] at p
  simp only [bind_ok] at p
  intro μ1 H1 p1 e1 r1 J ok lk D hD
  have exD : Ex H1 (upd H1 D (.lst [])) := Ex.new hD
  have rD : HR G (μ1 ++ [D]) (h1 ++ [.lst []]) (upd H1 D (.lst [])) := r1.laid hD ⟨[], upd_same, .nil⟩
  have hDn : (μ1 ++ [D])[h1.length]? = some D := by rw [← r1.len]; simp
  refine ⟨fun i m H' => m + i = it.items.length ∧ ∃ μ' h', (μ1 ++ [D]) <+: μ' ∧ Ex (upd H1 D (.lst [])) H' ∧ HR G μ' h' H' ∧ lcV it.src h1.length (lcB vs t c e σ) (it.items.drop i) h' = .ok u h2,
    ⟨it.items.length, rfl, _, _, List.prefix_refl _, Ex.refl _, rD, el⟩, ?_⟩
  rintro i m H' ⟨hm, μ', h', p2, e2, r2, q2⟩
  have pa : μ1 <+: μ' := (List.prefix_append μ1 [D]).trans p2
  have ea : Ex H1 H' := exD.trans e2
  cases ed : it.items.drop i with
  | nil =>
    rw [ed] at q2
    have hl : it.items.length ≤ i := by
      have := congrArg List.length ed
      rw [List.length_drop] at this
      simpa using Nat.le_of_sub_eq_zero this
    unfold lcV at q2
    split at q2
    · rename_i hsrc
      cases q2
      refine .inl ⟨(ok μ' h2 H' pa ea r2 hsrc).2 i hl, ?_⟩
      cases ek : it.lk with
      | none =>
        rw [ek] at p
        exact .inl (p μ' H' (p1.trans pa) (e1.trans ea) r2 _ (.ref (pre_get p2 hDn)))
      | some n =>
        rw [ek] at p
        cases eu : unlH (some n) h2 with
        | none => rw [eu] at p; exact p.elim
        | some h3 =>
          rw [eu] at p
          refine unlH_ok r2 (e1.trans ea) eu (fun a ha => ?_) fun H3 e3 t3 r3 => p μ' H3 (p1.trans pa) e3 r3 _ (.ref (pre_get p2 hDn))
          refine lk n a ek ?_
          have hi : n < μ1.length := by rw [r1.len]; exact lin it h1 em n ek
          obtain ⟨t', rfl⟩ := pa
          rw [List.getElem?_append_left hi] at ha; exact ha
    · cases q2
  | cons v rest =>
    rw [ed] at q2
    have hv : it.items[i]? = some v := by
      have : (it.items.drop i)[0]? = some v := by rw [ed]; rfl
      rw [List.getElem?_drop] at this; simpa using this
    have hr : it.items.drop (i + 1) = rest := by
      have := congrArg (List.drop 1) ed
      rw [List.drop_drop] at this
      simpa using this
    have hi' : i < it.items.length := (List.getElem?_eq_some_iff.mp hv).1
    unfold lcV at q2
    split at q2
    · rename_i hsrc
      obtain ⟨go, yl⟩ := (ok μ' h' H' pa ea r2 hsrc).1 i v hv
      refine .inr ⟨go, fun H3 => ∃ μ3 h3, (μ1 ++ [D]) <+: μ3 ∧ Ex (upd H1 D (.lst [])) H3 ∧ HR G μ3 h3 H3 ∧ lcV it.src h1.length (lcB vs t c e σ) rest h3 = .ok u h2, ?_, fun x H3 y3 => ?_⟩
      · rintro H3 ⟨μ3, h3, q⟩
        refine ⟨m - 1, by omega, by omega, μ3, h3, ?_⟩
        rw [hr]; exact q
      · obtain ⟨e3, r3, rv3⟩ := yl x H3 y3
        have lw : LR G μ' H3 (wipeL σ vs) (L2.wipe τ vs) := ((l.mono p1 e1).mono pa (ea.trans e3).et).wipe vs
        cases eb : t.bd v (wipeL σ vs) with
        | none => simp only [lcB, eb] at q2; cases q2
        | some σ2 =>
          simp only [lcB, eb] at q2
          refine tg_ok lw rv3 eb fun τ2 l2 hw => ⟨?_, μ', σ2, h', l2, r3, ?_⟩
          · rw [hw vs hsl]
            exact wipe_idem τ vs vs fun _ h => h
          · cases ec : c σ2 h' with
            | no => rw [ec] at q2; cases q2
            | rs x hx => rw [ec] at q2; cases q2
            | ok b h3 =>
              rw [ec] at q2
              simp only [nr_ok, bind_ok] at q2
              intro μ3 H4 p4 e4 r4
              cases b with
              | false =>
                refine iteF ?_
                simp only [Bool.false_eq_true, if_false] at q2
                exact ⟨μ3, h3, p2.trans p4, e2.trans (e3.trans e4), r4, q2⟩
              | true =>
                refine iteT ⟨μ3, σ2, h3, l2.mono p4 e4, r4, ?_⟩
                simp only [if_true] at q2
                cases ee : e σ2 h3 with
                | no => rw [ee] at q2; cases q2
                | rs x hx => rw [ee] at q2; cases q2
                | ok y h4 =>
                  rw [ee] at q2
                  simp only [nr_ok, bind_ok] at q2
                  intro μ5 H5 p5 e5 r5 w5 rw5
                  cases epu : push1 h1.length y h4 with
                  | none => rw [epu] at q2; cases q2
                  | some h5 =>
                    rw [epu] at q2
                    obtain ⟨acc, a1, a2, a3, a4⟩ := push_ok r5 (pre_get p5 (pre_get p4 (pre_get p2 hDn))) rw5 epu
                    exact ⟨acc, a1, a2, μ5, h5, p2.trans (p4.trans p5), e2.trans (e3.trans (e4.trans (e5.trans a3))), a4, q2⟩
    · cases q2
section
variable {X : Cx} {W : WX} {k : Nat} {elt tg iter : Expr} {ifs : List Expr} {scope : Scope} {own : List (Str × Nat)} {pos : Pos} {mi : MI} {t : Tg} {c : MT} {e : ME}
abbrev CTs (X : Cx) (W : WX) (ifs : List Expr) (m : MT) : Prop := PTs X ifs (tMT (gm X) W m)
theorem ts_nil : CTs X W [] tTrue := ⟨fun pins s σ H Q I h => pts_nil.run pins s σ H Q I (by obtain ⟨μ, σ', h', l, r, p⟩ := h; exact p.at r)⟩
theorem ts_one {a : Expr} {m : MT} (h : CT X W a m) : CTs X W [a] m := pts_one h
theorem lg_one {i : Nat} {x : Str} (hN : X.N.Nodup) (hi : X.N[i]? = some x := by rfl) (hx : L2.Loc X.env.scope x := by first | exact Or.inl rfl | exact Or.inr rfl) (hf : X.fn x = true ∨ X.env.scope.names.lookup x = some .local := by first | exact .inl rfl | exact .inr rfl | assumption) : PG X (.Name x pos) (tgT X.K (.one i)) := pg_name hN hi hx hf
theorem lgs_nil : PGs X [] (gNs []) := pgs_nil
theorem lgs_cons {i : Nat} {is : List Nat} {x : Str} {es : List Expr} (hN : X.N.Nodup) (h2 : PGs X es (gNs is)) (hi : X.N[i]? = some x := by rfl) (hx : L2.Loc X.env.scope x := by first | exact Or.inl rfl | exact Or.inr rfl) (hf : X.fn x = true ∨ X.env.scope.names.lookup x = some .local := by first | exact .inl rfl | exact .inr rfl | assumption)
    (hs : (assignEach (.Name x pos :: es) X.env).map (·.2) = assign (.Name x pos) X.env :: (assignEach es X.env).map (·.2) := by rfl) : PGs X (.Name x pos :: es) (gNs (i :: is)) := pgs_cons (pg_name hN hi hx hf) h2 hs
theorem lg_many {is : List Nat} {es : List Expr} {kk : Nat} (hc : X.calm = true) (h : PGs X es (gNs is)) (hn : (assignEach es X.env).length = is.length := by rfl) (hst : (assignEach es X.env).findIdx? (·.1) = none := by rfl) : PG X (.Tuple es kk pos) (tgT X.K (.many is)) := pg_tup hc h hn hst
theorem s_lc (ck : Cok X W k) (hi : CI X W tg iter mi) (li : LkIn mi) (ok : BlkOk X.N X.env.scope scope own) (hsl : ∀ i ∈ t.slots, i ∈ own.map (·.2))
    (hg : ∀ (s : Shared) (H : Hp) (C : Addr) (cl : List (Str × Addr)) (fp : List Addr), PG (X.blk s H scope (compEnvC scope cl C X.env) fp) tg (tgT X.K t))
    (ht : ∀ (s : Shared) (H : Hp) (C : Addr) (cl : List (Str × Addr)) (fp : List Addr), CTs (X.blk s H scope (compEnvC scope cl C X.env) fp) WN ifs c)
    (he : ∀ (s : Shared) (H : Hp) (C : Addr) (cl : List (Str × Addr)) (fp : List Addr), CE (X.blk s H scope (compEnvC scope cl C X.env) fp) WN elt e) (hs : ∀ x, foldedSetIterable iter X.env x = pure x := by intro _; rfl) :
    CE X W (.ListComp elt [⟨tg, iter, ifs, 0⟩] scope pos) (mLc mi (own.map (·.2)) t c e) :=
  peI (pe_unl (pe_lc (tt := tMT (gm X) WN c) (te := tM (gm X) WN e) ck.calm ck.nd hi ok hg ht he hs)) fun τ H Q h => lcR (G := gm X) li hsl h
theorem t_setLc (i : Nat) {y : Str} {py spos : Pos} (ck : Cok X W k) (hi : CI X W tg iter mi) (li : LkIn mi) (ok : BlkOk X.N X.env.scope scope own) (hsl : ∀ i ∈ t.slots, i ∈ own.map (·.2))
    (hg : ∀ (s : Shared) (H : Hp) (C : Addr) (cl : List (Str × Addr)) (fp : List Addr), PG (X.blk s H scope (compEnvC scope cl C X.env) fp) tg (tgT X.K t))
    (ht : ∀ (s : Shared) (H : Hp) (C : Addr) (cl : List (Str × Addr)) (fp : List Addr), CTs (X.blk s H scope (compEnvC scope cl C X.env) fp) WN ifs c)
    (he : ∀ (s : Shared) (H : Hp) (C : Addr) (cl : List (Str × Addr)) (fp : List Addr), CE (X.blk s H scope (compEnvC scope cl C X.env) fp) WN elt e)
    (hsw : swapsWith (.ListComp elt [⟨tg, iter, ifs, 0⟩] scope pos) (some (.Name y py)) spos.line X.env = pure true)
    (hy : X.N[i]? = some y := by rfl) (hyl : X.env.scope.names.lookup y = some .local := by rfl) (hs : ∀ x, foldedSetIterable iter X.env x = pure x := by intro _; rfl) :
    CS X W (.Assign [.Name y py] (.ListComp elt [⟨tg, iter, ifs, 0⟩] scope pos) spos) (msAsg (mLc mi (own.map (·.2)) t c e) (mgName i)) := by
  refine psI (ps_unl (ps_setLc (i := i) (tt := tMT (gm X) WN c) (te := tM (gm X) WN e) ck.calm ck.nd hy hyl hsw hi ok hg ht he hs)) fun D τ H ⟨μ, σ, h, l, r, p⟩ => ?_
  refine lcR (G := gm X) (Q := fun x H1 => D.nx (τ.set i (some x)) H1) li hsl ⟨μ, σ, h, l, r, ?_⟩
  exact (PsF.bind l p).imp fun x μ1 h1 H1 p1 e1 r1 q1 w rw1 => q1 μ1 H1 _ (List.prefix_refl _) (Ex.refl _) r1 ((l.mono p1 e1).set i rw1)
end
end U
namespace U
open PySem L2
def vAdd (x y : Val) (h : Hh) : Res Val := match x, y with
  | .int i, .int j => .ok (.int (i + j)) h
  | .str i, .str j => if i.length + j.length ≤ sizeLine then .ok (.str (i ++ j)) h else .no
  | .tup xs, .tup ys => if xs.length + ys.length ≤ sizeLine then .ok (.tup (xs ++ ys)) h else .no
  | .ref m, .ref n => match h[m]?, h[n]? with
    | some (.lst xs), some (.lst ys) => if xs.length + ys.length ≤ sizeLine then .ok (.ref h.length) (h ++ [.lst (xs ++ ys)]) else .no
    | _, _ => .no
  | _, _ => .no
def vSub (x y : Val) (h : Hh) : Res Val := match x, y with
  | .int i, .int j => .ok (.int (i - j)) h
  | _, _ => .no
def vMulI (i j : Int) : Bool := (decide (-(2 ^ 64) < i) && decide (i < 2 ^ 64)) || (decide (-(2 ^ 64) < j) && decide (j < 2 ^ 64)) || decide (i.natAbs.log2 + j.natAbs.log2 < 1000000)
def vMul (x y : Val) (h : Hh) : Res Val := match x, y with
  | .int i, .int j => if vMulI i j = true then .ok (.int (i * j)) h else .no
  | .ref m, .int k => match h[m]? with
    | some (.lst xs) => if -(2 ^ 63) ≤ k ∧ k < 2 ^ 63 ∧ xs.length * k.toNat ≤ sizeLine then .ok (.ref h.length) (h ++ [.lst (List.replicate k.toNat xs).flatten]) else .no
    | _ => .no
  | _, _ => .no
def vMod (x y : Val) (h : Hh) : Res Val := match x, y with
  | .int i, .int j => if 0 < j then .ok (.int (i % j)) h else .no
  | _, _ => .no
def vPow (x y : Val) (h : Hh) : Res Val := match x, y with
  | .int i, .int j => if 0 ≤ j ∧ j ≤ 1000000 ∧ i.natAbs < 2 ^ 64 then .ok (.int (i ^ j.toNat)) h else .no
  | _, _ => .no
def vNeg (x : Val) (h : Hh) : Res Val := match x with
  | .int i => .ok (.int (-i)) h
  | _ => .no
section
variable {X : Cx}
theorem opr {f : Value → Value → Sem Value} {g : Val → Val → Hh → Res Val} (h : ∀ (pins : List (Addr × Obj)) (s : Shared) (τ : St) (H : Hp) (x y : V) (v u : Value) (Q : VK) (μ : List Addr) (hh : Hh) (a b : Val), L2.Inv X pins τ H s → RelV x v → RelV y u → HR (gm X) μ hh H → RV (gm X) μ H a x → RV (gm X) μ H b y → Ps (gm X) W0 μ H (g a b hh) (qV (gm X) Q) →
    wpAny (model X.prog X.w) X.A (f v u) (EP X pins τ Q) X.xe s) : OpR X f (rM2 (gm X) W0 g) :=
  fun pins s τ H x y v u Q I rx ry ⟨μ, hh, a, b, r, ra, rb, p⟩ => h pins s τ H x y v u Q μ hh a b I rx ry r ra rb p
theorem o_add : OpR X (binaryOp .Add) (rM2 (gm X) W0 vAdd) := opr fun pins s τ H x y v u Q μ hh a b I rx ry r ra rb p => by
  cases ra with
  | int i =>
    cases rb with
    | int j => exact op_add pins s τ H _ _ v u Q I rx ry ⟨i, j, rfl, rfl, p.at r _ (.int _)⟩
    | _ => exact p.elim
  | str i =>
    cases rb with
    | str j =>
      unfold vAdd at p; dsimp only at p
      split at p
      · exact op_add_str pins s τ H _ _ v u Q I rx ry ⟨i, j, rfl, rfl, by assumption, p.at r _ (.str _)⟩
      · exact p.elim
    | _ => exact p.elim
  | @tup xs ws a1 t1 rs1 =>
    cases rb with
    | @tup ys zs a2 t2 rs2 =>
      unfold vAdd at p; dsimp only at p
      split at p
      · rename_i hl
        refine op_catA pins s τ H _ _ v u Q I rx ry ⟨a1, a2, ws, zs, rfl, rfl, t1.sq, t2.sq, by rw [← rs1.length, ← rs2.length]; exact hl, fun e => ?_, fun _ e => ?_, fun _ _ => lay_tup r (rs1.append rs2) p⟩
        · subst e; cases rs1; exact p.at r _ (.tup t2 rs2)
        · subst e; cases rs2; rw [List.append_nil] at p; exact p.at r _ (.tup t1 rs1)
      · exact p.elim
    | _ => exact p.elim
  | @ref m a1 q1 =>
    cases rb with
    | @ref n a2 q2 =>
      unfold vAdd at p; dsimp only at p
      obtain ⟨o1, ho1, ro1⟩ := r.obj q1
      obtain ⟨o2, ho2, ro2⟩ := r.obj q2
      rw [ho1, ho2] at p
      cases o1 with
      | lst xs =>
        cases o2 with
        | lst ys =>
          dsimp only at p
          split at p
          · rename_i hl
            obtain ⟨ws, g1, g2⟩ := ro1
            obtain ⟨zs, g3, g4⟩ := ro2
            exact op_cat pins s τ H _ _ v u Q I rx ry ⟨a1, a2, ws, zs, rfl, rfl, g1, g3, by rw [← g2.length, ← g4.length]; exact hl, lay_lst r (g2.append g4) p⟩
          · exact p.elim
        | _ => exact p.elim
      | _ => exact p.elim
    | _ => exact p.elim
  | _ => exact p.elim
theorem o_mul : OpR X (binaryOp .Mult) (rM2 (gm X) W0 vMul) := opr fun pins s τ H x y v u Q μ hh a b I rx ry r ra rb p => by
  cases ra with
  | int i =>
    cases rb with
    | int j =>
      unfold vMul at p; dsimp only at p
      split at p
      · rename_i hc
        have q := p.at r (.int (i * j)) (.int _)
        unfold vMulI at hc
        simp only [Bool.or_eq_true, Bool.and_eq_true, decide_eq_true_eq] at hc
        rcases hc with (hc | hc) | hc
        · exact op_mul pins s τ H _ _ v u Q I rx ry ⟨i, j, rfl, rfl, .inl hc, q⟩
        · exact op_mul pins s τ H _ _ v u Q I rx ry ⟨i, j, rfl, rfl, .inr hc, q⟩
        · exact op_mulW pins s τ H _ _ v u Q I rx ry ⟨i, j, rfl, rfl, hc, q⟩
      · exact p.elim
    | _ => exact p.elim
  | @ref m a1 q1 =>
    cases rb with
    | int k =>
      unfold vMul at p; dsimp only at p
      obtain ⟨o1, ho1, ro1⟩ := r.obj q1
      rw [ho1] at p
      cases o1 with
      | lst xs =>
        dsimp only at p
        split at p
        · rename_i hl
          obtain ⟨ws, g1, g2⟩ := ro1
          refine op_rep pins s τ H _ _ v u Q I rx ry ⟨a1, k, ws, rfl, rfl, g1, hl.1, hl.2.1, by rw [← g2.length]; exact hl.2.2, lay_lst r ?_ p⟩
          generalize k.toNat = n
          induction n with
          | zero => exact .nil
          | succ n ih => rw [List.replicate_succ, List.replicate_succ, List.flatten_cons, List.flatten_cons]; exact g2.append ih
        · exact p.elim
      | _ => exact p.elim
    | _ => exact p.elim
  | _ => exact p.elim
theorem o_mod : OpR X (binaryOp .Mod) (rM2 (gm X) W0 vMod) := opr fun pins s τ H x y v u Q μ hh a b I rx ry r ra rb p => by
  cases ra with
  | int i =>
    cases rb with
    | int j =>
      unfold vMod at p; dsimp only at p
      split at p
      · exact op_mod pins s τ H _ _ v u Q I rx ry ⟨i, j, rfl, rfl, by assumption, p.at r _ (.int _)⟩
      · exact p.elim
    | _ => exact p.elim
  | _ => exact p.elim
theorem o_pow : OpR X (binaryOp .Pow) (rM2 (gm X) W0 vPow) := opr fun pins s τ H x y v u Q μ hh a b I rx ry r ra rb p => by
  cases ra with
  | int i =>
    cases rb with
    | int j =>
      unfold vPow at p; dsimp only at p
      split at p
      · exact op_pow pins s τ H _ _ v u Q I rx ry ⟨i, j, rfl, rfl, by assumption, p.at r _ (.int _)⟩
      · exact p.elim
    | _ => exact p.elim
  | _ => exact p.elim
def vOrd (fi : Int → Int → Bool) (fs : Str → Str → Bool) (x y : Val) (h : Hh) : Res Val := match x, y with
  | .int i, .int j => .ok (.bl (fi i j)) h
  | .str i, .str j => .ok (.bl (fs i j)) h
  | _, _ => .no
def strLt (i j : Str) : Bool := decide (i.cps.toList < j.cps.toList)
abbrev vLt := vOrd (fun i j => decide (i < j)) strLt
abbrev vLe := vOrd (fun i j => decide (i ≤ j)) (fun i j => !strLt j i)
abbrev vGt := vOrd (fun i j => decide (j < i)) (fun i j => strLt j i)
abbrev vGe := vOrd (fun i j => decide (j ≤ i)) (fun i j => !strLt i j)
theorem o_lt : OpR X (compareOp .Lt) (rM2 (gm X) W0 vLt) := opr fun pins s τ H x y v u Q μ hh a b I rx ry r ra rb p => by
  cases ra with
  | int i =>
    cases rb with
    | int j => exact op_lt pins s τ H _ _ v u Q I rx ry ⟨i, j, rfl, rfl, p.at r _ (.bl _)⟩
    | _ => exact p.elim
  | str i =>
    cases rb with
    | str j => exact op_lt_str pins s τ H _ _ v u Q I rx ry ⟨i, j, rfl, rfl, p.at r _ (.bl _)⟩
    | _ => exact p.elim
  | _ => exact p.elim
theorem o_le : OpR X (compareOp .LtE) (rM2 (gm X) W0 vLe) := opr fun pins s τ H x y v u Q μ hh a b I rx ry r ra rb p => by
  cases ra with
  | int i =>
    cases rb with
    | int j => exact op_le pins s τ H _ _ v u Q I rx ry ⟨i, j, rfl, rfl, p.at r _ (.bl _)⟩
    | _ => exact p.elim
  | str i =>
    cases rb with
    | str j => exact op_le_str pins s τ H _ _ v u Q I rx ry ⟨i, j, rfl, rfl, p.at r _ (.bl _)⟩
    | _ => exact p.elim
  | _ => exact p.elim
theorem o_gt : OpR X (compareOp .Gt) (rM2 (gm X) W0 vGt) := opr fun pins s τ H x y v u Q μ hh a b I rx ry r ra rb p => by
  cases ra with
  | int i =>
    cases rb with
    | int j => exact op_gt pins s τ H _ _ v u Q I rx ry ⟨i, j, rfl, rfl, p.at r _ (.bl _)⟩
    | _ => exact p.elim
  | str i =>
    cases rb with
    | str j => exact op_gt_str pins s τ H _ _ v u Q I rx ry ⟨i, j, rfl, rfl, p.at r _ (.bl _)⟩
    | _ => exact p.elim
  | _ => exact p.elim
theorem o_ge : OpR X (compareOp .GtE) (rM2 (gm X) W0 vGe) := opr fun pins s τ H x y v u Q μ hh a b I rx ry r ra rb p => by
  cases ra with
  | int i =>
    cases rb with
    | int j => exact op_ge pins s τ H _ _ v u Q I rx ry ⟨i, j, rfl, rfl, p.at r _ (.bl _)⟩
    | _ => exact p.elim
  | str i =>
    cases rb with
    | str j => exact op_ge_str pins s τ H _ _ v u Q I rx ry ⟨i, j, rfl, rfl, p.at r _ (.bl _)⟩
    | _ => exact p.elim
  | _ => exact p.elim
mutual
def toD : Nat → Hh → Val → Option PyData
  | 0, _, _ => none
  | _ + 1, _, .non => some .none
  | _ + 1, _, .bl b => some (.bool b)
  | _ + 1, _, .int i => some (.int i)
  | _ + 1, _, .str x => some (.str x)
  | n + 1, h, .tup vs => (toDs n h vs).map .tuple
  | n + 1, h, .ref i => match h[i]? with
    | some (.lst vs) => (toDs n h vs).map .list
    | some (.fro vs) => (toDs n h vs).map .list
    | some (.dct kvs) => (toDk n h kvs).map .dict
    | some (.fdc kvs) => (toDk n h kvs).map .dict
    | _ => none
  | _ + 1, _, _ => none
def toDs : Nat → Hh → List Val → Option (List PyData)
  | _, _, [] => some []
  | n, h, v :: vs => match toD n h v, toDs n h vs with
    | some d, some ds => some (d :: ds)
    | _, _ => none
def toDk : Nat → Hh → List (Val × Val) → Option (List (PyData × PyData))
  | _, _, [] => some []
  | n, h, (k, v) :: r => match toD n h k, toD n h v, toDk n h r with
    | some a, some b, some ds => some ((a, b) :: ds)
    | _, _, _ => none
end
mutual
def noD : PyData → Bool
  | .list xs => noDs xs
  | .tuple xs => noDs xs
  | .dict _ => false
  | _ => true
def noDs : List PyData → Bool
  | [] => true
  | x :: xs => noD x && noDs xs
end
mutual
theorem toD_dp {G : Gm} {μ : List Addr} {h : Hh} {H : Hp} (r : HR G μ h H) : ∀ (n : Nat) {v : Val} {w : V} {d : PyData}, RV G μ H v w → toD n h v = some d → noD d = true → Dp G.K H w d
  | 0, v, w, d, rv, e, nd => by simp [toD] at e
  | n + 1, v, w, d, rv, e, nd => by
    cases rv with
    | non => simp only [toD, Option.some.injEq] at e; subst e; exact .non
    | bl b => simp only [toD, Option.some.injEq] at e; subst e; exact .bl b
    | int b => simp only [toD, Option.some.injEq] at e; subst e; exact .int b
    | str b => simp only [toD, Option.some.injEq] at e; subst e; exact .str b
    | @tup vs ws a ta rs =>
      simp only [toD] at e
      cases q : toDs n h vs with
      | none => rw [q] at e; cases e
      | some ds =>
        rw [q] at e
        cases e
        exact .tup ta.sq (toDs_dp r n rs q (by simpa [noD] using nd))
    | @ref i a qa =>
      obtain ⟨o, ho, ro⟩ := r.obj qa
      simp only [toD, ho] at e
      cases o with
      | lst vs =>
        obtain ⟨ws, g1, g2⟩ := ro
        cases q : toDs n h vs with
        | none => simp only [q] at e; cases e
        | some ds =>
          simp only [q, Option.map_some, Option.some.injEq] at e
          subst e
          exact .lst (.inl (.inl g1)) (toDs_dp r n g2 q (by simpa [noD] using nd))
      | fro vs =>
        obtain ⟨ob, ws, g1, g2⟩ := ro
        cases q : toDs n h vs with
        | none => simp only [q] at e; cases e
        | some ds =>
          simp only [q, Option.map_some, Option.some.injEq] at e
          subst e
          exact .lst (.inl (.inr ⟨ob, g1⟩)) (toDs_dp r n g2 q (by simpa [noD] using nd))
      | dct kvs =>
        cases q : toDk n h kvs with
        | none => simp only [q] at e; cases e
        | some ds =>
          simp only [q, Option.map_some, Option.some.injEq] at e
          subst e
          simp [noD] at nd
      | fdc kvs =>
        cases q : toDk n h kvs with
        | none => simp only [q] at e; cases e
        | some ds =>
          simp only [q, Option.map_some, Option.some.injEq] at e
          subst e
          simp [noD] at nd
      | dcn kvs => cases e
      | fdn kvs => cases e
      | ins C fs => cases e
      | exc _ _ => cases e
      | xdo _ _ => cases e
    | ty m => simp [toD] at e
    | gl m => simp [toD] at e
theorem toDs_dp {G : Gm} {μ : List Addr} {h : Hh} {H : Hp} (r : HR G μ h H) : ∀ (n : Nat) {vs : List Val} {ws : List V} {ds : List PyData}, RVs G μ H vs ws → toDs n h vs = some ds → noDs ds = true → DpAll G.K H ws ds
  | n, _, _, ds, .nil, e, nd => by simp only [toDs, Option.some.injEq] at e; subst e; exact .nil
  | n, _, _, ds, .cons (v := v) (vs := vs) rv rs, e, nd => by
    simp only [toDs] at e
    cases q1 : toD n h v with
    | none => simp [q1] at e
    | some d =>
      cases q2 : toDs n h vs with
      | none => simp [q1, q2] at e
      | some ds' =>
        simp only [q1, q2, Option.some.injEq] at e
        subst e
        simp only [noDs, Bool.and_eq_true] at nd
        exact .cons (toD_dp r n rv q1 nd.1) (toDs_dp r n rs q2 nd.2)
end
def vEqO (neg : Bool) (x y : Val) (h : Hh) : Res Val := match toD 30 h x, toD 30 h y with
  | some d, some e => if noD d && noD e && SeqAt.shaped d && SeqAt.shaped e then .ok (.bl (if neg then !PyData.eqv d e else PyData.eqv d e)) h else .no
  | _, _ => .no
theorem o_eqO (hu : X.A.units + 64 < cLine) : OpR X (compareOp .Eq) (rM2 (gm X) W0 (vEqO false)) := opr fun pins s τ H x y v u Q μ hh a b I rx ry r ra rb p => by
  unfold vEqO at p
  cases q1 : toD 30 hh a with
  | none => rw [q1] at p; exact p.elim
  | some d =>
    cases q2 : toD 30 hh b with
    | none => rw [q1, q2] at p; exact p.elim
    | some e =>
      rw [q1, q2] at p
      dsimp only at p
      split at p
      · rename_i hc
        simp only [Bool.and_eq_true] at hc
        exact op_eqD hu pins s τ H _ _ v u Q I rx ry ⟨d, e, toD_dp r 30 ra q1 hc.1.1.1, toD_dp r 30 rb q2 hc.1.1.2, hc.1.2, hc.2, p.at r _ (.bl _)⟩
      · exact p.elim
theorem o_neO (hu : X.A.units + 64 < cLine) : OpR X (compareOp .NotEq) (rM2 (gm X) W0 (vEqO true)) := opr fun pins s τ H x y v u Q μ hh a b I rx ry r ra rb p => by
  unfold vEqO at p
  cases q1 : toD 30 hh a with
  | none => rw [q1] at p; exact p.elim
  | some d =>
    cases q2 : toD 30 hh b with
    | none => rw [q1, q2] at p; exact p.elim
    | some e =>
      rw [q1, q2] at p
      dsimp only at p
      split at p
      · rename_i hc
        simp only [Bool.and_eq_true] at hc
        exact op_neD hu pins s τ H _ _ v u Q I rx ry ⟨d, e, toD_dp r 30 ra q1 hc.1.1.1, toD_dp r 30 rb q2 hc.1.1.2, hc.1.2, hc.2, p.at r _ (.bl _)⟩
      · exact p.elim
def strs2 : Val → Val → Option Bool
  | .str a, .str b => some (decide (a = b))
  | _, _ => none
def vEqD (neg : Bool) (x y : Val) (h : Hh) : Res Val := match strs2 x y with
  | some b => .ok (.bl (if neg then !b else b)) h
  | none => vEqO neg x y h
theorem strs2_some {x y : Val} {b : Bool} (e : strs2 x y = some b) : ∃ i j, x = .str i ∧ y = .str j ∧ b = decide (i = j) := by
  cases x with
  | str i =>
    cases y with
    | str j => cases e; exact ⟨i, j, rfl, rfl, rfl⟩
    | _ => cases e
  | _ => cases y <;> cases e
theorem o_eq (hu : X.A.units + 64 < cLine) : OpR X (compareOp .Eq) (rM2 (gm X) W0 (vEqD false)) := opr fun pins s τ H x y v u Q μ hh a b I rx ry r ra rb p => by
  unfold vEqD at p
  cases q : strs2 a b with
  | none => rw [q] at p; exact o_eqO hu pins s τ H x y v u Q I rx ry ⟨μ, hh, a, b, r, ra, rb, p⟩
  | some k =>
    rw [q] at p
    obtain ⟨i, j, rfl, rfl, rfl⟩ := strs2_some q
    cases ra; cases rb
    refine op_eq pins s τ H _ _ v u Q I rx ry ⟨rfl, ?_⟩
    have e : decide (V.str i = V.str j) = decide (i = j) := by by_cases z : i = j <;> simp [z]
    rw [e]
    exact p.at r _ (.bl _)
theorem o_ne (hu : X.A.units + 64 < cLine) : OpR X (compareOp .NotEq) (rM2 (gm X) W0 (vEqD true)) := opr fun pins s τ H x y v u Q μ hh a b I rx ry r ra rb p => by
  unfold vEqD at p
  cases q : strs2 a b with
  | none => rw [q] at p; exact o_neO hu pins s τ H x y v u Q I rx ry ⟨μ, hh, a, b, r, ra, rb, p⟩
  | some k =>
    rw [q] at p
    obtain ⟨i, j, rfl, rfl, rfl⟩ := strs2_some q
    cases ra; cases rb
    refine op_ne pins s τ H _ _ v u Q I rx ry ⟨rfl, ?_⟩
    have e : (!decide (V.str i = V.str j)) = !decide (i = j) := by by_cases z : i = j <;> simp [z]
    rw [e]
    exact p.at r _ (.bl _)
end
theorem nr_add : ∀ x y h z k, vAdd x y h ≠ .rs z k := fun x y h z k => by unfold vAdd; (repeat' split) <;> simp
theorem nr_mul : ∀ x y h z k, vMul x y h ≠ .rs z k := fun x y h z k => by unfold vMul; (repeat' split) <;> simp
theorem nr_mod : ∀ x y h z k, vMod x y h ≠ .rs z k := fun x y h z k => by unfold vMod; (repeat' split) <;> simp
theorem nr_pow : ∀ x y h z k, vPow x y h ≠ .rs z k := fun x y h z k => by unfold vPow; (repeat' split) <;> simp
theorem nr_ord {fi fs} : ∀ x y h z k, vOrd fi fs x y h ≠ .rs z k := fun x y h z k => by unfold vOrd; (repeat' split) <;> simp
theorem nr_eqd {n} : ∀ x y h z k, vEqD n x y h ≠ .rs z k := fun x y h z k => by unfold vEqD vEqO; (repeat' split) <;> simp
end U
namespace U
open PySem L2
def dGet : List (Val × Val) → Val → Option Val
  | [], _ => none
  | (k', v) :: r, k => if keyOf k' = keyOf k then some v else dGet r k
def dPut (kvs : List (Val × Val)) (k v : Val) : List (Val × Val) :=
  if kvs.any (fun kv => decide (keyOf kv.1 = keyOf k)) = true then kvs.map (fun kv => if keyOf kv.1 = keyOf k then (kv.1, v) else kv) else kvs ++ [(k, v)]
section
variable {G : Gm} {μ : List Addr} {H : Hp}
theorem dGet_ok {k : Val} {kk : Key} (hk : keyOf k = some kk) : ∀ {kvs : List (Val × Val)} {kws : List (Key × V)}, RKs G μ H kvs kws →
    (∀ v, dGet kvs k = some v → ∃ w, valV kws kk = some w ∧ RV G μ H v w) ∧ (dGet kvs k = none → valV kws kk = none)
  | _, _, .nil => ⟨fun v e => (nomatch e), fun _ => rfl⟩
  | _, _, .cons (k := k1) (v := v1) (k' := k1') (w := w1) q r t => by
    obtain ⟨i1, i2⟩ := dGet_ok hk t
    unfold dGet
    rw [q, hk]
    by_cases e : k1' = kk
    · subst e
      rw [if_pos rfl, valV_pos rfl]
      exact ⟨fun v z => by cases z; exact ⟨w1, rfl, r⟩, fun z => by cases z⟩
    · rw [if_neg (fun z => e (Option.some.inj z)), valV_neg e]
      exact ⟨i1, i2⟩
theorem dAny_ok {k : Val} {kk : Key} (hk : keyOf k = some kk) : ∀ {kvs : List (Val × Val)} {kws : List (Key × V)}, RKs G μ H kvs kws →
    (kvs.any fun kv => decide (keyOf kv.1 = keyOf k)) = (kws.any fun kv => decide (kv.1 = kk))
  | _, _, .nil => rfl
  | _, _, .cons q r t => by
    rw [List.any_cons, List.any_cons, dAny_ok hk t, q, hk]
    congr 1
    simp
theorem dMap_ok {k v : Val} {w : V} {kk : Key} (hk : keyOf k = some kk) (rv : RV G μ H v w) : ∀ {kvs : List (Val × Val)} {kws : List (Key × V)}, RKs G μ H kvs kws →
    RKs G μ H (kvs.map fun kv => if keyOf kv.1 = keyOf k then (kv.1, v) else kv) (kws.map fun kv => if kv.1 = kk then (kv.1, w) else kv)
  | _, _, .nil => .nil
  | _, _, .cons (k' := k1') q r t => by
    rw [List.map_cons, List.map_cons]
    dsimp only
    rw [q, hk]
    by_cases e : k1' = kk
    · subst e; rw [if_pos rfl, if_pos rfl]; exact .cons q rv (by rw [hk.symm]; exact dMap_ok hk rv t)
    · rw [if_neg (fun z => e (Option.some.inj z)), if_neg e]; exact .cons q r (by rw [hk.symm]; exact dMap_ok hk rv t)
theorem RKs.append : ∀ {a b : List (Val × Val)} {c d : List (Key × V)}, RKs G μ H a c → RKs G μ H b d → RKs G μ H (a ++ b) (c ++ d)
  | _, _, _, _, .nil, s => s
  | _, _, _, _, .cons q r t, s => .cons q r (RKs.append t s)
theorem dPut_ok {k v : Val} {w : V} {kk : Key} (hk : keyOf k = some kk) (rv : RV G μ H v w) {kvs : List (Val × Val)} {kws : List (Key × V)} (r : RKs G μ H kvs kws) : RKs G μ H (dPut kvs k v) (putK kws kk w) := by
  unfold dPut putK
  rw [dAny_ok hk r]
  split
  · exact dMap_ok hk rv r
  · exact r.append (.cons hk rv .nil)
end
def vIx (x y : Val) (h : Hh) : Res Val := match x with
  | .tup vs => (match y with
    | .int i => (match atI vs i with | some v => .ok v h | none => .no)
    | _ => .no)
  | .str z => (match y with
    | .int i => if z.length ≤ sizeLine then (match atI z.cps.toList i with | some c => .ok (.str ⟨#[c]⟩) h | none => .no) else .no
    | _ => .no)
  | .ref n => (match h[n]? with
    | some (.lst vs) => (match y with
      | .int i => (match atI vs i with | some v => .ok v h | none => .no)
      | _ => .no)
    | some (.fro vs) => (match y with
      | .int i => (match atI vs i with | some v => .ok v h | none => .no)
      | _ => .no)
    | some (.dct kvs) => (match keyOf y with
      | some _ => (match dGet kvs y with | some v => .ok v h | none => .no)
      | none => .no)
    | some (.fdc kvs) => (match keyOf y with
      | some _ => (match dGet kvs y with | some v => .ok v h | none => .no)
      | none => .no)
    | some (.dcn kvs) => (match tkey y with
      | some k => (match nGet kvs k with | some v => .ok v h | none => .no)
      | none => .no)
    | some (.fdn kvs) => (match tkey y with
      | some k => (match nGet kvs k with | some v => .ok v h | none => .no)
      | none => .no)
    | _ => .no)
  | _ => .no
theorem nr_ix : ∀ x y h z k, vIx x y h ≠ .rs z k := fun x y h z k => by unfold vIx; (repeat' split) <;> simp
theorem RVs.atI {G : Gm} {μ : List Addr} {H : Hp} {vs : List Val} {ws : List V} {i : Int} {v : Val} (r : RVs G μ H vs ws) (e : L2.atI vs i = some v) : ∃ w, L2.atI ws i = some w ∧ RV G μ H v w := by
  unfold L2.atI at e ⊢
  rw [← r.length]
  cases q : ixN vs.length i with
  | none => rw [q] at e; cases e
  | some j =>
    rw [q] at e
    exact r.get e
section
variable {X : Cx} {W : WX} {a b e : Expr} {ma mb : ME} {pos : Pos}
theorem ix_dict (hu : X.A.units + 1 < cLine) : IxR X (fun x y H Q => ∃ d v, x = .ref d ∧ DGet H d y (some v) ∧ Q v H) := by
  intro value slice pins s σ H x y v u Q I rx ry h hs
  obtain ⟨d, w, rfl, g, q⟩ := h
  cases rx
  exact PyProof.Rows.tail_any (dict_typeIs I g) PySem.F.slot_dict_getitem.lookup (d_getItem hu I g ry fun w' s' I' r' => ⟨w, H, I', r', q⟩) hs
theorem tkey_ref {G : Gm} {μ : List Addr} {H : Hp} {v : Val} {w : V} {k : NestedKey} (e : tkey v = some k) (r : RV G μ H v w) : ∃ b, w = .ref b := by
  obtain ⟨_, _, vs, rfl⟩ := tkey_nk e
  cases r with
  | tup _ _ => exact ⟨_, rfl⟩
theorem ix_any (hu : X.A.units + 1 < cLine) (hu64 : X.A.units + 64 < cLine) : IxR X (rM2 (gm X) W0 vIx) := by
  intro value slice pins s τ H x y v u Q I rx ry ⟨μ, hh, c, d, r, rc, rd, p⟩ hs
  unfold vIx at p
  cases rc with
  | @tup vs ws a1 t1 rs1 =>
    cases rd with
    | int i =>
      dsimp only at p
      cases q : atI vs i with
      | none => rw [q] at p; exact p.elim
      | some z =>
        rw [q] at p
        obtain ⟨w, q1, q2⟩ := rs1.atI q
        exact ix_tup value slice pins s τ H _ _ v u Q I rx ry ⟨a1, ws, i, w, rfl, rfl, t1.sq, q1, p.at r _ q2⟩ hs
    | _ => exact p.elim
  | str z =>
    cases rd with
    | int i =>
      dsimp only at p
      split at p
      · cases q : atI z.cps.toList i with
        | none => rw [q] at p; exact p.elim
        | some cc =>
          rw [q] at p
          exact ix_str value slice pins s τ H _ _ v u Q I rx ry ⟨z, i, cc, rfl, rfl, by assumption, q, p.at r _ (.str _)⟩ hs
      · exact p.elim
    | _ => exact p.elim
  | @ref n a1 q1 =>
    obtain ⟨o, ho, ro⟩ := r.obj q1
    dsimp only at p
    rw [ho] at p
    cases o with
    | lst vs =>
      obtain ⟨ws, g1, g2⟩ := ro
      cases rd with
      | int i =>
        dsimp only at p
        cases q : atI vs i with
        | none => rw [q] at p; exact p.elim
        | some z =>
          rw [q] at p
          obtain ⟨w, k1, k2⟩ := g2.atI q
          exact ix_list value slice pins s τ H _ _ v u Q I rx ry ⟨a1, ws, i, w, rfl, rfl, .inl (.inl g1), k1, p.at r _ k2⟩ hs
      | _ => exact p.elim
    | fro vs =>
      obtain ⟨ob, ws, g1, g2⟩ := ro
      cases rd with
      | int i =>
        dsimp only at p
        cases q : atI vs i with
        | none => rw [q] at p; exact p.elim
        | some z =>
          rw [q] at p
          obtain ⟨w, k1, k2⟩ := g2.atI q
          exact ix_list value slice pins s τ H _ _ v u Q I rx ry ⟨a1, ws, i, w, rfl, rfl, .inl (.inr ⟨ob, g1⟩), k1, p.at r _ k2⟩ hs
      | _ => exact p.elim
    | dct kvs =>
      obtain ⟨kws, g1, g2⟩ := ro
      dsimp only at p
      cases qk : keyOf d with
      | none => rw [qk] at p; exact p.elim
      | some kk =>
        rw [qk] at p
        dsimp only at p
        cases q : dGet kvs d with
        | none => rw [q] at p; exact p.elim
        | some z =>
          rw [q] at p
          obtain ⟨w, k1, k2⟩ := (dGet_ok qk g2).1 z q
          have ey : y = kV kk := by
            cases d with
            | int i => cases qk; cases rd; rfl
            | str i => cases qk; cases rd; rfl
            | _ => cases qk
          exact ix_dict hu value slice pins s τ H _ _ v u Q I rx ry ⟨a1, w, rfl, .inl ⟨kws, kk, .inl g1, ey, k1.symm⟩, p.at r _ k2⟩ hs
    | fdc kvs =>
      obtain ⟨ob, kws, g1, g2⟩ := ro
      dsimp only at p
      cases qk : keyOf d with
      | none => rw [qk] at p; exact p.elim
      | some kk =>
        rw [qk] at p
        dsimp only at p
        cases q : dGet kvs d with
        | none => rw [q] at p; exact p.elim
        | some z =>
          rw [q] at p
          obtain ⟨w, k1, k2⟩ := (dGet_ok qk g2).1 z q
          have ey : y = kV kk := by
            cases d with
            | int i => cases qk; cases rd; rfl
            | str i => cases qk; cases rd; rfl
            | _ => cases qk
          exact ix_dict hu value slice pins s τ H _ _ v u Q I rx ry ⟨a1, w, rfl, .inl ⟨kws, kk, .inr ⟨ob, g1⟩, ey, k1.symm⟩, p.at r _ k2⟩ hs
    | dcn kvs =>
      obtain ⟨kws, g1, g2⟩ := ro
      dsimp only at p
      cases qk : tkey d with
      | none => rw [qk] at p; exact p.elim
      | some kk =>
        rw [qk] at p
        dsimp only at p
        cases q : nGet kvs kk with
        | none => rw [q] at p; exact p.elim
        | some z =>
          rw [q] at p
          obtain ⟨b, rfl⟩ := tkey_ref qk rd
          cases rx; cases ry
          exact PyProof.Rows.tail_any (nd_type I (.inl g1)) PySem.F.slot_dict_getitem.lookup (nd_getItem hu64 I (.inl g1) g2 rd qk q fun w w' s' I' r1 r2 => ⟨w, H, I', r1, p.at r _ r2⟩) hs
    | fdn kvs =>
      obtain ⟨ob, kws, g1, g2⟩ := ro
      dsimp only at p
      cases qk : tkey d with
      | none => rw [qk] at p; exact p.elim
      | some kk =>
        rw [qk] at p
        dsimp only at p
        cases q : nGet kvs kk with
        | none => rw [q] at p; exact p.elim
        | some z =>
          rw [q] at p
          obtain ⟨b, rfl⟩ := tkey_ref qk rd
          cases rx; cases ry
          exact PyProof.Rows.tail_any (nd_type I (.inr ⟨ob, g1⟩)) PySem.F.slot_dict_getitem.lookup (nd_getItem hu64 I (.inr ⟨ob, g1⟩) g2 rd qk q fun w w' s' I' r1 r2 => ⟨w, H, I', r1, p.at r _ r2⟩) hs
    | ins C fs => exact p.elim
    | exc _ _ => exact p.elim
    | xdo _ _ => exact p.elim
  | _ => exact p.elim
theorem s_ix {k : Nat} (c : Cok X W k) (ha : CE X W a ma) (hb : CE X W b mb) (hs : PlainIx b := by exact fun _ _ => rfl) : CE X W (.Subscript a b pos) (mOp vIx ma mb) :=
  s_two (pe_ix (ix_any c.hu c.u64) ha hb hs) fun τ x y H Q ⟨μ, h, u, v, r1, r2, r3, p⟩ => ⟨μ, h, u, v, r1, r2, r3, ps_nv p (nr_ix u v h)⟩
abbrev MP := Loc → Hh → Res (Option Int)
def mpNo : MP := fun _ h => .ok none h
def mpE (m : ME) : MP := fun σ h => (m σ h).bind fun v h1 => match v with
  | .int i => .ok (some i) h1
  | _ => .no
def tMP (G : Gm) (W : WX) (m : MP) : St → Hp → (Option Int → Hp → Prop) → Prop := fun τ H Q => ∃ μ σ h, LR G μ H σ τ ∧ HR G μ h H ∧ Ps G (WE W τ) μ H (m σ h) (fun o _ _ H' => Q o H')
def cutL {α : Type} (xs : List α) (lo hi : Option Int) : List α := (xs.drop (HT.sIx xs.length 0 lo)).take (HT.sIx xs.length xs.length hi - HT.sIx xs.length 0 lo)
def vSl (x : Val) (lo hi : Option Int) (h : Hh) : Res Val := match x with
  | .tup vs => .ok (.tup (cutL vs lo hi)) h
  | .str z => if z.length ≤ sizeLine then .ok (.str (cutS z lo hi)) h else .no
  | .ref n => match h[n]? with
    | some (.lst vs) => .ok (.ref h.length) (h ++ [.lst (cutL vs lo hi)])
    | some (.fro vs) => .ok (.ref h.length) (h ++ [.lst (cutL vs lo hi)])
    | _ => .no
  | _ => .no
def mSl (a : ME) (lo hi : MP) : ME := fun σ h => (a σ h).bind fun x h1 => (lo σ h1).bind fun l h2 => (hi σ h2).bind fun u h3 => vSl x l u h3
theorem RVs.cut {G : Gm} {μ : List Addr} {H : Hp} {vs : List Val} {ws : List V} (r : RVs G μ H vs ws) (lo hi : Option Int) : RVs G μ H (cutL vs lo hi) (cutV ws lo hi) := by
  unfold cutL cutV; rw [r.length]; exact (r.drop _).take _
theorem sl_any : SlR X (fun x lo hi H Q => ∃ μ h v, HR (gm X) μ h H ∧ RV (gm X) μ H v x ∧ Ps (gm X) W0 μ H (vSl v lo hi h) (qV (gm X) Q)) := by
  intro pins s τ H x v vl vu lo hi sl Q I rx hs pl pu ⟨μ, hh, c, r, rc, p⟩
  unfold vSl at p
  cases rc with
  | @tup vs ws a1 t1 rs1 =>
    dsimp only at p
    refine sl_tupA pins s τ H _ v vl vu lo hi sl Q I rx hs pl pu ⟨a1, ws, rfl, t1.sq, fun hc => ?_, fun _ => lay_tup r (rs1.cut lo hi) p⟩
    have e : cutL vs lo hi = vs := by
      unfold cutL
      rw [rs1.length, hc.1, hc.2, ← rs1.length]; simp
    rw [e] at p
    exact p.at r _ (.tup t1 rs1)
  | str z =>
    dsimp only at p
    split at p
    · exact sl_str pins s τ H _ v vl vu lo hi sl Q I rx hs pl pu ⟨z, rfl, by assumption, p.at r _ (.str _)⟩
    · exact p.elim
  | @ref n a1 q1 =>
    obtain ⟨o, ho, ro⟩ := r.obj q1
    dsimp only at p
    rw [ho] at p
    cases o with
    | lst vs => obtain ⟨ws, g1, g2⟩ := ro; exact sl_list pins s τ H _ v vl vu lo hi sl Q I rx hs pl pu ⟨a1, ws, rfl, .inl (.inl g1), lay_lst r (g2.cut lo hi) p⟩
    | fro vs => obtain ⟨ob, ws, g1, g2⟩ := ro; exact sl_list pins s τ H _ v vl vu lo hi sl Q I rx hs pl pu ⟨a1, ws, rfl, .inl (.inr ⟨ob, g1⟩), lay_lst r (g2.cut lo hi) p⟩
    | _ => exact p.elim
  | _ => exact p.elim
theorem p_no : PO X none (tMP (gm X) W mpNo) := ⟨fun pins s τ H Q I ⟨μ, σ, h, l, r, p⟩ => po_none.run pins s τ H Q I (p.at r)⟩
theorem p_e (he : CE X W e ma) : PO X (some e) (tMP (gm X) W (mpE ma)) := ⟨fun pins s τ H Q I ⟨μ, σ, h, l, r, p⟩ => (po_some he).run pins s τ H Q I ⟨μ, σ, h, l, r, by
  refine (Ps.bind p).imp fun x μ1 h1 H1 p1 e1 r1 q1 w rw1 => ?_
  cases rw1 with
  | int i => exact ⟨i, rfl, q1.at r1⟩
  | _ => exact q1.elim⟩⟩
theorem s_sl {lo hi : Option Expr} {ml mh : MP} {p2 : Pos} (he : CE X W e ma) (hl : PO X lo (tMP (gm X) W ml)) (hu : PO X hi (tMP (gm X) W mh)) : CE X W (.Subscript e (.Slice lo hi none p2) pos) (mSl ma ml mh) := by
  refine peI (pe_slice sl_any he hl hu) fun τ H Q ⟨μ, σ, h, l, r, p⟩ => ⟨μ, σ, h, l, r, ?_⟩
  refine (Ps.bind p).imp fun x μ1 h1 H1 p1 e1 r1 q1 w1 rw1 => ⟨μ1, σ, h1, l.mono p1 e1, r1, ?_⟩
  refine (Ps.bind q1).imp fun lo μ2 h2 H2 p2 e2 r2 q2 => ⟨μ2, σ, h2, l.mono (p1.trans p2) (e1.trans e2).et, r2, ?_⟩
  refine (Ps.bind q2).imp fun hi μ3 h3 H3 p3 e3 r3 q3 => ⟨μ3, h3, x, r3, rw1.mono (p2.trans p3) (e2.trans e3).et, ps_nv q3 fun z k => ?_⟩
  unfold vSl; (repeat' split) <;> simp
def flat : Val → Bool
  | .non => true
  | .bl _ => true
  | .int _ => true
  | .str _ => true
  | _ => false
def eqF : Val → Val → Bool
  | .non, .non => true
  | .bl a, .bl b => a == b
  | .bl a, .int b => (if a then 1 else 0) == b
  | .int a, .bl b => a == (if b then 1 else 0)
  | .int a, .int b => a == b
  | .str a, .str b => a == b
  | _, _ => false
def sign? (x : Str) : Option Nat := match x.cps.toList with
  | [c] => some c
  | _ => none
def inSeq (neg : Bool) (x : Val) (ys : List Val) (h : Hh) : Res Val := if flat x && ys.all flat then .ok (.bl (if neg then !(ys.any fun y => eqF y x) else ys.any fun y => eqF y x)) h else .no
def inDeep (neg : Bool) (x y : Val) (h : Hh) : Res Val := match toD 30 h x, toD 30 h y with
  | some d, some (.list ds) => if noD d && noDs ds && SeqAt.shaped d && SeqAt.shaped (.list ds) then .ok (.bl (if neg then !(ds.any fun z => PyData.eqv z d) else ds.any fun z => PyData.eqv z d)) h else .no
  | _, _ => .no
def vIn0 (neg : Bool) (x : Val) (kvs : List (Val × Val)) (h : Hh) : Res Val := match x with
  | .non => .ok (.bl neg) h
  | .tup vs => (match kvs with
    | [] => (match tkey (.tup vs) with | some _ => .ok (.bl neg) h | none => .no)
    | _ => .no)
  | _ => .no
def vIn (neg : Bool) (x y : Val) (h : Hh) : Res Val := match y with
  | .tup ys => inSeq neg x ys h
  | .str z => (match x with
    | .str s => (match sign? s with
      | some c => .ok (.bl (if neg then !decide (c ∈ z.cps.toList) else decide (c ∈ z.cps.toList))) h
      | none => .no)
    | _ => .no)
  | .ref n => (match h[n]? with
    | some (.lst ys) => if flat x && ys.all flat then inSeq neg x ys h else inDeep neg x y h
    | some (.fro ys) => inSeq neg x ys h
    | some (.dct kvs) => (match keyOf x with
      | some _ => .ok (.bl (if neg then !(dGet kvs x).isSome else (dGet kvs x).isSome)) h
      | none => vIn0 neg x kvs h)
    | some (.fdc kvs) => (match keyOf x with
      | some _ => .ok (.bl (if neg then !(dGet kvs x).isSome else (dGet kvs x).isSome)) h
      | none => vIn0 neg x kvs h)
    | some (.dcn kvs) => (match tkey x with
      | some k => .ok (.bl (if neg then !(nGet kvs k).isSome else (nGet kvs k).isSome)) h
      | none => .no)
    | some (.fdn kvs) => (match tkey x with
      | some k => .ok (.bl (if neg then !(nGet kvs k).isSome else (nGet kvs k).isSome)) h
      | none => .no)
    | _ => .no)
  | _ => .no
theorem nr_in {n} : ∀ x y h z k, vIn n x y h ≠ .rs z k := fun x y h z k => by unfold vIn inSeq inDeep vIn0; (repeat' split) <;> simp
theorem flat_ok {G : Gm} {μ : List Addr} {H : Hp} {v : Val} {w : V} (r : RV G μ H v w) (f : flat v = true) : flatV w = true := by cases r <;> first | rfl | cases f
theorem flats_ok {G : Gm} {μ : List Addr} {H : Hp} : ∀ {vs : List Val} {ws : List V}, RVs G μ H vs ws → vs.all flat = true → ws.all flatV = true
  | _, _, .nil, _ => rfl
  | _, _, .cons r t, f => by
    rw [List.all_cons, Bool.and_eq_true] at f ⊢
    exact ⟨flat_ok r f.1, flats_ok t f.2⟩
theorem eqF_ok {G : Gm} {μ : List Addr} {H : Hp} {v v' : Val} {w w' : V} (r : RV G μ H v w) (r' : RV G μ H v' w') (f : flat v = true) (f' : flat v' = true) : eqV w w' = eqF v v' := by
  cases r <;> cases r' <;> first | rfl | cases f | cases f'
theorem any_ok {G : Gm} {μ : List Addr} {H : Hp} {x : Val} {x' : V} (rx : RV G μ H x x') (fx : flat x = true) : ∀ {vs : List Val} {ws : List V}, RVs G μ H vs ws → vs.all flat = true → inV x' ws = vs.any fun y => eqF y x
  | _, _, .nil, _ => rfl
  | _, _, .cons r t, f => by
    rw [List.all_cons, Bool.and_eq_true] at f
    show (eqV _ x' || inV x' _) = _
    rw [List.any_cons, any_ok rx fx t f.2, eqF_ok r rx f.1 fx]
theorem in_gen {op : CmpOp} {neg : Bool} (hseq : OpR X (compareOp op) (rIn X.K neg)) (hdeep : OpR X (compareOp op) (fun x y H Q => ∃ d ds, Dp X.K H x d ∧ Dp X.K H y (.list ds) ∧ SeqAt.shaped d = true ∧ SeqAt.shaped (.list ds) = true ∧ Q (.bl (if neg then !(ds.any fun z => PyData.eqv z d) else ds.any fun z => PyData.eqv z d)) H))
    (hsign : OpR X (compareOp op) (fun x y H Q => ∃ (c : Nat) (z : Str), x = .str ⟨#[c]⟩ ∧ y = .str z ∧ Q (.bl (if neg then !decide (c ∈ z.cps.toList) else decide (c ∈ z.cps.toList))) H))
    (hd : OpR X (compareOp op) (fun x y H Q => ∃ d o, y = .ref d ∧ DGet H d x o ∧ Q (.bl (if neg then !o.isSome else o.isSome)) H))
    (hnon : ∀ (pins : List (Addr × Obj)) (s : Shared) (τ : St) (H : Hp) (Q : VK) (d : Addr) (kws : List (Key × V)), L2.Inv X pins τ H s → Rd H d (.dK kws) → Q (.bl neg) H → wpAny (model X.prog X.w) X.A (compareOp op .none (.ref d)) (EP X pins τ Q) X.xe s)
    (hnd : ∀ (pins : List (Addr × Obj)) (s : Shared) (τ : St) (H : Hp) (Q : VK) (μ : List Addr) (d b : Addr) (y : Val) (k : NestedKey) (kvs : List (Val × Val)) (xs : List (NestedKey × Addr × Value)), L2.Inv X pins τ H s → Rd H d (NDo X.w d xs) → RNs (gm X) μ H kvs xs → RV (gm X) μ H y (.ref b) → tkey y = some k → Q (.bl (if neg then !(nGet kvs k).isSome else (nGet kvs k).isSome)) H → wpAny (model X.prog X.w) X.A (compareOp op (.ref b) (.ref d)) (EP X pins τ Q) X.xe s)
    (hn0 : ∀ (pins : List (Addr × Obj)) (s : Shared) (τ : St) (H : Hp) (Q : VK) (μ : List Addr) (d b : Addr) (y : Val) (k : NestedKey), L2.Inv X pins τ H s → Rd H d (.dK []) → RV (gm X) μ H y (.ref b) → tkey y = some k → Q (.bl neg) H → wpAny (model X.prog X.w) X.A (compareOp op (.ref b) (.ref d)) (EP X pins τ Q) X.xe s) : OpR X (compareOp op) (rM2 (gm X) W0 (vIn neg)) := opr fun pins s τ H x y v u Q μ hh a b I rx ry r ra rb p => by
  have seqc : ∀ {ys : List Val} {ws : List V} {p1 : Addr}, RVs (gm X) μ H ys ws → (SqL X.K H p1 ws ∨ SqT X.K H p1 ws) → y = .ref p1 → Ps (gm X) W0 μ H (inSeq neg a ys hh) (qV (gm X) Q) → wpAny (model X.prog X.w) X.A (compareOp op v u) (EP X pins τ Q) X.xe s := fun {ys ws p1} rs sq ey p => by
    unfold inSeq at p
    split at p
    · rename_i hc
      rw [Bool.and_eq_true] at hc
      refine hseq pins s τ H x y v u Q I rx ry ⟨p1, ws, ey, sq, flat_ok ra hc.1, flats_ok rs hc.2, ?_⟩
      rw [any_ok ra hc.1 rs hc.2]
      exact p.at r _ (.bl _)
    · exact p.elim
  have dictc : ∀ {kvs : List (Val × Val)} {kws : List (Key × V)} {p1 : Addr}, RKs (gm X) μ H kvs kws → Rd H p1 (.dK kws) → y = .ref p1 → Ps (gm X) W0 μ H (match keyOf a with | some _ => .ok (.bl (if neg then !(dGet kvs a).isSome else (dGet kvs a).isSome)) hh | none => vIn0 neg a kvs hh) (qV (gm X) Q) → wpAny (model X.prog X.w) X.A (compareOp op v u) (EP X pins τ Q) X.xe s := fun {kvs kws p1} rk rd ey p => by
    cases qk : keyOf a with
    | none =>
      rw [qk] at p
      dsimp only at p
      subst ey
      cases ry
      unfold vIn0 at p
      cases ra with
      | non =>
        obtain rfl : v = Value.none := rx
        exact hnon pins s τ H Q p1 kws I rd (p.at r _ (.bl _))
      | tup t rs =>
        cases rk with
        | nil =>
          dsimp only at p
          split at p
          · rename_i k ek
            obtain rfl : v = Value.ref _ := rx
            exact hn0 pins s τ H Q μ p1 _ _ k I rd (.tup t rs) ek (p.at r _ (.bl _))
          · exact p.elim
        | cons _ _ _ => exact p.elim
      | _ => exact p.elim
    | some kk =>
      rw [qk] at p
      have ex : x = kV kk := by
        cases a with
        | int i => cases qk; cases ra; rfl
        | str i => cases qk; cases ra; rfl
        | _ => cases qk
      refine hd pins s τ H x y v u Q I rx ry ⟨p1, valV kws kk, ey, .inl ⟨kws, kk, rd, ex, rfl⟩, ?_⟩
      have e : (valV kws kk).isSome = (dGet kvs a).isSome := by
        obtain ⟨i1, i2⟩ := dGet_ok qk rk
        cases q : dGet kvs a with
        | none => rw [i2 q]; rfl
        | some z => obtain ⟨w, k1, _⟩ := i1 z q; rw [k1]; rfl
      rw [e]
      exact p.at r _ (.bl _)
  have nestc : ∀ {kvs : List (Val × Val)} {kws : List (NestedKey × Addr × Value)} {p1 : Addr}, RNs (gm X) μ H kvs kws → Rd H p1 (NDo X.w p1 kws) → y = .ref p1 → Ps (gm X) W0 μ H (match tkey a with | some k => .ok (.bl (if neg then !(nGet kvs k).isSome else (nGet kvs k).isSome)) hh | none => .no) (qV (gm X) Q) → wpAny (model X.prog X.w) X.A (compareOp op v u) (EP X pins τ Q) X.xe s := fun {kvs kws p1} rk rd ey p => by
    cases qk : tkey a with
    | none => rw [qk] at p; exact p.elim
    | some kk =>
      rw [qk] at p
      obtain ⟨b, rfl⟩ := tkey_ref qk ra
      subst ey
      cases ry
      obtain rfl : v = Value.ref b := rx
      exact hnd pins s τ H Q μ p1 b a kk kvs kws I rd rk ra qk (p.at r _ (.bl _))
  unfold vIn at p
  cases rb with
  | @tup ys ws a1 t1 rs1 => exact seqc rs1 (.inr t1.sq) rfl p
  | str z =>
    cases ra with
    | str q =>
      dsimp only at p
      cases es : sign? q with
      | none => rw [es] at p; exact p.elim
      | some c =>
        rw [es] at p
        have eq : q = ⟨#[c]⟩ := by
          unfold sign? at es
          split at es
          · rename_i c' hq
            cases es
            cases q with
            | mk cps => simp at hq; congr 1; exact Array.toList_inj.mp hq
          · cases es
        exact hsign pins s τ H _ _ v u Q I rx ry ⟨c, z, by rw [eq], rfl, p.at r _ (.bl _)⟩
    | _ => exact p.elim
  | @ref n a1 q1 =>
    obtain ⟨o, ho, ro⟩ := r.obj q1
    dsimp only at p
    rw [ho] at p
    cases o with
    | lst vs =>
      obtain ⟨ws, g1, g2⟩ := ro
      dsimp only at p
      split at p
      · exact seqc g2 (.inl (.inl (.inl g1))) rfl p
      · unfold inDeep at p
        cases e1 : toD 30 hh a with
        | none => rw [e1] at p; exact p.elim
        | some d =>
          cases e2 : toD 30 hh (.ref n) with
          | none => rw [e1, e2] at p; exact p.elim
          | some dl =>
            rw [e1, e2] at p
            cases dl with
            | list ds =>
              dsimp only at p
              split at p
              · rename_i hc
                simp only [Bool.and_eq_true] at hc
                exact hdeep pins s τ H _ _ v u Q I rx ry ⟨d, ds, toD_dp r 30 ra e1 hc.1.1.1, toD_dp r 30 (.ref q1) e2 (by simpa [noD] using hc.1.1.2), hc.1.2, hc.2, p.at r _ (.bl _)⟩
              · exact p.elim
            | _ => exact p.elim
    | fro vs => obtain ⟨ob, ws, g1, g2⟩ := ro; exact seqc g2 (.inl (.inl (.inr ⟨ob, g1⟩))) rfl p
    | dct kvs => obtain ⟨kws, g1, g2⟩ := ro; exact dictc g2 (.inl g1) rfl p
    | fdc kvs => obtain ⟨ob, kws, g1, g2⟩ := ro; exact dictc g2 (.inr ⟨ob, g1⟩) rfl p
    | dcn kvs => obtain ⟨kws, g1, g2⟩ := ro; exact nestc g2 (.inl g1) rfl p
    | fdn kvs => obtain ⟨ob, kws, g1, g2⟩ := ro; exact nestc g2 (.inr ⟨ob, g1⟩) rfl p
    | ins C fs => exact p.elim
    | exc _ _ => exact p.elim
    | xdo _ _ => exact p.elim
  | _ => exact p.elim
theorem o_in (h1 : X.A.units + 1 < cLine) (hu : X.A.units + 65 < cLine) : OpR X (compareOp .In) (rM2 (gm X) W0 (vIn false)) :=
  in_gen op_in_seq (op_inD hu) op_in_sign (fun pins s σ H x y v u Q I rx ry ⟨d, o, ey, g, q⟩ => by subst ey; cases ry; exact d_in h1 I g rx fun s' I' => ⟨.bl o.isSome, H, I', rfl, q⟩)
    (fun pins s τ H Q d kws I rd q => d_inNone I rd fun s' I' => ⟨.bl false, H, I', rfl, q⟩)
    (fun pins s τ H Q μ d b y k kvs xs I rd rk ry hk q => nd_in (by omega) I rd rk ry hk fun s' I' => ⟨.bl (nGet kvs k).isSome, H, I', rfl, q⟩)
    (fun pins s τ H Q μ d b y k I rd ry hk q => nd0_in (by omega) I rd ry hk fun s' I' => ⟨.bl false, H, I', rfl, q⟩)
theorem o_notIn (h1 : X.A.units + 1 < cLine) (hu : X.A.units + 65 < cLine) : OpR X (compareOp .NotIn) (rM2 (gm X) W0 (vIn true)) :=
  in_gen op_notIn_seq (op_notInD hu) op_notIn_sign (fun pins s σ H x y v u Q I rx ry ⟨d, o, ey, g, q⟩ => by subst ey; cases ry; exact d_notIn h1 I g rx fun s' I' => ⟨.bl (!o.isSome), H, I', rfl, q⟩)
    (fun pins s τ H Q d kws I rd q => d_notInNone I rd fun s' I' => ⟨.bl true, H, I', rfl, q⟩)
    (fun pins s τ H Q μ d b y k kvs xs I rd rk ry hk q => nd_notIn (by omega) I rd rk ry hk fun s' I' => ⟨.bl (!(nGet kvs k).isSome), H, I', rfl, q⟩)
    (fun pins s τ H Q μ d b y k I rd ry hk q => nd0_notIn (by omega) I rd ry hk fun s' I' => ⟨.bl true, H, I', rfl, q⟩)
end
end U
namespace U
open PySem L2
def vSet (o i v : Val) (h : Hh) : Option Hh := match o with
  | .ref n => (match h[n]? with
    | some (.dct kvs) => (match keyOf i with
      | some _ => if kvs.length < sizeLine then some (h.set n (.dct (dPut kvs i v))) else none
      | none => (match kvs with
        | [] => (match tkey i with | some _ => some (h.set n (.dcn [(i, v)])) | none => none)
        | _ => none))
    | some (.dcn kvs) => (match tkey i with
      | some k => if kvs.length < sizeLine then some (h.set n (.dcn (nPut kvs i k v))) else none
      | none => none)
    | some (.lst vs) => (match i with
      | .int k => (match ixN vs.length k with | some j => some (h.set n (.lst (vs.set j v))) | none => none)
      | _ => none)
    | _ => none)
  | _ => none
def mgSub (mo mi : ME) : MG := fun v σ h => match mo σ h with
  | .ok o h1 => (match mi σ h1 with
    | .ok i h2 => (match vSet o i v h2 with
      | some h3 => .nx σ h3
      | none => .no)
    | _ => .no)
  | _ => .no
theorem plain_sub (mo mi : ME) : Plain (mgSub mo mi) := fun v σ h => by
  unfold mgSub
  (repeat' split) <;> first | exact .inl ⟨_, _, rfl⟩ | exact .inr rfl
section
variable {X : Cx} {W : WX} {k : Nat} {o i e : Expr} {mo mi ma : ME} {mm : MA} {es : List Expr} {pos apos cpos p : Pos} {x : Str}
theorem set_any (hu : X.A.units + 1 < cLine) (hu64 : X.A.units + 64 < cLine) : PSet X (fun o i v H Q => ∃ μ h a b c h', HR (gm X) μ h H ∧ RV (gm X) μ H a o ∧ RV (gm X) μ H b i ∧ RV (gm X) μ H c v ∧ vSet a b c h = some h' ∧ ∀ H', Ex H H' → HR (gm X) μ h' H' → Q H') := by
  intro pins s τ H o i v ov iv u Q I ro ri rv ⟨μ, hh, a, b, c, h', r, ra, rb, rc, e, q⟩
  unfold vSet at e
  cases ra with
  | @ref n a1 q1 =>
    obtain ⟨ob, ho, rob⟩ := r.obj q1
    dsimp only at e
    rw [ho] at e
    cases ob with
    | dct kvs =>
      obtain ⟨kws, g1, g2⟩ := rob
      dsimp only at e
      cases qk : keyOf b with
      | none =>
        rw [qk] at e
        cases g2 with
        | cons _ _ _ => cases e
        | nil =>
          dsimp only at e
          cases ek : tkey b with
          | none => rw [ek] at e; cases e
          | some kk =>
            rw [ek] at e
            cases e
            obtain ⟨bb, rfl⟩ := tkey_ref ek rb
            cases ro; cases ri
            have ex : Ex H (upd H a1 (NDo X.w a1 [(kk, bb, u)])) := Ex.put g1 (fun _ z => nomatch z) fun _ _ z => nomatch z
            exact nd0_setItem hu64 I g1 rb ek fun s' I' => ⟨_, I', q _ ex (r.put q1 g1 (fun _ z => nomatch z) ⟨_, upd_same, RNs.mono (List.prefix_refl _) ex.et (.cons ek rb rv rc .nil)⟩)⟩
      | some kk =>
        rw [qk] at e
        dsimp only at e
        split at e
        · rename_i hl
          cases e
          have ei : i = kV kk := by
            cases b with
            | int i => cases qk; cases rb; rfl
            | str i => cases qk; cases rb; rfl
            | _ => cases qk
          cases ro
          have ex : Ex H (upd H a1 (.dK (putK kws kk v))) := Ex.put g1 (fun _ z => nomatch z) fun _ _ z => nomatch z
          refine d_setItem hu I (.inl ⟨kws, kk, g1, ei, by rw [← g2.length]; exact hl, rfl⟩) ri rv fun s' I' => ⟨_, I', q _ ex (r.put q1 g1 (fun _ z => nomatch z) ⟨_, upd_same, (dPut_ok qk rc g2).mono (List.prefix_refl _) ex⟩)⟩
        · cases e
    | lst vs =>
      obtain ⟨ws, g1, g2⟩ := rob
      cases rb with
      | int kk =>
        dsimp only at e
        cases qj : ixN vs.length kk with
        | none => rw [qj] at e; cases e
        | some j =>
          rw [qj] at e
          cases e
          have ex : Ex H (upd H a1 (.lst (ws.set j v))) := Ex.put g1 (fun _ z => nomatch z) fun _ _ z => nomatch z
          exact set_list pins s τ H _ _ _ ov iv u Q I ro ri rv ⟨a1, ws, kk, j, rfl, rfl, g1, by rw [← g2.length]; exact qj, q _ ex (r.put q1 g1 (fun _ z => nomatch z) ⟨_, upd_same, (g2.set rc j).mono (List.prefix_refl _) ex⟩)⟩
      | _ => cases e
    | dcn kvs =>
      obtain ⟨kws, g1, g2⟩ := rob
      dsimp only at e
      cases ek : tkey b with
      | none => rw [ek] at e; cases e
      | some kk =>
        rw [ek] at e
        dsimp only at e
        split at e
        · rename_i hl
          cases e
          obtain ⟨bb, rfl⟩ := tkey_ref ek rb
          cases ro; cases ri
          have ex : Ex H (upd H a1 (NDo X.w a1 (storedH kws kk bb u))) := Ex.put g1 (fun _ z => nomatch z) fun _ _ z => nomatch z
          exact nd_setItem hu64 I g1 g2 hl rb ek fun s' I' => ⟨_, I', q _ ex (r.put q1 g1 (fun _ z => nomatch z) ⟨_, upd_same, (nPut_ok g2 ek rb rv rc).mono (List.prefix_refl _) ex.et⟩)⟩
        · cases e
    | _ => cases e
  | _ => cases e
theorem g_sub (c : Cok X W k) (ho : CE X WN o mo) (hi : CE X WN i mi) (ha : ∀ v, assign (.Subscript o i pos) X.env v = (do
      let ov ← holding [v] (eval o X.env)
      let iv ← holding [v, ov] (eval i X.env)
      standAt pos
      holding [v, ov, iv] (setItem ov iv v)
      release [v, ov, iv] []) := by intro _; rfl) : CG X (.Subscript o i pos) (mgSub mo mi) := by
  refine pgI (pg_sub ho hi (set_any c.hu c.u64) ha) fun w τ H Q ⟨μ, σ, h, v, l, r, rv, p⟩ => ⟨μ, σ, h, l, r, ?_⟩
  unfold mgSub at p
  cases e1 : mo σ h with
  | no => rw [e1] at p; exact p.elim
  | rs x h1 => rw [e1] at p; exact p.elim
  | ok a h1 =>
    rw [e1] at p
    dsimp only at p
    intro μ1 H1 p1 x1 r1 w1 rw1
    refine ⟨μ1, σ, h1, l.mono p1 x1, r1, ?_⟩
    cases e2 : mi σ h1 with
    | no => rw [e2] at p; exact p.elim
    | rs x h1 => rw [e2] at p; exact p.elim
    | ok b h2 =>
      rw [e2] at p
      dsimp only at p
      intro μ2 H2 p2 x2 r2 w2 rw2
      cases e3 : vSet a b v h2 with
      | none => rw [e3] at p; exact p.elim
      | some h3 =>
        rw [e3] at p
        exact ⟨μ2, h2, a, b, v, h3, r2, rw1.mono p2 x2, rw2, rv.mono (p1.trans p2) (x1.trans x2).et, e3, fun H' ex rr => p μ2 H' τ (p1.trans p2) ((x1.trans x2).trans ex) rr (l.mono (p1.trans p2) ((x1.trans x2).trans ex).et)⟩
theorem s_blt {id : String} {F : Fn} (hc : CallR X (.builtin id) (rMs (gm X) W0 F)) (hn : ∀ vs h z k, F vs h ≠ .rs z k) (hm : X.mg x = none) (hv : bootBuiltins x = some (.builtin id)) (ha : CA X W (e :: es) mm) (hg : Gl X x := by rfl) (hnn : x ≠ "__name__" := by decide) (hdb : (x == ("__debug__" : Str)) = false := by decide)
    (he : starEach (e :: es) X.env = (false, eval e X.env) :: starEach es X.env := by rfl) (hpl : (backTo pos (starEach es X.env)).any (·.1) = false := by rfl) : CE X W (.Call (.Name x p) (e :: es) [] pos) (mApp F mm) := by
  refine peI (pe_callB hc hg hm hv ha hnn hdb he hpl) fun τ H Q ⟨μ, σ, h, l, r, p⟩ => ⟨μ, σ, h, l, r, ?_⟩
  exact (Ps.bind p).imp fun xs μ1 h1 H1 p1 e1 r1 q1 ws rws => ⟨μ1, h1, xs, r1, rws, ps_nv q1 (hn xs h1)⟩
theorem s_typ {T : String} {F : Fn} (hc : CallR X (.type T) (rMs (gm X) W0 F)) (hn : ∀ vs h z k, F vs h ≠ .rs z k) (hm : X.mg x = none) (hv : bootBuiltins x = some (.type T)) (ha : CA X W (e :: es) mm) (hg : Gl X x := by rfl) (hnn : x ≠ "__name__" := by decide) (hdb : (x == ("__debug__" : Str)) = false := by decide)
    (he : starEach (e :: es) X.env = (false, eval e X.env) :: starEach es X.env := by rfl) (hpl : (backTo pos (starEach es X.env)).any (·.1) = false := by rfl) : CE X W (.Call (.Name x p) (e :: es) [] pos) (mApp F mm) := by
  refine peI (pe_callTy hc hg hm hv ha hnn hdb he hpl) fun τ H Q ⟨μ, σ, h, l, r, p⟩ => ⟨μ, σ, h, l, r, ?_⟩
  exact (Ps.bind p).imp fun xs μ1 h1 H1 p1 e1 r1 q1 ws rws => ⟨μ1, h1, xs, r1, rws, ps_nv q1 (hn xs h1)⟩
theorem cr1 {f : Value} {F : Fn} (h : ∀ (pins : List (Addr × Obj)) (s : Shared) (τ : St) (H : Hp) (x : V) (us : List Value) (Q : VK) (μ : List Addr) (hh : Hh) (a : Val), L2.Inv X pins τ H s → Vals [x] us → HR (gm X) μ hh H → RV (gm X) μ H a x → Ps (gm X) W0 μ H (F [a] hh) (qV (gm X) Q) →
    wpAny (model X.prog X.w) X.A (call f us) (EP X pins τ Q) X.xe s) (h0 : ∀ hh, F [] hh = .no) (h2 : ∀ a b c hh, F (a :: b :: c) hh = .no) : CallR X f (rMs (gm X) W0 F) := fun pins s τ H xs us Q I rx ⟨μ, hh, vs, r, rv, p⟩ => by
  cases rv with
  | nil => rw [h0] at p; exact p.elim
  | cons a t =>
    cases t with
    | nil => exact h pins s τ H _ us Q μ hh _ I rx r a p
    | cons b t => rw [h2] at p; exact p.elim
theorem cr2 {f : Value} {F : Fn} (h : ∀ (pins : List (Addr × Obj)) (s : Shared) (τ : St) (H : Hp) (x y : V) (us : List Value) (Q : VK) (μ : List Addr) (hh : Hh) (a b : Val), L2.Inv X pins τ H s → Vals [x, y] us → HR (gm X) μ hh H → RV (gm X) μ H a x → RV (gm X) μ H b y → Ps (gm X) W0 μ H (F [a, b] hh) (qV (gm X) Q) →
    wpAny (model X.prog X.w) X.A (call f us) (EP X pins τ Q) X.xe s) (h0 : ∀ hh, F [] hh = .no) (h1 : ∀ a hh, F [a] hh = .no) (h2 : ∀ a b c d hh, F (a :: b :: c :: d) hh = .no) : CallR X f (rMs (gm X) W0 F) := fun pins s τ H xs us Q I rx ⟨μ, hh, vs, r, rv, p⟩ => by
  cases rv with
  | nil => rw [h0] at p; exact p.elim
  | cons a t =>
    cases t with
    | nil => rw [h1] at p; exact p.elim
    | cons b t =>
      cases t with
      | nil => exact h pins s τ H _ _ us Q μ hh _ _ I rx r a b p
      | cons c t => rw [h2] at p; exact p.elim
def vLen : Fn := fun vs h => match vs with
  | [.str z] => if z.length ≤ sizeLine then .ok (.int (z.length : Nat)) h else .no
  | [.tup ws] => .ok (.int (ws.length : Nat)) h
  | [.ref n] => (match h[n]? with
    | some (.lst ws) => .ok (.int (ws.length : Nat)) h
    | some (.fro ws) => .ok (.int (ws.length : Nat)) h
    | some (.dct ws) => .ok (.int (ws.length : Nat)) h
    | _ => .no)
  | _ => .no
theorem nr_len : ∀ vs h z k, vLen vs h ≠ .rs z k := fun x h z k => by unfold vLen; (repeat' split) <;> simp
theorem c_len : CallR X (.builtin "len") (rMs (gm X) W0 vLen) := cr1 (fun pins s τ H x us Q μ hh a I rx r ra p => by
  unfold vLen at p
  cases ra with
  | str z =>
    dsimp only at p
    split at p
    · exact call_len pins s τ H _ us Q I rx ⟨_, _, rfl, ⟨by assumption, rfl⟩, p.at r _ (.int _)⟩
    · exact p.elim
  | @tup vs ws a1 t1 rs1 => exact call_len pins s τ H _ us Q I rx ⟨_, _, rfl, .inr ⟨ws, t1.sq, rfl⟩, by rw [← rs1.length]; exact p.at r _ (.int _)⟩
  | @ref n a1 q1 =>
    obtain ⟨o, ho, ro⟩ := r.obj q1
    dsimp only at p
    rw [ho] at p
    cases o with
    | lst vs => obtain ⟨ws, g1, g2⟩ := ro; exact call_len pins s τ H _ us Q I rx ⟨_, _, rfl, .inl ⟨ws, .inl (.inl g1), rfl⟩, by rw [← g2.length]; exact p.at r _ (.int _)⟩
    | fro vs => obtain ⟨ob, ws, g1, g2⟩ := ro; exact call_len pins s τ H _ us Q I rx ⟨_, _, rfl, .inl ⟨ws, .inl (.inr ⟨ob, g1⟩), rfl⟩, by rw [← g2.length]; exact p.at r _ (.int _)⟩
    | dct vs => obtain ⟨ws, g1, g2⟩ := ro; exact call_lenD pins s τ H _ us Q I rx ⟨a1, ws, rfl, g1, by rw [← g2.length]; exact p.at r _ (.int _)⟩
    | _ => exact p.elim
  | _ => exact p.elim) (fun _ => rfl) (fun a _ _ _ => by cases a <;> rfl)
def vAbs : Fn := fun vs h => match vs with
  | [.int i] => .ok (.int (if i < 0 then -i else i)) h
  | _ => .no
theorem nr_abs : ∀ vs h z k, vAbs vs h ≠ .rs z k := fun x h z k => by unfold vAbs; (repeat' split) <;> simp
theorem c_abs : CallR X (.builtin "abs") (rMs (gm X) W0 vAbs) := cr1 (fun pins s τ H x us Q μ hh a I rx r ra p => by
  cases ra with
  | int i => exact call_abs pins s τ H _ us Q I rx ⟨i, rfl, p.at r _ (.int _)⟩
  | _ => exact p.elim) (fun _ => rfl) (fun a _ _ _ => by cases a <;> rfl)
def vInt : Fn := fun vs h => match vs with
  | [.int i] => .ok (.int i) h
  | [.bl b] => .ok (.int (if b then 1 else 0)) h
  | _ => .no
theorem nr_int : ∀ vs h z k, vInt vs h ≠ .rs z k := fun x h z k => by unfold vInt; (repeat' split) <;> simp
theorem c_int : CallR X (.type "int") (rMs (gm X) W0 vInt) := cr1 (fun pins s τ H x us Q μ hh a I rx r ra p => by
  cases ra with
  | int i => exact call_int1 pins s τ H _ us Q I rx (.inl ⟨i, rfl, p.at r _ (.int _)⟩)
  | bl b => exact call_int1 pins s τ H _ us Q I rx (.inr ⟨b, rfl, p.at r _ (.int _)⟩)
  | _ => exact p.elim) (fun _ => rfl) (fun a _ _ _ => by cases a <;> rfl)
def vMin : Fn := fun vs h => match vs with
  | [.int i, .int j] => .ok (.int (if j < i then j else i)) h
  | _ => .no
theorem nr_min : ∀ vs h z k, vMin vs h ≠ .rs z k := fun x h z k => by unfold vMin; (repeat' split) <;> simp
theorem c_min (hc : X.calm = true) : CallR X (.builtin "min") (rMs (gm X) W0 vMin) := cr2 (fun pins s τ H x y us Q μ hh a b I rx r ra rb p => by
  cases ra with
  | int i =>
    cases rb with
    | int j => exact call_min2 hc pins s τ H _ us Q I rx ⟨i, j, rfl, p.at r _ (.int _)⟩
    | _ => exact p.elim
  | _ => cases rb <;> exact p.elim) (fun _ => rfl) (fun a _ => by cases a <;> rfl) (fun a b _ _ _ => by cases a <;> cases b <;> rfl)
def vDm : Fn := fun vs h => match vs with
  | [.int i, .int j] => if 0 < j ∧ j < 1073741824 then .ok (.tup [.int (i / j), .int (i % j)]) h else .no
  | _ => .no
theorem nr_dm : ∀ vs h z k, vDm vs h ≠ .rs z k := fun x h z k => by unfold vDm; (repeat' split) <;> simp
theorem c_dm : CallR X (.builtin "divmod") (rMs (gm X) W0 vDm) := cr2 (fun pins s τ H x y us Q μ hh a b I rx r ra rb p => by
  cases ra with
  | int i =>
    cases rb with
    | int j =>
      unfold vDm at p; dsimp only at p
      split at p
      · exact call_divmod pins s τ H _ us Q I rx ⟨i, j, rfl, by assumption, lay_tup r (.cons (.int _) (.cons (.int _) .nil)) p⟩
      · exact p.elim
    | _ => exact p.elim
  | _ => cases rb <;> exact p.elim) (fun _ => rfl) (fun a _ => by cases a <;> rfl) (fun a b _ _ _ => by cases a <;> cases b <;> rfl)
def keysV (kvs : List (Val × Val)) : List Val := kvs.map (·.1)
def vList : Fn := fun vs h => match vs with
  | [.tup ws] => .ok (.ref h.length) (h ++ [.lst ws])
  | [.ref n] => (match h[n]? with
    | some (.lst ws) => .ok (.ref h.length) (h ++ [.lst ws])
    | some (.fro ws) => .ok (.ref h.length) (h ++ [.lst ws])
    | some (.dct kvs) => .ok (.ref h.length) (h ++ [.lst (keysV kvs)])
    | some (.fdc kvs) => .ok (.ref h.length) (h ++ [.lst (keysV kvs)])
    | _ => .no)
  | _ => .no
theorem nr_list : ∀ vs h z k, vList vs h ≠ .rs z k := fun x h z k => by unfold vList; (repeat' split) <;> simp
theorem RKs.keys {G : Gm} {μ : List Addr} {H : Hp} : ∀ {kvs : List (Val × Val)} {kws : List (Key × V)}, RKs G μ H kvs kws → RVs G μ H (keysV kvs) (kws.map fun kv => kV kv.1)
  | _, _, .nil => .nil
  | _, _, .cons q r t => .cons (rv_key q) (RKs.keys t)
theorem RKs.vals {G : Gm} {μ : List Addr} {H : Hp} : ∀ {kvs : List (Val × Val)} {kws : List (Key × V)}, RKs G μ H kvs kws → RVs G μ H (kvs.map (·.2)) (kws.map (·.2))
  | _, _, .nil => .nil
  | _, _, .cons q r t => .cons r (RKs.vals t)
theorem c_list (hc : X.calm = true) : CallR X (.type "list") (rMs (gm X) W0 vList) := cr1 (fun pins s τ H x us Q μ hh a I rx r ra p => by
  unfold vList at p
  cases ra with
  | @tup vs ws a1 t1 rs1 => exact call_list_of pins s τ H _ us Q I rx ⟨a1, ws, rfl, .inr t1.sq, lay_lst r rs1 p⟩
  | @ref n a1 q1 =>
    obtain ⟨o, ho, ro⟩ := r.obj q1
    dsimp only at p
    rw [ho] at p
    cases o with
    | lst vs => obtain ⟨ws, g1, g2⟩ := ro; exact call_list_of pins s τ H _ us Q I rx ⟨a1, ws, rfl, .inl (.inl (.inl g1)), lay_lst r g2 p⟩
    | fro vs => obtain ⟨ob, ws, g1, g2⟩ := ro; exact call_list_of pins s τ H _ us Q I rx ⟨a1, ws, rfl, .inl (.inl (.inr ⟨ob, g1⟩)), lay_lst r g2 p⟩
    | dct vs => obtain ⟨ws, g1, g2⟩ := ro; exact call_listD hc pins s τ H _ us Q I rx ⟨a1, ws, rfl, .inl g1, lay_lst r g2.keys p⟩
    | fdc vs => obtain ⟨ob, ws, g1, g2⟩ := ro; exact call_listD hc pins s τ H _ us Q I rx ⟨a1, ws, rfl, .inr ⟨ob, g1⟩, lay_lst r g2.keys p⟩
    | _ => exact p.elim
  | _ => exact p.elim) (fun _ => rfl) (fun a _ _ _ => by cases a <;> rfl)
def vTuple : Fn := fun vs h => match vs with
  | [.tup ws] => .ok (.tup ws) h
  | [.ref n] => (match h[n]? with
    | some (.lst ws) => .ok (.tup ws) h
    | some (.fro ws) => .ok (.tup ws) h
    | _ => .no)
  | _ => .no
theorem nr_tuple : ∀ vs h z k, vTuple vs h ≠ .rs z k := fun x h z k => by unfold vTuple; (repeat' split) <;> simp
theorem c_tuple : CallR X (.type "tuple") (rMs (gm X) W0 vTuple) := cr1 (fun pins s τ H x us Q μ hh a I rx r ra p => by
  unfold vTuple at p
  cases ra with
  | @tup vs ws a1 t1 rs1 => exact call_tuple_of pins s τ H _ us Q I rx ⟨a1, ws, rfl, .inr ⟨t1.sq, p.at r _ (.tup t1 rs1)⟩⟩
  | @ref n a1 q1 =>
    obtain ⟨o, ho, ro⟩ := r.obj q1
    dsimp only at p
    rw [ho] at p
    cases o with
    | lst vs => obtain ⟨ws, g1, g2⟩ := ro; exact call_tuple_of pins s τ H _ us Q I rx ⟨a1, ws, rfl, .inl ⟨.inl (.inl g1), lay_tup r g2 p⟩⟩
    | fro vs => obtain ⟨ob, ws, g1, g2⟩ := ro; exact call_tuple_of pins s τ H _ us Q I rx ⟨a1, ws, rfl, .inl ⟨.inl (.inr ⟨ob, g1⟩), lay_tup r g2 p⟩⟩
    | _ => exact p.elim
  | _ => exact p.elim) (fun _ => rfl) (fun a _ _ _ => by cases a <;> rfl)
def intsOf : List Val → Option (List Int)
  | [] => some []
  | .int i :: r => (intsOf r).map (i :: ·)
  | _ => none
def blsOf : List Val → Option (List Bool)
  | [] => some []
  | .bl i :: r => (blsOf r).map (i :: ·)
  | _ => none
theorem intsOf_ok : ∀ {vs : List Val} {ns : List Int}, intsOf vs = some ns → vs = ns.map Val.int
  | [], ns, e => by cases e; rfl
  | .int i :: r, ns, e => by
    unfold intsOf at e
    cases q : intsOf r with
    | none => rw [q] at e; cases e
    | some ms => rw [q] at e; cases e; rw [intsOf_ok q]; rfl
  | .non :: _, _, e => by cases e
  | .bl _ :: _, _, e => by cases e
  | .str _ :: _, _, e => by cases e
  | .tup _ :: _, _, e => by cases e
  | .ref _ :: _, _, e => by cases e
  | .ty _ :: _, _, e => by cases e
  | .gl _ :: _, _, e => by cases e
theorem blsOf_ok : ∀ {vs : List Val} {ns : List Bool}, blsOf vs = some ns → vs = ns.map Val.bl
  | [], ns, e => by cases e; rfl
  | .bl i :: r, ns, e => by
    unfold blsOf at e
    cases q : blsOf r with
    | none => rw [q] at e; cases e
    | some ms => rw [q] at e; cases e; rw [blsOf_ok q]; rfl
  | .non :: _, _, e => by cases e
  | .int _ :: _, _, e => by cases e
  | .str _ :: _, _, e => by cases e
  | .tup _ :: _, _, e => by cases e
  | .ref _ :: _, _, e => by cases e
  | .ty _ :: _, _, e => by cases e
  | .gl _ :: _, _, e => by cases e
@[simp] theorem intsOf_map (ns : List Int) : intsOf (ns.map Val.int) = some ns := by
  induction ns with
  | nil => rfl
  | cons n ns ih => simp [intsOf, ih]
@[simp] theorem blsOf_map (ns : List Bool) : blsOf (ns.map Val.bl) = some ns := by
  induction ns with
  | nil => rfl
  | cons n ns ih => simp [blsOf, ih]
def vSum : Fn := fun vs h => match vs with
  | [.ref n] => (match h[n]? with
    | some (.lst ws) => (match intsOf ws with | some ns => .ok (.int ns.sum) h | none => .no)
    | _ => .no)
  | _ => .no
theorem nr_sum : ∀ vs h z k, vSum vs h ≠ .rs z k := fun x h z k => by unfold vSum; (repeat' split) <;> simp
theorem c_sum (hc : X.calm = true) : CallR X (.builtin "sum") (rMs (gm X) W0 vSum) := cr1 (fun pins s τ H x us Q μ hh a I rx r ra p => by
  unfold vSum at p
  cases ra with
  | @ref n a1 q1 =>
    obtain ⟨o, ho, ro⟩ := r.obj q1
    dsimp only at p
    rw [ho] at p
    cases o with
    | lst vs =>
      obtain ⟨ws, g1, g2⟩ := ro
      dsimp only at p
      cases q : intsOf vs with
      | none => rw [q] at p; exact p.elim
      | some ns =>
        rw [q] at p
        rw [intsOf_ok q] at g2
        exact cr_sum hc pins s τ H _ us Q I rx ⟨a1, ns, rfl, by rw [← g2.ints]; exact .inl (.inl g1), p.at r _ (.int _)⟩
    | _ => exact p.elim
  | _ => exact p.elim) (fun _ => rfl) (fun a _ _ _ => by cases a <;> rfl)
def vAll : Fn := fun vs h => match vs with
  | [.ref n] => (match h[n]? with
    | some (.lst ws) => (match blsOf ws with | some ns => .ok (.bl (ns.all id)) h | none => .no)
    | _ => .no)
  | _ => .no
theorem nr_all : ∀ vs h z k, vAll vs h ≠ .rs z k := fun x h z k => by unfold vAll; (repeat' split) <;> simp
theorem c_all (hc : X.calm = true) : CallR X (.builtin "all") (rMs (gm X) W0 vAll) := cr1 (fun pins s τ H x us Q μ hh a I rx r ra p => by
  unfold vAll at p
  cases ra with
  | @ref n a1 q1 =>
    obtain ⟨o, ho, ro⟩ := r.obj q1
    dsimp only at p
    rw [ho] at p
    cases o with
    | lst vs =>
      obtain ⟨ws, g1, g2⟩ := ro
      dsimp only at p
      cases q : blsOf vs with
      | none => rw [q] at p; exact p.elim
      | some ns =>
        rw [q] at p
        rw [blsOf_ok q] at g2
        exact cr_all hc pins s τ H _ us Q I rx ⟨a1, ns, rfl, by rw [← g2.bls]; exact .inl (.inl g1), p.at r _ (.bl _)⟩
    | _ => exact p.elim
  | _ => exact p.elim) (fun _ => rfl) (fun a _ _ _ => by cases a <;> rfl)
def isT (T : String) (v : Val) (h : Hh) : Bool := match v with
  | .str _ => T == "str"
  | .ref n => (match h[n]? with
    | some (.lst _) => T == "list"
    | some (.fro _) => T == "list"
    | some (.dct _) => T == "dict"
    | _ => false)
  | _ => false
theorem isT_ok {G : Gm} {μ : List Addr} {h : Hh} {H : Hp} {T : String} {v : Val} {w : V} (r : HR G μ h H) (rv : RV G μ H v w) (e : isT T v h = true) : tyV G.K T w H := by
  unfold isT at e
  cases rv with
  | str x => exact beq_iff_eq.mp e
  | @ref n a q =>
    obtain ⟨o, ho, ro⟩ := r.obj q
    dsimp only at e
    rw [ho] at e
    cases o with
    | lst vs => obtain ⟨ws, g1, g2⟩ := ro; exact .inl ⟨beq_iff_eq.mp e, ws, .inl (.inl g1)⟩
    | fro vs => obtain ⟨ob, ws, g1, g2⟩ := ro; exact .inl ⟨beq_iff_eq.mp e, ws, .inl (.inr ⟨ob, g1⟩)⟩
    | dct vs => obtain ⟨ws, g1, g2⟩ := ro; exact .inr (.inr (.inl ⟨beq_iff_eq.mp e, .inl ⟨ws, g1⟩⟩))
    | _ => cases e
  | _ => cases e
def mMt (T : String) (f : Fn) (a : ME) (m : MA) : ME := fun σ h => (a σ h).bind fun x h1 => if isT T x h1 = true then (m σ h1).bind fun xs h2 => f (x :: xs) h2 else .no
def rMm (G : Gm) (f : Fn) : V → List V → Hp → VK → Prop := fun x' xs' H Q => ∃ μ h x xs, HR G μ h H ∧ RV G μ H x x' ∧ RVs G μ H xs xs' ∧ Ps G W0 μ H (f (x :: xs) h) (qV G Q)
theorem s_mt {T id : String} {name : Str} {f : Fn} (pa : PlainAttrs T) (slot : Slot T name id) (hty : typeOf (.builtin id) = pure (.type "method_descriptor")) (hm : MtR X id (rMm (gm X) f)) (hn : ∀ vs h z k, f vs h ≠ .rs z k) (ho : CE X W o mo) (ha : CA X W (e :: es) mm)
    (hbase : attributeBase o name X.env (eval o X.env) = eval o X.env := by rfl)
    (hfew : ((backTo cpos (starEach (e :: es) X.env)).all (fun x => !x.1) && (backToKw cpos (keywordEach [] X.env)).all (fun x => x.1.isSome)
      && decide ((e :: es).length + ([] : List Keyword).length + (if ([] : List Keyword).isEmpty then 0 else 1) < 30)) = true := by rfl)
    (hline : (apos.endLine == cpos.line) = true := by rfl) (hs : starEach (e :: es) X.env = (false, eval e X.env) :: starEach es X.env := by rfl) (hplain : (backTo cpos (starEach es X.env)).any (·.1) = false := by rfl) :
    CE X W (.Call (.Attribute o name apos) (e :: es) [] cpos) (mMt T f mo mm) := by
  refine peI (pe_bm pa slot hty hm ho ha hbase hfew hline hs hplain) fun τ H Q ⟨μ, σ, h, l, r, p⟩ => ⟨μ, σ, h, l, r, ?_⟩
  refine (Ps.bind p).imp fun x μ1 h1 H1 p1 e1 r1 q1 w1 rw1 => ?_
  split at q1
  · rename_i ht
    refine ⟨isT_ok r1 rw1 ht, μ1, σ, h1, l.mono p1 e1, r1, ?_⟩
    exact (Ps.bind q1).imp fun xs μ2 h2 H2 p2 e2 r2 q2 ws rws => ⟨μ2, h2, x, xs, r2, rw1.mono p2 e2, rws, ps_nv q2 (hn _ h2)⟩
  · exact q1.elim
theorem put_lst {G : Gm} {μ : List Addr} {h : Hh} {H : Hp} {n : Nat} {a : Addr} {ws ws' : List V} {vs' : List Val} (r : HR G μ h H) (q : μ[n]? = some a) (g : H a = some (.lst ws)) (rs : RVs G μ H vs' ws') : Ex H (upd H a (.lst ws')) ∧ HR G μ (h.set n (.lst vs')) (upd H a (.lst ws')) := by
  have ex : Ex H (upd H a (.lst ws')) := Ex.put g (fun _ z => nomatch z) fun _ _ z => nomatch z
  exact ⟨ex, r.put q g (fun _ z => nomatch z) ⟨ws', upd_same, rs.mono (List.prefix_refl _) ex⟩⟩
def vAppend : Fn := fun vs h => match vs with
  | [.ref n, y] => (match h[n]? with
    | some (.lst ws) => if ws.length < sizeLine then .ok .non (h.set n (.lst (ws ++ [y]))) else .no
    | _ => .no)
  | _ => .no
theorem nr_append : ∀ vs h z k, vAppend vs h ≠ .rs z k := fun x h z k => by unfold vAppend; (repeat' split) <;> simp
theorem m_append : MtR X "list.append" (rMm (gm X) vAppend) := fun pins s τ H x xs v us Q I rx rs ⟨μ, hh, a, as, r, ra, ras, p⟩ => by
  unfold vAppend at p
  cases ra with
  | @ref n a1 q1 =>
    cases ras with
    | nil => exact p.elim
    | cons ry t =>
      cases t with
      | cons _ _ => exact p.elim
      | nil =>
        obtain ⟨o, ho, ro⟩ := r.obj q1
        dsimp only at p
        rw [ho] at p
        cases o with
        | lst vs =>
          obtain ⟨ws, g1, g2⟩ := ro
          dsimp only at p
          split at p
          · rename_i hl
            obtain ⟨ex, hr⟩ := put_lst r q1 g1 (g2.append (.cons ry .nil))
            exact mt_append pins s τ H _ _ v us Q I rx rs ⟨a1, ws, _, rfl, rfl, g1, by rw [← g2.length]; exact hl, p μ _ (List.prefix_refl _) ex hr _ .non⟩
          · exact p.elim
        | _ => exact p.elim
  | _ => cases ras <;> exact p.elim
def vPop : Fn := fun vs h => match vs with
  | [.ref n, .int i] => (match h[n]? with
    | some (.lst ws) => (match seqIndex? i ws.length with
      | some k => (match ws[k]? with
        | some y => if -(2 ^ 63) ≤ i ∧ i < 2 ^ 63 then .ok y (h.set n (.lst (ws.eraseIdx k))) else .no
        | none => .no)
      | none => .no)
    | _ => .no)
  | _ => .no
theorem nr_pop : ∀ vs h z k, vPop vs h ≠ .rs z k := fun x h z k => by unfold vPop; (repeat' split) <;> simp
theorem m_pop : MtR X "list.pop" (rMm (gm X) vPop) := fun pins s τ H x xs v us Q I rx rs ⟨μ, hh, a, as, r, ra, ras, p⟩ => by
  unfold vPop at p
  cases ra with
  | @ref n a1 q1 =>
    cases ras with
    | nil => exact p.elim
    | cons ry t =>
      cases ry with
      | int i =>
        cases t with
        | cons _ _ => exact p.elim
        | nil =>
          obtain ⟨o, ho, ro⟩ := r.obj q1
          dsimp only at p
          rw [ho] at p
          cases o with
          | lst vs =>
            obtain ⟨ws, g1, g2⟩ := ro
            dsimp only at p
            cases qk : seqIndex? i vs.length with
            | none => rw [qk] at p; exact p.elim
            | some k =>
              rw [qk] at p
              dsimp only at p
              cases qy : vs[k]? with
              | none => rw [qy] at p; exact p.elim
              | some y =>
                rw [qy] at p
                dsimp only at p
                split at p
                · rename_i hb
                  obtain ⟨w, k1, k2⟩ := g2.get qy
                  obtain ⟨ex, hr⟩ := put_lst r q1 g1 (g2.eraseIdx k)
                  exact mt_popAt pins s τ H _ _ v us Q I rx rs ⟨a1, ws, i, k, w, rfl, rfl, g1, hb.1, hb.2, by rw [← g2.length]; exact qk, k1, p μ _ (List.prefix_refl _) ex hr _ (k2.mono (List.prefix_refl _) ex)⟩
                · exact p.elim
          | _ => exact p.elim
      | _ => cases t <;> exact p.elim
  | _ => cases ras <;> exact p.elim
def strsOf : List Val → Option (List Str)
  | [] => some []
  | .str i :: r => (strsOf r).map (i :: ·)
  | _ => none
theorem strsOf_ok : ∀ {vs : List Val} {ns : List Str}, strsOf vs = some ns → vs = ns.map Val.str
  | [], ns, e => by cases e; rfl
  | .str i :: r, ns, e => by
    unfold strsOf at e
    cases q : strsOf r with
    | none => rw [q] at e; cases e
    | some ms => rw [q] at e; cases e; rw [strsOf_ok q]; rfl
  | .non :: _, _, e => by cases e
  | .int _ :: _, _, e => by cases e
  | .bl _ :: _, _, e => by cases e
  | .tup _ :: _, _, e => by cases e
  | .ref _ :: _, _, e => by cases e
  | .ty _ :: _, _, e => by cases e
  | .gl _ :: _, _, e => by cases e
@[simp] theorem strsOf_map (ns : List Str) : strsOf (ns.map Val.str) = some ns := by
  induction ns with
  | nil => rfl
  | cons n ns ih => simp [strsOf, ih]
def vJoin : Fn := fun vs h => match vs with
  | [.str a, .ref n] => (match h[n]? with
    | some (.lst ws) => (match strsOf ws with
      | some ys => if (ys.map (·.length)).sum + ys.length * a.length ≤ 16777216 then .ok (.str (Txt.join a ys)) h else .no
      | none => .no)
    | _ => .no)
  | _ => .no
theorem nr_join : ∀ vs h z k, vJoin vs h ≠ .rs z k := fun x h z k => by unfold vJoin; (repeat' split) <;> simp
theorem m_join : MtR X "str.join" (rMm (gm X) vJoin) := fun pins s τ H x xs v us Q I rx rs ⟨μ, hh, a, as, r, ra, ras, p⟩ => by
  unfold vJoin at p
  cases ra with
  | str sep =>
    cases ras with
    | nil => exact p.elim
    | cons ry t =>
      cases ry with
      | @ref n a1 q1 =>
        cases t with
        | cons _ _ => exact p.elim
        | nil =>
          obtain ⟨o, ho, ro⟩ := r.obj q1
          dsimp only at p
          rw [ho] at p
          cases o with
          | lst vs =>
            obtain ⟨ws, g1, g2⟩ := ro
            dsimp only at p
            cases q : strsOf vs with
            | none => rw [q] at p; exact p.elim
            | some ys =>
              rw [q] at p
              dsimp only at p
              split at p
              · rename_i hl
                rw [strsOf_ok q] at g2
                exact mt_join pins s τ H _ _ v us Q I rx rs ⟨sep, a1, ys, rfl, rfl, .inl (by rw [← g2.strs]; exact .inl (.inl g1)), hl, p.at r _ (.str _)⟩
              · exact p.elim
          | _ => exact p.elim
      | _ => cases t <;> exact p.elim
  | _ => cases ras <;> exact p.elim
end
end U
namespace U
open PySem L2
def putFv (f : Str) (v : Val) : List (Str × Val) → List (Str × Val)
  | [] => [(f, v)]
  | (g, x) :: r => if g = f then (g, v) :: r else (g, x) :: putFv f v r
def getFv (f : Str) : List (Str × Val) → Option Val
  | [] => none
  | (g, x) :: r => if g = f then some x else getFv f r
section
variable {G : Gm} {μ : List Addr} {H : Hp}
theorem RFs.put {f : Str} {v : Val} {w : V} (rv : RV G μ H v w) : ∀ {fs : List (Str × Val)} {gs : List (Str × V)}, RFs G μ H fs gs → RFs G μ H (putFv f v fs) (putF f w gs)
  | _, _, .nil => .cons rv .nil
  | _, _, .cons (f := g) r t => by
    unfold putFv putF
    by_cases h : g = f
    · rw [if_pos h, if_pos h]; exact .cons rv t
    · rw [if_neg h, if_neg h]; exact .cons r (RFs.put rv t)
theorem RFs.get {f : Str} : ∀ {fs : List (Str × Val)} {gs : List (Str × V)}, RFs G μ H fs gs → (∀ v, getFv f fs = some v → ∃ w, gs.lookup f = some w ∧ RV G μ H v w) ∧ (getFv f fs = none → gs.lookup f = none)
  | _, _, .nil => ⟨fun v e => (nomatch e), fun _ => rfl⟩
  | _, _, .cons (f := g) (w := w) r t => by
    obtain ⟨i1, i2⟩ := RFs.get (f := f) t
    unfold getFv
    by_cases h : g = f
    · subst h
      rw [if_pos rfl, List.lookup_cons_self]
      exact ⟨fun v e => by cases e; exact ⟨w, rfl, r⟩, fun e => (nomatch e)⟩
    · have hb : (f == g) = false := by simpa using fun z => h z.symm
      rw [if_neg h, List.lookup_cons, hb]
      exact ⟨i1, i2⟩
end
def FldOk (K : PySem.W.Frag) (mg : Str → Option Value) (cs : List Str) (f : Str) : Prop := ∀ C ∈ cs, ∀ Ca, mg C = some (.ref Ca) → Cls K Ca ∧ NoAttr K Ca f
def vFld (cs : List Str) (f : Str) (v : Val) (h : Hh) : Res Val := match v with
  | .ref n => (match h[n]? with
    | some (.ins C fs) => if C ∈ cs then (match getFv f fs with | some v => .ok v h | none => .no) else .no
    | _ => .no)
  | _ => .no
def msFld (cs : List Str) (f : Str) (mo mv : ME) : MS := fun σ h => (mv σ h).fl σ fun y h1 => (mo σ h1).fl σ fun x h2 => match x with
  | .ref n => (match h2[n]? with
    | some (.ins C fs) => if C ∈ cs ∧ fs.length < 1000 then .nx σ (h2.set n (.ins C (putFv f y fs))) else .no
    | _ => .no)
  | _ => .no
section
variable {X : Cx} {W : WX} {j k : Nat} {o e value : Expr} {mo ma mv : ME} {mm : MA} {es : List Expr} {pos pos' apos p : Pos} {f x m : Str} {cs : List Str} {F : Fn} {n : Nat}
theorem s_fld (ok : FldOk X.K X.mg cs f) (he : CE X W e ma) (hb : attributeBase e f X.env (eval e X.env) = eval e X.env := by rfl) : CE X W (.Attribute e f pos) (mUn (vFld cs f) ma) := by
  refine peI (pe_fld he hb) fun τ H Q ⟨μ, σ, h, l, r, p⟩ => ⟨μ, σ, h, l, r, ?_⟩
  refine (Ps.bind p).imp fun x μ1 h1 H1 p1 e1 r1 q1 w1 rw1 => ?_
  unfold vFld at q1
  cases rw1 with
  | @ref n a qa =>
    obtain ⟨ob, ho, ro⟩ := r1.obj qa
    dsimp only at q1
    rw [ho] at q1
    cases ob with
    | ins C fs =>
      obtain ⟨Ca, dx, gs, g0, g1, g2⟩ := ro
      dsimp only at q1
      split at q1
      · rename_i hc
        obtain ⟨c1, c2⟩ := ok C hc Ca g0
        cases q : getFv f fs with
        | none => rw [q] at q1; exact q1.elim
        | some v =>
          rw [q] at q1
          obtain ⟨w, k1, k2⟩ := g2.get.1 v q
          exact ⟨a, Ca, dx, gs, w, rfl, g1, c1, c2, k1, q1.at r1 _ k2⟩
      · exact q1.elim
    | _ => exact q1.elim
  | _ => exact q1.elim
theorem t_fld (ok : FldOk X.K X.mg cs f) (ho : CE X W o mo) (hv : CE X W value mv) (hs : swapsWith value (some (.Attribute o f pos')) pos.line X.env = pure false := by rfl) : CS X W (.Assign [.Attribute o f pos'] value pos) (msFld cs f mo mv) := by
  refine psI (ps_fld ho hv hs) fun D τ H ⟨μ, σ, h, l, r, p⟩ => ⟨μ, σ, h, l, r, ?_⟩
  refine (PsF.bind l p).imp fun y μ1 h1 H1 p1 e1 r1 q1 w1 rw1 => ⟨μ1, σ, h1, l.mono p1 e1, r1, ?_⟩
  refine (PsF.bind (l.mono p1 e1) q1).imp fun x μ2 h2 H2 p2 e2 r2 q2 w2 rw2 => ?_
  cases rw2 with
  | @ref n a qa =>
    obtain ⟨ob, hob, ro⟩ := r2.obj qa
    dsimp only at q2
    rw [hob] at q2
    cases ob with
    | ins C fs =>
      obtain ⟨Ca, dx, gs, g0, g1, g2⟩ := ro
      dsimp only at q2
      split at q2
      · rename_i hc
        obtain ⟨c1, c2⟩ := ok C hc.1 Ca g0
        have ex : Ex H2 (upd H2 a (.ins Ca dx (putF f w1 gs))) := Ex.put g1 (fun _ z => nomatch z) fun _ _ z => nomatch z
        refine ⟨a, Ca, dx, gs, rfl, g1, c1, c2, by rw [← g2.length]; exact hc.2, ?_⟩
        exact q2 μ2 _ τ (List.prefix_refl _) ex (r2.put qa g1 (fun _ z => nomatch z) ⟨Ca, dx, _, g0, upd_same, (g2.put (rw1.mono p2 e2)).mono (List.prefix_refl _) ex⟩) (l.mono (p1.trans p2) ((e1.trans e2).trans ex).et)
      · exact q2.elim
    | _ => exact q2.elim
  | _ => exact q2.elim
structure MtAt (P : Program) (w : World) (K : PySem.W.Frag) (mg : Str → Option Value) (base : Heap) (C m : Str) (k n : Nat) (F : Fn) : Prop where
  ex : ∃ Ca f fd ps, mg C = some (.ref Ca) ∧ Cls K Ca ∧ Meth K Ca m f ∧ Binds K fd ps [] ∧ FK P w K mg base k f fd ps (spF ⟨K, mg, w⟩ F n)
def isI (C : Str) (m : Str) (v : Val) (h : Hh) : Bool := match v with
  | .ref n => (match h[n]? with
    | some (.ins D fs) => decide (D = C) && (getFv m fs).isNone
    | _ => false)
  | _ => false
def mMeth (C m : Str) (n : Nat) (F : Fn) (a : ME) (mm : MA) : ME := fun σ h => (a σ h).bind fun x h1 => if isI C m x h1 = true then (mm σ h1).bind fun xs h2 => callF n F (x :: xs) h2 else .no
structure PrAt (P : Program) (w : World) (K : PySem.W.Frag) (mg : Str → Option Value) (base : Heap) (C m : Str) (k : Nat) (F : Fn) : Prop where
  ex : ∃ Ca pa f fd ps, mg C = some (.ref Ca) ∧ Cls K Ca ∧ PropOf K Ca m pa f ∧ Binds K fd ps [] ∧ FK P w K mg base k f fd ps (spF ⟨K, mg, w⟩ F 1)
def isIn (C : Str) (v : Val) (h : Hh) : Bool := match v with
  | .ref n => (match h[n]? with
    | some (.ins D _) => decide (D = C)
    | _ => false)
  | _ => false
def mProp (C : Str) (F : Fn) (a : ME) : ME := fun σ h => (a σ h).bind fun x h1 => if isIn C x h1 = true then (F [x] h1).nr else .no
theorem s_prop {C : Str} (c : Cok X W k) (T : PrAt X.prog X.w X.K X.mg X.base C f j F) (hj : j + 1 ≤ k) (he : CE X W e ma) (hb : attributeBase e f X.env (eval e X.env) = eval e X.env := by rfl) : CE X W (.Attribute e f pos) (mProp C F ma) := by
  obtain ⟨Ca, pa, g, fd, ps, hm, cl, hp, hbd, T⟩ := T.ex
  refine ⟨fun pins s τ H Q I ⟨μ, σ, hh, l, r, pp⟩ => ?_⟩
  refine attr_of hb (thn (he.run pins s τ H (fun x H1 => ∃ a dx gs, x = .ref a ∧ H1 a = some (.ins Ca dx gs) ∧ spF (gm X) F 1 [x] H1 Q (WE WN τ)) I ⟨μ, σ, hh, l, r, ?_⟩) fun u s1 ⟨x, H1, I1, rx, a, dx, gs, ex, ea, q⟩ => ?_)
  · refine (Ps.bind pp).imp fun x μ1 h1 H1 p1 e1 r1 q1 w1 rw1 => ?_
    split at q1
    · rename_i hi
      unfold isIn at hi
      cases rw1 with
      | @ref n a qa =>
        obtain ⟨ob, ho, ro⟩ := r1.obj qa
        dsimp only at hi
        rw [ho] at hi
        cases ob with
        | ins D fs =>
          obtain ⟨Da, dx, gs, g0, g1, g2⟩ := ro
          have eD : D = C := by simpa using hi
          subst eD
          have g0' : X.mg D = some (.ref Da) := g0
          rw [hm] at g0'; cases g0'
          refine ⟨a, dx, gs, rfl, g1, spF_of r1 (.cons (.ref qa) .nil) rfl ?_⟩
          cases eF : F [.ref n] h1 with
          | no => rw [eF] at q1; exact q1
          | rs z h2 => rw [eF] at q1; exact q1.elim
          | ok v h2 => rw [eF] at q1; exact q1
        | _ => cases hi
      | _ => cases hi
    · exact q1.elim
  · subst ex
    obtain rfl : u = Value.ref a := rx
    obtain ⟨mA, O, _, _, _, _⟩ := ins_get I1.hok ea
    obtain ⟨od, J, _⟩ := O.look
    obtain ⟨rest, hrec⟩ := hp.rec_
    have I2 := I1.tok (s1.toks + 1)
    have hl : [Value.ref a].length = ps.length := by rw [← T.len _ _ _ _ q]; rfl
    have hc : (PySem.W.clsIn X.K Ca).isSome = true := by
      obtain ⟨cd, hc, _⟩ := PySem.W.any_some cl.hd
      rw [hc]; rfl
    have hr : Room (j + 1) X.A := c.rm.mono hj
    refine PySem.W.get_bind I1.kIn J (PySem.W.plainGet_of (cl.get f)).1 (PySem.W.findObj_data hc hp.at_ hp.get hp.tak) (PySem.W.plainGet_of (cl.get f)).2 (wpAny_call (PySem.W.prop_get (s := { s1 with toks := s1.toks + 1 }) I1.kIn hrec ?_))
    refine codeAny_mono (T.run X.A.in1 X.stack { s1 with toks := s1.toks + 1 } H1 ⟨[.ref a], []⟩ [.ref a] [.ref a] Q (WE WN τ) hr.in1 c.gu I2.env0.in1 (by simpa using hbd { s1 with toks := s1.toks + 1 } [.ref a] I2.kIn (by simpa using hl)) (.cons rfl .nil) q) fun rr s' hq => ?_
    cases rr with
    | error er =>
      obtain ⟨_, _, _, _, _, _, _, _, _, _, _, _, z⟩ := hq
      exact z.elim
    | ok fl =>
      cases fl with
      | ret u =>
        obtain ⟨v, H', I3, rv, q3⟩ := I2.after hq
        show wpAny _ _ (handedOut u) _ _ _
        rw [PySem.W.handedOut_of (handed_of rv)]
        exact wpAny_pure ⟨v, H', I3, rv, q3⟩
      | next => exact hq.elim
      | brk => exact hq.elim
      | cont => exact hq.elim
structure MkAt (P : Program) (w : World) (K : PySem.W.Frag) (mg : Str → Option Value) (base : Heap) (C : Str) (k n : Nat) (F : Fn) (ds : List Val) : Prop where
  ex : ∃ Ca f fd ps vs us, mg C = some (.ref Ca) ∧ Mk K Ca f ∧ Binds K fd ps us ∧ Vals vs us ∧ (∀ μ H, RVs ⟨K, mg, w⟩ μ H ds vs) ∧ FK P w K mg base k f fd ps (spF ⟨K, mg, w⟩ F n)
def mkI (C : Str) (n : Nat) (F : Fn) : Fn := fun vs h => if vs.length + 1 = n then (F (.ref h.length :: vs) (h ++ [.ins C []])).bind fun v h1 => match v with
  | .non => .ok (.ref h.length) h1
  | _ => .no else .no
theorem mk_ps {C : Str} {Ca : Addr} {μ : List Addr} {h : Hh} {H : Hp} {vs : List Val} {ws : List V} {Q : VK} {E : XK} (r : HR (gm X) μ h H) (rv : RVs (gm X) μ H vs ws) (hm : X.mg C = some (.ref Ca)) (p : Ps (gm X) E μ H (mkI C n F vs h) (qV (gm X) Q)) :
    ∀ x dx, H x = none → H dx = none → dx ≠ x → spF (gm X) F n (.ref x :: ws) (upd (upd H dx (.own x)) x (.ins Ca dx [])) (fun v H2 => v = .non ∧ Q (.ref x) H2) E := fun x dx hx hdx ne => by
  unfold mkI at p
  split at p
  · rename_i hl
    have hx' : upd H dx (.own x) x = none := by rw [upd_ne (Ne.symm ne)]; exact hx
    have e1 : Ex H (upd H dx (.own x)) := Ex.new hdx
    have e2 : Ex (upd H dx (.own x)) (upd (upd H dx (.own x)) x (.ins Ca dx [])) := Ex.new hx'
    have r1 : HR (gm X) (μ ++ [x]) (h ++ [.ins C []]) (upd (upd H dx (.own x)) x (.ins Ca dx [])) := (r.laidT hdx).laid hx' ⟨Ca, dx, [], hm, upd_same, .nil⟩
    have hi : (μ ++ [x])[h.length]? = some x := by rw [← r.len]; simp
    refine spF_of r1 (.cons (.ref hi) (rv.mono (List.prefix_append μ [x]) (e1.trans e2).et)) (by simp [← hl]) ?_
    refine (Ps.bind (Ps.mono (List.prefix_append μ [x]) (e1.trans e2) p)).imp fun v μ1 h1 H1 p1 ex1 rr1 q1 w rw1 => ?_
    cases rw1 with
    | non => exact ⟨rfl, q1.at rr1 _ (.ref (pre_get p1 hi))⟩
    | _ => exact q1.elim
  · exact p.elim
theorem run_mk {pins : List (Addr × Obj)} {τ : St} {H : Hp} {s : Shared} {Q : VK} {us ws : List Value} {vs : List V} {kw : List (Str × Value)} {C f : Addr} {fd : FuncData} {ps : List Str} {sp : Sp} (c : Cok X W k) (hj : j + 1 ≤ k) (M : Mk X.K C f) (T : FK X.prog X.w X.K X.mg X.base j f fd ps sp)
    (I : L2.Inv X pins τ H s) (r : Vals vs ws) (hb : ∀ s' : Shared, X.K.In s'.heap → ∀ a : Addr, (Value.ref a :: ws).length = ps.length → BindsTo s' fd ⟨.ref a :: us, kw⟩ (ps.zip (.ref a :: ws)))
    (h : ∀ x dx, H x = none → H dx = none → dx ≠ x → sp (.ref x :: vs) (upd (upd H dx (.own x)) x (.ins C dx [])) (fun v H2 => v = .non ∧ Q (.ref x) H2) (WE W τ)) :
    wpAny (model X.prog X.w) X.A (call (.ref C) us kw) (EP X pins τ Q) X.xe s := by
  have hq := h (s.heap.objs.size + 1) s.heap.objs.size (I.hok.fresh (Nat.le_succ _)) (I.hok.fresh (Nat.le_refl _)) (Nat.ne_of_lt (Nat.lt_succ_self _))
  have I2 := Inv.made (C := C) I
  have r2 : Vals (V.ref (s.heap.objs.size + 1) :: vs) (Value.ref (s.heap.objs.size + 1) :: ws) := .cons rfl r
  have hl : (Value.ref (s.heap.objs.size + 1) :: ws).length = ps.length := by rw [← r2.length]; exact T.len _ _ _ _ hq
  have hr : Room (j + 1) X.A := c.rm.mono hj
  refine wpAny_call (make_map (f := f) I.kIn M.makes M.init (beq_iff_eq.mp M.fn) (codeAny_mono (T.run _ X.stack _ _ ⟨Value.ref (s.heap.objs.size + 1) :: us, kw⟩ (Value.ref (s.heap.objs.size + 1) :: ws) _ _ (WE W τ) (hr.make C us kw) (by rw [guards_make]; exact c.gu)
    (I2.env0.make C us kw) (hb _ I2.kIn _ hl) r2 hq) fun rr s' hq' => ?_))
  cases rr with
  | error e => exact passAt c.tk τ pins _ _ e s' I2 hq'
  | ok fl =>
    cases fl with
    | ret u =>
      obtain ⟨v, H', I3, rv, ev, q3⟩ := I2.after hq'
      subst ev
      exact ⟨rv, ⟨V.ref (s.heap.objs.size + 1), H', I3, rfl, q3⟩⟩
    | next => exact hq'.elim
    | brk => exact hq'.elim
    | cont => exact hq'.elim
theorem s_make {ds : List Val} (c : Cok X W k) (T : MkAt X.prog X.w X.K X.mg X.base x j n F ds) (hj : j + 1 ≤ k) (ha : CA X W (e :: es) mm) (hg : Gl X x := by rfl) (hdb : (x == ("__debug__" : Str)) = false := by decide)
    (he : starEach (e :: es) X.env = (false, eval e X.env) :: starEach es X.env := by rfl) (hpl : (backTo pos (starEach es X.env)).any (·.1) = false := by rfl) : CE X W (.Call (.Name x p) (e :: es) [] pos) (mApp (fun vs => mkI x n F (vs ++ ds)) mm) := by
  obtain ⟨Ca, f, fd, ps, dvs, dus, hm, M, hb, rd, rds, T⟩ := T.ex
  refine ⟨fun pins s τ H Q I ⟨μ, σ, hh, l, r, pp⟩ => ?_⟩
  refine wpAny_Call_Name_kw (ld_glob I hg hm ?_ hdb)
  refine PySem.W.callWith_K (h₀ := X.base) I.ok.mod.kin M.kp (thn (ha.run pos pins s τ H (fun ws H1 => ∀ y dx, H1 y = none → H1 dx = none → dx ≠ y → spF (gm X) F n (.ref y :: (ws ++ dvs)) (upd (upd H1 dx (.own y)) y (.ins Ca dx [])) (fun v H2 => v = .non ∧ Q (.ref y) H2) (WE W τ)) I ⟨μ, σ, hh, l, r, ?_⟩) fun us s1 ⟨vs, H1, I1, rr, q⟩ => ⟨I1.kIn, ?_⟩) he hpl
  · refine (Ps.bind pp).imp fun vs μ1 h1 H1 p1 e1 r1 q1 ws rws => ?_
    exact mk_ps (C := x) r1 (rws.append (rds μ1 H1)) hm q1
  · refine run_mk (us := us) (ws := us ++ dus) (vs := vs ++ dvs) c hj M T I1 (rr.append rd) (fun s' kin a hl => ?_) q
    exact hb s' (.ref a :: us) kin hl
end
end U
namespace U
open PySem L2
def tyNm (v : Val) (h : Hh) : Option (Sum String Str) := match v with
  | .non => some (.inl "NoneType")
  | .bl _ => some (.inl "bool")
  | .int _ => some (.inl "int")
  | .str _ => some (.inl "str")
  | .tup _ => some (.inl "tuple")
  | .ref n => (match h[n]? with
    | some (.lst _) => some (.inl "list")
    | some (.fro _) => some (.inl "list")
    | some (.dct _) => some (.inl "dict")
    | some (.fdc _) => some (.inl "dict")
    | some (.ins C _) => some (.inr C)
    | _ => none)
  | _ => none
theorem looks_ty {M : Model} {s : Shared} {v : Value} {T : String} (h : s.TypeIs v T) : PySem.W.Looks M s.heap (typeOf v) (.type T) := by
  cases v with
  | ref a =>
    obtain ⟨o, h1, h2⟩ := h
    rw [← h2]
    exact (PySem.W.Looks.ld h1).andThen .now
  | _ =>
    have e : typeOf _ = pure (.type T) := h
    rw [e]; exact .now
section
variable {X : Cx} {W : WX} {j k n : Nat} {F : Fn}
theorem ty_looks {pins : List (Addr × Obj)} {τ : St} {H : Hp} {s : Shared} {μ : List Addr} {h : Hh} {v : Val} {w : V} {u : Value} (I : L2.Inv X pins τ H s) (r : HR (gm X) μ h H) (rv : RV (gm X) μ H v w) (ru : RelV w u) :
    (∀ T, tyNm v h = some (.inl T) → PySem.W.Looks (model X.prog X.w) s.heap (typeOf u) (.type T)) ∧ ∀ C, tyNm v h = some (.inr C) → ∃ Ca, X.mg C = some (.ref Ca) ∧ PySem.W.Looks (model X.prog X.w) s.heap (typeOf u) (.ref Ca) := by
  cases rv with
  | non => cases ru; exact ⟨fun T e => by cases e; exact .now, fun C e => (nomatch e)⟩
  | bl b => cases ru; exact ⟨fun T e => by cases e; exact .now, fun C e => (nomatch e)⟩
  | int i => obtain ⟨t, rfl⟩ := ru; exact ⟨fun T e => by cases e; exact .now, fun C e => (nomatch e)⟩
  | str i => obtain ⟨t, rfl⟩ := ru; exact ⟨fun T e => by cases e; exact .now, fun C e => (nomatch e)⟩
  | @tup vs ws a ta rs =>
    cases ru
    refine ⟨fun T e => ?_, fun C e => (nomatch e)⟩
    cases e
    obtain ⟨its, _, p, _⟩ := I.tuple ta.sq
    obtain ⟨o, h1, h2, _⟩ := p
    exact looks_ty ⟨o, h1, h2⟩
  | @ref m a q =>
    cases ru
    obtain ⟨o, ho, ro⟩ := r.obj q
    unfold tyNm
    dsimp only
    rw [ho]
    cases o with
    | lst vs =>
      refine ⟨fun T e => ?_, fun C e => (nomatch e)⟩
      cases e
      obtain ⟨ws, g1, _⟩ := ro
      obtain ⟨_, its, nn, _, e⟩ := (show ObjOk X.prog X.w H s.heap a (.lst ws) from I.hok a _ g1)
      exact looks_ty ⟨_, e, rfl⟩
    | fro vs =>
      refine ⟨fun T e => ?_, fun C e => (nomatch e)⟩
      cases e
      obtain ⟨ob, ws, g1, _⟩ := ro
      obtain ⟨_, q2⟩ := (show ObjOk X.prog X.w H s.heap a (.frz ob (.lst ws)) from I.hok a _ g1)
      obtain ⟨_, its, nn, _, e⟩ := (show ObjOk X.prog X.w H s.heap a (.lst ws) from q2)
      exact looks_ty ⟨_, e, rfl⟩
    | dct vs =>
      refine ⟨fun T e => ?_, fun C e => (nomatch e)⟩
      cases e
      obtain ⟨ws, g1, _⟩ := ro
      obtain ⟨_, _, _, _, ob, es, ep, h1, h2, _⟩ := (show ObjOk X.prog X.w H s.heap a (.dK ws) from I.hok a _ g1)
      exact looks_ty ⟨ob, h1, h2.1⟩
    | fdc vs =>
      refine ⟨fun T e => ?_, fun C e => (nomatch e)⟩
      cases e
      obtain ⟨oz, ws, g1, _⟩ := ro
      obtain ⟨_, q2⟩ := (show ObjOk X.prog X.w H s.heap a (.frz oz (.dK ws)) from I.hok a _ g1)
      obtain ⟨_, _, _, _, ob, es, ep, h1, h2, _⟩ := (show ObjOk X.prog X.w H s.heap a (.dK ws) from q2)
      exact looks_ty ⟨ob, h1, h2.1⟩
    | ins C fs =>
      refine ⟨fun T e => (nomatch e), fun D e => ?_⟩
      cases e
      obtain ⟨Ca, dx, gs, g0, g1, _⟩ := ro
      obtain ⟨mA, O, _⟩ := ins_get I.hok g1
      obtain ⟨od, J, _⟩ := O.look
      exact ⟨Ca, g0, J.type⟩
    | exc _ _ => exact ⟨fun T e => (nomatch e), fun C e => (nomatch e)⟩
    | xdo _ _ => exact ⟨fun T e => (nomatch e), fun C e => (nomatch e)⟩
    | dcn vs => exact ⟨fun T e => (nomatch e), fun C e => (nomatch e)⟩
    | fdn vs => exact ⟨fun T e => (nomatch e), fun C e => (nomatch e)⟩
  | ty m => exact ⟨fun T e => (nomatch e), fun C e => (nomatch e)⟩
  | gl m => exact ⟨fun T e => (nomatch e), fun C e => (nomatch e)⟩
def bTys : List String := ["NoneType", "bool", "int", "str", "tuple", "list", "dict"]
theorem notFirst_b {K : PySem.W.Frag} {C : Addr} {T : String} (h : T ∈ bTys) : PySem.W.notFirst K C (.type T) = true := by
  have : T = "NoneType" ∨ T = "bool" ∨ T = "int" ∨ T = "str" ∨ T = "tuple" ∨ T = "list" ∨ T = "dict" := by simpa [bTys] using h
  unfold PySem.W.notFirst
  rcases this with e | e | e | e | e | e | e <;> (subst e; rw [show PySem.W.subIn K (.type _) (.ref C) = some false from rfl]; simp)
theorem tyNm_b {v : Val} {h : Hh} {T : String} (e : tyNm v h = some (.inl T)) : T ∈ bTys := by
  unfold tyNm at e
  (repeat' split at e) <;> first | (cases e; decide) | cases e
structure SpAt (P : Program) (w : World) (K : PySem.W.Frag) (mg : Str → Option Value) (base : Heap) (C m : Str) (k n : Nat) (F : Fn) : Prop where
  ex : ∃ Ca f fd ps, mg C = some (.ref Ca) ∧ PySem.W.findIn K (.ref Ca) m = some (some (.ref f)) ∧ PySem.W.isFn K (.ref f) = true ∧ Binds K fd ps [] ∧ FK P w K mg base k f fd ps (spF ⟨K, mg, w⟩ F n)
def Apart (K : PySem.W.Frag) (mg : Str → Option Value) (C : Str) (cs : List Str) : Prop := ∀ D ∈ cs, ∀ Ca Da, mg C = some (.ref Ca) → mg D = some (.ref Da) → PySem.W.notFirst K Ca (.ref Da) = true
def vOwn (C : Str) (cs : List Str) (n : Nat) (F : Fn) (neg : Bool) (x y : Val) (h : Hh) : Res Val := if isIn C x h = true then
    (match tyNm y h with
    | some (.inr D) => if D ∈ cs then (callF n F [x, y] h).nr.bind fun v h1 => (match v with | .bl b => .ok (.bl (if neg then !b else b)) h1 | _ => .no) else .no
    | some (.inl _) => (callF n F [x, y] h).nr.bind fun v h1 => (match v with | .bl b => .ok (.bl (if neg then !b else b)) h1 | _ => .no)
    | none => .no)
  else .no
theorem nr_own {C cs n F neg} : ∀ x y h z k, vOwn C cs n F neg x y h ≠ .rs z k := fun x y h z k => by
  have key : ∀ (r : Res Val), (r.nr.bind fun v h1 => (match v with | Val.bl b => Res.ok (Val.bl (if neg then !b else b)) h1 | _ => Res.no)) ≠ Res.rs z k := fun r => by
    cases r with
    | ok v h1 => cases v <;> simp
    | _ => simp
  unfold vOwn
  split
  · split
    · split
      · exact key _
      · simp
    · exact key _
    · simp
  · simp
theorem isIn_ok {G : Gm} {μ : List Addr} {h : Hh} {H : Hp} {C : Str} {v : Val} {w : V} {Ca : Addr} (r : HR G μ h H) (rv : RV G μ H v w) (e : isIn C v h = true) (hm : G.mg C = some (.ref Ca)) : ∃ a dx gs, w = .ref a ∧ H a = some (.ins Ca dx gs) := by
  unfold isIn at e
  cases rv with
  | @ref n a qa =>
    obtain ⟨ob, ho, ro⟩ := r.obj qa
    dsimp only at e
    rw [ho] at e
    cases ob with
    | ins D fs =>
      obtain ⟨Da, dx, gs, g0, g1, g2⟩ := ro
      have e1 : D = C := by simpa using e
      subst e1
      rw [hm] at g0; cases g0
      exact ⟨a, dx, gs, rfl, g1⟩
    | _ => cases e
  | _ => cases e
theorem own_sp {μ : List Addr} {h : Hh} {H : Hp} {x y : Val} {x' y' : V} {Q : VK} {neg : Bool} (r : HR (gm X) μ h H) (rx : RV (gm X) μ H x x') (ry : RV (gm X) μ H y y')
    (p : Ps (gm X) W0 μ H ((callF n F [x, y] h).nr.bind fun v h1 => (match v with | .bl b => .ok (.bl (if neg then !b else b)) h1 | _ => .no)) (qV (gm X) Q)) :
    spF (gm X) F n [x', y'] H (fun v H' => ∃ b, v = .bl b ∧ Q (.bl (if neg then !b else b)) H') W0 := by
  unfold callF at p
  split at p
  · rename_i hl
    refine spF_of r (.cons rx (.cons ry .nil)) hl ?_
    cases e : F [x, y] h with
    | no => rw [e] at p; exact p.elim
    | rs z k => rw [e] at p; exact p.elim
    | ok v h1 =>
      rw [e] at p
      simp only [nr_ok, bind_ok] at p
      intro μ1 H1 p1 e1 r1 w rw1
      cases rw1 with
      | bl b => exact ⟨b, rfl, p μ1 H1 p1 e1 r1 _ (.bl _)⟩
      | _ => exact p.elim
  · exact p.elim
theorem run_call1 {pins : List (Addr × Obj)} {τ : St} {H : Hp} {s : Shared} {Q : VK} {us : List Value} {vs : List V} {f : Addr} {fd : FuncData} {ps : List Str} {sp : Sp} {E : Value → Shared → Prop} (c : Cok X W k) (hj : j + 1 ≤ k) (T : FK X.prog X.w X.K X.mg X.base j f fd ps sp) (hb : Binds X.K fd ps [])
    (I : L2.Inv X pins τ H s) (r : Vals vs us) (h : sp vs H Q W0) : wpAny (model X.prog X.w) X.A.in1 (call (.ref f) us) (EP X pins τ Q) E s := by
  have hl : us.length = ps.length := by rw [← r.length]; exact T.len _ _ _ _ h
  have b := hb s us I.kIn (by rw [List.append_nil]; exact hl)
  rw [List.append_nil] at b
  have hr : Room (j + 1) X.A := c.rm.mono hj
  refine wpAny_call (codeAny_mono (T.run X.A.in1 X.stack s H ⟨us, []⟩ us vs Q W0 hr.in1 c.gu I.env0.in1 b r h) fun r s' hq => ?_)
  cases r with
  | error e =>
    obtain ⟨_, _, _, _, _, _, _, _, _, _, _, _, z⟩ := hq
    exact z.elim
  | ok fl =>
    cases fl with
    | ret u => exact I.after hq
    | next => exact hq.elim
    | brk => exact hq.elim
    | cont => exact hq.elim
def NeOk (K : PySem.W.Frag) (mg : Str → Option Value) (C : Str) : Prop := ∀ Ca, mg C = some (.ref Ca) → PySem.W.findIn K (.ref Ca) "__ne__" = some (some (.builtin "object.__ne__")) ∧ PySem.W.subIn K (.ref Ca) (.type "object") = some true
end
end U
namespace U
open PySem L2
section
variable {X : Cx} {W : WX} {j k n : Nat} {F : Fn}
structure InsK (K : PySem.W.Frag) (C : Addr) : Prop where
  cl : Cls K C
  ha : PySem.W.findIn K (.ref C) "__class__" = some (some (.builtin "object.__class__"))
  hn : PySem.W.specialIn K (.builtin "object.__class__") "__get__" = some (some (.builtin "getset_descriptor.__get__"))
  htk : PySem.W.takesIn K (.builtin "object.__class__") = some true
  hm : PySem.W.mroIn K C (.type "object") = some true
structure IsaOk (K : PySem.W.Frag) (mg : Str → Option Value) (cs : List Str) (tys : List String) : Prop where
  ins : ∀ C ∈ cs, ∀ Ca, mg C = some (.ref Ca) → InsK K Ca
  own : ∀ C ∈ cs, ∀ D ∈ cs, ∀ Ca Da, mg C = some (.ref Ca) → mg D = some (.ref Da) → PySem.W.kitOne K (.ref Da) (.ref Ca) = some (decide (D = C))
  blt : ∀ C ∈ cs, ∀ Ca, mg C = some (.ref Ca) → ∀ T ∈ bTys, PySem.W.kitOne K (.type T) (.ref Ca) = some false
  tyo : ∀ C ∈ cs, ∀ Ca, mg C = some (.ref Ca) → ∀ T ∈ tys, PySem.W.kitOne K (.ref Ca) (.type T) = some false
def isa1 (cs : List Str) (tys : List String) (t : Sum String Str) (c : Val) : Option Bool := match t, c with
  | .inl a, .ty b => kitB a b
  | .inl _, .gl C => if C ∈ cs then some false else none
  | .inr D, .ty b => if D ∈ cs ∧ b ∈ tys then some false else none
  | .inr D, .gl C => if D ∈ cs ∧ C ∈ cs then some (decide (D = C)) else none
  | _, _ => none
def isaN (cs : List Str) (tys : List String) (t : Sum String Str) : List Val → Option Bool
  | [] => some false
  | c :: r => match isa1 cs tys t c with
    | some true => some true
    | some false => isaN cs tys t r
    | none => none
def tyIn (cs : List Str) : Sum String Str → Bool
  | .inl _ => true
  | .inr C => decide (C ∈ cs)
def vIsi (cs : List Str) (tys : List String) : Fn := fun vs h => match vs with
  | [x, c] => (match tyNm x h with
    | some t => (match (match c with | .tup ds => if (∀ d ∈ ds, (isa1 cs tys t d).isSome = true) ∧ tyIn cs t = true then isaN cs tys t ds else none | c => isa1 cs tys t c) with
      | some b => .ok (.bl b) h
      | none => .no)
    | none => .no)
  | _ => .no
theorem nr_isi {cs tys} : ∀ vs h z k, vIsi cs tys vs h ≠ .rs z k := fun x h z k => by unfold vIsi; (repeat' split) <;> simp
def tyV' (mg : Str → Option Value) (t : Sum String Str) (u : Value) : Prop := match t with
  | .inl T => T ∈ bTys ∧ u = .type T
  | .inr C => mg C = some u ∧ ∃ a, u = .ref a
theorem ty_x {cs : List Str} {tys : List String} {μ : List Addr} {h : Hh} {H : Hp} {v : Val} {w : V} {t : Sum String Str} (ok : IsaOk X.K X.mg cs tys) (r : HR (gm X) μ h H) (rv : RV (gm X) μ H v w) (e : tyNm v h = some t) (hc : ∀ C, t = .inr C → C ∈ cs) : ∃ u, TyX X.K H w u ∧ tyV' X.mg t u := by
  have hb : ∀ T, t = .inl T → T ∈ bTys := fun T ht => tyNm_b (by rw [e, ht])
  cases rv with
  | non => cases e; exact ⟨_, .base .non, hb _ rfl, rfl⟩
  | bl b => cases e; exact ⟨_, .base (.bl b), hb _ rfl, rfl⟩
  | int i => cases e; exact ⟨_, .base (.int i), hb _ rfl, rfl⟩
  | str i => cases e; exact ⟨_, .base (.str i), hb _ rfl, rfl⟩
  | @tup vs ws a ta rs =>
    cases e
    rcases ta with ta | ⟨o, its, nn, q1, q2, _⟩
    · exact ⟨_, .base (.tup ta), hb _ rfl, rfl⟩
    · exact ⟨_, .kTuple q1 q2, hb _ rfl, rfl⟩
  | @ref m a q =>
    obtain ⟨o, ho, ro⟩ := r.obj q
    unfold tyNm at e
    dsimp only at e
    rw [ho] at e
    cases o with
    | lst vs => cases e; obtain ⟨ws, g1, _⟩ := ro; exact ⟨_, .base (.lst g1), hb _ rfl, rfl⟩
    | fro vs => cases e; obtain ⟨ob, ws, g1, _⟩ := ro; exact ⟨_, .base (.frz g1), hb _ rfl, rfl⟩
    | dct vs => cases e; obtain ⟨ws, g1, _⟩ := ro; exact ⟨_, .base (.dK g1), hb _ rfl, rfl⟩
    | fdc vs => cases e; obtain ⟨ob, ws, g1, _⟩ := ro; exact ⟨_, .fDict g1, hb _ rfl, rfl⟩
    | ins C fs =>
      cases e
      obtain ⟨Ca, dx, gs, g0, g1, _⟩ := ro
      obtain ⟨cl, ha, hn, htk, hm⟩ := ok.ins C (hc C rfl) Ca g0
      exact ⟨_, .base (.ins g1 cl ha hn htk hm), g0, Ca, rfl⟩
    | exc _ _ => cases e
    | xdo _ _ => cases e
    | dcn vs => cases e
    | fdn vs => cases e
  | ty m => cases e
  | gl m => cases e
theorem isa1_ok {cs : List Str} {tys : List String} {μ : List Addr} {H : Hp} {t : Sum String Str} {u : Value} {c : Val} {w : V} {b : Bool} (ok : IsaOk X.K X.mg cs tys) (tu : tyV' X.mg t u) (rc : RV (gm X) μ H c w) (e : isa1 cs tys t c = some b) : ∃ uc, ClsV w uc ∧ PySem.W.kitOne X.K u uc = some b := by
  cases t with
  | inl a =>
    obtain ⟨hb, rfl⟩ := tu
    cases rc with
    | ty m => exact ⟨_, .ty _, kit_ty e⟩
    | @gl C Ca hm =>
      unfold isa1 at e
      dsimp only at e
      split at e
      · rename_i hC
        cases e
        exact ⟨_, .own _, ok.blt C hC Ca hm a hb⟩
      · cases e
    | _ => cases e
  | inr D =>
    obtain ⟨hD, Da, rfl⟩ := tu
    cases rc with
    | ty m =>
      unfold isa1 at e
      dsimp only at e
      split at e
      · rename_i hC
        cases e
        exact ⟨_, .ty _, ok.tyo D hC.1 Da hD m hC.2⟩
      · cases e
    | @gl C Ca hm =>
      unfold isa1 at e
      dsimp only at e
      split at e
      · rename_i hC
        cases e
        exact ⟨_, .own _, ok.own C hC.2 D hC.1 Ca Da hm hD⟩
      · cases e
    | _ => cases e
theorem isa1_in {cs : List Str} {tys : List String} {t : Sum String Str} {c : Val} {b : Bool} (e : isa1 cs tys t c = some b) : ∀ C, t = .inr C → C ∈ cs := fun C ht => by
  subst ht
  cases c with
  | ty m =>
    unfold isa1 at e; dsimp only at e
    split at e
    · rename_i hh; exact hh.1
    · cases e
  | gl m =>
    unfold isa1 at e; dsimp only at e
    split at e
    · rename_i hh; exact hh.1
    · cases e
  | _ => cases e
theorem isaN_ok {cs : List Str} {tys : List String} {μ : List Addr} {H : Hp} {t : Sum String Str} {u : Value} (ok : IsaOk X.K X.mg cs tys) (tu : tyV' X.mg t u) : ∀ {ds : List Val} {ws : List V} {b : Bool}, RVs (gm X) μ H ds ws → (∀ d ∈ ds, ∃ b, isa1 cs tys t d = some b) → isaN cs tys t ds = some b → ∃ ucs, Paired ClsV ws ucs ∧ PySem.W.kitAny X.K u ucs = some b
  | _, _, b, .nil, _, e => by cases e; exact ⟨[], .nil, rfl⟩
  | _, _, b, .cons (v := d) (vs := vr) r rs, hall, e => by
    obtain ⟨b1, e1⟩ := hall d List.mem_cons_self
    obtain ⟨uc, c1, k1⟩ := isa1_ok ok tu r e1
    have ex : ∃ b', isaN cs tys t vr = some b' := by
      have : ∀ (l : List Val), (∀ d ∈ l, ∃ b, isa1 cs tys t d = some b) → ∃ b', isaN cs tys t l = some b' := by
        intro l
        induction l with
        | nil => intro _; exact ⟨_, rfl⟩
        | cons z l ih =>
          intro hz
          obtain ⟨bz, ez⟩ := hz z List.mem_cons_self
          obtain ⟨b', e'⟩ := ih fun d hd => hz d (List.mem_cons_of_mem _ hd)
          unfold isaN
          rw [ez]
          cases bz with
          | true => exact ⟨_, rfl⟩
          | false => exact ⟨b', e'⟩
      exact this _ fun d hd => hall d (List.mem_cons_of_mem _ hd)
    obtain ⟨b', e'⟩ := ex
    obtain ⟨ucs, c2, k2⟩ := isaN_ok ok tu rs (fun d hd => hall d (List.mem_cons_of_mem _ hd)) e'
    refine ⟨uc :: ucs, .cons c1 c2, ?_⟩
    unfold isaN at e
    rw [e1] at e
    refine kitAny_cons k1 (fun hb => ?_) fun hb => ?_
    · subst hb
      dsimp only at e
      rw [e'] at e
      rw [← e]; exact k2
    · subst hb
      cases e; rfl
theorem clsvs_eq : ∀ {ws : List V} {us vs : List Value}, Paired ClsV ws us → Vals ws vs → vs = us
  | _, _, _, .nil, .nil => rfl
  | _, _, _, .cons c t, .cons r s => by rw [c.eq r, clsvs_eq t s]
theorem c_isi {cs : List Str} {tys : List String} (ok : IsaOk X.K X.mg cs tys) : CallR X (.builtin "isinstance") (rMs (gm X) W0 (vIsi cs tys)) := cr2 (fun pins s τ H x y us Q μ hh a b I rx r ra rb p => by
  unfold vIsi at p
  dsimp only at p
  cases et : tyNm a hh with
  | none => rw [et] at p; exact p.elim
  | some t =>
    rw [et] at p
    dsimp only at p
    have one : ∀ bb, isa1 cs tys t b = some bb → Q (.bl bb) H → wpAny (model X.prog X.w) X.A (call (.builtin "isinstance") us) (EP X pins τ Q) X.xe s := fun bb eb q => by
      obtain ⟨u, tx, tu⟩ := ty_x ok r ra et (isa1_in eb)
      obtain ⟨uc, c1, k1⟩ := isa1_ok ok tu rb eb
      exact call_isi pins s τ H _ us Q I rx ⟨x, y, u, uc, bb, rfl, c1, tx, k1, q⟩
    cases b with
    | tup ds =>
      dsimp only at p
      cases rb with
      | @tup _ ws a1 t1 rs1 =>
        by_cases hc : (∀ d ∈ ds, (isa1 cs tys t d).isSome = true) ∧ tyIn cs t = true
        · rw [if_pos hc] at p
          cases eb : isaN cs tys t ds with
          | none => rw [eb] at p; exact p.elim
          | some bb =>
            rw [eb] at p
            have q := p.at r _ (.bl bb)
            have hall : ∀ d ∈ ds, ∃ b, isa1 cs tys t d = some b := fun d hd => Option.isSome_iff_exists.mp (hc.1 d hd)
            have hcs : ∀ C, t = .inr C → C ∈ cs := fun C ht => by
              have := hc.2
              rw [ht] at this
              exact of_decide_eq_true this
            obtain ⟨u, tx, tu⟩ := ty_x ok r ra et hcs
            obtain ⟨ucs, c1, k1⟩ := isaN_ok ok tu rs1 hall eb
            rcases t1 with t1 | ⟨o, its, nn, q1, q2, q3, q4, q5⟩
            · exact call_isiT pins s τ H _ us Q I rx ⟨x, a1, ws, u, ucs, bb, rfl, t1, c1, tx, k1, q⟩
            · have e1 : its.toList = ucs := clsvs_eq c1 q5
              obtain ⟨oc, od, odt, osl⟩ := o
              refine call_isiK pins s τ H _ us Q I rx ⟨x, a1, od, ucs, nn, osl, u, bb, rfl, ?_, tx, k1, q⟩
              rw [q1]
              dsimp only at q2 q3
              rw [q2, q3, ← e1]
        · rw [if_neg hc] at p
          exact p.elim
    | _ =>
      dsimp only at p
      split at p
      · rename_i bb eb
        exact one _ eb (p.at r _ (.bl _))
      · exact p.elim) (fun _ => rfl) (fun a _ => rfl) (fun a b _ _ _ => rfl)
end
end U
namespace U
open PySem L2
section
variable {X : Cx} {W : WX} {j k n : Nat}
abbrev SysAt (base : Heap) : Prop := ∃ o, base.get? sysModules = some o
theorem key_reads {h : Heap} {kk : Val} {d : PyData} {k' : Key} {u : Value} {n : Nat} {hh : Hh} (e : keyOf kk = some k') (q : toD n hh kk = some d) (i : keyIs k' u = true) : Reads h u d [] := by
  cases n with
  | zero => simp [toD] at q
  | succ n =>
    cases kk with
    | int x =>
      cases e
      rcases keyIs_shape i with ⟨a, t, e1, rfl⟩ | ⟨a, t, e1, rfl⟩
      · cases e1
        simp only [toD, Option.some.injEq] at q; subst q; exact .int _ _
      · cases e1
    | str x =>
      cases e
      rcases keyIs_shape i with ⟨a, t, e1, rfl⟩ | ⟨a, t, e1, rfl⟩
      · cases e1
      · cases e1
        simp only [toD, Option.some.injEq] at q; subst q; exact .str _ _
    | _ => cases e
mutual
theorem toD_rd {pins : List (Addr × Obj)} {τ : St} {s : Shared} {μ : List Addr} {h : Hh} {H : Hp} (hS : SysAt X.base) (I : L2.Inv X pins τ H s) (r : HR (gm X) μ h H) : ∀ (n : Nat) {v : Val} {w : V} {u : Value} {d : PyData}, RV (gm X) μ H v w → RelV w u → toD n h v = some d → ∃ as, Reads s.heap u d as ∧ sysModules ∉ as
  | 0, v, w, u, d, rv, ru, e => by simp [toD] at e
  | n + 1, v, w, u, d, rv, ru, e => by
    have nsys : ∀ {a o}, H a = some o → sysModules ≠ a := fun {a o} ha z => by
      obtain ⟨ob, hb⟩ := hS
      subst z
      rw [(I.bs _ _ hb).2] at ha; cases ha
    cases rv with
    | non => obtain rfl : u = .none := ru; simp only [toD, Option.some.injEq] at e; subst e; exact ⟨[], .none, by simp⟩
    | bl b => obtain rfl : u = .bool b := ru; simp only [toD, Option.some.injEq] at e; subst e; exact ⟨[], .bool b, by simp⟩
    | int b => obtain ⟨t, rfl⟩ := ru; simp only [toD, Option.some.injEq] at e; subst e; exact ⟨[], .int b t, by simp⟩
    | str b => obtain ⟨t, rfl⟩ := ru; simp only [toD, Option.some.injEq] at e; subst e; exact ⟨[], .str b t, by simp⟩
    | @tup vs ws a ta rs =>
      obtain rfl : u = .ref a := ru
      simp only [toD] at e
      cases q : toDs n h vs with
      | none => rw [q] at e; cases e
      | some ds =>
        rw [q] at e; cases e
        obtain ⟨its, rr, ⟨o, ho, hc, nn, hd⟩, _⟩ := I.tuple ta.sq
        obtain ⟨as, ra, na⟩ := toDs_rd hS I r n rs rr q
        exact ⟨as, .tuple ho hc hd ra, na⟩
    | @ref m a qa =>
      obtain rfl : u = .ref a := ru
      obtain ⟨ob, ho, ro⟩ := r.obj qa
      simp only [toD, ho] at e
      have seq : ∀ {vs : List Val} {ws : List V}, SqL X.K H a ws → (∃ z, H a = some z) → RVs (gm X) μ H vs ws → (toDs n h vs).map .list = some d → ∃ as, Reads s.heap (.ref a) d as ∧ sysModules ∉ as := fun {vs ws} sq nz rs e => by
        cases q : toDs n h vs with
        | none => rw [q] at e; cases e
        | some ds =>
          rw [q] at e; cases e
          obtain ⟨its, rr, ⟨o, nn, ho, hc, _, hd⟩, _⟩ := I.list sq
          obtain ⟨as, ra, na⟩ := toDs_rd hS I r n rs rr q
          obtain ⟨z, hz⟩ := nz
          exact ⟨_, .list ho hc hd ra, by simp only [List.mem_cons, not_or]; exact ⟨nsys hz, na⟩⟩
      have dic : ∀ {kvs : List (Val × Val)} {kws : List (Key × V)}, L2.Rd H a (.dK kws) → (∃ z, H a = some z) → RKs (gm X) μ H kvs kws → (toDk n h kvs).map .dict = some d → ∃ as, Reads s.heap (.ref a) d as ∧ sysModules ∉ as := fun {kvs kws} rd nz rk e => by
        cases q : toDk n h kvs with
        | none => rw [q] at e; cases e
        | some ds =>
          rw [q] at e; cases e
          obtain ⟨_, _, vs, kv, o, es, ep, g1, g2, g3, g4, g5, g6⟩ := dk_rd I.hok rd
          obtain ⟨as, bs, ra, rb, na, nb⟩ := toDk_rd hS I r n rk kv g5 q
          obtain ⟨z, hz⟩ := nz
          exact ⟨_, .dict g1 g2.1 g3 ra rb, by simp only [List.cons_append, List.mem_cons, List.mem_append, not_or]; exact ⟨nsys hz, na, nb⟩⟩
      cases ob with
      | lst vs => obtain ⟨ws, g1, g2⟩ := ro; exact seq (.inl (.inl g1)) ⟨_, g1⟩ g2 e
      | fro vs => obtain ⟨o, ws, g1, g2⟩ := ro; exact seq (.inl (.inr ⟨o, g1⟩)) ⟨_, g1⟩ g2 e
      | dct kvs => obtain ⟨kws, g1, g2⟩ := ro; exact dic (.inl g1) ⟨_, g1⟩ g2 e
      | fdc kvs => obtain ⟨o, kws, g1, g2⟩ := ro; exact dic (.inr ⟨o, g1⟩) ⟨_, g1⟩ g2 e
      | ins C fs => simp at e
      | exc _ _ => simp at e
      | xdo _ _ => simp at e
      | dcn kvs => simp at e
      | fdn kvs => simp at e
    | ty m => simp [toD] at e
    | gl m => simp [toD] at e
theorem toDs_rd {pins : List (Addr × Obj)} {τ : St} {s : Shared} {μ : List Addr} {h : Hh} {H : Hp} (hS : SysAt X.base) (I : L2.Inv X pins τ H s) (r : HR (gm X) μ h H) : ∀ (n : Nat) {vs : List Val} {ws : List V} {us : List Value} {ds : List PyData}, RVs (gm X) μ H vs ws → Vals ws us → toDs n h vs = some ds → ∃ as, ReadsAll s.heap us ds as ∧ sysModules ∉ as
  | n, _, _, _, ds, .nil, .nil, e => by simp only [toDs, Option.some.injEq] at e; subst e; exact ⟨[], .nil, by simp⟩
  | n, _, _, _, ds, .cons (v := v) (vs := vs) rv rs, .cons ru rus, e => by
    simp only [toDs] at e
    cases q1 : toD n h v with
    | none => rw [q1] at e; cases e
    | some d1 =>
      cases q2 : toDs n h vs with
      | none => rw [q1, q2] at e; cases e
      | some d2 =>
        rw [q1, q2] at e; cases e
        obtain ⟨as, ra, na⟩ := toD_rd hS I r n rv ru q1
        obtain ⟨bs, rb, nb⟩ := toDs_rd hS I r n rs rus q2
        exact ⟨_, .cons ra rb, by simp only [List.mem_append, not_or]; exact ⟨na, nb⟩⟩
theorem toDk_rd {pins : List (Addr × Obj)} {τ : St} {s : Shared} {μ : List Addr} {h : Hh} {H : Hp} (hS : SysAt X.base) (I : L2.Inv X pins τ H s) (r : HR (gm X) μ h H) : ∀ (n : Nat) {kvs : List (Val × Val)} {kws : List (Key × V)} {vs : List (Key × Value)} {es : List DictEntry} {ds : List (PyData × PyData)}, RKs (gm X) μ H kvs kws → KV kws vs → Pairs (mixKind X.prog X.w) es vs → toDk n h kvs = some ds →
    ∃ as bs, ReadsAll s.heap (es.map (·.key)) (ds.map (·.1)) as ∧ ReadsAll s.heap (es.map (·.val)) (ds.map (·.2)) bs ∧ sysModules ∉ as ∧ sysModules ∉ bs
  | n, _, _, _, _, ds, .nil, .nil, .nil, e => by simp only [toDk, Option.some.injEq] at e; subst e; exact ⟨[], [], .nil, .nil, by simp, by simp⟩
  | n, _, _, _, _, ds, .cons (k := k) (v := v) (kvs := kvs) qk rv rk, .cons ru rus, .cons hk hv hp, e => by
    simp only [toDk] at e
    cases q0 : toD n h k with
    | none => rw [q0] at e; cases e
    | some d0 =>
      cases q1 : toD n h v with
      | none => rw [q0, q1] at e; cases e
      | some d1 =>
        cases q2 : toDk n h kvs with
        | none => rw [q0, q1, q2] at e; cases e
        | some d2 =>
          rw [q0, q1, q2] at e; cases e
          obtain ⟨cs, rc, nc⟩ := toD_rd hS I r n rv ru.2 q1
          obtain ⟨as, bs, ra, rb, na, nb⟩ := toDk_rd hS I r n rk rus hp q2
          have e1 := ru.1
          refine ⟨[] ++ as, cs ++ bs, .cons (key_reads qk q0 ?_) ra, .cons ?_ rb, by simpa using na, by simp only [List.mem_append, not_or]; exact ⟨nc, nb⟩⟩
          · rw [mixKind_is] at hk
            dsimp only at e1 ⊢
            rw [e1]; exact hk
          · dsimp only
            rw [hv]; exact rc
end
def vRepr : Fn := fun vs h => match vs with
  | [x] => (match toD 30 h x with
    | some d => if d.showable = true ∧ d.depth ≤ 32 ∧ d.shown.length ≤ sizeLine then .ok (.str d.shown) h else .no
    | none => .no)
  | _ => .no
theorem nr_repr : ∀ vs h z k, vRepr vs h ≠ .rs z k := fun x h z k => by unfold vRepr; (repeat' split) <;> simp
theorem c_repr (hS : SysAt X.base) (c : Cok X W k) : CallR X (.builtin "repr") (rMs (gm X) W0 vRepr) := cr1 (fun pins s τ H x us Q μ hh a I rx r ra p => by
  unfold vRepr at p
  dsimp only at p
  cases q : toD 30 hh a with
  | none => rw [q] at p; exact p.elim
  | some d =>
    rw [q] at p
    dsimp only at p
    split at p
    · rename_i hz
      have qq := p.at r _ (.str _)
      obtain ⟨u, rfl, ru⟩ := vals1 rx
      have ref : ∀ b, u = .ref b → wpAny (model X.prog X.w) X.A (call (.builtin "repr") [u]) (EP X pins τ Q) X.xe s := fun b eb => by
        subst eb
        obtain ⟨as, rd, na⟩ := toD_rd hS I r 30 ra ru q
        exact repr_of_reads' rd hz.1 (fun _ => na) c.gu (by have := c.u64; have := hz.2.1; omega) (fun _ _ e => e) (fun h' t tk hk => ⟨.str d.shown, H, I.kept hk, ⟨t, rfl⟩, qq⟩) hz.2.2
      cases ra with
      | non =>
        obtain rfl : u = .none := ru
        simp only [toD, Option.some.injEq] at q; subst q
        exact PySem.P.repr_of_none ⟨.str _, H, I.tok _, ⟨_, rfl⟩, qq⟩
      | bl b =>
        obtain rfl : u = .bool b := ru
        simp only [toD, Option.some.injEq] at q; subst q
        exact PySem.P.repr_of_bool ⟨.str _, H, I.tok _, ⟨_, rfl⟩, qq⟩
      | int b =>
        obtain ⟨t, rfl⟩ := ru
        simp only [toD, Option.some.injEq] at q; subst q
        exact PySem.P.repr_of_int (by simpa [PyData.showable] using hz.1) ⟨.str _, H, I.tok _, ⟨_, rfl⟩, qq⟩
      | str b =>
        obtain ⟨t, rfl⟩ := ru
        simp only [toD, Option.some.injEq] at q; subst q
        exact PySem.P.repr_of_str ⟨.str _, H, I.tok _, ⟨_, rfl⟩, qq⟩ hz.2.2
      | tup _ _ => exact ref _ ru
      | ref _ => exact ref _ ru
      | ty m => simp [toD] at q
      | gl m => simp [toD] at q
    · exact p.elim) (fun _ => rfl) (fun a _ _ _ => rfl)
end
end U
namespace U
open PySem L2 PyProof.Rows
theorem tup_mul1 (l : Addr) (items : Array Value) (n : Nat) (dd : Option Addr) (sl : Array (Option Value)) (x : Int) (u : Tok) (c0 : (decide (x < -(2 ^ 63)) || decide (x ≥ 2 ^ 63)) = false) (c1 : (items.isEmpty || x == 1) = true) :
    Meets (Builtin.«tuple.__mul__» ⟨[.ref l, .int x u], []⟩) (fun _ R s => s.heap.get? l = some { cls := .type "tuple", dict := dd, data := .seq items n, slots := sl } ∧ R (.ok (.ret (Value.ref l))) s) :=
  .of_wp fun prog w A R s h => by
    obtain ⟨hp, g, d, tk, os⟩ := s
    obtain ⟨hl, h⟩ := h
    have f1 := AutoSeq1.idx_int
    wp_walk using wpAny_loadPart' hl
    repeat (first
      | (refine wpAny_ite_false (decide_eq_false (by rw [c0]; exact Bool.false_ne_true)) ?_; wp_walk using wpAny_loadPart' hl)
      | (refine wpAny_ite_true (decide_eq_true c1) ?_; wp_walk using wpAny_loadPart' hl))
    exact ⟨_, rfl, h⟩
theorem tup_mul0 (l : Addr) (items : Array Value) (n : Nat) (dd : Option Addr) (sl : Array (Option Value)) (x : Int) (u : Tok) (c0 : (decide (x < -(2 ^ 63)) || decide (x ≥ 2 ^ 63)) = false) (c1 : (items.isEmpty || x == 1) = false) (c2 : (decide (x ≤ 0) || items.isEmpty) = true) :
    Meets (Builtin.«tuple.__mul__» ⟨[.ref l, .int x u], []⟩) (fun _ R s => s.heap.get? l = some { cls := .type "tuple", dict := dd, data := .seq items n, slots := sl } ∧
      R (.ok (.ret (Value.ref s.heap.objs.size))) { s with heap := s.heap.push { cls := Value.type "tuple", data := Data.seq #[] }, toks := s.toks }) :=
  .of_wp fun prog w A R s h => by
    obtain ⟨hp, g, d, tk, os⟩ := s
    obtain ⟨hl, h⟩ := h
    have f1 := AutoSeq1.idx_int
    wp_walk using wpAny_loadPart' hl
    repeat (first
      | (refine wpAny_ite_false (decide_eq_false (by rw [c0]; exact Bool.false_ne_true)) ?_; wp_walk using wpAny_loadPart' hl)
      | (refine wpAny_ite_false (decide_eq_false (by rw [c1]; exact Bool.false_ne_true)) ?_; wp_walk using wpAny_loadPart' hl)
      | (refine wpAny_ite_true (decide_eq_true c2) ?_; wp_walk using wpAny_loadPart' hl))
    exact ⟨_, rfl, h⟩
section
variable {X : Cx} {W : WX} {j k n : Nat} {pos : Pos}
def vMulT (x y : Val) (h : Hh) : Res Val := match x, y with
  | .tup vs, .int k => if -(2 ^ 63) ≤ k ∧ k ≤ 1000 ∧ vs.length ≤ 1000 then .ok (.tup (List.replicate k.toNat vs).flatten) h else .no
  | _, _ => .no
theorem RVs.rep {G : Gm} {μ : List Addr} {H : Hp} {vs : List Val} {ws : List V} (r : RVs G μ H vs ws) : ∀ n, RVs G μ H (List.replicate n vs).flatten (List.replicate n ws).flatten
  | 0 => .nil
  | n + 1 => by
    rw [List.replicate_succ, List.replicate_succ, List.flatten_cons, List.flatten_cons]
    exact r.append (RVs.rep r n)
theorem flat_nil {α : Type} : ∀ n : Nat, (List.replicate n ([] : List α)).flatten = []
  | 0 => rfl
  | n + 1 => by rw [List.replicate_succ, List.flatten_cons, flat_nil n]; rfl
theorem o_mulT : OpR X (binaryOp .Mult) (rM2 (gm X) W0 vMulT) := opr fun pins s τ H x y v u Q μ hh a b I rx ry r ra rb p => by
  cases ra with
  | @tup vs ws a1 t1 rs1 =>
    cases rb with
    | int k =>
      unfold vMulT at p
      dsimp only at p
      split at p
      · rename_i hz
        have hw : ws.length = vs.length := rs1.length.symm
        have pp : ∀ us, us = (List.replicate k.toNat vs).flatten → Ps (gm X) W0 μ H (.ok (.tup us) hh) (qV (gm X) Q) := fun us e => by rw [e]; exact p
        have hc0 : (decide (k < -(2 ^ 63)) || decide (k ≥ 2 ^ 63)) = false := by rw [decide_eq_false (by omega), decide_eq_false (by omega)]; rfl
        by_cases big : vs ≠ [] ∧ 2 ≤ k
        · exact op_repT pins s τ H _ _ v u Q I rx ry ⟨a1, k, ws, rfl, rfl, t1.sq, fun z => big.1 (List.eq_nil_of_length_eq_zero (by rw [← hw, z]; rfl)), big.2, hz.2.1, by omega, lay_tup r (rs1.rep _) p⟩
        · cases rx
          obtain ⟨t, rfl⟩ := ry
          obtain ⟨its, ri, ⟨⟨cls, dd, data, sl⟩, ho, hc, n, hd⟩, hs⟩ := I.tuple t1.sq
          simp only at hc hd
          subst hc hd
          have hit : its.length = vs.length := by rw [← ri.length, hw]
          by_cases one : (its.toArray.isEmpty || k == 1) = true
          · refine wpAny_binaryOp_repeat_ref (T := "tuple") (U := "int") (by decide) ⟨_, ho, rfl⟩ (fun s' => typeIs_int s' k t) noFill_tuple_mul F.fills_int_mul F.slot_int_rmul repeat_tuple F.slot_int_index.lookup
              (call_meets F.slot_int_rmul (typeIs_int s k t) F.entry_int_rmul (F.args_int_rmul_2 _ _) (int_rmul_tuple k t a1 its.toArray n dd sl)
                ⟨ho, rfl, ⟨_, ho, rfl⟩, call_meets F.slot_tuple_mul ⟨_, ho, rfl⟩ F.entry_tuple_mul (F.args_tuple_mul_2 _ _) (tup_mul1 a1 its.toArray n dd sl k t hc0 one) ⟨ho, ?_⟩⟩)
            have ev : vs = (List.replicate k.toNat vs).flatten := by
              by_cases e0 : vs = []
              · rw [e0, flat_nil]
              · have hk : k = 1 := by
                  rcases Bool.or_eq_true_iff.mp one with z | z
                  · exfalso
                    have : its = [] := by simpa using z
                    rw [this] at hit
                    exact e0 (List.eq_nil_of_length_eq_zero hit.symm)
                  · simpa using z
                rw [hk]; simp
            exact ⟨.ref a1, H, I, rfl, (pp vs ev).at r _ (.tup t1 rs1)⟩
          · have hne : (its.toArray.isEmpty || k == 1) = false := by simpa using one
            have hk0 : k ≤ 0 := by
              have h1 := (Bool.or_eq_false_iff.mp hne)
              have hk1 : k ≠ 1 := by simpa using h1.2
              have : its ≠ [] := by simpa using h1.1
              have hv : vs ≠ [] := fun z => this (List.eq_nil_of_length_eq_zero (by rw [hit, z]; rfl))
              by_cases h2 : 2 ≤ k
              · exact absurd ⟨hv, h2⟩ big
              · omega
            refine wpAny_binaryOp_repeat_ref (T := "tuple") (U := "int") (by decide) ⟨_, ho, rfl⟩ (fun s' => typeIs_int s' k t) noFill_tuple_mul F.fills_int_mul F.slot_int_rmul repeat_tuple F.slot_int_index.lookup
              (call_meets F.slot_int_rmul (typeIs_int s k t) F.entry_int_rmul (F.args_int_rmul_2 _ _) (int_rmul_tuple k t a1 its.toArray n dd sl)
                ⟨ho, rfl, ⟨_, ho, rfl⟩, call_meets F.slot_tuple_mul ⟨_, ho, rfl⟩ F.entry_tuple_mul (F.args_tuple_mul_2 _ _) (tup_mul0 a1 its.toArray n dd sl k t hc0 hne (by rw [decide_eq_true hk0]; rfl)) ⟨ho, ?_⟩⟩)
            have ev : ([] : List Val) = (List.replicate k.toNat vs).flatten := by
              have : k.toNat = 0 := by omega
              rw [this]; rfl
            refine ⟨.ref s.heap.objs.size, upd H s.heap.objs.size (.tup []), I.laid (t' := s.toks) (fun b ob q => Heap.get?_push_of_some _ q) (Nat.le_refl _) ?_, rfl, lay_tup r .nil (pp [] ev) _ (I.hok.fresh (Nat.le_refl _))⟩
            exact ⟨Nat.zero_le _, [], .nil, IsTup.new _ _⟩
      · exact p.elim
    | _ => exact p.elim
  | _ => exact p.elim
def isTup : Val → Bool
  | .tup _ => true
  | _ => false
def vMulA (x y : Val) (h : Hh) : Res Val := if isTup x = true then vMulT x y h else vMul x y h
theorem nr_mulT : ∀ x y h z k, vMulT x y h ≠ .rs z k := fun x y h z k => by unfold vMulT; (repeat' split) <;> simp
theorem nr_mulA : ∀ x y h z k, vMulA x y h ≠ .rs z k := fun x y h z k => by
  unfold vMulA; split
  · exact nr_mulT x y h z k
  · exact nr_mul x y h z k
theorem o_mulA (hu : OpR X (binaryOp .Mult) (rM2 (gm X) W0 vMul)) : OpR X (binaryOp .Mult) (rM2 (gm X) W0 vMulA) :=
  fun pins s τ H x y v u Q I rx ry ⟨μ, hh, a, b, r, ra, rb, p⟩ => by
    unfold vMulA at p
    split at p
    · exact o_mulT pins s τ H x y v u Q I rx ry ⟨μ, hh, a, b, r, ra, rb, p⟩
    · exact hu pins s τ H x y v u Q I rx ry ⟨μ, hh, a, b, r, ra, rb, p⟩
def mPairs : List (ME × ME) → Loc → Hh → Res (List (Val × Val))
  | [], _, h => .ok [] h
  | (a, b) :: r, σ, h => (a σ h).bind fun x h1 => (b σ h1).bind fun y h2 => (mPairs r σ h2).bind fun ps h3 => .ok ((x, y) :: ps) h3
def dMerge (kvs more : List (Val × Val)) : List (Val × Val) := more.foldl (fun acc kv => dPut acc kv.1 kv.2) kvs
def keysOk : List (Val × Val) → Bool
  | [] => true
  | (k, _) :: r => (keyOf k).isSome && keysOk r
inductive RPs (G : Gm) (μ : List Addr) (H : Hp) : List (Val × Val) → List (V × V) → Prop
  | nil : RPs G μ H [] []
  | cons {k v : Val} {x y : V} {ps : List (Val × Val)} {qs : List (V × V)} : RV G μ H k x → RV G μ H v y → RPs G μ H ps qs → RPs G μ H ((k, v) :: ps) ((x, y) :: qs)
theorem RPs.keys {G : Gm} {μ : List Addr} {H : Hp} : ∀ {ps : List (Val × Val)} {qs : List (V × V)}, RPs G μ H ps qs → keysOk ps = true → ∃ kws : List (Key × V), qs = kws.map (fun kv => (kV kv.1, kv.2)) ∧ RKs G μ H ps kws
  | _, _, .nil, _ => ⟨[], rfl, .nil⟩
  | _, _, .cons (k := k) (v := v) (x := x) (y := y) rk rv t, e => by
    unfold keysOk at e
    obtain ⟨e1, e2⟩ := Bool.and_eq_true_iff.mp e
    obtain ⟨kws, q1, q2⟩ := RPs.keys t e2
    cases qk : keyOf k with
    | none => rw [qk] at e1; cases e1
    | some kk =>
      refine ⟨(kk, y) :: kws, ?_, .cons qk rv q2⟩
      rw [q1]
      have : x = kV kk := by
        cases k with
        | int i => cases qk; cases rk; rfl
        | str i => cases qk; cases rk; rfl
        | _ => cases qk
      rw [this]; rfl
theorem dMerge_ok {G : Gm} {μ : List Addr} {H : Hp} : ∀ {more : List (Val × Val)} {mws : List (Key × V)} {kvs : List (Val × Val)} {kws : List (Key × V)}, RKs G μ H more mws → RKs G μ H kvs kws → RKs G μ H (dMerge kvs more) (mergeK kws mws)
  | _, _, _, _, .nil, r => r
  | _, _, _, _, .cons (kvs := m1) (kws := m2) q rv t, r => dMerge_ok (more := m1) (mws := m2) t (dPut_ok q rv r)
theorem tPairs_ok {τ : L2.St} {σ : Loc} : ∀ (ms : List (ME × ME)) {μ : List Addr} {h : Hh} {H : Hp} {Q : List (V × V) → Hp → Prop}, LR (gm X) μ H σ τ → HR (gm X) μ h H →
    Ps (gm X) (WE W τ) μ H (mPairs ms σ h) (fun ps μ' _ H' => ∀ qs, RPs (gm X) μ' H' ps qs → Q qs H') → tPairs (ms.map fun m => (tM (gm X) W m.1, tM (gm X) W m.2)) τ H Q
  | [], μ, h, H, Q, l, r, p => p.at r [] .nil
  | (a, b) :: ms, μ, h, H, Q, l, r, p => by
    refine ⟨μ, σ, h, l, r, ?_⟩
    refine (Ps.bind p).imp fun x μ1 h1 H1 p1 e1 r1 q1 w1 rw1 => ?_
    refine ⟨μ1, σ, h1, l.mono p1 e1, r1, ?_⟩
    refine (Ps.bind q1).imp fun y μ2 h2 H2 p2 e2 r2 q2 w2 rw2 => ?_
    show tPairs _ τ H2 _
    refine tPairs_ok ms (l.mono (p1.trans p2) (e1.trans e2).et) r2 ?_
    refine (Ps.bind q2).imp fun ps μ3 h3 H3 p3 e3 r3 q3 qs rqs => ?_
    exact q3.at r3 _ (.cons (rw1.mono (p2.trans p3) (e2.trans e3).et) (rw2.mono p3 e3.et) rqs)
def mDisp (ms : List (ME × ME)) : ME := fun σ h => (mPairs ms σ (h ++ [.dct []])).bind fun ps h1 => match h1[h.length]? with
  | some (.dct []) => if keysOk ps = true ∧ ps.length ≤ 15 then .ok (.ref h.length) (h1.set h.length (.dct (dMerge [] ps))) else .no
  | _ => .no
theorem RPs.length {G : Gm} {μ : List Addr} {H : Hp} : ∀ {ps : List (Val × Val)} {qs : List (V × V)}, RPs G μ H ps qs → ps.length = qs.length
  | _, _, .nil => rfl
  | _, _, .cons _ _ t => by simp [RPs.length t]
theorem s_disp {keys : List (Option Expr)} {values : List Expr} (ms : List (ME × ME)) (h : PPs X pos keys values (ms.map fun m => (tM (gm X) W m.1, tM (gm X) W m.2))) (hall : keys.all (·.isSome) = true := by rfl) (hl : keys.length = values.length := by rfl) (h0 : keys ≠ [] := by exact List.cons_ne_nil _ _)
    (h15 : keys.length ≤ 15 := by decide) : CE X W (.Dict keys values pos) (mDisp ms) := by
  refine peI (pe_disp h hall hl h0 h15) fun τ H Q ⟨μ, σ, hh, l, r, p⟩ a ha => ?_
  have r1 : HR (gm X) (μ ++ [a]) (hh ++ [.dct []]) (upd H a (.dK [])) := r.laid ha ⟨[], upd_same, .nil⟩
  have hi : (μ ++ [a])[hh.length]? = some a := by rw [← r.len]; simp
  have px : μ <+: μ ++ [a] := List.prefix_append μ [a]
  have ex : Ex H (upd H a (.dK [])) := Ex.new ha
  refine tPairs_ok ms (l.mono px ex.et) r1 ?_
  refine (Ps.bind (Ps.mono px ex p)).imp fun ps μ1 h1 H1 p1 e1 rr1 q1 qs rqs => ?_
  obtain ⟨ob, hob, ro⟩ := rr1.obj (pre_get p1 hi)
  rw [hob] at q1
  cases ob with
  | dct kvs =>
    cases kvs with
    | cons c d => exact q1.elim
    | nil =>
      obtain ⟨kws, g1, g2⟩ := ro
      cases g2
      dsimp only at q1
      split at q1
      · rename_i hz
        obtain ⟨kws, e1, rk⟩ := rqs.keys hz.1
        have ex2 : Ex H1 (upd H1 a (.dK (mergeK [] kws))) := Ex.put g1 (fun _ z => nomatch z) fun _ _ z => nomatch z
        refine ⟨g1, kws, e1, by rw [← List.length_map (f := fun kv : Key × V => (kV kv.1, kv.2)), ← e1, ← rqs.length]; exact hz.2, ?_⟩
        exact q1 μ1 _ (List.prefix_refl _) ex2 (rr1.put (pre_get p1 hi) g1 (fun _ z => nomatch z) ⟨_, upd_same, (dMerge_ok rk .nil).mono (List.prefix_refl _) ex2.et⟩) _ (.ref (pre_get p1 hi))
      · exact q1.elim
  | _ => exact q1.elim
def vNewD : ME := fun _ h => .ok (.ref h.length) (h ++ [.dct []])
theorem s_newD : CE X W (.Dict [] [] pos) vNewD := peI pe_dnewK fun τ H Q ⟨μ, σ, hh, l, r, p⟩ a ha =>
  p (μ ++ [a]) _ (List.prefix_append μ [a]) (Ex.new ha) (r.laid ha ⟨[], upd_same, .nil⟩) _ (.ref (by rw [← r.len]; simp))
theorem lay_dct {G : Gm} {μ : List Addr} {h : Hh} {H : Hp} {kvs : List (Val × Val)} {kws : List (Key × V)} (r : HR G μ h H) (rv : RKs G μ H kvs kws) {Q : VK} {W : XK} (p : Ps G W μ H (.ok (.ref h.length) (h ++ [.dct kvs])) (qV G Q)) : ∀ a, H a = none → Q (.ref a) (upd H a (.dK kws)) := fun a ha =>
  p (μ ++ [a]) _ (List.prefix_append μ [a]) (Ex.new ha) (r.laid ha ⟨kws, upd_same, rv.mono (List.prefix_append μ [a]) (Et.new ha)⟩) _ (.ref (by rw [← r.len]; simp))
end
end U
namespace U
open PySem L2
def pick {α : Type} (ix : List Nat) (l : List α) : List α := ix.filterMap fun i => l[i]?
theorem RVs.nget {G : Gm} {μ : List Addr} {H : Hp} {vs : List Val} {ws : List V} {i : Nat} (r : RVs G μ H vs ws) (e : vs[i]? = none) : ws[i]? = none :=
  List.getElem?_eq_none_iff.mpr (by rw [← r.length]; exact List.getElem?_eq_none_iff.mp e)
theorem RVs.pick {G : Gm} {μ : List Addr} {H : Hp} {vs : List Val} {ws : List V} (r : RVs G μ H vs ws) : ∀ ix : List Nat, RVs G μ H (U.pick ix vs) (U.pick ix ws)
  | [] => .nil
  | i :: ix => by
    unfold U.pick
    cases e : vs[i]? with
    | none => rw [List.filterMap_cons_none e, List.filterMap_cons_none (r.nget e)]; exact RVs.pick r ix
    | some v =>
      obtain ⟨w, e2, rv⟩ := r.get e
      rw [List.filterMap_cons_some e, List.filterMap_cons_some e2]
      exact .cons rv (RVs.pick r ix)
theorem vals_pick {xs : List V} {us : List Value} (r : Vals xs us) : ∀ ix : List Nat, Vals (U.pick ix xs) (U.pick ix us)
  | [] => .nil
  | i :: ix => by
    unfold U.pick
    cases e : xs[i]? with
    | none => rw [List.filterMap_cons_none e, List.filterMap_cons_none (r.none_of e)]; exact vals_pick r ix
    | some v =>
      obtain ⟨w, e2, rv⟩ := r.get e
      rw [List.filterMap_cons_some e, List.filterMap_cons_some e2]
      exact .cons rv (vals_pick r ix)
def Bnd (K : PySem.W.Frag) (fd : FuncData) (ps : List Str) (n : Nat) (ks : List Str) (ix : List Nat) (dus : List Value) : Prop :=
  ∀ (s : Shared) (us ws : List Value), K.In s.heap → us.length = n → ws.length = ks.length → BindsTo s fd ⟨us, ks.zip ws⟩ (ps.zip (pick ix (us ++ (ws ++ dus))))
section
variable {X : Cx} {W : WX} {j k : Nat} {f : Addr} {fd : FuncData} {ps ks : List Str} {sp : Sp} {x m : Str} {p pos apos : Pos} {e o : Expr} {es : List Expr} {kws : List Keyword} {F : Fn} {n N : Nat} {ma mo : ME} {mm mk : MA} {ix : List Nat} {ds : List Val}
def kwF (n m : Nat) (ix : List Nat) (ds : List Val) (N : Nat) (F : Fn) (vs zs : List Val) (h : Hh) : Res Val :=
  if vs.length = n ∧ zs.length = m then (if (pick ix (vs ++ (zs ++ ds))).length = N then F (pick ix (vs ++ (zs ++ ds))) h else .no) else .no
def mKw (n m : Nat) (ix : List Nat) (ds : List Val) (N : Nat) (F : Fn) (mm mk : MA) : ME := fun σ h => (mm σ h).bind fun vs h1 => (mk σ h1).bind fun zs h2 => kwF n m ix ds N F vs zs h2
structure FnKw (P : Program) (w : World) (K : PySem.W.Frag) (mg : Str → Option Value) (base : Heap) (x : Str) (k N : Nat) (F : Fn) (n : Nat) (ks : List Str) (ix : List Nat) (ds : List Val) : Prop where
  ex : ∃ f fd ps dvs dus, mg x = some (.ref f) ∧ PySem.W.keepIn K (.ref f) = true ∧ Bnd K fd ps n ks ix dus ∧ Vals dvs dus ∧ (∀ μ H, RVs ⟨K, mg, w⟩ μ H ds dvs) ∧ FK P w K mg base k f fd ps (spF ⟨K, mg, w⟩ F N)
theorem kw_ps {μ : List Addr} {h : Hh} {H : Hp} {vs zs : List Val} {ws ys dvs : List V} {Q : VK} {E : XK} (r : HR (gm X) μ h H) (rv : RVs (gm X) μ H vs ws) (rz : RVs (gm X) μ H zs ys) (rd : ∀ μ H, RVs (gm X) μ H ds dvs) {m : Nat} (pp : Ps (gm X) E μ H (kwF n m ix ds N F vs zs h) (qV (gm X) Q)) :
    ws.length = n ∧ ys.length = m ∧ spF (gm X) F N (pick ix (ws ++ (ys ++ dvs))) H Q E := by
  unfold kwF at pp
  split at pp
  · rename_i hl
    split at pp
    · rename_i hN
      exact ⟨by rw [← rv.length]; exact hl.1, by rw [← rz.length]; exact hl.2, spF_of r ((rv.append (rz.append (rd μ H))).pick ix) hN pp⟩
    · exact pp.elim
  · exact pp.elim
theorem run_kw {pins : List (Addr × Obj)} {τ : St} {H : Hp} {s : Shared} {Q : VK} {us ws dus : List Value} {vs zs dvs : List V} (c : Cok X W k) (T : FK X.prog X.w X.K X.mg X.base k f fd ps sp) (hb : Bnd X.K fd ps n ks ix dus) (rd : Vals dvs dus)
    (I : L2.Inv X pins τ H s) (r : Vals vs us) (rz : Vals zs ws) (l1 : vs.length = n) (l2 : zs.length = ks.length) (h : sp (pick ix (vs ++ (zs ++ dvs))) H Q (WE W τ)) : wpAny (model X.prog X.w) X.A (call (.ref f) us (ks.zip ws)) (EP X pins τ Q) X.xe s := by
  refine wpAny_call (codeAny_mono (run_fk c T (hb s us ws I.kIn (r.length.symm.trans l1) (rz.length.symm.trans l2)) I (vals_pick (r.append (rz.append rd)) ix) h) fun r s' hq => ?_)
  cases r with
  | error e => exact hq
  | ok fl => cases fl <;> exact hq
theorem s_callK0 (c : Cok X W k) (T : FnKw X.prog X.w X.K X.mg X.base x j N F 0 ks ix ds) (hj : j ≤ k) (hkw : CK X W kws mk) (hg : Gl X x := by rfl)
    (hall : (backToKw pos (keywordEach kws X.env)).all (·.1.isSome) = true := by rfl) (hks : (backToKw pos (keywordEach kws X.env)).filterMap (·.1) = ks := by rfl) (hdb : (x == ("__debug__" : Str)) = false := by decide)
    (hpl : ((backTo pos (starEach [] X.env)).any (·.1) || (backToKw pos (keywordEach kws X.env)).any (·.1.isNone)) = false := by rfl) :
    CE X W (.Call (.Name x p) [] kws pos) (mKw 0 ks.length ix ds N F maNil mk) := by
  obtain ⟨f, fd, ps, dvs, dus, hm, kp, hb, rd, rds, T⟩ := T.ex
  refine ⟨fun pins s τ H Q I ⟨μ, σ, hh, l, r, pp⟩ => ?_⟩
  refine wpAny_Call_Name_kw (ld_glob I hg hm ?_ hdb)
  refine PySem.W.callWith_KW0 (h₀ := X.base) I.ok.mod.kin kp hall ?_ hpl
  refine thn (hkw.run pos pins s τ H (fun ys H2 => (0 : Nat) = 0 ∧ ys.length = ks.length ∧ spF (gm X) F N (pick ix ([] ++ (ys ++ dvs))) H2 Q (WE W τ)) I ⟨μ, σ, hh, l, r, ?_⟩) fun ws s2 ⟨zs, H2, I2, rz, l1, l2, q2⟩ => ⟨I2.kIn, ?_⟩
  · have pp' : Ps (gm X) (WE W τ) μ H ((mk σ hh).bind fun zs h2 => kwF 0 ks.length ix ds N F [] zs h2) (qV (gm X) Q) := pp
    refine (Ps.bind pp').imp fun zs μ2 h2 H2 p2 e2 r2 q2 ys rys => ?_
    exact kw_ps (ws := []) r2 .nil rys rds q2
  · rw [hks]
    exact run_kw (us := []) (vs := []) (c.mono hj) T hb rd I2 .nil rz rfl l2 q2
structure MtKw (P : Program) (w : World) (K : PySem.W.Frag) (mg : Str → Option Value) (base : Heap) (C m : Str) (k N : Nat) (F : Fn) (n : Nat) (ks : List Str) (ix : List Nat) (ds : List Val) : Prop where
  ex : ∃ Ca f fd ps dvs dus, mg C = some (.ref Ca) ∧ Cls K Ca ∧ Meth K Ca m f ∧ Bnd K fd ps n ks ix dus ∧ Vals dvs dus ∧ (∀ μ H, RVs ⟨K, mg, w⟩ μ H ds dvs) ∧ FK P w K mg base k f fd ps (spF ⟨K, mg, w⟩ F N)
def mMethK (C m : Str) (n nk : Nat) (ix : List Nat) (ds : List Val) (N : Nat) (F : Fn) (a : ME) (mm mk : MA) : ME := fun σ h => (a σ h).bind fun x h1 => if isI C m x h1 = true then (mm σ h1).bind fun xs h2 => (mk σ h2).bind fun zs h3 => kwF n nk ix ds N F (x :: xs) zs h3 else .no
structure MkKw (P : Program) (w : World) (K : PySem.W.Frag) (mg : Str → Option Value) (base : Heap) (C : Str) (k N : Nat) (F : Fn) (n : Nat) (ks : List Str) (ix : List Nat) (ds : List Val) : Prop where
  ex : ∃ Ca f fd ps dvs dus, mg C = some (.ref Ca) ∧ Mk K Ca f ∧ Bnd K fd ps (n + 1) ks ix dus ∧ Vals dvs dus ∧ (∀ μ H, RVs ⟨K, mg, w⟩ μ H ds dvs) ∧ FK P w K mg base k f fd ps (spF ⟨K, mg, w⟩ F N)
def mkK (C : Str) (n m : Nat) (ix : List Nat) (ds : List Val) (N : Nat) (F : Fn) (vs zs : List Val) (h : Hh) : Res Val :=
  (kwF (n + 1) m ix ds N F (.ref h.length :: vs) zs (h ++ [.ins C []])).bind fun v h1 => match v with
  | .non => .ok (.ref h.length) h1
  | _ => .no
def mMkK (C : Str) (n m : Nat) (ix : List Nat) (ds : List Val) (N : Nat) (F : Fn) (mm mk : MA) : ME := fun σ h => (mm σ h).bind fun vs h1 => (mk σ h1).bind fun zs h2 => mkK C n m ix ds N F vs zs h2
end
end U
namespace U
open PySem L2
section
variable {X : Cx} {W : WX} {j k n : Nat} {pos p apos cpos : Pos} {e : Expr} {ma : ME}
def vVals (x : Val) (h : Hh) : Res Val := match x with
  | .ref n => (match h[n]? with
    | some (.dct kvs) => .ok (.ref h.length) (h ++ [.lst (kvs.map (·.2))])
    | some (.fdc kvs) => .ok (.ref h.length) (h ++ [.lst (kvs.map (·.2))])
    | _ => .no)
  | _ => .no
def mVals (a : ME) : ME := fun σ h => (a σ h).bind fun x h1 => vVals x h1
theorem vals_of_kv : ∀ {kws : List (Key × V)} {vs : List (Key × Value)}, KV kws vs → Vals (kws.map (·.2)) (vs.map (·.2))
  | _, _, .nil => .nil
  | _, _, .cons r t => .cons r.2 (vals_of_kv t)
theorem s_vals (hc : X.calm = true) (he : CE X W e ma) (hm : X.mg "list" = none) (hg : Gl X "list" := by rfl) (hv : bootBuiltins "list" = some (.type "list") := by rfl) (hbase : attributeBase e "values" X.env (eval e X.env) = eval e X.env := by rfl) (hline : (apos.endLine == cpos.line) = true := by rfl)
    (hs : starEach [.Call (.Attribute e "values" apos) [] [] cpos] X.env = (false, eval (.Call (.Attribute e "values" apos) [] [] cpos) X.env) :: starEach [] X.env := by rfl) :
    CE X W (.Call (.Name "list" p) [.Call (.Attribute e "values" apos) [] [] cpos] [] pos) (mVals ma) := by
  refine ⟨fun pins s τ H Q I ⟨μ, σ, hh, l, r, pp⟩ => ?_⟩
  refine wpAny_Call_Name_kw (ld_blt I hg hm hv ?_)
  refine PyProof.Rows.callWith_type1 ?_ hs rfl
  rw [hs]
  show wpAny _ _ (spliced ((false, eval (.Call (.Attribute e "values" apos) [] [] cpos) X.env) :: backTo pos (starEach [] X.env))) _ _ s
  refine Calls.spliced_cons ?_
  refine wpAny_Call_method (T := "dict") (id := "dict.values") hbase rfl hline F.plainAttrs_dict F.slot_dict_values F.type_dict_values (thn (he.run pins s τ H (fun x H1 => ∃ (d : Addr) (kws : List (Key × V)), x = .ref d ∧ L2.Rd H1 d (.dK kws) ∧ ∀ q, H1 q = none → Q (.ref q) (upd H1 q (.lst (kws.map (·.2))))) I ⟨μ, σ, hh, l, r, ?_⟩) fun u s1 ⟨x, H1, I1, rx, d, kws, ex, hd, q⟩ => ?_)
  · refine (Ps.bind pp).imp fun x μ1 h1 H1 p1 e1 r1 q1 w1 rw1 => ?_
    unfold vVals at q1
    cases rw1 with
    | @ref n a qa =>
      obtain ⟨ob, ho, ro⟩ := r1.obj qa
      dsimp only at q1
      rw [ho] at q1
      cases ob with
      | dct kvs => obtain ⟨kws, g1, g2⟩ := ro; exact ⟨a, kws, rfl, .inl g1, lay_lst r1 g2.vals q1⟩
      | fdc kvs => obtain ⟨o, kws, g1, g2⟩ := ro; exact ⟨a, kws, rfl, .inr ⟨o, g1⟩, lay_lst r1 g2.vals q1⟩
      | _ => exact q1.elim
    | _ => exact q1.elim
  · subst ex
    obtain rfl : u = Value.ref d := rx
    obtain ⟨hz, lo, vs, kv, hdo⟩ := dk_rd I1.hok hd
    obtain ⟨ep, hat⟩ := hdo.dictAt
    have lk : kws.length = vs.length := Paired.length kv
    have I2 : L2.Inv X pins τ H1 { s1 with heap := s1.heap.push { cls := .type "dict_values", data := .fields #[.ref d] } } := I1.kept (t' := s1.toks) fun b ob q => Heap.get?_push_of_some _ q
    refine ⟨hdo.typeIs, hdo.mapOf.noDict, ?_⟩
    show wpAny _ _ (callWith cpos (.builtin "dict.values") [.ref d] [] []) _ X.xe s1
    refine method_meetsIn F.slot_dict_values F.entry_dict_values rfl (PySem.evalArgs_none ⟨rfl, hdo.typeIs, F.args_dict_values_1 _, _, meets_dict_values (mixKind X.prog X.w) d lo, ⟨vs, hdo⟩, ?_⟩)
    refine Calls.spliced_nil ?_
    refine PySem.W.kdl_call (PySem.W.kdl_values (knd := mixKind X.prog X.w) (kvs := vs) (ep := ep)) (I1.ok.hd hc) ⟨⟨_, Heap.get?_push_size _ rfl, rfl, rfl⟩, hat.push _⟩ (by omega) fun h' tk acc c' hk hD hacc => ?_
    have ev : acc.toList = vs.map (·.2) := PySem.W.kdl_vals_eq acc.toList (by rw [Array.length_toList]; exact hacc.1) fun i v ee => hacc.2 i v (by rw [← Array.getElem?_toList]; exact ee)
    refine ⟨.ref _, upd H1 _ (.lst (kws.map (·.2))), I2.laid (t' := tk) hk (Nat.le_refl _) (show ObjOk X.prog X.w _ _ _ (.lst (kws.map (·.2))) from ⟨by rw [List.length_map]; exact hz, acc.toList, c', by rw [ev]; exact vals_of_kv kv, by rw [Array.toArray_toList]; exact hD⟩), rfl, q _ (I2.hok.fresh (Nat.le_refl _))⟩
def vItems (x : Val) (h : Hh) : Res Val := match x with
  | .ref n => (match h[n]? with
    | some (.dct kvs) => .ok (.ref h.length) (h ++ [.lst (kvs.map fun kv => .tup [kv.1, kv.2])])
    | _ => .no)
  | _ => .no
def mItems (a : ME) : ME := fun σ h => (a σ h).bind fun x h1 => vItems x h1
theorem items_rv {G : Gm} {μ : List Addr} {H : Hp} : ∀ {kvs : List (Val × Val)} {kws : List (Key × V)} {ts : List Addr}, RKs G μ H kvs kws → Paired (fun (t : Addr) (q : Key × V) => H t = some (.tup [kV q.1, q.2])) ts kws → RVs G μ H (kvs.map fun kv => Val.tup [kv.1, kv.2]) (ts.map V.ref)
  | _, _, _, .nil, .nil => .nil
  | _, _, _, .cons q r t, .cons a b => .cons (.tup (.inl a) (.cons (rv_key q) (.cons r .nil))) (items_rv t b)
theorem s_items (hc : X.calm = true) (he : CE X W e ma) (hm : X.mg "list" = none) (hg : Gl X "list" := by rfl) (hv : bootBuiltins "list" = some (.type "list") := by rfl) (hbase : attributeBase e "items" X.env (eval e X.env) = eval e X.env := by rfl) (hline : (apos.endLine == cpos.line) = true := by rfl)
    (hs : starEach [.Call (.Attribute e "items" apos) [] [] cpos] X.env = (false, eval (.Call (.Attribute e "items" apos) [] [] cpos) X.env) :: starEach [] X.env := by rfl) :
    CE X W (.Call (.Name "list" p) [.Call (.Attribute e "items" apos) [] [] cpos] [] pos) (mItems ma) := by
  refine peI (LiI.pe_listItems hc he hg hm hv hbase hline hs) fun τ H Q ⟨μ, σ, hh, l, r, pp⟩ => ⟨μ, σ, hh, l, r, ?_⟩
  refine (Ps.bind pp).imp fun x μ1 h1 H1 p1 e1 r1 q1 w1 rw1 => ?_
  unfold vItems at q1
  cases rw1 with
  | @ref n a qa =>
    obtain ⟨ob, ho, ro⟩ := r1.obj qa
    dsimp only at q1
    rw [ho] at q1
    cases ob with
    | dct kvs =>
      obtain ⟨kws, g1, g2⟩ := ro
      refine ⟨a, kws, rfl, g1, fun H' q ts kp hp ht hn hq pr => ?_⟩
      have ex : Ex H1 H' := ⟨fun b ws z => kp b _ z, fun b o u z => kp b _ z⟩
      have rk : HR (gm X) μ1 h1 H' := r1.keepAll kp
      have hq0 : q ∉ μ1 := r1.none hp
      -- q as a new object of the plain heap
      refine q1 (μ1 ++ [q]) H' (List.prefix_append μ1 [q]) ex ?_ _ (.ref (by rw [← r1.len]; simp))
      exact rk.adopt hq0 (fun u e => by rw [hq] at e; cases e; exact ⟨fun _ z => (nomatch z), fun _ z => (nomatch z)⟩) ⟨_, hq, items_rv (g2.mono (List.prefix_append μ1 [q]) ex.et) pr⟩
    | _ => exact q1.elim
  | _ => exact q1.elim
def pairsOf : List Val → Option (List (Val × Val))
  | [] => some []
  | .tup [k, v] :: r => if (keyOf k).isSome = true then (pairsOf r).map ((k, v) :: ·) else none
  | _ => none
theorem pairsOf_ok {G : Gm} {μ : List Addr} {H : Hp} : ∀ {vs : List Val} {ws : List V} {ps : List (Val × Val)}, RVs G μ H vs ws → pairsOf vs = some ps → ∃ (as : List Addr) (kws : List (Key × V)), ws = as.map V.ref ∧ Paired (fun p kv => SqT G.K H p [kV kv.1, kv.2]) as kws ∧ RKs G μ H ps kws
  | _, _, _, .nil, e => by cases e; exact ⟨[], [], rfl, .nil, .nil⟩
  | _, _, ps, .cons (v := v) (vs := vr) r t, e => by
    cases r with
    | @tup us zs a ta rs =>
      cases rs with
      | nil => simp [pairsOf] at e
      | cons r1 t1 =>
        cases t1 with
        | nil => simp [pairsOf] at e
        | cons r2 t2 =>
          cases t2 with
          | cons _ _ => simp [pairsOf] at e
          | nil =>
            rename_i k x v y
            simp only [pairsOf] at e
            split at e
            · rename_i hk
              cases q : pairsOf vr with
              | none => rw [q] at e; cases e
              | some pr =>
                rw [q] at e; cases e
                obtain ⟨as, kws, e1, e2, e3⟩ := pairsOf_ok t q
                cases qk : keyOf k with
                | none => rw [qk] at hk; cases hk
                | some kk =>
                  have ex : x = kV kk := by
                    cases k with
                    | int i => cases qk; cases r1; rfl
                    | str i => cases qk; cases r1; rfl
                    | _ => cases qk
                  subst ex
                  exact ⟨a :: as, (kk, y) :: kws, by rw [e1]; rfl, .cons ta.sq e2, .cons qk r2 e3⟩
            · cases e
    | _ => simp [pairsOf] at e
def vDict : Fn := fun vs h => match vs with
  | [.ref n] => (match h[n]? with
    | some (.lst ws) => (match pairsOf ws with | some ps => .ok (.ref h.length) (h ++ [.dct (dMerge [] ps)]) | none => .no)
    | some (.dct kvs) => .ok (.ref h.length) (h ++ [.dct kvs])
    | some (.fdc kvs) => .ok (.ref h.length) (h ++ [.dct kvs])
    | _ => .no)
  | _ => .no
theorem nr_dict : ∀ vs h z k, vDict vs h ≠ .rs z k := fun x h z k => by unfold vDict; (repeat' split) <;> simp
theorem c_dict (hc : X.calm = true) : CallR X (.type "dict") (rMs (gm X) W0 vDict) := cr1 (fun pins s τ H x us Q μ hh a I rx r ra p => by
  unfold vDict at p
  cases ra with
  | @ref n a1 q1 =>
    obtain ⟨o, ho, ro⟩ := r.obj q1
    dsimp only at p
    rw [ho] at p
    cases o with
    | lst vs =>
      obtain ⟨ws, g1, g2⟩ := ro
      dsimp only at p
      cases q : pairsOf vs with
      | none => rw [q] at p; exact p.elim
      | some ps =>
        rw [q] at p
        obtain ⟨as, kws, e1, e2, e3⟩ := pairsOf_ok g2 q
        subst e1
        exact call_dictP hc pins s τ H _ us Q I rx ⟨a1, as, kws, rfl, .inl (.inl g1), e2, lay_dct r (dMerge_ok e3 .nil) p⟩
    | dct vs => obtain ⟨ws, g1, g2⟩ := ro; exact call_dictD pins s τ H _ us Q I rx ⟨a1, ws, rfl, .inl g1, lay_dct r g2 p⟩
    | fdc vs => obtain ⟨ob, ws, g1, g2⟩ := ro; exact call_dictD pins s τ H _ us Q I rx ⟨a1, ws, rfl, .inr ⟨ob, g1⟩, lay_dct r g2 p⟩
    | _ => exact p.elim
  | _ => exact p.elim) (fun _ => rfl) (fun a _ _ _ => by cases a <;> rfl)
def strLe (a b : Str) : Bool := !strLt b a
def sSort (xs : List Str) : List Str := xs.mergeSort strLe
theorem str_ext {a b : Str} (h : a.cps.toList = b.cps.toList) : a = b := by
  cases a; cases b
  simp only at h
  congr 1
  exact Array.toList_inj.mp h
theorem strLe_trans (a b c : Str) : strLe a b = true → strLe b c = true → strLe a c = true := by
  unfold strLe strLt
  simp only [Bool.not_eq_true', decide_eq_false_iff_not]
  intro h1 h2 h3
  exact h1 (List.lt_of_le_of_lt (List.not_lt.mp h2) h3)
theorem strLe_total (a b : Str) : (strLe a b || strLe b a) = true := by
  unfold strLe strLt
  by_cases h : b.cps.toList < a.cps.toList
  · have : ¬ a.cps.toList < b.cps.toList := List.lt_asymm h
    simp [h, this]
  · simp [h]
theorem strLe_anti (a b : Str) (h1 : strLe a b = true) (h2 : strLe b a = true) : a = b := by
  unfold strLe strLt at h1 h2
  simp only [Bool.not_eq_true', decide_eq_false_iff_not] at h1 h2
  exact str_ext (List.le_antisymm (List.not_lt.mp h1) (List.not_lt.mp h2))
theorem rising_pw : ∀ (xs : List Str) (x : Str), PyProof.Rows.risingS x xs = true → (x :: xs).Pairwise fun a b => strLe a b = true
  | [], x, _ => by simp
  | y :: ys, x, h => by
    unfold PyProof.Rows.risingS at h
    rw [PyProof.Rows.ltCps_eq, Bool.and_eq_true] at h
    have ih := rising_pw ys y h.2
    have hxy : strLe x y = true := h.1
    refine List.pairwise_cons.mpr ⟨fun z hz => ?_, ih⟩
    rcases List.mem_cons.mp hz with e | hz
    · rw [e]; exact hxy
    · exact strLe_trans _ _ _ hxy ((List.pairwise_cons.mp ih).1 z hz)
theorem sorted_pw {xs : List Str} (h : PyProof.Rows.sortedS xs = true) : xs.Pairwise fun a b => strLe a b = true := by
  cases xs with
  | nil => exact .nil
  | cons x r => exact rising_pw r x h
theorem sSort_eq {ys xs : List Str} (p : ys.Perm xs) (h : PyProof.Rows.sortedS ys = true) : ys = sSort xs := by
  refine List.Perm.eq_of_pairwise (le := fun a b => strLe a b = true) (fun a b _ _ => strLe_anti a b) (sorted_pw h) (List.pairwise_mergeSort strLe_trans strLe_total xs) ?_
  exact p.trans (List.mergeSort_perm xs strLe).symm
def strsOf' : List Val → Option (List Str)
  | [] => some []
  | .str i :: r => (strsOf' r).map (i :: ·)
  | _ => none
theorem strsOf'_ok : ∀ {vs : List Val} {ns : List Str}, strsOf' vs = some ns → vs = ns.map Val.str
  | [], ns, e => by cases e; rfl
  | .str i :: r, ns, e => by
    unfold strsOf' at e
    cases q : strsOf' r with
    | none => rw [q] at e; cases e
    | some ms => rw [q] at e; cases e; rw [strsOf'_ok q]; rfl
  | .non :: _, _, e => by cases e
  | .bl _ :: _, _, e => by cases e
  | .int _ :: _, _, e => by cases e
  | .tup _ :: _, _, e => by cases e
  | .ref _ :: _, _, e => by cases e
  | .ty _ :: _, _, e => by cases e
  | .gl _ :: _, _, e => by cases e
@[simp] theorem strsOf'_map (ns : List Str) : strsOf' (ns.map Val.str) = some ns := by
  induction ns with
  | nil => rfl
  | cons n ns ih => simp [strsOf', ih]
def vSortS : Fn := fun vs h => match vs with
  | [.ref n] => (match h[n]? with
    | some (.lst ws) => (match strsOf' ws with | some xs => if xs.length < 64 then .ok (.ref h.length) (h ++ [.lst ((sSort xs).map Val.str)]) else .no | none => .no)
    | some (.dct kvs) => (match strsOf' (keysV kvs) with | some xs => if xs.length < 64 then .ok (.ref h.length) (h ++ [.lst ((sSort xs).map Val.str)]) else .no | none => .no)
    | some (.fdc kvs) => (match strsOf' (keysV kvs) with | some xs => if xs.length < 64 then .ok (.ref h.length) (h ++ [.lst ((sSort xs).map Val.str)]) else .no | none => .no)
    | _ => .no)
  | _ => .no
theorem nr_sortS : ∀ vs h z k, vSortS vs h ≠ .rs z k := fun x h z k => by unfold vSortS; (repeat' split) <;> simp
theorem RKs.skeys {G : Gm} {μ : List Addr} {H : Hp} : ∀ {kvs : List (Val × Val)} {kws : List (Key × V)} {xs : List Str}, RKs G μ H kvs kws → strsOf' (keysV kvs) = some xs → kws.map (·.1) = xs.map Sum.inr
  | _, _, xs, .nil, e => by cases e; rfl
  | _, _, xs, .cons (k := k) (kvs := kr) q r t, e => by
    have e' : strsOf' (k :: keysV kr) = some xs := e
    cases k with
    | str i =>
      unfold strsOf' at e'
      cases q2 : strsOf' (keysV kr) with
      | none => rw [q2] at e'; cases e'
      | some ms =>
        rw [q2] at e'; cases e'
        cases q
        rw [List.map_cons, RKs.skeys t q2]; rfl
    | _ => cases e'
theorem c_sortS (hc : X.calm = true) : CallR X (.builtin "sorted") (rMs (gm X) W0 vSortS) := cr1 (fun pins s τ H x us Q μ hh a I rx r ra p => by
  unfold vSortS at p
  cases ra with
  | @ref n a1 q1 =>
    obtain ⟨o, ho, ro⟩ := r.obj q1
    dsimp only at p
    rw [ho] at p
    have dic : ∀ {kvs : List (Val × Val)} {kws : List (Key × V)}, RKs (gm X) μ H kvs kws → L2.Rd H a1 (.dK kws) → Ps (gm X) W0 μ H (match strsOf' (keysV kvs) with | some xs => if xs.length < 64 then .ok (.ref hh.length) (hh ++ [.lst ((sSort xs).map Val.str)]) else .no | none => .no) (qV (gm X) Q) →
        wpAny (model X.prog X.w) X.A (call (.builtin "sorted") us) (EP X pins τ Q) X.xe s := fun {kvs kws} g2 rd p => by
      cases q : strsOf' (keysV kvs) with
      | none => rw [q] at p; exact p.elim
      | some xs =>
        rw [q] at p
        dsimp only at p
        split at p
        · rename_i hz
          exact call_sortedD hc pins s τ H _ us Q I rx ⟨a1, kws, xs, rfl, rd, g2.skeys q, hz, fun ys q hp hs hq => by
            rw [sSort_eq hp hs]; exact lay_lst r (.ofStrs _) p q hq⟩
        · exact p.elim
    cases o with
    | lst vs =>
      obtain ⟨ws, g1, g2⟩ := ro
      dsimp only at p
      cases q : strsOf' vs with
      | none => rw [q] at p; exact p.elim
      | some xs =>
        rw [q] at p
        dsimp only at p
        split at p
        · rename_i hz
          rw [strsOf'_ok q] at g2
          exact cr_sortedS pins s τ H _ us Q I rx ⟨a1, xs, rfl, by rw [← g2.strs]; exact .inl (.inl g1), hz, fun ys q hp hs hq => by
            rw [sSort_eq hp hs]; exact lay_lst r (.ofStrs _) p q hq⟩
        · exact p.elim
    | dct vs => obtain ⟨ws, g1, g2⟩ := ro; exact dic g2 (.inl g1) p
    | fdc vs => obtain ⟨ob, ws, g1, g2⟩ := ro; exact dic g2 (.inr ⟨ob, g1⟩) p
    | _ => exact p.elim
  | _ => exact p.elim) (fun _ => rfl) (fun a _ _ _ => by cases a <;> rfl)
def msPar3 (i j l : Nat) (a : MA) : MS := fun σ h => (a σ h).fl σ fun vs h1 => match vs with
  | [u, v, w] => .nx (((σ.set i (some u)).set j (some v)).set l (some w)) h1
  | _ => .no
end
end U
namespace U
open PySem PySem.Spec PyProof.Rows L2
def TabsB (K : PySem.W.Frag) (mg : Str → Option Value) (base : Heap) : Prop := ∀ x ∈ lamNames, ∀ c P : Addr, PySem.W.tabIn K x = some (c, P) → LamX.TabB base mg c P
def TabsS (K : PySem.W.Frag) (h : Heap) : Prop := ∀ x ∈ lamNames, ∀ c P : Addr, PySem.W.tabIn K x = some (c, P) → (PySem.W.CodeHd h c P ∧ h.get? P = some (PySem.W.tabObj #[])) ∧ K.lookup P = none
theorem lamT_mem {K : PySem.W.Frag} {p : Addr × Str} (h : p ∈ lamT K) : ∃ x ∈ lamNames, ∃ c, PySem.W.tabIn K x = some (c, p.1) := by
  obtain ⟨x, hx, e⟩ := List.mem_filterMap.mp h
  cases q : PySem.W.tabIn K x with
  | none => rw [q] at e; cases e
  | some cp =>
    rw [q] at e
    cases e
    exact ⟨x, hx, cp.1, q⟩
theorem law_run {P : Program} {w : World} {K : PySem.W.Frag} {mg mb : Str → Option Value} {k : Nat} {fa a : Addr} {fd : FuncData} {x : Str} {G : Fn} {s₁ : Shared} {vs : List Value} {ns : List Int}
    (KX : K.In s₁.heap) (hns : s₁.heap.Ns mainGlobals mg) (hb : s₁.heap.Ns builtinsNs mb) (hbb : ∀ x : Str, x ≠ "__name__" → mb x = bootBuiltins x) (hlim : s₁.heap.NoLimit) (hsys : ∃ mm, s₁.heap.Ns sysModules mm) (hg : s₁.gens = #[])
    (hT : TabsS K s₁.heap) (hbm : ∃ (bm : Addr) (ob : Obj), mg "__builtins__" = some (.ref bm) ∧ bm ≠ builtinsNs ∧ s₁.heap.get? bm = some ob ∧ ob.cls = .type "module" ∧ ob.dict = some builtinsNs ∧ ob.data = .plain)
    (ha : s₁.heap.get? a = some { cls := .type "list", data := .seq vs.toArray }) (hi : IntsAre vs ns) (hl : ns.length ≤ sizeLine) (hr : Room k callerA) (nol : ∀ o, K.lookup a = some o → o.cls ≠ .type "list")
    (F : ∀ base : Heap, K.In base → base.Ns mainGlobals mg → SysAt base → TabsB K mg base → FK P w K mg base k fa fd [x] (spF ⟨K, mg, w⟩ G 1)) (hbind : ∀ (s : Shared) (u : Value), BindsTo s fd ⟨[u], []⟩ [(x, u)])
    (hG : ∃ h', G [.ref 0] [.fro (ns.map Val.int)] = .ok (.bl true) h') :
    codeAny (model P w) callerA (.call (.ref fa) ⟨[.ref a], []⟩) (fun r s' => r = .ok (.ret (.bool true)) ∧ OldK s₁.heap s'.heap ∧ s'.os = s₁.os ∧ AllBare s'.gens) s₁ := by
  let ob : Obj := { cls := .type "list", data := .seq vs.toArray }
  let Ts : List Addr := (lamT K).map (·.1)
  have tabT : ∀ b ∈ Ts, ∃ c, PySem.W.CodeHd s₁.heap c b ∧ s₁.heap.get? b = some (PySem.W.tabObj #[]) ∧ K.lookup b = none := fun b hb => by
    obtain ⟨p, hp, rfl⟩ := List.mem_map.mp hb
    obtain ⟨x, hx, c, q⟩ := lamT_mem hp
    obtain ⟨⟨t1, t2⟩, t3⟩ := hT x hx c p.1 q
    exact ⟨c, t1, t2, t3⟩
  have aT : a ∉ Ts := fun z => by
    obtain ⟨c, _, t2, _⟩ := tabT a z
    rw [ha] at t2
    cases t2
  let H : Hp := fun b => if b = a then some (.frz ob (.lst (ns.map V.int))) else if b ∈ Ts then some (.tbl #[]) else none
  have Ha : H a = some (.frz ob (.lst (ns.map V.int))) := if_pos rfl
  have HT : ∀ b ∈ Ts, H b = some (.tbl #[]) := fun b hb => by
    show (if b = a then _ else if b ∈ Ts then _ else _) = _
    rw [if_neg (fun z : b = a => aT (z ▸ hb)), if_pos hb]
  have Hn : ∀ b, b ≠ a → b ∉ Ts → H b = none := fun b hb ht => by
    show (if b = a then _ else if b ∈ Ts then _ else _) = _
    rw [if_neg hb, if_neg ht]
  have lenV := hi.length
  have other : ∀ {b : Addr} {o : Obj}, s₁.heap.get? b = some o → (∀ xs n, o.data ≠ .seq xs n) → o.data ≠ .fields #[] → H b = none := fun {b o} e d1 d2 => by
    refine Hn b (fun z => ?_) fun z => ?_
    · subst z
      rw [ha] at e
      cases e
      exact d1 _ _ rfl
    · obtain ⟨c, _, t2, _⟩ := tabT b z
      rw [t2] at e
      cases e
      exact d2 rfl
  have nodict : ∀ {b : Addr} {o : Obj} {es : Array DictEntry} {ep : Nat}, s₁.heap.get? b = some o → o.data = .dict es ep → H b = none := fun {b o es ep} e d => by
    refine other e (fun xs n z => ?_) fun z => ?_
    · rw [d] at z; cases z
    · rw [d] at z; cases z
  have ns_of : ∀ {b : Addr} {m : Str → Option Value}, s₁.heap.Ns b m → (hidT s₁.heap H).Ns b m := fun {b m} q => by
    obtain ⟨o, es, ep, e, d, t⟩ := q
    exact ⟨o, es, ep, hidT_get e (nodict e d), d, t⟩
  have kb : K.In (hidT s₁.heap H) := fun b o e => by
    refine hidT_get (KX b o e) (Hn b (fun z => ?_) fun z => ?_)
    · subst z
      have q := KX b o e
      rw [ha] at q
      exact nol o e (by rw [← Option.some.inj q])
    · obtain ⟨_, _, _, t3⟩ := tabT b z
      rw [t3] at e
      cases e
  have hM : Mod K mg (hidT s₁.heap H) := by
    obtain ⟨mc, h1, h2⟩ := hlim
    exact ⟨kb, ns_of hns, ⟨mb, ns_of hb, hbb⟩, ⟨mc, ns_of h1, h2⟩⟩
  have sy : SysAt (hidT s₁.heap H) := by
    obtain ⟨mm, q⟩ := hsys
    obtain ⟨o, _, _, e, _⟩ := ns_of q
    exact ⟨o, e⟩
  have tbs : TabsB K mg (hidT s₁.heap H) := fun y hy c P q => by
    obtain ⟨⟨t1, t2⟩, t3⟩ := hT y hy c P q
    refine ⟨?_, ?_, fun z => ?_⟩
    · obtain ⟨o, us, file, tf, flags, tg, inF, text, tt, e1, r1, r2, r3, rr⟩ := t1
      refine ⟨o, us, file, tf, flags, tg, inF, text, tt, hidT_get e1 (other e1 (fun xs n z => ?_) fun z => ?_), r1, r2, r3, rr⟩
      · rw [r2] at z; cases z
      · rw [r2] at z
        cases z
        simp at r3
    · obtain ⟨bm, ob, b1, b2, b3, b4, b5, b6⟩ := hbm
      have n1 : bm ≠ mainGlobals := fun q => by
        obtain ⟨o, es, ep, e, hd, _⟩ := hns
        rw [q, e] at b3
        cases b3
        rw [hd] at b6; cases b6
      have n2 : bm ≠ P := fun q => by
        rw [q, t2] at b3
        cases b3
        cases b6
      refine ⟨bm, ob, b1, b2, n1, n2, hidT_get b3 (other b3 (fun xs n z => ?_) fun z => ?_), b4, b5, b6⟩
      · rw [b6] at z; cases z
      · rw [b6] at z; cases z
    · obtain ⟨o, es, ep, e, hd, _⟩ := hns
      rw [z, t2] at e
      cases e
      cases hd
  have hok : HOk P w H s₁.heap := fun b u z => by
    by_cases hba : b = a
    · subst hba
      rw [Ha] at z
      cases z
      exact ⟨ha, by rw [List.length_map]; exact hl, vs, _, vals_ints hi, ha⟩
    · by_cases hbt : b ∈ Ts
      · rw [HT b hbt] at z
        cases z
        obtain ⟨_, _, t2, _⟩ := tabT b hbt
        exact t2
      · rw [Hn b hba hbt] at z
        cases z
  have e0 : Env0 P w K mg (hidT s₁.heap H) callerA [] s₁ H := ⟨rfl, hM, fun b o e => of_hidT e, Nat.le_of_eq (hidT_size _ _), trivial, fun b hb => absurd (show b ∈ ([] : List Addr) from hb) List.not_mem_nil, hok, .of_eq hg⟩
  obtain ⟨h', hG⟩ := hG
  have hr0 : HR ⟨K, mg, w⟩ [a] [.fro (ns.map Val.int)] H := ⟨rfl, by simp, fun i o b e1 e2 => by
    cases i with
    | zero =>
      simp at e1 e2
      subst e1; subst e2
      exact ⟨ob, _, Ha, .ofInts ns⟩
    | succ i => simp at e1, fun p hp => by
      have hm : p.1 ∈ Ts := List.mem_map_of_mem hp
      refine ⟨fun z => aT (by rw [List.mem_singleton] at z; rw [← z]; exact hm), #[], HT _ hm, True.intro, fun pos cv hc => ?_⟩
      have z : codeAmong pos [] = some cv := hc
      simp [codeAmong] at z⟩
  have sp : spF ⟨K, mg, w⟩ G 1 [.ref a] H (fun v _ => v = .bl true) (fun _ _ _ => False) := by
    refine spF_of hr0 (.cons (.ref (n := 0) rfl) .nil) rfl ?_
    rw [hG]
    intro μ' H' _ _ _ w rw
    cases rw
    rfl
  refine codeAny_mono ((F _ kb (ns_of hns) sy tbs).run callerA [] s₁ H ⟨[.ref a], []⟩ [.ref a] [.ref a] _ _ hr rfl e0 (hbind s₁ (.ref a)) (.cons rfl .nil) sp) fun r s' h => ?_
  cases r with
  | error e =>
    obtain ⟨_, _, _, _, _, _, _, _, _, _, _, _, z⟩ := h
    exact z.elim
  | ok fl =>
    cases fl with
    | next => exact h.elim
    | brk => exact h.elim
    | cont => exact h.elim
    | ret u =>
      obtain ⟨v, H', os, bare, un, hok', rv, q⟩ := h
      have q' : v = .bl true := q
      subst q'
      obtain rfl : u = Value.bool true := rv
      have still : ∀ b o, b ∉ Ts → s₁.heap.get? b = some o → s'.heap.get? b = some o := fun b o nb e => by
        by_cases hba : b = a
        · subst hba
          have z2 := un.frzs b ob _ Ha
          obtain ⟨e2, _⟩ := hok' b _ z2
          rw [ha] at e
          cases e
          exact e2
        · exact un.keep b o e (Hn b hba nb) (fun z => absurd (show b ∈ ([] : List Addr) from z) List.not_mem_nil) (by simp)
      have grown : ∀ b ∈ Ts, ∃ more : Array Value, s'.heap.get? b = some { cls := .none, data := .fields more } := fun b hb => by
        obtain ⟨more, z⟩ := un.tbls b #[] (HT b hb)
        exact ⟨_, hok' b _ z⟩
      refine ⟨rfl, ⟨fun b o e => ?_, fun b o e => ?_⟩, os, bare⟩
      · by_cases hbt : b ∈ Ts
        · obtain ⟨more, hm⟩ := grown b hbt
          obtain ⟨c, t1, t2, _⟩ := tabT b hbt
          rw [t2] at e
          cases e
          exact .inr (.inl ⟨(t1.tab t2).isCodeTable, rfl, #[], more, rfl, by rw [Array.empty_append]; exact hm⟩)
        · exact .inl (still b o hbt e)
      · by_cases hbt : b ∈ Ts
        · obtain ⟨more, hm⟩ := grown b hbt
          exact ⟨_, hm⟩
        · exact ⟨o, still b o hbt e⟩
theorem walk_fk {l : PySem.W.OpenLaw} {n k : Nat} {q : Program} {loose : List Str} {XP : (Str → Option Value) → Heap → Prop} {YP : World → Heap → Prop} {d : DefRec} {K : Params → PySem.W.Frag} {x : Str} {G : Fn}
    (hn : l.most = some n) (hn2 : n ≤ sizeLine) (hdf : d.params.defaults = []) (hr : Room k callerA) (him : importsNone q = true) (nol : ∀ p : Params, ((K p).all fun z => !(z.2.cls == .type "list")) = true)
    (hrec : ∀ p : Params, (lamNames.all fun y => !(PySem.W.tabIn (K p) y).isSome || (((recsOf q).find? fun e => e.name == y).isSome && ((PySem.W.tabIn (K p) y).all fun z => ((K p).lookup z.2).isNone))) = true)
    (hY : ∀ (w : World) (h : Heap), YP w h → (K w.params).In h)
    (F : ∀ (w : World) (mg : Str → Option Value) (fa : Addr) (h : Heap), (K w.params).In h → h.Ns mainGlobals mg → mg d.name = some (.ref fa) →
      ∃ fd : FuncData, (∀ (s : Shared) (u : Value), BindsTo s fd ⟨[u], []⟩ [(x, u)]) ∧ ∀ base : Heap, (K w.params).In base → base.Ns mainGlobals mg → SysAt base → TabsB (K w.params) mg base → FK l.prog w (K w.params) mg base k fa fd [x] (spF ⟨K w.params, mg, w⟩ G 1))
    (hG : ∀ ns : List Int, ns.length ≤ n → (∀ z ∈ ns, Builtin.Int.intBits z ≤ 1048576) → ∃ h', G [.ref 0] [.fro (ns.map Val.int)] = .ok (.bl true) h') :
    PySem.W.WalkO q loose XP YP l.row.toRowW d [] (fun f vs => PySem.call f vs) := by
  refine Att.attach_callB hn hdf fun w s₀ s₁ mg mb fa o pm cd doc a vs ns G' Y ho hd hcd hmg hobj hints hlen hbits hg => ?_
  have KX := hY w _ Y
  obtain ⟨fd, hb, hF⟩ := F w mg fa _ KX G'.T.g hmg
  obtain ⟨mm, hs, _⟩ := (G'.T.seer him).mods
  have tabs : TabsS (K w.params) s₁.heap := fun y hy c P e => by
    have z := List.all_eq_true.mp (hrec w.params) y hy
    rw [e] at z
    simp only [Option.isSome_some, Bool.not_true, Bool.false_or, Bool.and_eq_true, Option.all_some] at z
    obtain ⟨z1, z2⟩ := z
    obtain ⟨dr, hdr⟩ := Option.isSome_iff_exists.mp z1
    exact ⟨PySem.W.tab_of G'.T KX hdr e, Option.isNone_iff_eq_none.mp z2⟩
  refine law_run KX G'.T.g G'.T.b G'.T.builtins G'.T.nolimit ⟨mm, hs⟩ hg tabs G'.T.bmain hobj hints (Nat.le_trans hlen hn2) hr (fun o e z => ?_) hF hb (hG ns hlen hbits)
  have q := List.all_eq_true.mp (nol w.params) (a, o) (by
    have := List.lookup_eq_some_iff.mp e
    obtain ⟨l1, l2, h1, h2⟩ := this
    rw [h1]; simp)
  simp [z] at q
end U
namespace U
open PySem L2
section
variable {X : Cx} {W : WX} {a b c e : Expr} {ma mb mc : ME} {pos : Pos}
theorem chain_imp {f g : Val → Val → Hh → Res Val} (hn : ∀ x y h z k, f x y h ≠ .rs z k) (hn' : ∀ x y h z k, g x y h ≠ .rs z k) (τ : St) (H : Hp) (Q : VK) (q0 : tM (gm X) W (mChain f g ma mb mc) τ H Q) :
    tChain (rM2 (gm X) W0 f) (rM2 (gm X) W0 g) (tM (gm X) W ma) (tM (gm X) W mb) (tM (gm X) W mc) τ H Q := by
  obtain ⟨μ, σ, h, l, r, p⟩ := q0
  refine ⟨μ, σ, h, l, r, ?_⟩
  refine (Ps.bind p).imp fun x μ1 h1 H1 p1 e1 r1 q1 w1 rw1 => ?_
  refine ⟨μ1, σ, h1, l.mono p1 e1, r1, ?_⟩
  refine (Ps.bind q1).imp fun y μ2 h2 H2 p2 e2 r2 q2 w2 rw2 => ?_
  refine ⟨μ2, h2, x, y, r2, rw1.mono p2 e2, rw2, ?_⟩
  cases e : f x y h2 with
  | no => rw [e] at q2; exact q2
  | rs z k => exact absurd e (hn x y h2 z k)
  | ok z h3 =>
    rw [e] at q2
    intro μ3 H3 p3 e3 r3 w3 rw3
    have q3 := Ps.mono p3 e3 q2
    cases z with
    | bl k =>
      cases rw3
      refine ⟨k, rfl, ?_⟩
      cases k with
      | false => exact iteF ((Ps.at q3 r3) _ (.bl false))
      | true =>
        refine iteT ⟨μ3, σ, h3, l.mono ((p1.trans p2).trans p3) ((e1.trans e2).trans e3), r3, ?_⟩
        have q3' : Ps (gm X) (WE W τ) μ3 H3 ((mc σ h3).bind fun w h4 => g y w h4) (qV (gm X) Q) := q3
        refine (Ps.bind q3').imp fun z μ4 h4 H4 p4 e4 r4 q4 w4 rw4 => ?_
        exact ⟨μ4, h4, y, z, r4, rw2.mono (p3.trans p4) (e3.trans e4), rw4, ps_nv q4 (hn' y z h4)⟩
    | _ => exact q3.elim
theorem c_chain {op op' : CmpOp} {f g : Val → Val → Hh → Res Val} (ho : OpR X (compareOp op) (rM2 (gm X) W0 f)) (hn : ∀ x y h z k, f x y h ≠ .rs z k) (ho' : OpR X (compareOp op') (rM2 (gm X) W0 g)) (hn' : ∀ x y h z k, g x y h ≠ .rs z k)
    (ha : CE X W a ma) (hb : CE X W b mb) (hc : CE X W c mc) (hm : lastMarks [op, op'] [b, c] = false := by with_unfolding_all rfl) : CT X W (.Compare a [op, op'] [b, c] pos) (tBl (mChain f g ma mb mc)) := by
  refine ptI (pt_chain ho ho' ha hb hc hm) fun τ H Q ⟨μ, σ, h, l, r, p⟩ => ?_
  refine chain_imp hn hn' τ H _ ⟨μ, σ, h, l, r, ?_⟩
  refine (Ps.bind p).imp fun x μ1 h1 H1 p1 e1 r1 q1 w1 rw1 => ?_
  cases rw1 with
  | bl k => exact ⟨k, rfl, q1.at r1⟩
  | _ => exact q1.elim
theorem s_glI' {x : Str} {i : Int} (hm : ∃ t, X.mg x = some (.int i t)) (hg : Gl X x := by rfl) (hd : (x == ("__debug__" : Str)) = false := by decide) : CE X W (.Name x pos) (mC (.int i)) := by
  obtain ⟨t, hm⟩ := hm
  exact s_glI hm hg hd
theorem s_glS' {x : Str} {i : Str} (hm : ∃ t, X.mg x = some (.str i t)) (hg : Gl X x := by rfl) (hd : (x == ("__debug__" : Str)) = false := by decide) : CE X W (.Name x pos) (mC (.str i)) := by
  obtain ⟨t, hm⟩ := hm
  exact s_glS hm hg hd
theorem s_gl' {x : Str} (hm : ∃ f, X.mg x = some (.ref f)) (hg : Gl X x := by rfl) (hd : (x == ("__debug__" : Str)) = false := by decide) : CE X W (.Name x pos) (mC (.gl x)) := by
  obtain ⟨t, hm⟩ := hm
  exact s_gl hm hg hd
theorem allC_nil {mg : Str → Option Value} {p : Str → Addr → Prop} : ∀ C ∈ ([] : List Str), ∀ Ca, mg C = some (.ref Ca) → p C Ca := fun C h => by cases h
theorem allC_cons {mg : Str → Option Value} {p : Str → Addr → Prop} {C : Str} {cs : List Str} {a : Addr} (hm : mg C = some (.ref a)) (h : p C a) (t : ∀ C ∈ cs, ∀ Ca, mg C = some (.ref Ca) → p C Ca) : ∀ D ∈ C :: cs, ∀ Ca, mg D = some (.ref Ca) → p D Ca := fun D hD Ca q => by
  rcases List.mem_cons.mp hD with e | hD
  · subst e
    rw [hm] at q; cases q
    exact h
  · exact t D hD Ca q
theorem isa_own {K : PySem.W.Frag} {mg : Str → Option Value} {cs : List Str} (h : ∀ C ∈ cs, ∀ Ca, mg C = some (.ref Ca) → ∀ D ∈ cs, ∀ Da, mg D = some (.ref Da) → PySem.W.kitOne K (.ref Da) (.ref Ca) = some (decide (D = C))) :
    ∀ C ∈ cs, ∀ D ∈ cs, ∀ Ca Da, mg C = some (.ref Ca) → mg D = some (.ref Da) → PySem.W.kitOne K (.ref Da) (.ref Ca) = some (decide (D = C)) := fun C hC D hD Ca Da h1 h2 => h C hC Ca h1 D hD Da h2
theorem allT_nil {p : String → Prop} : ∀ T ∈ ([] : List String), p T := fun C h => by cases h
theorem allT_cons {p : String → Prop} {T : String} {ts : List String} (h : p T) (t : ∀ T ∈ ts, p T) : ∀ T' ∈ T :: ts, p T' := fun D hD => by
  rcases List.mem_cons.mp hD with e | hD
  · subst e; exact h
  · exact t D hD
end
end U
namespace U
open PySem PySem.Spec L2
open PyProof.Rows (boot_enumerate)
section
variable {X : Cx} {W : WX} {k : Nat} {e : Expr} {m : ME} {p pos tpos : Pos} {elts : List Expr} {kk : Nat}
end
end U
namespace U
open PySem L2
section
variable {X : Cx} {W : WX} {k : Nat} {e f o : Expr} {es : List Expr} {m ma mb mc : ME} {mm : MA} {p pos apos cpos : Pos}
def maStar (a : ME) (r : MA) : MA := fun σ h => (a σ h).bind fun x h1 => match x with
  | .tup vs => (r σ h1).bind fun ys h2 => .ok (vs ++ ys) h2
  | .ref n => match h1[n]? with
    | some (.lst vs) => (r σ h1).bind fun ys h2 => .ok (vs ++ ys) h2
    | _ => .no
  | _ => .no
theorem a_star (he : CE X W e ma) (hr : CA X W es mm) (hs : starEach (.Starred e p :: es) X.env = (true, eval e X.env) :: starEach es X.env := by rfl) : CA X W (.Starred e p :: es) (maStar ma mm) := by
  refine paI (StX.pa_star he hr hs) fun τ H Q ⟨μ, σ, h, l, r, p⟩ => ⟨μ, σ, h, l, r, ?_⟩
  refine (Ps.bind p).imp fun x μ1 h1 H1 p1 e1 r1 q1 w1 rw1 => ?_
  cases rw1 with
  | @tup vs ws a ta rs =>
    refine ⟨a, ws, rfl, .inl ta.sq, μ1, σ, h1, l.mono p1 e1, r1, ?_⟩
    refine (Ps.bind q1).imp fun xs μ2 h2 H2 p2 e2 r2 q2 ys rys => ?_
    exact (Ps.at q2 r2) _ ((rs.mono p2 e2).append rys)
  | @ref n a ha =>
    dsimp only at q1
    obtain ⟨o, ho, ro⟩ := r1.obj ha
    rw [ho] at q1
    cases o with
    | lst vs =>
      obtain ⟨ws, g1, g2⟩ := ro
      refine ⟨a, ws, rfl, .inr (.inl (.inl g1)), μ1, σ, h1, l.mono p1 e1, r1, ?_⟩
      refine (Ps.bind q1).imp fun xs μ2 h2 H2 p2 e2 r2 q2 ys rys => ?_
      exact (Ps.at q2 r2) _ ((g2.mono p2 e2).append rys)
    | _ => exact q1.elim
  | _ => exact q1.elim
def vRev (x : Val) (h : Hh) : Res Val := match x with
  | .ref n => (match h[n]? with
    | some (.lst vs) => .ok (.ref h.length) (h ++ [.lst vs.reverse])
    | _ => .no)
  | _ => .no
theorem s_rev {k1 : Nat} {p1 p2 p3 : Pos} (he : CE X W e ma) : CE X W (.Subscript e (.Slice none none (some (.UnaryOp .USub (.Constant (.int 1) k1 p1) p2)) p3) pos) (mUn vRev ma) := by
  refine peI (pe_revL he) fun τ H Q ⟨μ, σ, h, l, r, p⟩ => ⟨μ, σ, h, l, r, ?_⟩
  refine (Ps.bind p).imp fun x μ1 h1 H1 p1 e1 r1 q1 w1 rw1 => ?_
  unfold vRev at q1
  cases rw1 with
  | @ref n a ha =>
    dsimp only at q1
    obtain ⟨o, ho, ro⟩ := r1.obj ha
    rw [ho] at q1
    cases o with
    | lst vs =>
      obtain ⟨ws, g1, g2⟩ := ro
      exact ⟨a, ws, rfl, .inl (.inl g1), lay_lst r1 g2.reverse q1⟩
    | _ => exact q1.elim
  | _ => exact q1.elim
def isDct (v : Val) (h : Hh) : Bool := match v with
  | .ref n => (match h[n]? with
    | some (.dct _) => true
    | some (.fdc _) => true
    | _ => false)
  | _ => false
def vGet (x y z : Val) (h : Hh) : Res Val := match x with
  | .ref n => (match h[n]? with
    | some (.dct kvs) => (match keyOf y with
      | some _ => .ok ((dGet kvs y).getD z) h
      | none => .no)
    | some (.fdc kvs) => (match keyOf y with
      | some _ => .ok ((dGet kvs y).getD z) h
      | none => .no)
    | _ => .no)
  | _ => .no
def mGet2 (a b c : ME) : ME := fun σ h => (a σ h).bind fun x h1 => if isDct x h1 = true then (b σ h1).bind fun y h2 => (c σ h2).bind fun z h3 => vGet x y z h3 else .no
end
end U
namespace U
open PySem L2
open Classical
section
variable {X : Cx} {W : WX} {k : Nat} {kx vx tg iter : Expr} {ifs : List Expr} {scope : Scope} {own : List (Str × Nat)} {pos : Pos} {mi : MI} {t : Tg} {c : MT} {ek ev : ME}
end
end U
namespace U
open PySem L2
structure GiAt (P : Program) (w : World) (K : PySem.W.Frag) (mg : Str → Option Value) (base : Heap) (C : Str) (k n : Nat) (F : Fn) : Prop where
  ex : ∃ Ca f fd ps, mg C = some (.ref Ca) ∧ PySem.W.findIn K (.ref Ca) "__getitem__" = some (some (.ref f)) ∧ PySem.W.fnIn K f = true ∧ PySem.W.isFn K (.ref f) = true ∧ Binds K fd ps [] ∧ FK P w K mg base k f fd ps (spF ⟨K, mg, w⟩ F n)
section
variable {X : Cx} {W : WX} {j k n : Nat} {F : Fn} {a b : Expr} {ma mb : ME} {pos : Pos}
end
end U
namespace U
open PySem L2
section
variable {X : Cx}
end
end U
namespace U
open PySem L2 PySem.Spec
section
variable {prog : Program} {w : World} {K : Type} [DecidableEq K] {knd : KeyKind prog w K} {A : Around} {E : Value → Shared → Prop} {s : Shared}
end
section
variable {X : Cx} {W : WX} {pos : Pos} {k : Nat}
end
end U
namespace U
open PySem L2 PySem.Spec PyProof.Rows
def dd (xs : List Str) : List Str := xs.foldl (fun acc x => if x ∈ acc then acc else acc ++ [x]) []
theorem dd_snoc (xs : List Str) (x : Str) : dd (xs ++ [x]) = if x ∈ dd xs then dd xs else dd xs ++ [x] := by
  unfold dd; rw [List.foldl_append]; rfl
theorem dd_mem : ∀ (xs : List Str) (x : Str), x ∈ dd xs ↔ x ∈ xs := by
  have : ∀ (xs acc : List Str) (x : Str), x ∈ xs.foldl (fun acc x => if x ∈ acc then acc else acc ++ [x]) acc ↔ x ∈ acc ∨ x ∈ xs := by
    intro xs
    induction xs with
    | nil => intro acc x; simp
    | cons y ys ih =>
      intro acc x
      rw [List.foldl_cons, ih]
      split
      · rename_i h
        constructor
        · rintro (h1 | h1)
          · exact .inl h1
          · exact .inr (by simp [h1])
        · rintro (h1 | h1)
          · exact .inl h1
          · rcases List.mem_cons.mp h1 with rfl | h1
            · exact .inl h
            · exact .inr h1
      · simp [or_assoc]
  intro xs x
  have := this xs [] x
  unfold dd
  simpa using this
theorem dd_len (xs : List Str) : (dd xs).length ≤ xs.length := by
  have : ∀ (xs acc : List Str), (xs.foldl (fun acc x => if x ∈ acc then acc else acc ++ [x]) acc).length ≤ acc.length + xs.length := by
    intro xs
    induction xs with
    | nil => intro acc; simp
    | cons y ys ih =>
      intro acc
      rw [List.foldl_cons]
      refine Nat.le_trans (ih _) ?_
      split <;> simp <;> omega
  unfold dd
  simpa using this xs []
section
variable {prog : Program} {w : World} {A : Around} {R : Result → Shared → Prop} {I : Addr} {fp wr : List Addr} {G : Array GenState → Array GenState → Prop} {n : Nat} {P : Nat → Value → Prop} {St : Nat → Shared → Prop}
def ddS (xs : List Str) (i : Nat) (k : Str) : Bool := (xs.take i).any (· == k)
theorem set_loop (W : WalksS prog w A.in1 I fp wr G n P St) (S : Addr) (hSf : S ∉ fp) (xs : List Str) (hsz : xs.length = n) (hb : n + 1 < scanBound)
    (hval : ∀ i v, P i v → ∃ t, v = .str (xs.getD i Str.empty) t) :
    ∀ (k i : Nat) (s : Shared), n - i = k → i ≤ n → St i s → s.heap.SetOf (PySem.strKind prog w) S (ddS xs i) (dd (xs.take i)).length →
      (∀ s', Moved (S :: wr) G s s' → s'.heap.SetOf (PySem.strKind prog w) S (ddS xs n) (dd (xs.take n)).length → R (.ok (.ret .none)) s') →
      codeAny (model prog w) A (.builtin "set.update.loop" ⟨[.ref S, .ref I], []⟩) R s := by
  have hSw : S ∉ wr := fun h => hSf (W.sub _ h)
  have hsub : ∀ b ∈ wr, b ∈ S :: wr := fun b hb => List.mem_cons_of_mem _ hb
  have keep : ∀ {s s' : Shared} {F : Str → Bool} {m : Nat}, Moved wr G s s' → s.heap.SetOf (PySem.strKind prog w) S F m → s'.heap.SetOf (PySem.strKind prog w) S F m := by
    rintro s s' F m hm ⟨o, es, ep, t, ho, rest⟩
    exact ⟨o, es, ep, t, hm.heap S _ hSw ho, rest⟩
  intro k
  induction k with
  | zero =>
    intro i s hk hi hst hS hR
    obtain rfl : i = n := by omega
    refine codeAny_builtin PyProof.Rows.F.entry_set_update_loop ?_
    rw [Around.under_plainId PyProof.Rows.F.plain_set_update_loop _]
    refine wpAny_bind (W.done s _ _ hst fun s' hm => ?_)
    exact wpAny_pure (hR s' (hm.mono hsub) (keep hm hS))
  | succ k ih =>
    intro i s hk hi hst hS hR
    have hlt : i < n := by omega
    refine codeAny_builtin PyProof.Rows.F.entry_set_update_loop ?_
    rw [Around.under_plainId PyProof.Rows.F.plain_set_update_loop _]
    refine wpAny_bind (W.item i s _ _ hlt hst fun v s' hP hst' hm => ?_)
    obtain ⟨t, rfl⟩ := hval i v hP
    have hS' := keep hm hS
    show wpAny _ A.in1 (holding [Value.str (xs.getD i Str.empty) t] (setAdd S (.str (xs.getD i Str.empty) t)) >>= _) _ _ s'
    refine wpAny_bind (wpAny_holding ?_)
    unfold setAdd
    refine wpAny_holding ?_
    refine wpAny_bind ((PySem.strKind prog w).pyHash (k := xs.getD i Str.empty) (strKind_is _ _ _ _) ?_)
    have hroom : (dd (xs.take i)).length + 1 < scanBound := by
      have := dd_len (xs.take i)
      rw [List.length_take] at this
      omega
    refine wpAny_setAddHashed_of (knd := PySem.strKind prog w) (s := { s' with toks := s'.toks + 1 }) (strKind_is _ _ _ _) rfl hS' hroom fun h' hsb hS2 => ?_
    have hx : xs[i]? = some (xs.getD i Str.empty) := by
      have : i < xs.length := by omega
      simp [this]
    have ht : xs.take (i + 1) = xs.take i ++ [xs.getD i Str.empty] := by rw [List.take_add_one, hx]; rfl
    have hSi : h'.SetOf (PySem.strKind prog w) S (ddS xs (i + 1)) (dd (xs.take (i + 1))).length := by
      refine SetOf_congr hS2 (fun k' => ?_) ?_
      · unfold ddS
        rw [ht, List.any_append]
        congr 1
        by_cases e : k' = xs.getD i Str.empty
        · rw [e]; simp
        · have hb : (xs.getD i Str.empty == k') = false := by simpa [beq_iff_eq] using (fun h' : xs.getD i Str.empty = k' => e h'.symm)
          simp only [List.any_cons, List.any_nil, hb, Bool.or_false, decide_eq_false e]
      · rw [ht, dd_snoc]
        by_cases hm : xs.getD i Str.empty ∈ xs.take i
        · rw [if_pos ((dd_mem _ _).mpr hm), if_pos]
          unfold ddS
          exact List.any_eq_true.mpr ⟨_, hm, by simp⟩
        · rw [if_neg (fun z => hm ((dd_mem _ _).mp z)), if_neg]
          · simp
          · unfold ddS
            intro z
            obtain ⟨y, hy, e⟩ := List.any_eq_true.mp z
            exact hm (by rw [← (beq_iff_eq.mp e)]; exact hy)
    refine wpAny_pure ⟨plainId_quiet PyProof.Rows.F.plain_set_update_loop _, ih (i + 1) _ (by omega) hlt (W.frame _ s' _ _ hst' (Nat.le_succ _) fun b hb o e => ?_) hSi fun s'' hm'' hS'' => ?_⟩
    · rw [hsb.2 b (fun h : b = S => hSf (by rw [← h]; exact hb))]; exact e
    · refine hR s'' (Moved.trans W.gtrans ((hm.mono hsub).then_heap (Nat.le_succ _) fun b o hb e => ?_) hm'') hS''
      rw [hsb.2 b (fun h : b = S => hb (by rw [h]; exact List.mem_cons_self))]; exact e
end
section
variable {prog : Program} {w : World} {A : Around} {E : Value → Shared → Prop} {s : Shared}
abbrev set0 (led : Bool) : Obj := { cls := .type "set", dict := none, data := .set #[] 0 (.fresh 0 0 led) }
theorem call_set_texts {l : Addr} {items : Array Value} {xs : List Str} {Q : Value → Shared → Prop}
    (hh : A.handled = none) (hl : s.heap.IsList l items ∨ s.heap.IsTuple l items) (hi : PyProof.Rows.StrsAre items.toList xs) (hn1 : xs.length + 1 < scanBound)
    (h : ∀ (h' : Heap) (tk : Nat), h'.SetOf (PySem.strKind prog w) s.heap.objs.size (ddS xs xs.length) (dd xs).length →
      (∀ b o, b < s.heap.objs.size → s.heap.get? b = some o → h'.get? b = some o) → Q (.ref s.heap.objs.size) { s with heap := h', toks := tk }) :
    wpAny (model prog w) A (call (.type "set") [.ref l]) Q E s := by
  obtain ⟨c, tl, hmro⟩ := PySem.F.called_set.mro
  have hmade := PySem.F.called_set.made
  have hsub := PySem.F.called_set.sub
  refine wpAny_call (codeAny_of_tree ?_)
  show wpAny _ _ (callAny (.type "set") _) _ _ _
  refine wpAny_pure ⟨Code.quiet_builtin _ (by decide +kernel), codeAny_builtin PySem.F.entry_type_call ?_⟩
  rw [Around.under_plain (weight_type_call_type "set" [.ref l] []) rfl]
  have h1 := PySem.F.called_set.notType
  have h2 := PySem.F.called_set.canCreate
  have hct := PySem.F.typeCall_set_1 (.ref l)
  repeat (any_goals (first | assumption | wp_step))
  refine codeAny_mono (code_set_new_1 (.ref l) (E := E) (Q₁ := fun obj s₁ => ∃ led : Bool, obj = .ref s.heap.objs.size ∧ s₁ = { s with heap := s.heap.push (set0 led) }) fun led => ⟨led, rfl, rfl⟩) fun r s₁ hr => ?_
  cases r with
  | error e => exact hr
  | ok fl =>
    cases fl with
    | ret obj =>
      obtain ⟨led, rfl, rfl⟩ := hr
      have hS : (s.heap.push (set0 led)).get? s.heap.objs.size = some (set0 led) := Heap.get?_push_size _ rfl
      have hT : Shared.TypeIs { s with heap := s.heap.push (set0 led) } (.ref s.heap.objs.size) "set" := ⟨_, hS, rfl⟩
      have hli := PySem.F.called_set.init.lookup
      have hbi := PySem.F.called_set.init.bind (.ref s.heap.objs.size)
      repeat (any_goals (first | assumption | wp_step))
      refine codeAny_mono (codeAny_call_builtin (R := wants (fun r s₂ => r = .none ∧ ∃ h' tk, s₂ = { s with heap := h', toks := tk } ∧
          h'.SetOf (PySem.strKind prog w) s.heap.objs.size (ddS xs xs.length) (dd xs).length ∧
          (∀ b o, b < s.heap.objs.size → s.heap.get? b = some o → h'.get? b = some o)) E) PySem.F.called_set.init.plain PySem.F.entry_set_init (check_set_init_1 hT ?_)) fun r₂ s₂ hr₂ => ?_
      · have hh3 : A.in1.in1.in1.handled = none := by simp [hh]
        have hsz : xs.length = items.size := by rw [← StrsAre.len_eq hi, Array.length_toList]
        have hval : ∀ (i : Nat) (v : Value), items[i]? = some v → ∃ t, v = .str (xs.getD i Str.empty) t := fun i v hv => SS.strs_at hi i v (by rw [Array.getElem?_toList]; exact hv)
        rcases hl with hl | hl
        · obtain ⟨ol, hol, hcl, nl, hdl⟩ := hl
          obtain ⟨ocls, odict, odata, oslots⟩ := ol
          simp only at hcl hdl
          subst hcl; subst hdl
          have hol' : (s.heap.push (set0 led)).get? l = some { cls := .type "list", dict := odict, data := .seq items nl, slots := oslots } := Heap.get?_push_of_some _ hol
          have hsls := PySem.F.sub_list_set
          have hslf := PySem.F.sub_list_frozenset
          have hne : (Value.type "list" == Value.type "dict") = false := by decide
          have hl1 : (s.heap.push (set0 led)).IsList l items := ⟨_, hol', rfl, nl, rfl⟩
          have hlS : l < s.heap.objs.size := Heap.lt_size hol
          unfold Builtin.«set.__init__» noKeywords Builtin.Frozenset.updateFrom
          generalize hPI : pyIter = PI
          wp_walk
          subst hPI
          refine wpAny_pyIter_list hl1 ?_
          refine wpAny_bind (wpAny_runValue ?_)
          have hneI : l ≠ (s.heap.push (set0 led)).objs.size := by rw [Heap.size_push]; exact Nat.ne_of_lt (Nat.lt_succ_of_lt hlS)
          have hSf : s.heap.objs.size ∉ [(s.heap.push (set0 led)).objs.size, l] := by
            rw [Heap.size_push]; simp only [List.mem_cons, List.mem_singleton, List.not_mem_nil, or_false, not_or]
            exact ⟨Nat.ne_of_lt (Nat.lt_succ_self _), Nat.ne_of_gt hlS⟩
          refine set_loop ((Walks.list hh3 _ l hneI items).toS) s.heap.objs.size hSf xs hsz (by omega) hval (items.size - 0) 0 _ (by omega) (Nat.zero_le _) ⟨⟨_, Heap.get?_push_size _ rfl, rfl, rfl⟩, hl1.push _⟩ ?_ ?_
          · have hget : ((s.heap.push (set0 led)).push { cls := .type "list_iterator", data := .fields #[.ref l, .int 0 0] }).get? s.heap.objs.size = some (set0 led) := Heap.get?_push_of_some _ hS
            exact SetOf_congr ((setObjOf_fresh (knd := PySem.strKind prog w) led).setOf hget (by unfold scanBound; omega)) (fun _ => rfl) rfl
          · intro s' hm hS'
            rw [← hsz, List.take_length] at hS'
            obtain ⟨h', g', d', tk', os'⟩ := s'
            have eg : g' = s.gens := hm.gens
            have ed : d' = s.drawn := hm.drawn
            have eo : os' = s.os := hm.os
            subst eg; subst ed; subst eo
            refine wpAny_pure (wpAny_pure ⟨rfl, h', tk', rfl, hS', fun b o hb e => ?_⟩)
            refine hm.heap b o ?_ (Heap.get?_push_of_some _ (Heap.get?_push_of_some _ e))
            have hb1 : b ≠ s.heap.objs.size := Nat.ne_of_lt hb
            have hb2 : b ≠ (s.heap.push (set0 led)).objs.size := by rw [Heap.size_push]; exact Nat.ne_of_lt (Nat.lt_succ_of_lt hb)
            simp only [List.mem_cons, List.mem_singleton, List.not_mem_nil, or_false, not_or]
            exact ⟨hb1, hb2⟩
        · obtain ⟨ol, hol, hcl, nl, hdl⟩ := hl
          obtain ⟨ocls, odict, odata, oslots⟩ := ol
          simp only at hcl hdl
          subst hcl; subst hdl
          have hol' : (s.heap.push (set0 led)).get? l = some { cls := .type "tuple", dict := odict, data := .seq items nl, slots := oslots } := Heap.get?_push_of_some _ hol
          have hsls := PySem.F.sub_tuple_set
          have hslf := PySem.F.sub_tuple_frozenset
          have hne : (Value.type "tuple" == Value.type "dict") = false := by decide
          have hl1 : (s.heap.push (set0 led)).IsTuple l items := ⟨_, hol', rfl, nl, rfl⟩
          have hlS : l < s.heap.objs.size := Heap.lt_size hol
          unfold Builtin.«set.__init__» noKeywords Builtin.Frozenset.updateFrom
          generalize hPI : pyIter = PI
          wp_walk
          subst hPI
          refine wpAny_pyIter_tuple hl1 ?_
          refine wpAny_bind (wpAny_runValue ?_)
          have hneI : l ≠ (s.heap.push (set0 led)).objs.size := by rw [Heap.size_push]; exact Nat.ne_of_lt (Nat.lt_succ_of_lt hlS)
          have hSf : s.heap.objs.size ∉ [(s.heap.push (set0 led)).objs.size, l] := by
            rw [Heap.size_push]; simp only [List.mem_cons, List.mem_singleton, List.not_mem_nil, or_false, not_or]
            exact ⟨Nat.ne_of_lt (Nat.lt_succ_self _), Nat.ne_of_gt hlS⟩
          refine set_loop ((Walks.tuple hh3 _ l hneI items).toS) s.heap.objs.size hSf xs hsz (by omega) hval (items.size - 0) 0 _ (by omega) (Nat.zero_le _) ⟨⟨_, Heap.get?_push_size _ rfl, rfl, rfl⟩, hl1.push _⟩ ?_ ?_
          · have hget : ((s.heap.push (set0 led)).push { cls := .type "tuple_iterator", data := .fields #[.ref l, .int 0 0] }).get? s.heap.objs.size = some (set0 led) := Heap.get?_push_of_some _ hS
            exact SetOf_congr ((setObjOf_fresh (knd := PySem.strKind prog w) led).setOf hget (by unfold scanBound; omega)) (fun _ => rfl) rfl
          · intro s' hm hS'
            rw [← hsz, List.take_length] at hS'
            obtain ⟨h', g', d', tk', os'⟩ := s'
            have eg : g' = s.gens := hm.gens
            have ed : d' = s.drawn := hm.drawn
            have eo : os' = s.os := hm.os
            subst eg; subst ed; subst eo
            refine wpAny_pure (wpAny_pure ⟨rfl, h', tk', rfl, hS', fun b o hb e => ?_⟩)
            refine hm.heap b o ?_ (Heap.get?_push_of_some _ (Heap.get?_push_of_some _ e))
            have hb1 : b ≠ s.heap.objs.size := Nat.ne_of_lt hb
            have hb2 : b ≠ (s.heap.push (set0 led)).objs.size := by rw [Heap.size_push]; exact Nat.ne_of_lt (Nat.lt_succ_of_lt hb)
            simp only [List.mem_cons, List.mem_singleton, List.not_mem_nil, or_false, not_or]
            exact ⟨hb1, hb2⟩
      · cases r₂ with
        | error e => exact hr₂
        | ok fl₂ =>
          cases fl₂ with
          | ret r =>
            obtain ⟨rfl, h', tk, rfl, hS', hk'⟩ := hr₂
            repeat (any_goals (first | assumption | wp_step))
            exact h _ _ hS' hk'
          | _ => exact hr₂.elim
    | _ => exact hr.elim
end
end U
namespace U
open PySem L2 PySem.Spec PyProof.Rows
section
variable {X : Cx} {W : WX}
def tLenSetT (K : PySem.W.Frag) (ta : TE) : TE := fun σ H Q => ta σ H fun x H1 => ∃ l, ∃ xs : List Str, x = .ref l ∧ (SqL K H1 l (xs.map V.str) ∨ SqT K H1 l (xs.map V.str)) ∧ xs.length ≤ 4000 ∧ Q (.int ((dd xs).length : Nat)) H1
theorem pe_lenSetT {a : Expr} {ta : TE} {p p2 q pos : Pos} (hc : X.calm = true) (hg : Gl X "len") (hm : X.mg "len" = none) (hg2 : Gl X "set") (hm2 : X.mg "set" = none) (ha : PE X a ta)
    (na : starEach [a] X.env = (false, eval a X.env) :: starEach [] X.env := by rfl) : PE X (.Call (.Name "len" p) [.Call (.Name "set" p2) [a] [] q] [] pos) (tLenSetT X.K ta) := by
  refine ⟨fun pins s σ H Q I h => ?_⟩
  refine Call_ (ld_blt I hg hm boot_len ?_)
  refine PyProof.Rows.callWith_builtin1 (PyProof.Rows.args_cons ?_ rfl) rfl rfl
  refine Call_ (ld_blt I hg2 hm2 boot_set ?_)
  refine PyProof.Rows.callWith_type1 (PyProof.Rows.args_cons (thn (ha.run pins s σ H _ I h) fun v s1 ⟨x, H1, I1, r1, q1⟩ => PyProof.Rows.args_nil ?_) na) na rfl
  obtain ⟨l, xs, rfl, hq, h1, q1⟩ := q1
  cases r1
  have fin : ∀ (h' : Heap) (tk : Nat), h'.SetOf (PySem.strKind X.prog X.w) s1.heap.objs.size (ddS xs xs.length) (dd xs).length →
      (∀ b o, b < s1.heap.objs.size → s1.heap.get? b = some o → h'.get? b = some o) →
      wpAny (model X.prog X.w) X.A (spliced (backTo pos (starEach [] X.env))) (fun vs s₂ => wpAny (model X.prog X.w) X.A (call (.builtin "len") (Value.ref s1.heap.objs.size :: vs)) (EP X pins σ Q) X.xe s₂) X.xe { s1 with heap := h', toks := tk } := fun h' tk hS hk => by
    refine PyProof.Rows.args_nil ?_
    obtain ⟨o, es, ep, t, ho, hex, hd, _, _, _, hf, hn⟩ := hS
    have I2 : Inv X pins σ H1 { s1 with heap := h', toks := tk } := I1.kept fun b o e => hk b o (Heap.lt_size e) e
    have hdl := dd_len xs
    refine call_len_set ho hex hd hf (by rw [hn] <;> omega) ⟨.int ((dd xs).length : Nat), H1, I2.tok _, ⟨_, by rw [hn]⟩, q1⟩
  have hb : xs.length + 1 < scanBound := by unfold scanBound; omega
  rcases hq with hq | hq
  · obtain ⟨its, r, pl, hz⟩ := I1.list hq
    exact call_set_texts (I1.ok.hd hc) (.inl pl.isList) (by simpa using strsAre_of r) hb fun h' tk hS hk => fin h' tk hS hk
  · obtain ⟨its, r, pl, hz⟩ := I1.tuple hq
    exact call_set_texts (I1.ok.hd hc) (.inr pl) (by simpa using strsAre_of r) hb fun h' tk hS hk => fin h' tk hS hk
def vLenSet (x : Val) (h : Hh) : Res Val := match x with
  | .tup vs => (match strsOf' vs with | some xs => if xs.length ≤ 4000 then .ok (.int ((dd xs).length : Nat)) h else .no | none => .no)
  | .ref n => (match h[n]? with
    | some (.lst vs) => (match strsOf' vs with | some xs => if xs.length ≤ 4000 then .ok (.int ((dd xs).length : Nat)) h else .no | none => .no)
    | _ => .no)
  | _ => .no
theorem s_lenSet {a : Expr} {ma : ME} {p p2 q pos : Pos} (hc : X.calm = true) (hg : Gl X "len") (hm : X.mg "len" = none) (hg2 : Gl X "set") (hm2 : X.mg "set" = none) (ha : CE X W a ma)
    (na : starEach [a] X.env = (false, eval a X.env) :: starEach [] X.env := by rfl) : CE X W (.Call (.Name "len" p) [.Call (.Name "set" p2) [a] [] q] [] pos) (mUn vLenSet ma) := by
  refine peI (pe_lenSetT hc hg hm hg2 hm2 ha na) fun τ H Q ⟨μ, σ, h, l, r, p⟩ => ⟨μ, σ, h, l, r, ?_⟩
  refine (Ps.bind p).imp fun x μ1 h1 H1 p1 e1 r1 q1 w1 rw1 => ?_
  unfold vLenSet at q1
  cases rw1 with
  | @tup vs ws a1 t1 rs1 =>
    dsimp only at q1
    cases q : strsOf' vs with
    | none => rw [q] at q1; exact q1.elim
    | some xs =>
      rw [q] at q1
      dsimp only at q1
      split at q1
      · rename_i hz
        rw [strsOf'_ok q] at rs1
        exact ⟨a1, xs, rfl, .inr (by rw [← rs1.strs]; exact t1.sq), hz, q1.at r1 _ (.int _)⟩
      · exact q1.elim
  | @ref n a1 hq =>
    obtain ⟨o, ho, ro⟩ := r1.obj hq
    dsimp only at q1
    rw [ho] at q1
    cases o with
    | lst vs =>
      obtain ⟨ws, g1, g2⟩ := ro
      dsimp only at q1
      cases q : strsOf' vs with
      | none => rw [q] at q1; exact q1.elim
      | some xs =>
        rw [q] at q1
        dsimp only at q1
        split at q1
        · rename_i hz
          rw [strsOf'_ok q] at g2
          exact ⟨a1, xs, rfl, .inl (by rw [← g2.strs]; exact .inl (.inl g1)), hz, q1.at r1 _ (.int _)⟩
        · exact q1.elim
    | _ => exact q1.elim
  | _ => exact q1.elim
end
end U
namespace U
open PySem L2
section
variable {X : Cx} {W : WX} {k : Nat} {o e f : Expr} {ma mb mc : ME} {apos cpos pos : Pos}
end
end U
namespace U
open PySem L2 PySem.Spec PyProof.Rows
def txtOf (e : Int × Value) : Str := match e.2 with | .str x _ => x | _ => Str.empty
def GoodT (P : Program) (w : World) (e : Int × Value) : Prop := ∃ x tk, e.2 = Value.str x tk ∧ e.1 = (strKind P w).hash x
def SetT (P : Program) (w : World) (h : Heap) (a : Addr) (S : Str → Bool) (n : Nat) : Prop :=
  ∃ o es ep t, h.get? a = some o ∧ o.ExactSet ∧ o.data = .set es ep t ∧ (∀ e ∈ es.toList, GoodT P w e) ∧ (es.toList.map txtOf).Nodup ∧ (∀ k, S k = true ↔ k ∈ es.toList.map txtOf) ∧
    es.size < scanBound ∧ t.fits es.size = true ∧ es.size = n ∧ Ris t.place.toList ∧ (w.params.followText "set-order" = true ∨ t.led = true)
section
variable {P : Program} {w : World} {h : Heap} {a : Addr} {S : Str → Bool} {n : Nat}
theorem SetT.congr {S' : Str → Bool} {m : Nat} (R : SetT P w h a S n) (e : ∀ k, S' k = S k) (en : m = n) : SetT P w h a S' m := by
  have q : S' = S := funext e
  subst en
  rw [q]; exact R
end
section
variable {P : Program} {w : World} {A : Around} {E : Value → Shared → Prop} {s : Shared} {a : Addr} {S : Str → Bool} {n : Nat}
end
section
variable {prog : Program} {w : World} {A : Around} {E : Value → Shared → Prop} {s : Shared}
end
section
variable {prog : Program} {w : World} {A : Around} {R : Result → Shared → Prop} {I : Addr} {fp wr : List Addr} {G : Array GenState → Array GenState → Prop} {n : Nat} {P : Nat → Value → Prop} {St : Nat → Shared → Prop}
end
section
variable {prog : Program} {w : World} {A : Around} {E : Value → Shared → Prop} {s : Shared}
end
end U
namespace U
open PySem L2 PySem.Spec PyProof.Rows
section
variable {P : Program} {w : World} {A : Around} {E : Value → Shared → Prop} {s : Shared} {a : Addr} {S : Str → Bool} {n : Nat}
end
section
variable {X : Cx} {W : WX}
end
end U
namespace U
open PySem L2 PySem.Spec PyProof.Rows
theorem zip_no_len : typeLookup (.type "zip") "__len__" = pure none := am_miss_of_fast (by decide +kernel)
theorem zip_no_hint : typeLookup (.type "zip") "__length_hint__" = pure none := am_miss_of_fast (by decide +kernel)
abbrev ZP (h : Heap) (T : Addr) (a b : Value) : Prop := PySem.IsPair h T a b
def ZSt (z TI TO i1 i2 l1 l2 S : Addr) (xs ys : Array Value) (i : Nat) (h : Heap) : Prop :=
  ZP h TI (.ref i1) (.ref i2) ∧ h.IsListIter i1 l1 i ∧ h.IsListIter i2 l2 i ∧ h.IsList l1 xs ∧ h.IsList l2 ys ∧
    ((IsZip h z TI TO .none ∧ ∃ a b, ZP h TO a b) ∨ ∃ T f oT, IsZipHeld h z TI TO T f ∧ h.get? T = some oT ∧ T ≠ z ∧ T ≠ i1 ∧ T ≠ i2 ∧ T ≠ S)
structure ZG (xs ys : Array Value) (lo : Addr) (h : Heap) (as : List Addr) : Prop where
  rise : as.Pairwise (· < ·)
  above : ∀ a ∈ as, lo < a
  pairs : ∀ (j : Nat) (a : Addr), as[j]? = some a → ∃ x y, xs[j]? = some x ∧ ys[j]? = some y ∧ h.get? a = some { cls := .type "tuple", data := .seq #[x, y] }
theorem ZG.there {xs ys : Array Value} {lo : Addr} {h : Heap} {as : List Addr} (g : ZG xs ys lo h as) {a : Addr} (ha : a ∈ as) : a < h.objs.size := by
  obtain ⟨j, hj⟩ := List.mem_iff_getElem?.mp ha
  obtain ⟨_, _, _, _, e⟩ := g.pairs j a hj
  exact Heap.lt_size e
section
variable {prog : Program} {w : World} {A : Around} {E : Value → Shared → Prop} {s : Shared} {z TI TO i1 i2 l1 l2 S : Addr} {xs ys : Array Value} {i : Nat}
theorem ZSt.keep {h h' : Heap} (x : ZSt z TI TO i1 i2 l1 l2 S xs ys i h) (hS : S ≠ z ∧ S ≠ TI ∧ S ≠ TO ∧ S ≠ i1 ∧ S ≠ i2 ∧ S ≠ l1 ∧ S ≠ l2) (hk : ∀ b o, b ≠ S → h.get? b = some o → h'.get? b = some o) : ZSt z TI TO i1 i2 l1 l2 S xs ys i h' := by
  obtain ⟨s1, s2, s3, s4, s5, s6, s7⟩ := hS
  obtain ⟨hTI, h1, h2, hl1, hl2, hz⟩ := x
  refine ⟨hk _ _ (Ne.symm s2) hTI, h1.at fun o e => hk _ o (Ne.symm s4) e, h2.at fun o e => hk _ o (Ne.symm s5) e, hl1.at fun o e => hk _ o (Ne.symm s6) e, hl2.at fun o e => hk _ o (Ne.symm s7) e, ?_⟩
  rcases hz with ⟨hz, a, b, hTO⟩ | ⟨T, f, oT, hz, hT, r1, r2, r3, r4⟩
  · exact .inl ⟨hk _ _ (Ne.symm s1) hz, a, b, hk _ _ (Ne.symm s3) hTO⟩
  · exact .inr ⟨T, f, oT, hk _ _ (Ne.symm s1) hz, hk _ _ r4 hT, r1, r2, r3, r4⟩
end
section
variable {prog : Program} {w : World} {A : Around} {s : Shared} {R : Result → Shared → Prop} {z TI TO i1 i2 l1 l2 S : Addr} {xs ys : Array Value}
end
section
variable {prog : Program} {w : World} {A : Around} {E : Value → Shared → Prop} {s : Shared} {z TI TO i1 i2 l1 l2 : Addr} {xs ys : Array Value}
end
end U
namespace U
open PySem L2 PySem.Spec PyProof.Rows
def putP : Hp → List Addr → List (V × V) → Hp
  | H, a :: as, p :: ps => putP (upd H a (.tup [p.1, p.2])) as ps
  | H, _, _ => H
theorem putP_off {b : Addr} : ∀ (as : List Addr) (ps : List (V × V)) (H : Hp), b ∉ as → putP H as ps b = H b
  | [], _, _, _ => rfl
  | _ :: _, [], _, _ => rfl
  | a :: as, p :: ps, H, h => by
    show putP (upd H a (.tup [p.1, p.2])) as ps b = H b
    rw [putP_off as ps _ (fun z => h (List.mem_cons_of_mem _ z)), upd_ne (fun z => h (by rw [z]; exact List.mem_cons_self))]
theorem putP_at : ∀ (as : List Addr) (ps : List (V × V)) (H : Hp), as.length = ps.length → as.Nodup → Paired (fun (t : Addr) (p : V × V) => putP H as ps t = some (.tup [p.1, p.2])) as ps
  | [], [], _, _, _ => .nil
  | [], _ :: _, _, h, _ => by cases h
  | _ :: _, [], _, h, _ => by cases h
  | a :: as, p :: ps, H, h, hn => by
    have hn' := List.nodup_cons.mp hn
    have ih := putP_at as ps (upd H a (.tup [p.1, p.2])) (Nat.succ.inj h) hn'.2
    refine .cons ?_ ih
    show putP (upd H a (.tup [p.1, p.2])) as ps a = some (.tup [p.1, p.2])
    rw [putP_off as ps _ hn'.1, upd_same]
section
variable {X : Cx} {W : WX}
theorem zip_laid {pins : List (Addr × Obj)} {σ : L2.St} {H : Hp} {s : Shared} {h' : Heap} {tk : Nat} {ps : List (V × V)} {acc : Array Value} {c : Nat} {as : List Addr} {S : Addr} (I : Inv X pins σ H s) (hz : ps.length ≤ sizeLine)
    (hk : ∀ b o, s.heap.get? b = some o → h'.get? b = some o) (hlo : s.heap.objs.size ≤ S) (hS : h'.get? S = some { cls := .type "list", dict := none, data := .seq acc c, slots := #[] }) (hl : as.length = ps.length)
    (rise : as.Pairwise (· < ·)) (above : ∀ a ∈ as, S < a) (pairs : ∀ (j : Nat) (a : Addr) (p : V × V), as[j]? = some a → ps[j]? = some p → ∃ u v, RelV p.1 u ∧ RelV p.2 v ∧ h'.get? a = some { cls := .type "tuple", data := .seq #[u, v] }) (hacc : acc.toList = as.map Value.ref) :
    ∃ H' : Hp, (∀ b o, H b = some o → H' b = some o) ∧ H S = none ∧ (∀ t ∈ as, H t = none) ∧ S ∉ as ∧ H' S = some (.lst (as.map V.ref)) ∧ Paired (fun (t : Addr) (q : V × V) => H' t = some (.tup [q.1, q.2])) as ps ∧ Inv X pins σ H' { s with heap := h', toks := tk } := by
  have hSn : S ∉ as := fun z => Nat.lt_irrefl _ (above _ z)
  have nd : as.Nodup := List.Pairwise.imp (fun {a b} (h : a < b) => Nat.ne_of_lt h) rise
  have new : ∀ t ∈ as, H t = none := fun t ht => I.hok.fresh (Nat.le_trans hlo (Nat.le_of_lt (above t ht)))
  have newS : H S = none := I.hok.fresh hlo
  have atP := putP_at as ps (upd H S (.lst (as.map V.ref))) hl nd
  have off : ∀ b, b ∉ as → b ≠ S → putP (upd H S (.lst (as.map V.ref))) as ps b = H b := fun b h1 h2 => by rw [putP_off as ps _ h1, upd_ne h2]
  have low : ∀ b o, s.heap.get? b = some o → b ∉ as ∧ b ≠ S := fun b o e =>
    have hb : b < S := Nat.lt_of_lt_of_le (Heap.lt_size e) hlo
    ⟨fun z => absurd hb (Nat.not_lt.mpr (Nat.le_of_lt (above b z))), Nat.ne_of_lt hb⟩
  have kp : ∀ b u, H b = some u → (putP (upd H S (.lst (as.map V.ref))) as ps) b = some u := fun b u e => by
    rw [off b (fun z => by rw [new b z] at e; cases e) (fun z => by rw [z, newS] at e; cases e)]
    exact e
  have eS : putP (upd H S (.lst (as.map V.ref))) as ps S = some (.lst (as.map V.ref)) := by rw [putP_off as ps _ hSn, upd_same]
  refine ⟨putP (upd H S (.lst (as.map V.ref))) as ps, kp, newS, new, hSn, eS, atP, ?_⟩
  refine I.call' (ch := []) rfl ⟨fun b o q _ _ _ => hk b o q, fun b o q _ _ _ => ⟨o.slots, hk b o q⟩, fun b o q n _ => ?_, fun b o q _ => ⟨o, hk b o q⟩, fun b xs q => kp b _ q, fun b o u q => kp b _ q, fun b ps q => ⟨#[], by rw [kp b _ q]; simp⟩⟩ (fun b u q => ?_) I.bare fun b z => by simp at z
  · obtain ⟨z1, z2⟩ := low b o q
    rw [off b z1 z2]
    exact n
  · by_cases hb : b ∈ as
    · obtain ⟨j, pk, e1, e2, e3⟩ := LiI.paired_ix atP hb
      rw [e3] at q
      cases q
      obtain ⟨u, v, f1, f2, f3⟩ := pairs j b pk e1 e2
      exact ⟨by show 2 ≤ sizeLine; decide, [u, v], .cons f1 (.cons f2 .nil), ⟨_, f3, rfl, _, rfl⟩⟩
    · by_cases hb2 : b = S
      · rw [hb2] at q ⊢
        rw [eS] at q
        cases q
        refine ⟨by rw [List.length_map]; omega, acc.toList, c, by rw [hacc]; exact LiI.vals_refs as, ?_⟩
        rw [Array.toArray_toList]
        exact hS
      · rw [off b hb hb2] at q
        exact (I.hok b u q).stay (fun d v _ y => hk d v y) (fun d y => kp d _ y) fun d xs y => kp d _ y
def zipV : List Val → List Val → List Val
  | x :: xs, y :: ys => .tup [x, y] :: zipV xs ys
  | _, _ => []
theorem zip_rv {G : Gm} {μ : List Addr} {H : Hp} : ∀ {xs ys : List Val} {us vs : List V} {ts : List Addr}, RVs G μ H xs us → RVs G μ H ys vs → Paired (fun (t : Addr) (q : V × V) => H t = some (.tup [q.1, q.2])) ts (us.zip vs) → RVs G μ H (zipV xs ys) (ts.map V.ref)
  | _, _, _, _, _, .nil, _, .nil => .nil
  | _, _, _, _, _, .cons _ _, .nil, .nil => .nil
  | _, _, _, _, _, .cons r1 t1, .cons r2 t2, .cons a b => .cons (.tup (.inl a) (.cons r1 (.cons r2 .nil))) (zip_rv t1 t2 b)
end
end U
namespace U
open PySem L2 PySem.Spec PyProof.Rows
def eqHits (kb : List (Val × Val)) : List (Val × Val) → Option Bool
  | [] => some true
  | (k, .int i) :: r => (match keyOf k with
    | none => none
    | some _ => (match dGet kb k with
      | none => some false
      | some (.int j) => (eqHits kb r).map (decide (i = j) && ·)
      | some _ => none))
  | _ :: _ => none
def vEqI (x y : Val) (h : Hh) : Res Val := match x, y with
  | .ref i, .ref j => (match h[i]?, h[j]? with
    | some (.dct ka), some (.dct kb) => (match eqHits kb ka with | some b => .ok (.bl (ka.length == kb.length && b)) h | none => .no)
    | _, _ => .no)
  | _, _ => .no
theorem nr_eqi : ∀ x y h z k, vEqI x y h ≠ .rs z k := fun x y h z k => by unfold vEqI; (repeat' split) <;> simp
section
variable {X : Cx}
theorem hits_int {A : Around} {s : Shared} {G : Gm} {μ : List Addr} {H : Hp} {kb : List (Val × Val)} {ls : List (Key × V)} {vb : List (Key × Value)} (rb : RKs G μ H kb ls) (cb : KV ls vb) :
    ∀ {ka : List (Val × Val)} {ks : List (Key × V)} {va : List (Key × Value)} {b : Bool}, RKs G μ H ka ks → KV ks va → eqHits kb ka = some b → PySem.W.KeqHitsP X.prog X.w A s vb va b
  | _, _, _, b, .nil, .nil, e => by
    simp only [eqHits, Option.some.injEq] at e
    subst e
    exact .nil
  | _, _, _, b, @RKs.cons _ _ _ k v kk w r r' hk hv t, c, e => by
    unfold KV at c
    cases c with
    | @cons _ q _ qs h1 ct =>
      obtain ⟨hq1, hq2⟩ := h1
      obtain ⟨qk, qv⟩ := q
      simp only at hq1 hq2
      subst hq1
      cases v with
      | int i =>
        simp only [eqHits] at e
        cases qk : keyOf k with
        | none => rw [qk] at e; cases e
        | some kk' =>
          rw [qk] at e
          simp only at e
          have hkk : kk' = kk := by
            rw [hk] at qk
            exact (Option.some.inj qk).symm
          subst hkk
          obtain ⟨d1, d2⟩ := dGet_ok qk rb
          cases qg : dGet kb k with
          | none =>
            rw [qg] at e
            simp only [Option.some.injEq] at e
            subst e
            have hn := d2 qg
            have rr := cb.val kk'
            rw [hn] at rr
            refine .miss ?_
            cases qq : valueAt vb kk' with
            | none => rfl
            | some y => rw [qq] at rr; exact rr.elim
          | some z =>
            rw [qg] at e
            cases z with
            | int j =>
              simp only at e
              obtain ⟨w', hw', rw'⟩ := d1 _ qg
              cases rw'
              have rr := cb.val kk'
              rw [hw'] at rr
              obtain ⟨y, hy, ry⟩ := rr.some_of
              obtain ⟨ty, rfl⟩ := ry
              cases hv
              obtain ⟨tv, rfl⟩ := hq2
              cases qe : eqHits kb r with
              | none => rw [qe] at e; cases e
              | some b' =>
                rw [qe] at e
                simp only [Option.map_some, Option.some.injEq] at e
                subst e
                have hit := hits_int (A := A) (s := s) rb cb t ct qe
                have ee : SeqAt.EqP X.prog X.w A s (.int i tv) (.int j ty) (decide (i = j)) := by
                  have := (SeqAt.EqAt.int_int i tv j ty).eqP (prog := X.prog) (w := X.w) (A := A) (s := s)
                  rw [show decide (i = j) = (i == j) from (by by_cases e : i = j <;> simp [e])]
                  exact this
                exact .hit hy ee hit
            | _ => cases e
      | _ => simp only [eqHits] at e; cases e
theorem o_eqI (hu : X.A.units + 64 < cLine) : OpR X (compareOp .Eq) (rM2 (gm X) W0 vEqI) := opr fun pins s τ H x y v u Q μ hh a b I rx ry r ra rb p => by
  unfold vEqI at p
  split at p
  · rename_i i j
    cases ra with
    | @ref _ ad hA =>
    cases rb with
    | @ref _ bd hB =>
    obtain ⟨o1, h1, ro1⟩ := r.obj hA
    obtain ⟨o2, h2, ro2⟩ := r.obj hB
    rw [h1, h2] at p
    split at p
    · rename_i ka kb e1 e2
      cases e1; cases e2
      obtain ⟨ks, ha, ra⟩ := ro1
      obtain ⟨ls, hb, rb⟩ := ro2
      cases (show v = Value.ref ad from rx)
      cases (show u = Value.ref bd from ry)
      obtain ⟨_, ya, va, rva, da⟩ := (show ObjOk X.prog X.w H s.heap ad (.dK ks) from I.hok ad _ ha)
      obtain ⟨_, yb, vb, rvb, db⟩ := (show ObjOk X.prog X.w H s.heap bd (.dK ls) from I.hok bd _ hb)
      have hlv : va.length = ka.length := by rw [← rva.length, ra.length]
      have hlb : vb.length = kb.length := by rw [← rvb.length, rb.length]
      split at p
      · rename_i bb eb
        refine PySem.W.rcP_dicts (knd := mixKind X.prog X.w) (r := bb) ya yb da db (by omega) (fun _ => hits_int rb rvb ra rva eb) _ _ ?_
        rw [hlv, hlb]
        exact ⟨.bl (ka.length == kb.length && bb), H, I, rfl, by simpa using p.at r _ (.bl _)⟩
      · exact p.elim
    · exact p.elim
  · exact p.elim
end
end U
namespace U
open PySem L2 PySem.Spec PyProof.Rows
def SqI : Bool → Heap → Addr → Array Value → Prop
  | true, h, l, xs => h.IsList l xs
  | false, h, l, xs => h.IsTuple l xs
def ItI : Bool → Heap → Addr → Addr → Nat → Prop
  | true, h, it, l, i => h.IsListIter it l i
  | false, h, it, l, i => h.IsTupleIter it l i
theorem SqI.at {b : Bool} {h h' : Heap} {l : Addr} {xs : Array Value} (x : SqI b h l xs) (e : ∀ o, h.get? l = some o → h'.get? l = some o) : SqI b h' l xs := by
  cases b
  · exact Heap.IsTuple.at x e
  · exact Heap.IsList.at x e
theorem ItI.at {b : Bool} {h h' : Heap} {it l : Addr} {i : Nat} (x : ItI b h it l i) (e : ∀ o, h.get? it = some o → h'.get? it = some o) : ItI b h' it l i := by
  cases b
  · exact Heap.IsTupleIter.at x e
  · exact Heap.IsListIter.at x e
theorem SqI.lt {b : Bool} {h : Heap} {l : Addr} {xs : Array Value} (x : SqI b h l xs) : l < h.objs.size := by
  cases b
  · obtain ⟨_, e, _⟩ := x; exact Heap.lt_size e
  · obtain ⟨_, e, _⟩ := x; exact Heap.lt_size e
theorem ItI.obj {b : Bool} {h : Heap} {it l : Addr} {i : Nat} (x : ItI b h it l i) : ∃ o, h.get? it = some o ∧ ∃ fs, o.data = .fields fs := by
  cases b
  · obtain ⟨o, e, _, d⟩ := x; exact ⟨o, e, _, d⟩
  · obtain ⟨o, e, _, d⟩ := x; exact ⟨o, e, _, d⟩
abbrev StI (b : Bool) (it l : Addr) (xs : Array Value) : Nat → Heap → Prop := fun i h => ItI b h it l i ∧ SqI b h l xs
theorem drawsI {prog : Program} {w : World} {A : Around} (b : Bool) (hh : A.handled = none) (it l : Addr) (hne : l ≠ it) (items : Array Value) :
    Draws prog w A it [it, l] items.size (fun i v => items[i]? = some v) (StI b it l items) := by
  cases b
  · exact Draws.tuple hh it l hne items
  · exact Draws.list hh it l hne items
def itO : Bool → Addr → Obj
  | true, l => { cls := .type "list_iterator", data := .fields #[.ref l, .int 0 0] }
  | false, l => { cls := .type "tuple_iterator", data := .fields #[.ref l, .int 0 0] }
theorem beginsI (b : Bool) (l : Addr) (items : Array Value) : Begins (.ref l) (itO b l) fun h => SqI b h l items := by
  cases b
  · exact begins_tuple l items
  · exact begins_list l items
theorem itO_at {b : Bool} {h : Heap} {it l : Addr} (e : h.get? it = some (itO b l)) : ItI b h it l 0 := by
  cases b
  · exact ⟨_, e, rfl, rfl⟩
  · exact ⟨_, e, rfl, rfl⟩
section
variable {prog : Program} {w : World} {A : Around} {E : Value → Shared → Prop} {s : Shared} {z TI TO T i1 i2 : Addr} {fp1 fp2 : List Addr} {n1 n2 i : Nat} {P1 P2 : Nat → Value → Prop} {St1 St2 : Nat → Heap → Prop} {a1 a2 : Value} {f : Bool} {oT : Obj}
theorem zipG_item_held {Q : Value → Shared → Prop} (S : ZipSep2 z TI TO i1 i2 fp1 fp2) (D1 : Draws prog w A i1 fp1 n1 P1 St1) (D2 : Draws prog w A i2 fp2 n2 P2 St2)
    (hz : IsZipHeld s.heap z TI TO T f) (hT : s.heap.get? T = some oT) (hTI : IsTupOf2 s.heap TI (.ref i1) (.ref i2)) (st1 : St1 i s.heap) (st2 : St2 i s.heap) (hlt1 : i < n1) (hlt2 : i < n2)
    (hQ : ∀ x1 x2 h' tk, P1 i x1 → P2 i x2 → IsZipHeld h' z TI TO T true → St1 (i + 1) h' → St2 (i + 1) h' → IsTupOf2 h' s.heap.objs.size x1 x2 → h'.objs.size = s.heap.objs.size + 1 →
      (∀ c o, c ≠ z → c ≠ i1 → c ≠ i2 → s.heap.get? c = some o → h'.get? c = some o) → Q (.ref s.heap.objs.size) { s with heap := h', toks := tk }) :
    wpAny (model prog w) A (Builtin.«zip.__next__» ⟨[.ref z], []⟩) (fun fin s' => ∃ v, fin = .done (.ret v) ∧ Q v s') E s := by
  show wpAny _ _ (field (.ref z) 2 >>= _) _ _ _
  refine wpAny_bind (wpAny_field hz rfl (x := .bool false) rfl ?_)
  show wpAny _ _ (field (.ref z) 3 >>= _) _ _ _
  refine wpAny_bind (wpAny_field hz rfl (x := .ref TI) rfl ?_)
  refine wpAny_bind (wpAny_seqItems hTI rfl ?_)
  show wpAny _ _ (Builtin.SmallTypes.ownedTupleIsFree (.ref z) >>= _) _ _ _
  refine wpAny_bind (wpAny_tupleHeld_zip hz hT fun h₁ hz₁ hs₁ => ?_)
  simp only [Bool.false_eq_true, if_false]
  refine wpAny_bind ?_
  rw [← Array.forIn_toList]
  simp only [List.forIn_cons, List.forIn_nil]
  refine wpAny_bind (wpAny_bind (wpAny_holding ?_))
  show wpAny _ _ (Builtin.SmallTypes.nextOf (.ref i1) >>= _) _ _ _
  refine wpAny_bind (D1.item i { s with heap := h₁ } _ _ hlt1 (D1.over st1 hs₁ S.zf1) fun x1 h₂ tk1 hx1 sn1 hs₂ => wpAny_pure ?_)
  refine wpAny_pure ?_
  refine wpAny_bind (wpAny_bind (wpAny_holding ?_))
  show wpAny _ _ (Builtin.SmallTypes.nextOf (.ref i2) >>= _) _ _ _
  refine wpAny_bind (D2.item i { s with heap := h₂, toks := tk1 } _ _ hlt2 (D2.over (D2.over st2 hs₁ S.zf2) hs₂ S.sep1_2) fun x2 h₃ tk2 hx2 sn2 hs₃ => wpAny_pure ?_)
  refine wpAny_pure (wpAny_pure ?_)
  show wpAny _ _ (newTuple [x1, x2] >>= _) _ _ _
  refine wpAny_bind (wpAny_newTuple ?_)
  replace hs₂ : Heap.SameBut i1 h₁ h₂ := hs₂
  replace hs₃ : Heap.SameBut i2 h₂ h₃ := hs₃
  have hsz : h₃.objs.size = s.heap.objs.size := by rw [hs₃.1, hs₂.1, hs₁.1]
  have hz₃ : IsZipHeld h₃ z TI TO T true := hs₃.extBut _ _ S.zi2 (hs₂.extBut _ _ S.zi1 hz₁)
  have hk : ∀ c o, c ≠ z → c ≠ i1 → c ≠ i2 → s.heap.get? c = some o → h₃.get? c = some o := fun c o c1 c2 c3 e => hs₃.extBut _ _ c3 (hs₂.extBut _ _ c2 (hs₁.extBut _ _ c1 e))
  refine wpAny_pure ⟨_, rfl, ?_⟩
  show Q (.ref h₃.objs.size) _
  have hp : IsTupOf2 (h₃.push { cls := .type "tuple", data := .seq #[x1, x2] }) h₃.objs.size x1 x2 := Heap.get?_push_size _ rfl
  have hz4 : (h₃.push { cls := .type "tuple", data := .seq #[x1, x2] }).objs.size = h₃.objs.size + 1 := Heap.size_push ..
  rw [hsz] at hp hz4 ⊢
  exact hQ x1 x2 _ tk2 hx1 hx2 (Heap.get?_push_of_some _ hz₃) (D1.frame _ _ _ (D1.over sn1 hs₃ S.sep2_1) fun b hb o e => Heap.get?_push_of_some _ e) (D2.frame _ _ _ sn2 fun b hb o e => Heap.get?_push_of_some _ e) hp hz4 fun c o c1 c2 c3 e => Heap.get?_push_of_some _ (hk c o c1 c2 c3 e)
theorem zipG_end_held {Q : Fin → Shared → Prop} (S : ZipSep2 z TI TO i1 i2 fp1 fp2) (D1 : Draws prog w A i1 fp1 n1 P1 St1) (D2 : Draws prog w A i2 fp2 n2 P2 St2)
    (hz : IsZipHeld s.heap z TI TO T f) (hT : s.heap.get? T = some oT) (hTI : IsTupOf2 s.heap TI (.ref i1) (.ref i2)) (st1 : St1 i s.heap) (st2 : St2 i s.heap) (hle1 : i ≤ n1) (hle2 : i ≤ n2) (hend : i = n1 ∨ i = n2)
    (hE : ∀ h' tk e, (∀ c o, c ≠ z → c ≠ i1 → c ≠ i2 → s.heap.get? c = some o → h'.get? c = some o) → (∃ o, h'.get? e = some o ∧ o.cls = .type "StopIteration") → E (.ref e) { s with heap := h', toks := tk }) :
    wpAny (model prog w) A (Builtin.«zip.__next__» ⟨[.ref z], []⟩) Q E s := by
  show wpAny _ _ (field (.ref z) 2 >>= _) _ _ _
  refine wpAny_bind (wpAny_field hz rfl (x := .bool false) rfl ?_)
  show wpAny _ _ (field (.ref z) 3 >>= _) _ _ _
  refine wpAny_bind (wpAny_field hz rfl (x := .ref TI) rfl ?_)
  refine wpAny_bind (wpAny_seqItems hTI rfl ?_)
  show wpAny _ _ (Builtin.SmallTypes.ownedTupleIsFree (.ref z) >>= _) _ _ _
  refine wpAny_bind (wpAny_tupleHeld_zip hz hT fun h₁ hz₁ hs₁ => ?_)
  simp only [Bool.false_eq_true, if_false]
  refine wpAny_bind ?_
  rw [← Array.forIn_toList]
  simp only [List.forIn_cons, List.forIn_nil]
  refine wpAny_bind (wpAny_bind (wpAny_holding ?_))
  show wpAny _ _ (Builtin.SmallTypes.nextOf (.ref i1) >>= _) _ _ _
  by_cases hlt1 : i < n1
  · have hi2 : i = n2 := by omega
    refine wpAny_bind (D1.item i { s with heap := h₁ } _ _ hlt1 (D1.over st1 hs₁ S.zf1) fun x1 h₂ tk1 hx1 sn1 hs₂ => wpAny_pure ?_)
    replace hs₂ : Heap.SameBut i1 h₁ h₂ := hs₂
    refine wpAny_pure ?_
    refine wpAny_bind (wpAny_bind (wpAny_holding ?_))
    show wpAny _ _ (Builtin.SmallTypes.nextOf (.ref i2) >>= _) _ _ _
    refine wpAny_bind (D2.done { s with heap := h₂, toks := tk1 } _ _ (by rw [← hi2]; exact D2.over (D2.over st2 hs₁ S.zf2) hs₂ S.sep1_2) fun h₃ e hs₃ he => ?_)
    exact hE h₃ tk1 e (fun c o c1 c2 c3 x => hs₃ _ _ c3 (hs₂.extBut _ _ c2 (hs₁.extBut _ _ c1 x))) he
  · have hi1 : i = n1 := by omega
    refine wpAny_bind (D1.done { s with heap := h₁ } _ _ (by rw [← hi1]; exact D1.over st1 hs₁ S.zf1) fun h₂ e hs₂ he => ?_)
    exact hE h₂ s.toks e (fun c o c1 c2 _ x => hs₂ _ _ c2 (hs₁.extBut _ _ c1 x)) he
theorem pyNext_zipG_item_held {Q : Option Value → Shared → Prop} (S : ZipSep2 z TI TO i1 i2 fp1 fp2) (D1 : Draws prog w A.in1 i1 fp1 n1 P1 St1) (D2 : Draws prog w A.in1 i2 fp2 n2 P2 St2)
    (hz : IsZipHeld s.heap z TI TO T f) (hT : s.heap.get? T = some oT) (hTI : IsTupOf2 s.heap TI (.ref i1) (.ref i2)) (st1 : St1 i s.heap) (st2 : St2 i s.heap) (hlt1 : i < n1) (hlt2 : i < n2)
    (hQ : ∀ x1 x2 h' tk, P1 i x1 → P2 i x2 → IsZipHeld h' z TI TO T true → St1 (i + 1) h' → St2 (i + 1) h' → IsTupOf2 h' s.heap.objs.size x1 x2 → h'.objs.size = s.heap.objs.size + 1 →
      (∀ c o, c ≠ z → c ≠ i1 → c ≠ i2 → s.heap.get? c = some o → h'.get? c = some o) → Q (some (.ref s.heap.objs.size)) { s with heap := h', toks := tk }) :
    wpAny (model prog w) A (pyNext (.ref z)) Q E s := by
  have hTy : s.TypeIs (.ref z) "zip" := ⟨_, hz, rfl⟩
  unfold pyNext
  exact wpAny_bind (wpAny_attempt (wpAny_callSpecial?_slot (name := Str.ofString "__next__") hTy PySem.F.slot_zip_next
    (wpAny_call_entry PySem.F.slot_zip_next hTy PySem.F.entry_zip_next
      (zipG_item_held S D1 D2 hz hT hTI st1 st2 hlt1 hlt2 fun x1 x2 h' tk y1 y2 b1 d1 d2 b5 b6 b7 => wpAny_pure (hQ x1 x2 h' tk y1 y2 b1 d1 d2 b5 b6 b7)) (PySem.F.args_zip_next_1 _))))
theorem pyNext_zipG_end_held {Q : Option Value → Shared → Prop} (S : ZipSep2 z TI TO i1 i2 fp1 fp2) (D1 : Draws prog w A.in1 i1 fp1 n1 P1 St1) (D2 : Draws prog w A.in1 i2 fp2 n2 P2 St2)
    (hz : IsZipHeld s.heap z TI TO T f) (hT : s.heap.get? T = some oT) (hTI : IsTupOf2 s.heap TI (.ref i1) (.ref i2)) (st1 : St1 i s.heap) (st2 : St2 i s.heap) (hle1 : i ≤ n1) (hle2 : i ≤ n2) (hend : i = n1 ∨ i = n2)
    (hQ : ∀ h' tk, (∀ c o, c ≠ z → c ≠ i1 → c ≠ i2 → s.heap.get? c = some o → h'.get? c = some o) → Q none { s with heap := h', toks := tk }) : wpAny (model prog w) A (pyNext (.ref z)) Q E s := by
  have hTy : s.TypeIs (.ref z) "zip" := ⟨_, hz, rfl⟩
  unfold pyNext
  refine wpAny_bind (wpAny_attempt (wpAny_callSpecial?_slot (name := Str.ofString "__next__") hTy PySem.F.slot_zip_next
    (wpAny_call_entry PySem.F.slot_zip_next hTy PySem.F.entry_zip_next (zipG_end_held S D1 D2 hz hT hTI st1 st2 hle1 hle2 hend fun h' tk e hk he => ?_) (PySem.F.args_zip_next_1 _))))
  obtain ⟨o, ho, hc⟩ := he
  refine wpAny_bind (wpAny_isInstance (T := "StopIteration") (b := true) ⟨o, ho, hc⟩ isSubtype_stop ?_)
  exact wpAny_pure (hQ _ _ hk)
end
theorem sepI {N l1 l2 : Addr} (h1 : l1 < N) (h2 : l2 < N) : ZipSep2 (N + 4) (N + 2) (N + 3) N (N + 1) [N, l1] [N + 1, l2] :=
  zip_sep2 (fp1 := [l1]) (fp2 := [l2]) (fun b hb => by rw [List.mem_singleton.mp hb]; exact h1) (fun b hb => by rw [List.mem_singleton.mp hb]; exact h2)
section
variable {prog : Program} {w : World} {A : Around} {E : Value → Shared → Prop} {s : Shared}
theorem call_zipI {b1 b2 : Bool} {l1 l2 : Addr} {xs ys : Array Value} {Q : Value → Shared → Prop} (hl1 : SqI b1 s.heap l1 xs) (hl2 : SqI b2 s.heap l2 ys)
    (h : ∀ h', IsZip h' (s.heap.objs.size + 4) (s.heap.objs.size + 2) (s.heap.objs.size + 3) .none → IsTupOf2 h' (s.heap.objs.size + 2) (.ref s.heap.objs.size) (.ref (s.heap.objs.size + 1)) →
      IsTupOf2 h' (s.heap.objs.size + 3) .none .none → StI b1 s.heap.objs.size l1 xs 0 h' → StI b2 (s.heap.objs.size + 1) l2 ys 0 h' → h'.objs.size = s.heap.objs.size + 5 →
      (∀ c o, s.heap.get? c = some o → h'.get? c = some o) → Q (.ref (s.heap.objs.size + 4)) { s with heap := h' }) :
    wpAny (model prog w) A (call (.type "zip") [.ref l1, .ref l2]) Q E s :=
  zip_begins2 (beginsI b1 l1 xs) (beginsI b2 l2 ys) hl1 hl2 fun h' hz hTI hTO h1 h2 hsz hk =>
    h h' hz hTI hTO ⟨itO_at h1, hl1.at fun o e => hk _ o e⟩ ⟨itO_at h2, hl2.at fun o e => hk _ o e⟩ hsz hk
end
end U
namespace U
open PySem L2 PySem.Spec PyProof.Rows
section
variable {prog : Program} {w : World}
def ZGt (b1 b2 : Bool) (z TI TO i1 i2 l1 l2 d : Addr) (xs ys : Array Value) (i : Nat) (h : Heap) : Prop :=
  IsTupOf2 h TI (.ref i1) (.ref i2) ∧ StI b1 i1 l1 xs i h ∧ StI b2 i2 l2 ys i h ∧
    ((IsZip h z TI TO .none ∧ ∃ a b, IsTupOf2 h TO a b) ∨ ∃ T f oT, IsZipHeld h z TI TO T f ∧ h.get? T = some oT ∧ T ≠ z ∧ T ≠ i1 ∧ T ≠ i2 ∧ T ≠ d)
theorem ZGt.keep {b1 b2 : Bool} {z TI TO i1 i2 l1 l2 d : Addr} {xs ys : Array Value} {i : Nat} {h h' : Heap} (x : ZGt b1 b2 z TI TO i1 i2 l1 l2 d xs ys i h) (hd : d ≠ z ∧ d ≠ TI ∧ d ≠ TO ∧ d ≠ i1 ∧ d ≠ i2 ∧ d ≠ l1 ∧ d ≠ l2)
    (hk : ∀ b o, b ≠ d → h.get? b = some o → h'.get? b = some o) : ZGt b1 b2 z TI TO i1 i2 l1 l2 d xs ys i h' := by
  obtain ⟨s1, s2, s3, s4, s5, s6, s7⟩ := hd
  obtain ⟨hTI, h1, h2, hz⟩ := x
  refine ⟨hk _ _ (Ne.symm s2) hTI, ⟨h1.1.at fun o e => hk _ o (Ne.symm s4) e, h1.2.at fun o e => hk _ o (Ne.symm s6) e⟩, ⟨h2.1.at fun o e => hk _ o (Ne.symm s5) e, h2.2.at fun o e => hk _ o (Ne.symm s7) e⟩, ?_⟩
  rcases hz with ⟨hz, a, b, hTO⟩ | ⟨T, f, oT, hz, hT, r1, r2, r3, r4⟩
  · exact .inl ⟨hk _ _ (Ne.symm s1) hz, a, b, hk _ _ (Ne.symm s3) hTO⟩
  · exact .inr ⟨T, f, oT, hk _ _ (Ne.symm s1) hz, hk _ _ r4 hT, r1, r2, r3, r4⟩
theorem zg_item {A : Around} {E : Value → Shared → Prop} {s : Shared} {b1 b2 : Bool} {z TI TO i1 i2 l1 l2 d : Addr} {xs ys : Array Value} {i : Nat} {x y : Value} {Q : Option Value → Shared → Prop} (hh : A.handled = none) (S : ZipSep2 z TI TO i1 i2 [i1, l1] [i2, l2]) (n1 : l1 ≠ i1) (n2 : l2 ≠ i2)
    (hst : ZGt b1 b2 z TI TO i1 i2 l1 l2 d xs ys i s.heap) (hd : d < s.heap.objs.size) (ex : xs[i]? = some x) (ey : ys[i]? = some y)
    (hQ : ∀ h' tk, ZGt b1 b2 z TI TO i1 i2 l1 l2 d xs ys (i + 1) h' → h'.get? s.heap.objs.size = some { cls := .type "tuple", data := .seq #[x, y] } → h'.objs.size = s.heap.objs.size + 1 →
      (∀ b o, b ≠ z → b ≠ TO → b ≠ i1 → b ≠ i2 → s.heap.get? b = some o → h'.get? b = some o) → Q (some (.ref s.heap.objs.size)) { s with heap := h', toks := tk }) :
    wpAny (model prog w) A (pyNext (.ref z)) Q E s := by
  have D1 : Draws prog w A.in1 i1 [i1, l1] xs.size (fun i v => xs[i]? = some v) (StI b1 i1 l1 xs) := drawsI b1 (A := A.in1) hh i1 l1 n1 xs
  have D2 : Draws prog w A.in1 i2 [i2, l2] ys.size (fun i v => ys[i]? = some v) (StI b2 i2 l2 ys) := drawsI b2 (A := A.in1) hh i2 l2 n2 ys
  have hx := (Array.getElem?_eq_some_iff.mp ex).1
  have hy := (Array.getElem?_eq_some_iff.mp ey).1
  obtain ⟨hTI, h1, h2, hz⟩ := hst
  have lt : ∀ {c o}, s.heap.get? c = some o → s.heap.objs.size ≠ c := fun e => Nat.ne_of_gt (Heap.lt_size e)
  obtain ⟨o1, e1, _⟩ := h1.1.obj
  obtain ⟨o2, e2, _⟩ := h2.1.obj
  rcases hz with ⟨hz, a, b, hTO⟩ | ⟨T, f, oT, hz, hT, r1, r2, r3, r4⟩
  · refine wpAny_pyNext_zipD2_item S D1 D2 hz hTI hTO h1 h2 hx hy fun x1 x2 h' tk p1 p2 a1 a2 a3 a4 a5 a6 hk => ?_
    rw [ex] at p1; cases p1
    rw [ey] at p2; cases p2
    exact hQ h' tk ⟨hk _ _ S.TIz S.TITO S.TIi1 S.TIi2 hTI, a3, a4, .inr ⟨s.heap.objs.size, false, _, a1, a5, lt hz, lt e1, lt e2, Nat.ne_of_gt hd⟩⟩ a5 a6 hk
  · refine pyNext_zipG_item_held S D1 D2 hz hT hTI h1 h2 hx hy fun x1 x2 h' tk p1 p2 a1 a3 a4 a5 a6 hk => ?_
    rw [ex] at p1; cases p1
    rw [ey] at p2; cases p2
    exact hQ h' tk ⟨hk _ _ S.TIz S.TIi1 S.TIi2 hTI, a3, a4, .inr ⟨T, true, oT, a1, hk _ _ r1 r2 r3 hT, r1, r2, r3, r4⟩⟩ a5 a6 fun b o c1 _ c3 c4 e => hk b o c1 c3 c4 e
theorem zg_done {A : Around} {E : Value → Shared → Prop} {s : Shared} {b1 b2 : Bool} {z TI TO i1 i2 l1 l2 d : Addr} {xs ys : Array Value} {i : Nat} {Q : Option Value → Shared → Prop} (hh : A.handled = none) (S : ZipSep2 z TI TO i1 i2 [i1, l1] [i2, l2]) (n1 : l1 ≠ i1) (n2 : l2 ≠ i2)
    (hst : ZGt b1 b2 z TI TO i1 i2 l1 l2 d xs ys i s.heap) (hi : i = min xs.size ys.size)
    (hQ : ∀ h' tk, (∀ b o, b ≠ z → b ≠ TO → b ≠ i1 → b ≠ i2 → s.heap.get? b = some o → h'.get? b = some o) → Q none { s with heap := h', toks := tk }) :
    wpAny (model prog w) A (pyNext (.ref z)) Q E s := by
  have D1 : Draws prog w A.in1 i1 [i1, l1] xs.size (fun i v => xs[i]? = some v) (StI b1 i1 l1 xs) := drawsI b1 (A := A.in1) hh i1 l1 n1 xs
  have D2 : Draws prog w A.in1 i2 [i2, l2] ys.size (fun i v => ys[i]? = some v) (StI b2 i2 l2 ys) := drawsI b2 (A := A.in1) hh i2 l2 n2 ys
  obtain ⟨hTI, h1, h2, hz⟩ := hst
  rcases hz with ⟨hz, a, b, hTO⟩ | ⟨T, f, oT, hz, hT, r1, r2, r3, r4⟩
  · exact wpAny_pyNext_zipD2_end S D1 D2 hz hTI hTO h1 h2 (by omega) (by omega) (by omega) fun h' tk hk => hQ h' tk hk
  · exact pyNext_zipG_end_held S D1 D2 hz hT hTI h1 h2 (by omega) (by omega) (by omega) fun h' tk hk => hQ h' tk fun b o c1 _ c3 c4 e => hk b o c1 c3 c4 e
theorem pairZipI (b1 b2 : Bool) (z TI TO i1 i2 l1 l2 : Addr) (S : ZipSep2 z TI TO i1 i2 [i1, l1] [i2, l2]) (n1 : l1 ≠ i1) (n2 : l2 ≠ i2) (xs ys : Array Value) :
    PairArg prog w "zip" z [z, TI, TO, i1, i2, l1, l2] [z, TO, i1, i2] (min xs.size ys.size) (fun i k v => xs[i]? = some k ∧ ys[i]? = some v)
      (fun h => IsZip h z TI TO .none ∧ IsTupOf2 h TI (.ref i1) (.ref i2) ∧ (∃ a b, IsTupOf2 h TO a b) ∧ StI b1 i1 l1 xs 0 h ∧ StI b2 i2 l2 ys 0 h) where
  type := fun s ok => ⟨_, ok.1, rfl⟩
  notDict := by decide
  keep := fun h h' ok hk => by
    obtain ⟨hz, hTI, ⟨a, b, hTO⟩, h1, h2⟩ := ok
    exact ⟨hk _ _ hz, hk _ _ hTI, ⟨a, b, hk _ _ hTO⟩, ⟨h1.1.at fun o e => hk _ o e, h1.2.at fun o e => hk _ o e⟩, ⟨h2.1.at fun o e => hk _ o e, h2.2.at fun o e => hk _ o e⟩⟩
  there := fun h ok b hb => by
    obtain ⟨hz, hTI, ⟨a, c, hTO⟩, h1, h2⟩ := ok
    obtain ⟨o1, e1, _⟩ := h1.1.obj
    obtain ⟨o2, e2, _⟩ := h2.1.obj
    have f1 : ∃ o, h.get? l1 = some o := by cases b1 <;> (obtain ⟨o, e, _⟩ := h1.2; exact ⟨o, e⟩)
    have f2 : ∃ o, h.get? l2 = some o := by cases b2 <;> (obtain ⟨o, e, _⟩ := h2.2; exact ⟨o, e⟩)
    simp only [List.mem_cons, List.not_mem_nil, or_false] at hb
    rcases hb with rfl | rfl | rfl | rfl | rfl | rfl | rfl
    all_goals first | exact ⟨_, hz⟩ | exact ⟨_, hTI⟩ | exact ⟨_, hTO⟩ | exact ⟨_, e1⟩ | exact ⟨_, e2⟩ | exact f1 | exact f2
  sub := fun b hb => by simp at hb ⊢; rcases hb with rfl | rfl | rfl | rfl <;> simp
  noKeys := fun A s Q E hA ok h => getAttrOr_miss_zip ok.1 rfl rfl rfl zip_no_keys (by decide +kernel) hA h
  iter := fun A s d Q E hA ok hd hdf h => by
    obtain ⟨hz, hTI, ⟨a, b, hTO⟩, h1, h2⟩ := ok
    simp only [List.mem_cons, List.not_mem_nil, or_false, not_or] at hdf
    obtain ⟨dz, dTI, dTO, di1, di2, dl1, dl2⟩ := hdf
    refine wpAny_pyIter_zip hz (h z [z, TO, i1, i2] (ZGt b1 b2 z TI TO i1 i2 l1 l2 d xs ys) s.heap s.toks ?_ ⟨hTI, h1, h2, .inl ⟨hz, a, b, hTO⟩⟩ (fun _ _ e => e) fun b hb => .inl hb)
    exact {
      off := fun hm => by
        simp only [List.mem_cons, List.not_mem_nil, or_false] at hm
        rcases hm with e | e | e | e
        · exact dz e
        · exact dTO e
        · exact di1 e
        · exact di2 e
      frame := fun i h₁ h₂ st hk => st.keep ⟨dz, dTI, dTO, di1, di2, dl1, dl2⟩ hk
      item := fun i s₁ Q₁ E₁ hi st hds hQ => by
        have hix : i < xs.size := Nat.lt_of_lt_of_le hi (Nat.min_le_left ..)
        have hiy : i < ys.size := Nat.lt_of_lt_of_le hi (Nat.min_le_right ..)
        have ex := Array.getElem?_eq_getElem hix
        have ey := Array.getElem?_eq_getElem hiy
        refine zg_item hA S n1 n2 st hds ex ey fun h' tk st' ht hz hk => ?_
        exact hQ s₁.heap.objs.size _ _ h' tk ⟨ex, ey⟩ (.inl ⟨_, ht, rfl, _, rfl⟩) st'
          fun c o hc e => hk c o (fun x => hc (by simp [x])) (fun x => hc (by simp [x])) (fun x => hc (by simp [x])) (fun x => hc (by simp [x])) e
      done := fun s₁ Q₁ E₁ st hQ => zg_done hA S n1 n2 st rfl fun h' tk hk => hQ h' tk fun c o hc e => hk c o (fun x => hc (by simp [x])) (fun x => hc (by simp [x])) (fun x => hc (by simp [x])) (fun x => hc (by simp [x])) e }
end
section
variable {X : Cx} {W : WX}
def SqA (K : PySem.W.Frag) (H : Hp) (a : Addr) (xs : List V) : Prop := SqL K H a xs ∨ SqT K H a xs
theorem sqA_at {pins : List (Addr × Obj)} {σ : L2.St} {H : Hp} {s : Shared} {a : Addr} {xs : List V} (I : Inv X pins σ H s) (h : SqA X.K H a xs) : ∃ (b : Bool) (its : List Value), Vals xs its ∧ SqI b s.heap a its.toArray ∧ xs.length ≤ sizeLine := by
  rcases h with h | h
  · obtain ⟨its, rv, pl, hz⟩ := I.list h
    exact ⟨true, its, rv, pl.isList, hz⟩
  · obtain ⟨its, rv, pl, hz⟩ := I.tuple h
    exact ⟨false, its, rv, pl, hz⟩
def rDictZip (K : PySem.W.Frag) : List V → Hp → VK → Prop := fun vs H Q => ∃ (a b : Addr) (xs ys : List V) (kws : List (Key × V)), vs = [.ref a, .ref b] ∧ SqA K H a xs ∧ SqA K H b ys ∧ xs.zip ys = kws.map (fun kv => (kV kv.1, kv.2)) ∧
  ∀ p, H p = none → Q (.ref p) (upd H p (.dK (mergeK [] kws)))
def tDictZip (K : PySem.W.Frag) (ta : TA) : TE := fun σ H Q => ta σ H fun vs H1 => rDictZip K vs H1 Q
theorem kv_prs (P : Program) (w : World) : ∀ (kws : List (Key × V)) (xs ys : List V) (its its2 : List Value), Vals xs its → Vals ys its2 → xs.zip ys = kws.map (fun kv => (kV kv.1, kv.2)) →
    ∃ prs : List (Key × Value), KV kws prs ∧ prs.length = min its.length its2.length ∧ ∀ (i : Nat) (key v : Value), its[i]? = some key → its2[i]? = some v → ∃ k, prs[i]? = some (k, v) ∧ keyIs k key = true
  | kws, [], ys, _, its2, .nil, r2, e => by
    cases kws with
    | nil => exact ⟨[], .nil, by simp, fun i key v h _ => by simp at h⟩
    | cons _ _ => simp at e
  | kws, x :: xs, [], its, _, r1, .nil, e => by
    cases kws with
    | nil => exact ⟨[], .nil, by simp, fun i key v _ h => by simp at h⟩
    | cons _ _ => simp at e
  | kws, x :: xs, y :: ys, _, _, .cons a1 r1, .cons a2 r2, e => by
    cases kws with
    | nil => simp at e
    | cons kv kws =>
      rw [List.zip_cons_cons, List.map_cons] at e
      injection e with e1 e2
      have ex : x = kV kv.1 := congrArg Prod.fst e1
      have ey : y = kv.2 := congrArg Prod.snd e1
      subst ex
      subst ey
      obtain ⟨prs, p1, p2, p3⟩ := kv_prs P w kws xs ys _ _ r1 r2 e2
      refine ⟨(kv.1, _) :: prs, .cons ⟨rfl, a2⟩ p1, by simp [p2], fun i key v h1 h2 => ?_⟩
      cases i with
      | zero =>
        have e3 := Option.some.inj h1
        have e4 := Option.some.inj h2
        subst e3
        subst e4
        exact ⟨kv.1, rfl, kV_is (P := P) (w := w) a1⟩
      | succ i =>
        obtain ⟨k, q1, q2⟩ := p3 i key v (by simpa using h1) (by simpa using h2)
        exact ⟨k, by simpa using q1, q2⟩
theorem pe_dictZip {e e2 : Expr} {ta : TA} {p p2 q pos : Pos} (hc : X.calm = true) (hg : Gl X "dict") (hm : X.mg "dict" = none) (hv : bootBuiltins "dict" = some (.type "dict")) (hg2 : Gl X "zip") (hm2 : X.mg "zip" = none) (ha : PA X [e, e2] ta)
    (hs : starEach [e, e2] X.env = (false, eval e X.env) :: starEach [e2] X.env := by rfl) (hpl : (backTo q (starEach [e2] X.env)).any (·.1) = false := by rfl)
    (hs1 : starEach [.Call (.Name "zip" p2) [e, e2] [] q] X.env = (false, eval (.Call (.Name "zip" p2) [e, e2] [] q) X.env) :: starEach [] X.env := by rfl) :
    PE X (.Call (.Name "dict" p) [.Call (.Name "zip" p2) [e, e2] [] q] [] pos) (tDictZip X.K ta) := by
  refine ⟨fun pins s σ H Q I h => ?_⟩
  refine wpAny_Call_Name_kw (ld_blt I hg hm hv ?_)
  refine PyProof.Rows.callWith_type1 ?_ hs1 rfl
  rw [hs1]
  show wpAny _ _ (spliced ((false, eval (.Call (.Name "zip" p2) [e, e2] [] q) X.env) :: backTo pos (starEach [] X.env))) _ _ s
  refine Calls.spliced_cons ?_
  refine Call_ (ld_blt I hg2 hm2 PyProof.Rows.boot_zip (PyProof.Rows.callWith_type1 (thn (ha.run q pins s σ H _ I h) fun us s1 ⟨vs, H1, I1, r1, q1⟩ => ?_) hs hpl))
  obtain ⟨a, b, xs, ys, kws, ex, hqx, hqy, hkz, q1⟩ := q1
  subst ex
  cases r1 with
  | cons r rr =>
    cases rr with
    | cons r' rr =>
      cases rr
      cases r
      cases r'
      obtain ⟨b1, its, rv, pl1, hz1⟩ := sqA_at I1 hqx
      obtain ⟨b2, its2, rv2, pl2, hz2⟩ := sqA_at I1 hqy
      have la : a < s1.heap.objs.size := pl1.lt
      have lb : b < s1.heap.objs.size := pl2.lt
      refine call_zipI pl1 pl2 fun h' hz hTI hTO h1 h2 hsz hk => Calls.spliced_nil ?_
      have l1 := rv.length
      have l2 := rv2.length
      have hN : s1.heap.objs.size < h'.objs.size := by rw [hsz]; exact Nat.lt_add_of_pos_right (by decide)
      obtain ⟨prs, p1, p2, p3⟩ := kv_prs X.prog X.w kws xs ys its its2 rv rv2 hkz
      have S := sepI la lb
      have I2 : Inv X pins σ H1 { s1 with heap := h' } := I1.kept (t' := s1.toks) hk
      refine PySem.call_dict_pairs (s := { s1 with heap := h' }) (knd := mixKind X.prog X.w) (kvs := prs) (pairZipI b1 b2 _ _ _ _ _ _ _ S (Nat.ne_of_lt la) (Nat.ne_of_lt (Nat.lt_succ_of_lt lb)) its.toArray its2.toArray) (I1.ok.hd hc) ⟨hz, hTI, ⟨_, _, hTO⟩, h1, h2⟩ ⟨by rw [p2, List.size_toArray, List.size_toArray], fun i key v ⟨r1, r2⟩ => ?_⟩ ?_ fun h'' tk hd' hk2 => ?_
      · exact p3 i key v (by simpa using r1) (by simpa using r2)
      · rw [List.size_toArray, List.size_toArray]
        exact Nat.le_trans (Nat.min_le_left _ _) (by rw [← l1]; exact hz1)
      · have hk3 : ∀ b o, s1.heap.get? b = some o → h''.get? b = some o := fun b o e => by
          have hb := Heap.lt_size e
          have ne : ∀ k, b ≠ s1.heap.objs.size + k := fun k z => Nat.lt_irrefl _ (Nat.lt_of_lt_of_le hb (by rw [z]; exact Nat.le_add_right _ _))
          refine hk2 b o (fun hm => ?_) (hk b o e)
          simp only [List.mem_cons, List.not_mem_nil, or_false] at hm
          rcases hm with z | z | z | z
          · exact ne 4 z
          · exact ne 3 z
          · exact ne 0 z
          · exact ne 1 z
        have hm : (h'.objs.size == sysModules) = false := beq_eq_false_iff_ne.mpr (Nat.ne_of_gt (Nat.lt_trans I1.big hN))
        have hlen : (mergeK [] kws).length ≤ sizeLine := by
          refine Nat.le_trans (length_mergeK kws []) ?_
          rw [List.length_nil, Nat.zero_add, p1.length, p2]
          exact Nat.le_trans (Nat.min_le_left _ _) (by rw [← l1]; exact hz1)
        exact ⟨.ref h'.objs.size, upd H1 h'.objs.size (.dK (mergeK [] kws)), I1.laid (t' := tk) hk3 (Nat.le_of_lt hN) (show ObjOk X.prog X.w _ _ _ (.dK (mergeK [] kws)) from ⟨hlen, hm, merged [] prs, KV.merge p1 .nil, hd'⟩), rfl, q1 _ (I1.hok.fresh (Nat.le_of_lt hN))⟩
def seqV : Val → Hh → Option (List Val)
  | .tup vs, _ => some vs
  | .ref n, h => (match h[n]? with | some (.lst vs) => some vs | _ => none)
  | _, _ => none
theorem seqV_ok {μ : List Addr} {h : Hh} {H : Hp} {x : Val} {y : V} {vs : List Val} (r : HR (gm X) μ h H) (rx : RV (gm X) μ H x y) (e : seqV x h = some vs) : ∃ a ws, y = .ref a ∧ SqA X.K H a ws ∧ RVs (gm X) μ H vs ws := by
  cases rx with
  | @tup us ws a t1 rs =>
    simp only [seqV, Option.some.injEq] at e
    subst e
    exact ⟨a, ws, rfl, .inr t1.sq, rs⟩
  | @ref n a qa =>
    obtain ⟨o, ho, ro⟩ := r.obj qa
    simp only [seqV, ho] at e
    cases o with
    | lst us =>
      simp only [Option.some.injEq] at e
      subst e
      obtain ⟨ws, g1, g2⟩ := ro
      exact ⟨a, ws, rfl, .inl (.inl (.inl g1)), g2⟩
    | _ => cases e
  | _ => cases e
def zipKV : List Val → List Val → Option (List (Val × Val))
  | x :: xs, y :: ys => if (keyOf x).isSome = true then (zipKV xs ys).map ((x, y) :: ·) else none
  | _, _ => some []
theorem zipKV_ok {G : Gm} {μ : List Addr} {H : Hp} : ∀ {xs ys : List Val} {us vs : List V} {ps : List (Val × Val)}, RVs G μ H xs us → RVs G μ H ys vs → zipKV xs ys = some ps → ∃ kws : List (Key × V), RKs G μ H ps kws ∧ us.zip vs = kws.map (fun kv => (kV kv.1, kv.2))
  | _, _, _, _, ps, .nil, _, e => by
    simp only [zipKV, Option.some.injEq] at e
    subst e
    exact ⟨[], .nil, by simp⟩
  | _, _, _, _, ps, .cons _ _, .nil, e => by
    simp only [zipKV, Option.some.injEq] at e
    subst e
    exact ⟨[], .nil, by simp⟩
  | _, _, _, _, ps, .cons (v := x) (vs := xs) r1 t1, .cons (v := y) (vs := ys) r2 t2, e => by
    simp only [zipKV] at e
    split at e
    · rename_i hk
      cases q : zipKV xs ys with
      | none => rw [q] at e; cases e
      | some pr =>
        rw [q] at e
        simp only [Option.map_some, Option.some.injEq] at e
        subst e
        obtain ⟨kws, a1, a2⟩ := zipKV_ok t1 t2 q
        cases qk : keyOf x with
        | none => rw [qk] at hk; cases hk
        | some kk =>
          refine ⟨(kk, _) :: kws, .cons qk r2 a1, ?_⟩
          rw [List.zip_cons_cons, a2, List.map_cons]
          congr 1
          cases r1 with
          | int i => simp only [keyOf, Option.some.injEq] at qk; subst qk; rfl
          | str i => simp only [keyOf, Option.some.injEq] at qk; subst qk; rfl
          | _ => cases qk
    · cases e
def vDictZ : Fn := fun vs h => match vs with
  | [x, y] => (match seqV x h, seqV y h with
    | some xs, some ys => (match zipKV xs ys with | some ps => .ok (.ref h.length) (h ++ [.dct (dMerge [] ps)]) | none => .no)
    | _, _ => .no)
  | _ => .no
theorem s_dictZip {e e2 : Expr} {ma : MA} {p p2 q pos : Pos} (hc : X.calm = true) (hm : X.mg "dict" = none) (hm2 : X.mg "zip" = none) (ha : CA X W [e, e2] ma) (hg : Gl X "dict" := by rfl) (hv : bootBuiltins "dict" = some (.type "dict") := by rfl) (hg2 : Gl X "zip" := by rfl)
    (hs : starEach [e, e2] X.env = (false, eval e X.env) :: starEach [e2] X.env := by rfl) (hpl : (backTo q (starEach [e2] X.env)).any (·.1) = false := by rfl)
    (hs1 : starEach [.Call (.Name "zip" p2) [e, e2] [] q] X.env = (false, eval (.Call (.Name "zip" p2) [e, e2] [] q) X.env) :: starEach [] X.env := by rfl) :
    CE X W (.Call (.Name "dict" p) [.Call (.Name "zip" p2) [e, e2] [] q] [] pos) (mApp vDictZ ma) := by
  refine peI (pe_dictZip hc hg hm hv hg2 hm2 ha hs hpl hs1) fun τ H Q ⟨μ, σ, hh, l, r, pp⟩ => ⟨μ, σ, hh, l, r, ?_⟩
  refine (Ps.bind pp).imp fun vs μ1 h1 H1 p1 e1 r1 q1 ws rws => ?_
  unfold vDictZ at q1
  split at q1
  · rename_i x y
    cases rws with
    | cons ra rt =>
      cases rt with
      | cons rb rn =>
        cases rn
        split at q1
        · rename_i xs ys ex ey
          split at q1
          · rename_i ps eps
            obtain ⟨a, us, rfl, g1, g2⟩ := seqV_ok r1 ra ex
            obtain ⟨b, vs, rfl, g3, g4⟩ := seqV_ok r1 rb ey
            obtain ⟨kws, k1, k2⟩ := zipKV_ok g2 g4 eps
            exact ⟨a, b, us, vs, kws, rfl, g1, g3, k2, lay_dct r1 (dMerge_ok k1 .nil) q1⟩
          · exact q1.elim
        · exact q1.elim
  · exact q1.elim
end
end U
namespace U
open PySem L2 PySem.Spec PyProof.Rows
section
variable {prog : Program} {w : World} {A : Around} {E : Value → Shared → Prop} {s : Shared}
theorem SqI.but {b : Bool} {h h' : Heap} {l x : Addr} {xs : Array Value} (q : SqI b h l xs) (hs : Heap.SameBut x h h') (hne : l ≠ x) : SqI b h' l xs := q.at fun o e => hs.extBut _ _ hne e
theorem ItI.but {b : Bool} {h h' : Heap} {it l x : Addr} {i : Nat} (q : ItI b h it l i) (hs : Heap.SameBut x h h') (hne : it ≠ x) : ItI b h' it l i := q.at fun o e => hs.extBut _ _ hne e
end
section
variable {X : Cx} {W : WX} {k : Nat} {e e2 : Expr} {m : MA} {p pos tpos : Pos} {elts : List Expr} {kk : Nat}
end
end U
namespace U
open PySem L2 PySem.Spec PyProof.Rows
section
variable {P : Program} {w : World} {A : Around} {E : Value → Shared → Prop} {s : Shared}
theorem sorted_tupTx {a : Addr} {vs : List Value} {xs : List Str} {Q : Value → Shared → Prop} (ht : s.heap.IsTuple a vs.toArray) (hI : StrsAre vs xs) (h64 : vs.length < 64)
    (hQ : ∀ (h1 h' : Heap) (p : Addr) (out : Array Value) (c : Nat) (ys : List Str), (∀ b o, s.heap.get? b = some o → h1.get? b = some o) → (∀ b o, h1.get? b = some o → h'.get? b = some o) → h1.objs.size ≤ p →
      h'.get? p = some (seqObj "list" out c) → StrsAre out.toList ys → sortedS ys = true → ys.Perm xs → Q (.ref p) { s with heap := h' }) :
    wpAny (model P w) A (call (.builtin "sorted") [.ref a]) Q E s := by
  obtain ⟨o, ho, hc, n, hd⟩ := id ht
  refine Calls.call_function_entry kind_sorted plain_sorted entry_sorted (args_sorted1 _) ?_
  unfold Builtin.«sorted»
  refine wpAny_bind (m := checkCount "sorted" 1 1 _) (wpAny_pure ?_)
  refine wpAny_bind (wpAny_collect_seq (A := A.in1) a (.inr rfl) ho hc hd (fun h1 k1 => ?_) (by rw [List.size_toArray, sizeLine_eq]; omega))
  refine wpAny_bind (wpAny_newList ?_ (by show vs.length ≤ _; rw [sizeLine_eq]; omega))
  have hoL : (h1.push (seqObj "list" vs.toArray 0)).get? h1.objs.size = some (seqObj "list" vs.toArray 0) := Heap.get?_push_size _ rfl
  refine wpAny_bind (wpAny_holding (wpAny_call_entry slot_list_sort ⟨_, hoL, rfl⟩ entry_list_sort
    (list_sort_treeK strKind_oneLt hoL hI.keysOf (fun v₁ v₂ rest e => keyKind_strs (by rw [← e]; exact hI)) h64 fun st' hp hs => ⟨_, rfl, ?_⟩) (args_list_sort _)))
  obtain ⟨ys, a1, a2, a3⟩ := sorted_out_str hI hp hs
  obtain ⟨c, hc⟩ := sortedHeap_at (vs := vs) (out := (arrOf st').map (·.2)) hoL
  refine wpAny_pure ⟨_, rfl, hQ h1 _ h1.objs.size ((arrOf st').map (·.2)) c ys k1 (fun b u e => ?_) (Nat.le_refl _) hc a1 a3 a2⟩
  have hlt := Heap.lt_size e
  rw [sortedHeap_old (Nat.ne_of_lt hlt) (by rw [size_push']; exact Nat.lt_succ_of_lt hlt)]
  exact Heap.get?_push_of_some _ e
end
section
variable {X : Cx} {W : WX}
def vSortX : Fn := fun vs h => match vs with
  | [.tup ws] => (match strsOf' ws with | some xs => if xs.length < 64 then .ok (.ref h.length) (h ++ [.lst ((sSort xs).map Val.str)]) else .no | none => .no)
  | _ => vSortS vs h
theorem nr_sortX : ∀ vs h z k, vSortX vs h ≠ .rs z k := fun x h z k => by
  unfold vSortX
  split
  · (repeat' split) <;> simp
  · exact nr_sortS _ _ _ _
theorem c_sortX (hc : X.calm = true) : CallR X (.builtin "sorted") (rMs (gm X) W0 vSortX) := fun pins s τ H xs us Q I r p => by
  obtain ⟨μ, hh, vs, rr, ra, p⟩ := p
  by_cases ht : ∃ ws, vs = [.tup ws]
  · obtain ⟨ws, rfl⟩ := ht
    simp only [vSortX] at p
    cases ra with
    | cons rx rn =>
      cases rn
      cases rx with
      | @tup _ zs a t1 rs =>
        cases q : strsOf' ws with
        | none => rw [q] at p; exact p.elim
        | some xs =>
          rw [q] at p
          dsimp only at p
          split at p
          · rename_i hz
            rw [strsOf'_ok q] at rs
            obtain ⟨u, rfl, ru⟩ := vals1 r
            cases ru
            obtain ⟨its, rv, pl, hsz⟩ := I.tuple t1.sq
            have hS : StrsAre its xs := by
              have := rs.strs
              rw [this] at rv
              exact rv.strs
            have hl : its.length < 64 := by
              have := hS.length
              omega
            refine sorted_tupTx (show s.heap.IsTuple a its.toArray from pl) hS hl fun h1 h' pp out c ys k1 k2 hp hg hi hs hm => ?_
            have I1 : Inv X pins τ H { s with heap := h1 } := I.kept (t' := s.toks) k1
            have hlen : (ys.map V.str).length ≤ sizeLine := by rw [List.length_map, hm.length_eq, sizeLine_eq]; omega
            refine ⟨.ref pp, upd H pp (.lst (ys.map V.str)), I1.laid (t' := s.toks) k2 hp ⟨hlen, out.toList, c, vals_of_strs hi, by rw [Array.toArray_toList]; exact hg⟩, rfl, ?_⟩
            rw [sSort_eq hm hs]
            exact lay_lst rr (.ofStrs _) p pp (I1.hok.fresh hp)
          · exact p.elim
  · have e : vSortX vs hh = vSortS vs hh := by
      unfold vSortX
      split
      · exact absurd ⟨_, rfl⟩ ht
      · rfl
    rw [e] at p
    exact c_sortS hc pins s τ H xs us Q I r ⟨μ, hh, vs, rr, ra, p⟩
end
end U
namespace U
open PySem L2 PySem.Spec PyProof.Rows
section
variable {X : Cx} {W : WX} {o e f : Expr} {apos cpos : Pos} {td ty tx : TE} {ma mb mc : ME} {k : Nat}
def isDcn (v : Val) (h : Hh) : Bool := match v with
  | .ref n => (match h[n]? with
    | some (.dcn _) => true
    | some (.fdn _) => true
    | some (.dct []) => true
    | _ => false)
  | _ => false
def vGetN (x y z : Val) (h : Hh) : Res Val := match x with
  | .ref n => (match h[n]? with
    | some (.dcn kvs) => (match tkey y with
      | some k => .ok ((nGet kvs k).getD z) h
      | none => .no)
    | some (.fdn kvs) => (match tkey y with
      | some k => .ok ((nGet kvs k).getD z) h
      | none => .no)
    | some (.dct []) => (match tkey y with
      | some _ => .ok z h
      | none => .no)
    | _ => .no)
  | _ => .no
def mGetN (a b c : ME) : ME := fun σ h => (a σ h).bind fun x h1 => if isDcn x h1 = true then (b σ h1).bind fun y h2 => (c σ h2).bind fun z h3 => vGetN x y z h3 else .no
end
end U
namespace U
open PySem L2
section
variable {X : Cx} {W : WX} {j k n : Nat}
end
end U
namespace U
open PySem L2 PySem.Spec PyProof.Rows
section
variable {prog : Program} {w : World} {d : Addr} {es : Array DictEntry} {ep : Nat}
theorem kdl_raw (lo : (d == sysModules) = false) : PySem.W.KdlSrc prog w "dict" d d es.size (fun i v => ∃ hi : i < es.size, v = es[i].key) (fun h => h.DictRaw d es ep) where
  type := fun _ hm => hm.typeIs
  there := fun _ hm => by
    obtain ⟨o, ho, _⟩ := hm
    exact ⟨Heap.lt_size ho, Heap.lt_size ho⟩
  keep := fun _ _ hm hk => hm.at fun o e => hk d (.inl rfl) o e
  notList := by decide
  notTuple := by decide
  hint := fun _ _ _ _ hm hq => PySem.W.kdl_hint_dict hm.typeIs hq
  iter := fun _ _ hh hm => by
    obtain ⟨o, ho, hr⟩ := id hm
    exact ⟨_, _, (fun _ _ hq => wpAny_pyIter_dict_raw lo hm hq), Walks.rawKeys hh _ d (Nat.ne_of_lt (Heap.lt_size ho)) es ep, ⟨⟨_, Heap.get?_push_size _ rfl, rfl, rfl⟩, hm.at fun o e => Heap.get?_push_of_some _ e⟩⟩
end
section
variable {X : Cx} {W : WX}
theorem keys_row {xs : List (NestedKey × Addr × Value)} {es : Array DictEntry} {acc : Array Value} (he : es.toList = xs.map (ndF X.w)) (ha : ItemsOf (fun i v => ∃ hi : i < es.size, v = es[i].key) acc es.size) : acc.toList = xs.map fun x => Value.ref x.2.1 := by
  refine List.ext_getElem? fun i => ?_
  have hl : es.size = xs.length := by rw [← Array.length_toList, he, List.length_map]
  by_cases hi : i < es.size
  · have h1 : i < acc.size := by rw [ha.1]; exact hi
    have e1 : acc.toList[i]? = some acc[i] := by rw [Array.getElem?_toList]; exact Array.getElem?_eq_getElem h1
    obtain ⟨_, hk⟩ := ha.2 i acc[i] (Array.getElem?_eq_getElem h1)
    rw [e1, hk]
    have e2 : es.toList[i]? = some es[i] := by rw [Array.getElem?_toList]; exact Array.getElem?_eq_getElem hi
    rw [he, List.getElem?_map] at e2
    rw [List.getElem?_map]
    cases q : xs[i]? with
    | none => rw [q] at e2; cases e2
    | some x =>
      rw [q] at e2
      simp only [Option.map_some, Option.some.injEq] at e2 ⊢
      rw [← e2]; rfl
  · rw [List.getElem?_eq_none (by rw [Array.length_toList, ha.1]; omega), List.getElem?_eq_none (by rw [List.length_map]; omega)]
end
end U
namespace U
open PySem L2 PySem.Spec PyProof.Rows
section
def sortV (vs : List Val) (ds : List PyData) : List Val := ((vs.zip ds).mergeSort (PySem.W.dataLe false (·.2))).map (·.1)
def alikeB (ds : List PyData) : Bool := ds.all fun d => ds.all fun e => PySem.W.alike d e
def tupB : PyData → Bool
  | .tuple (_ :: _) => true
  | _ => false
def notTupB : PyData → Bool
  | .none => false
  | .tuple _ => false
  | _ => true
def oneB : List PyData → Bool
  | [.tuple []] => true
  | _ => false
def okSort (ds : List PyData) : Bool := alikeB ds && (ds.all tupB || ds.all notTupB || oneB ds) && ds.all (fun d => decide (d.depth ≤ 8)) && decide (ds.length ≤ 4096)
theorem okSort_alike {ds : List PyData} (h : okSort ds = true) : PySem.W.AllAlike ds := fun d hd d' hd' => by
  simp only [okSort, Bool.and_eq_true, alikeB, List.all_eq_true] at h
  exact h.1.1.1 d hd d' hd'
theorem okSort_able {ds : List PyData} (h : okSort ds = true) : PySem.W.Sortable ds ∨ ds = [.tuple []] := by
  simp only [okSort, Bool.and_eq_true, Bool.or_eq_true, List.all_eq_true] at h
  rcases h.1.1.2 with (h | h) | h
  · refine .inl (.inl fun d hd => ?_)
    have := h d hd
    unfold tupB at this
    split at this
    · exact ⟨_, _, rfl⟩
    · cases this
  · refine .inl (.inr fun d hd => ?_)
    have := h d hd
    unfold notTupB at this
    split at this
    · cases this
    · cases this
    · rename_i h1 h2; exact ⟨h1, h2⟩
  · refine .inr ?_
    unfold oneB at h
    split at h
    · rfl
    · cases h
theorem okSort_depth {ds : List PyData} (h : okSort ds = true) : ∀ d, d ∈ ds → d.depth ≤ 8 := fun d hd => by
  simp only [okSort, Bool.and_eq_true, List.all_eq_true, decide_eq_true_eq] at h
  exact h.1.2 d hd
theorem okSort_len {ds : List PyData} (h : okSort ds = true) : ds.length ≤ 4096 := by
  simp only [okSort, Bool.and_eq_true, decide_eq_true_eq] at h
  exact h.2
theorem toDs_len : ∀ (n : Nat) (h : Hh) (vs : List Val) (ds : List PyData), toDs n h vs = some ds → ds.length = vs.length
  | n, h, [], ds, e => by simp only [toDs, Option.some.injEq] at e; subst e; rfl
  | n, h, v :: vs, ds, e => by
    simp only [toDs] at e
    cases q1 : toD n h v with
    | none => rw [q1] at e; cases e
    | some d1 =>
      cases q2 : toDs n h vs with
      | none => rw [q1, q2] at e; cases e
      | some d2 =>
        rw [q1, q2] at e; cases e
        simp [toDs_len n h vs d2 q2]
def trip : List Val → List V → List PyData → List (Val × V × PyData)
  | v :: vs, w :: ws, d :: ds => (v, w, d) :: trip vs ws ds
  | _, _, _ => []
theorem trip_vd {G : Gm} {μ : List Addr} {H : Hp} : ∀ {vs : List Val} {ws : List V} {ds : List PyData}, RVs G μ H vs ws → ds.length = vs.length → (trip vs ws ds).map (fun t => (t.1, t.2.2)) = vs.zip ds
  | _, _, [], .nil, _ => rfl
  | _, _, d :: ds, .cons r rs, e => by
    simp only [trip, List.map_cons, List.zip_cons_cons]
    rw [trip_vd rs (by simpa using e)]
theorem trip_d {G : Gm} {μ : List Addr} {H : Hp} : ∀ {vs : List Val} {ws : List V} {ds : List PyData}, RVs G μ H vs ws → ds.length = vs.length → (trip vs ws ds).map (fun t => t.2.2) = ds
  | _, _, [], .nil, _ => rfl
  | _, _, d :: ds, .cons r rs, e => by
    simp only [trip, List.map_cons]
    rw [trip_d rs (by simpa using e)]
theorem trip_len {G : Gm} {μ : List Addr} {H : Hp} {vs : List Val} {ws : List V} {ds : List PyData} (r : RVs G μ H vs ws) (e : ds.length = vs.length) : (trip vs ws ds).length = ds.length := by
  have := congrArg List.length (trip_d r e)
  simpa using this
theorem trip_rv {G : Gm} {μ : List Addr} {H : Hp} : ∀ {vs : List Val} {ws : List V} {ds : List PyData}, RVs G μ H vs ws → ∀ t ∈ trip vs ws ds, RV G μ H t.1 t.2.1
  | _, _, ds, .nil, t, ht => by simp [trip] at ht
  | _, _, [], .cons r rs, t, ht => by simp [trip] at ht
  | _, _, d :: ds, .cons r rs, t, ht => by
    simp only [trip, List.mem_cons] at ht
    rcases ht with rfl | ht
    · exact r
    · exact trip_rv rs t ht
theorem rvs_map {G : Gm} {μ : List Addr} {H : Hp} : ∀ {ts : List (Val × V × PyData)}, (∀ t ∈ ts, RV G μ H t.1 t.2.1) → RVs G μ H (ts.map (·.1)) (ts.map (·.2.1))
  | [], _ => .nil
  | t :: ts, h => .cons (h t (List.mem_cons_self ..)) (rvs_map fun u hu => h u (List.mem_cons_of_mem _ hu))
theorem each_trip {G : Gm} {μ : List Addr} {H : Hp} : ∀ {vs : List Val} {ws : List V} {ds : List PyData} {us : List Value}, RVs G μ H vs ws → ds.length = vs.length → Vals ws us → PySem.W.EachIs (fun u (t : Val × V × PyData) => RelV t.2.1 u) us (trip vs ws ds)
  | _, _, [], _, .nil, _, .nil => .nil
  | _, _, d :: ds, _, .cons r rs, e, .cons ru rus => .cons ru (each_trip rs (by simpa using e) rus)
theorem each_read {G : Gm} {μ : List Addr} {H : Hp} {h : Heap} : ∀ {vs : List Val} {ws : List V} {ds : List PyData} {us : List Value} {as : List Addr}, RVs G μ H vs ws → ds.length = vs.length → ReadsAll h us ds as → PySem.W.EachIs (fun u (t : Val × V × PyData) => ∃ as, Reads h u t.2.2 as) us (trip vs ws ds)
  | _, _, [], _, _, .nil, _, .nil => .nil
  | _, _, d :: ds, _, _, .cons r rs, e, .cons ra rb => .cons ⟨_, ra⟩ (each_read rs (by simpa using e) rb)
theorem vals_each : ∀ {us : List Value} {ts : List (Val × V × PyData)}, PySem.W.EachIs (fun u (t : Val × V × PyData) => RelV t.2.1 u) us ts → Vals (ts.map (·.2.1)) us
  | _, _, .nil => .nil
  | _, _, .cons r rs => .cons r (vals_each rs)
theorem sortV_eq {G : Gm} {μ : List Addr} {H : Hp} {vs : List Val} {ws : List V} {ds : List PyData} (r : RVs G μ H vs ws) (e : ds.length = vs.length) : sortV vs ds = ((trip vs ws ds).mergeSort (PySem.W.dataLe false (·.2.2))).map (·.1) := by
  unfold sortV
  rw [← trip_vd r e, ← List.map_mergeSort (r := PySem.W.dataLe false (·.2.2)) (f := fun t : Val × V × PyData => (t.1, t.2.2)) (fun _ _ _ _ => rfl), List.map_map]
  rfl
end
end U
namespace U
open PySem L2 PySem.Spec PyProof.Rows
section
variable {prog : Program} {w : World} {A : Around} {E : Value → Shared → Prop} {s : Shared}
theorem sorts_ok {vs : List Value} {ds : List PyData} (e : PySem.W.EachIs (fun v d => ∃ as, Reads s.heap v d as) vs ds) (ok : okSort ds = true) (hu : A.units + 8 < cLine) : PySem.W.SortsAt prog w A s (PySem.W.dataKind s.heap ds) vs := by
  have hd8 : ∀ d, d ∈ ds → A.units + d.depth < cLine := fun d hd => by
    have := okSort_depth ok d hd
    omega
  rcases okSort_able ok with hk | rfl
  · exact .data e (okSort_alike ok) hk hd8
  · refine ⟨fun v hv => ?_, general', fun E x y a b Q ha hb hq => ?_, fun h2 => ?_⟩
    · obtain ⟨d, hd, as, r⟩ := e.left v hv
      exact ⟨_, PySem.W.dataKind_some (okSort_alike ok) hd r⟩
    · obtain ⟨d, as, hd, ra, rfl⟩ := PySem.W.dataKind_inv ha
      obtain ⟨d', as', hd', rb, rfl⟩ := PySem.W.dataKind_inv hb
      show wpAny (model prog w) A (oneLt' false x y) Q E s
      refine PySem.W.oneLt_alike (fun z => nomatch z) ra rb (okSort_alike ok d hd d' hd') (fun z => ?_) (Nat.lt_of_le_of_lt (Nat.add_le_add_left (Nat.min_le_left _ _) _) (hd8 d hd)) hq
      rw [List.mem_singleton] at hd
      rw [hd] at z; cases z
    · have := e.length
      simp only [List.length_singleton] at this
      omega
theorem sorted_ok {l : Addr} {vs : List Value} {β : Type} {bs : List β} {enc : β → PyData} {R : Value → β → Prop} {Q : Value → Shared → Prop} (hl : s.heap.IsList l vs.toArray) (e : PySem.W.EachIs R vs bs) (er : PySem.W.EachIs (fun v b => ∃ as, Reads s.heap v (enc b) as) vs bs) (ok : okSort (bs.map enc) = true)
    (hu : A.units + 2 + 8 < cLine) (h : ∀ out, out.length = bs.length → PySem.W.EachIs R out (bs.mergeSort (PySem.W.dataLe false enc)) → Q (.ref (s.heap.objs.size + 1)) { s with heap := sortedAll s.heap vs (List.toArray out) }) :
    wpAny (model prog w) A (call (.builtin "sorted") [.ref l]) Q E s := by
  have hL : bs.length ≤ sizeLine := by
    have := okSort_len ok
    rw [List.length_map] at this
    rw [sizeLine_eq]; omega
  have er' : PySem.W.EachIs (fun v b => ∃ as, Reads (PySem.W.sortingHeap (PySem.W.copyHeap s.heap vs) (s.heap.objs.size + 1) vs) v (enc b) as) vs bs := er.mono fun _ _ ⟨as, r⟩ => ⟨as, PyProof.Rows.Reads.keeps (fun _ _ => PySem.W.sorting_copy_old) r⟩
  exact PySem.W.sorted_vals hl (sorts_ok (s := { s with heap := PySem.W.sortingHeap (PySem.W.copyHeap s.heap vs) (s.heap.objs.size + 1) vs }) (PySem.W.each_map (R := fun v d => ∃ as, Reads (PySem.W.sortingHeap (PySem.W.copyHeap s.heap vs) (s.heap.objs.size + 1) vs) v d as) enc er') ok hu) (by rw [e.length]; exact hL)
    (h _ (by rw [PySem.W.sortVals_length false rfl]; exact e.length) (PySem.W.sortVals_data false e er' (okSort_alike ok)))
end
end U
namespace U
open PySem L2 PySem.Spec PyProof.Rows
section
variable {X : Cx} {W : WX} {k : Nat}
theorem rns_keys {G : Gm} {μ : List Addr} {H : Hp} : ∀ {kvs : List (Val × Val)} {xs : List (NestedKey × Addr × Value)}, RNs G μ H kvs xs → RVs G μ H (kvs.map (·.1)) (xs.map fun x => V.ref x.2.1)
  | _, _, .nil => .nil
  | _, _, .cons _ r _ _ t => .cons r (rns_keys t)
theorem vals_refs : ∀ xs : List (NestedKey × Addr × Value), Vals (xs.map fun x => V.ref x.2.1) (xs.map fun x => Value.ref x.2.1)
  | [] => .nil
  | _ :: xs => .cons rfl (vals_refs xs)
def sortSrc : List Val → Hh → Option (List Val)
  | [.ref n], h => (match h[n]? with
    | some (.lst ws) => (match strsOf' ws with | some _ => none | none => some ws)
    | some (.dcn kvs) => some (kvs.map (·.1))
    | some (.fdn kvs) => some (kvs.map (·.1))
    | _ => none)
  | _, _ => none
def vSortD : Fn := fun vs h => match sortSrc vs h with
  | some ws => (match toDs 8 h ws with
    | some ds => if okSort ds = true then .ok (.ref h.length) (h ++ [.lst (sortV ws ds)]) else .no
    | none => .no)
  | none => vSortX vs h
theorem nr_sortD : ∀ vs h z k, vSortD vs h ≠ .rs z k := fun x h z k => by
  unfold vSortD
  split
  · (repeat' split) <;> simp
  · exact nr_sortX _ _ _ _
theorem sort_lay {μ : List Addr} {h : Hh} {H : Hp} {vs : List Val} {ws : List V} {ds : List PyData} {Q : VK} (rv : RVs (gm X) μ H vs ws) (e : ds.length = vs.length) (r : HR (gm X) μ h H)
    (p : Ps (gm X) W0 μ H (.ok (.ref h.length) (h ++ [.lst (sortV vs ds)])) (qV (gm X) Q)) : ∀ a, H a = none → Q (.ref a) (upd H a (.lst (((trip vs ws ds).mergeSort (PySem.W.dataLe false (·.2.2))).map (·.2.1)))) := by
  rw [sortV_eq rv e] at p
  exact lay_lst r (rvs_map fun t ht => trip_rv (ds := ds) rv t ((List.mem_mergeSort).mp ht)) p
theorem c_sortD (hc : X.calm = true) (hS : SysAt X.base) (c : Cok X W k) : CallR X (.builtin "sorted") (rMs (gm X) W0 vSortD) := fun pins s τ H xs us Q I rx p => by
  obtain ⟨μ, hh, vs, r, ra, p⟩ := p
  have hu := c.u64
  cases hsrc : sortSrc vs hh with
  | none =>
    have e : vSortD vs hh = vSortX vs hh := by unfold vSortD; rw [hsrc]
    rw [e] at p
    exact c_sortX hc pins s τ H xs us Q I rx ⟨μ, hh, vs, r, ra, p⟩
  | some ws =>
    have e : vSortD vs hh = (match toDs 8 hh ws with
      | some ds => if okSort ds = true then .ok (.ref hh.length) (hh ++ [.lst (sortV ws ds)]) else .no
      | none => .no) := by unfold vSortD; rw [hsrc]
    rw [e] at p
    cases qd : toDs 8 hh ws with
    | none => rw [qd] at p; exact p.elim
    | some ds =>
      rw [qd] at p
      dsimp only at p
      split at p
      · rename_i ok
        have hl := toDs_len 8 hh ws ds qd
        have hlen := okSort_len ok
        unfold sortSrc at hsrc
        split at hsrc
        · rename_i n hh'
          cases ra with
          | cons rv rn =>
            cases rn
            cases rv with
            | @ref _ a q1 =>
              obtain ⟨u, rfl, ru⟩ := vals1 rx
              cases ru
              obtain ⟨o, ho, ro⟩ := r.obj q1
              rw [ho] at hsrc
              have dic : ∀ {kvs : List (Val × Val)} {zs : List (NestedKey × Addr × Value)}, ws = kvs.map (·.1) → RNs (gm X) μ H kvs zs → L2.Rd H a (NDo X.w a zs) →
                  wpAny (model X.prog X.w) X.A (call (.builtin "sorted") [.ref a]) (EP X pins τ Q) X.xe s := fun {kvs zs} ew rn rd => by
                subst ew
                obtain ⟨⟨h1, h2, o, es, ep, w1, w2, w3, w4, w5⟩, _, _⟩ := rd.ok I.hok
                have lo : (a == sysModules) = false := h1
                have hraw : s.heap.DictRaw a es ep := ⟨o, w1, w2, w3⟩
                have hzl : zs.length ≤ 4096 := by rw [← rn.length, ← List.length_map (f := (·.1)), ← hl]; exact hlen
                have hes : es.size = zs.length := by rw [← Array.length_toList, w4, List.length_map]
                refine Calls.call_function_entry kind_sorted plain_sorted entry_sorted (args_sorted1 _) ?_
                unfold Builtin.«sorted»
                refine wpAny_bind (m := checkCount "sorted" 1 1 _) (wpAny_pure ?_)
                refine wpAny_bind (PySem.W.kdu_collect (A := X.A.in1) (kdl_raw lo) (I.ok.hd hc) hraw (by rw [hes, sizeLine_eq]; omega) fun h' tk acc hk hacc => ?_)
                have hrow := keys_row (X := X) w4 hacc
                have I1 : Inv X pins τ H { s with heap := h', toks := tk } := I.kept hk
                have rv : Vals (zs.map fun x => V.ref x.2.1) acc.toList := by rw [hrow]; exact vals_refs zs
                have g2 := rns_keys rn
                have hal : acc.toList.length = zs.length := by rw [hrow, List.length_map]
                refine wpAny_bind (wpAny_newList ?_ (by rw [hal, sizeLine_eq]; omega))
                have hoL : (h'.push (seqObj "list" acc.toList.toArray 0)).get? h'.objs.size = some (seqObj "list" acc.toList.toArray 0) := Heap.get?_push_size _ rfl
                show wpAny _ _ _ _ _ { s with heap := h'.push (seqObj "list" acc.toList.toArray 0), toks := tk }
                have old : ∀ b u, h'.get? b = some u → (PySem.W.sortingHeap (h'.push (seqObj "list" acc.toList.toArray 0)) h'.objs.size acc.toList).get? b = some u := fun b u e =>
                  PySem.W.sortingHeap_old (Nat.ne_of_lt (Heap.lt_size e)) (Heap.get?_push_of_some _ e)
                obtain ⟨as, rd, _⟩ := toDs_rd hS I1 r 8 g2 rv qd
                have er := (each_read g2 hl rd).mono fun v (b : Val × V × PyData) (q : ∃ as, Reads h' v b.2.2 as) => (⟨q.choose, PyProof.Rows.Reads.keeps old q.choose_spec⟩ : ∃ as, Reads (PySem.W.sortingHeap (h'.push (seqObj "list" acc.toList.toArray 0)) h'.objs.size acc.toList) v b.2.2 as)
                have hdd : okSort ((trip (kvs.map (·.1)) (zs.map fun x => V.ref x.2.1) ds).map (·.2.2)) = true := by rw [trip_d g2 hl]; exact ok
                have hS' := sorts_ok (prog := X.prog) (w := X.w) (A := X.A.in1.in1) (s := { s with heap := PySem.W.sortingHeap (h'.push (seqObj "list" acc.toList.toArray 0)) h'.objs.size acc.toList, toks := tk })
                  (PySem.W.each_map (R := fun v d => ∃ as, Reads (PySem.W.sortingHeap (h'.push (seqObj "list" acc.toList.toArray 0)) h'.objs.size acc.toList) v d as) (fun b : Val × V × PyData => b.2.2) er) hdd (by show X.A.units + 2 + 8 < cLine; omega)
                refine wpAny_bind (wpAny_holding (wpAny_call_entry slot_list_sort ⟨_, hoL, rfl⟩ entry_list_sort
                  (PySem.W.list_sort_vals (s := { s with heap := h'.push (seqObj "list" acc.toList.toArray 0), toks := tk }) hoL hS' (by rw [hal, sizeLine_eq]; omega) ⟨_, rfl, ?_⟩) (args_list_sort _)))
                have h2 := PySem.W.sortVals_data false (each_trip g2 hl rv) er (okSort_alike hdd)
                obtain ⟨e', he'⟩ := PyProof.Rows.sortedHeap_at (vs := acc.toList) (out := (PySem.W.sortVals (PySem.W.dataKind (PySem.W.sortingHeap (h'.push (seqObj "list" acc.toList.toArray 0)) h'.objs.size acc.toList) ((trip (kvs.map (·.1)) (zs.map fun x => V.ref x.2.1) ds).map (·.2.2))) false acc.toList acc.toList).toArray) hoL
                refine wpAny_pure ⟨_, rfl, .ref h'.objs.size, upd H h'.objs.size (.lst _), I1.laid (t' := tk) (fun b u e => ?_) (Nat.le_refl _) ⟨?_, _, e', vals_each h2, he'⟩, rfl, sort_lay g2 hl r p _ (I1.hok.fresh (Nat.le_refl _))⟩
                · have hb : b < h'.objs.size := Heap.lt_size e
                  rw [PyProof.Rows.sortedHeap_old (Nat.ne_of_lt hb) (by rw [size_push']; exact Nat.lt_succ_of_lt hb)]
                  exact Heap.get?_push_of_some _ e
                · rw [List.length_map, List.length_mergeSort, trip_len g2 hl, sizeLine_eq]; omega
              cases o with
              | lst vs =>
                obtain ⟨zs, g1, g2⟩ := ro
                dsimp only at hsrc
                split at hsrc
                · cases hsrc
                · cases hsrc
                  obtain ⟨its, rv, pl, _⟩ := I.list (.inl (.inl g1))
                  obtain ⟨as, rd, _⟩ := toDs_rd hS I r 8 g2 rv qd
                  refine sorted_ok (bs := trip _ zs ds) (enc := (·.2.2)) pl.isList (each_trip g2 hl rv) (each_read g2 hl rd) (by rw [trip_d g2 hl]; exact ok) (by omega) fun out h1 h2 => ?_
                  obtain ⟨ep, he'⟩ := PyProof.Rows.sortedAll_at s.heap its out.toArray
                  have hv := vals_each h2
                  refine ⟨.ref _, upd H (s.heap.objs.size + 1) (.lst _), I.laid (t' := s.toks) (fun _ _ => PyProof.Rows.sortedAll_old) (Nat.le_succ _) ⟨?_, out, ep, hv, he'⟩, rfl, sort_lay g2 hl r p _ (I.hok.fresh (Nat.le_succ _))⟩
                  rw [List.length_map, List.length_mergeSort, trip_len g2 hl, sizeLine_eq]; omega
              | dcn kvs => cases hsrc; obtain ⟨zs, g1, g2⟩ := ro; exact dic rfl g2 (.inl g1)
              | fdn kvs => cases hsrc; obtain ⟨od, zs, g1, g2⟩ := ro; exact dic rfl g2 (.inr ⟨od, g1⟩)
              | _ => cases hsrc
        · cases hsrc
      · exact p.elim
end
end U
namespace U
open PySem L2
section
variable {X : Cx} {A : Around} {E : Value → Shared → Prop} {pins : List (Addr × Obj)} {τ : L2.St} {H : Hp} {s : Shared} {μ : List Addr} {a b : Addr} {xs : List (NestedKey × Addr × Value)} {kvs : List (Val × Val)} {y : Val} {k : NestedKey}
end
section
variable {X : Cx} {E : Value → Shared → Prop} {pins : List (Addr × Obj)} {τ : L2.St} {H : Hp} {s : Shared} {D : Addr}
end
end U
namespace U
open PySem L2 PySem.Spec
section
variable {X : Cx}
end
end U
namespace U
open PySem L2
open Classical
section
variable {X : Cx} {W : WX} {k : Nat} {kx vx tg iter : Expr} {ifs : List Expr} {scope : Scope} {own : List (Str × Nat)} {pos : Pos} {mi : MI} {t : Tg} {c : MT} {ek ev : ME}
end
end U
namespace U
open PySem L2
section
variable {X : Cx} {pins : List (Addr × Obj)} {τ : L2.St} {H : Hp} {s : Shared} {μ : List Addr}
end
end U
namespace U
open PySem L2
section
variable {X : Cx} {W : WX} {k : Nat}
end
end U
namespace U
open PySem L2
end U
namespace U
open PySem L2
section
variable {X : Cx} {W : WX} {tg e : Expr} {m : ME} {apos cpos : Pos}
end
end U
namespace U
open PySem L2 PySem.Spec PyProof.Rows
section
variable {X : Cx} {W : WX} {o e f : Expr} {apos cpos : Pos} {td : TE} {ma : ME} {k : Nat} {pins : List (Addr × Obj)} {τ : L2.St} {H : Hp} {s : Shared} {a : Addr}
end
end U
namespace U
open PySem L2 PySem.Spec PyProof.Rows
section
variable {prog : Program} {w : World} {A : Around} {E : Value → Shared → Prop} {s : Shared} {r d : Addr} {n : Nat} {P : Nat → Value → Prop} {OK : Heap → Prop}
end
section
variable {X : Cx} {W : WX} {k : Nat}
end
end U
namespace U
open PySem L2 PySem.Spec PyProof.Rows PySem.W
def supBody (m sf f x : Str) (j : Nat) (p0 p1 p2 p3 p4 p5 p6 p7 p8 p9 : Pos) : List Stmt :=
  [.Expr (.Call (.Attribute (.Call (.Name "super" p0) [] [] p1) "__init__" p2) [.Constant (.str m) j p3] [] p4) p5, .Assign [.Attribute (.Name sf p6) f p7] (.Name x p8) p9]
structure SupC (P : Program) (K : PySem.W.Frag) (mg : Str → Option Value) (f : Str) (C fI : Addr) (fd : FuncData) (sf x : Str) : Prop where
  oex : OexC K C
  iC : PySem.W.findIn K (.ref C) "__init__" = some (some (.ref fI))
  tI : PySem.W.typeIn K (.ref fI) = some (.type "function")
  lk : ∃ oc od osl, K.lookup fI = some ⟨oc, od, .func fd, osl⟩
  glob : fd.globals = mainGlobals
  blt : fd.builtins = builtinsNs
  clo : ∃ cc cl cld csl, fd.closure = [(("__class__" : Str), cc)] ∧ K.lookup cc = some ⟨cl, cld, .cell (some (.ref C)), csl⟩
  code : ∃ cda ccl cdd vs ccs file tf, fd.code = .ref cda ∧ K.lookup cda = some ⟨ccl, cdd, .fields vs, ccs⟩ ∧ vs[2]? = some (.str file tf) ∧ ((P.main.file : Str) == file) = true
  cin : PySem.W.codeIn K fd.code fd.qualname = true
  body : ∃ m j p0 p1 p2 p3 p4 p5 p6 p7 p8 p9, fd.body = .stmts (supBody m sf f x j p0 p1 p2 p3 p4 p5 p6 p7 p8 p9) ∧ (p2.endLine == p4.line) = true
  bind : ∀ (s : Shared) (u v : Value), BindsTo s fd ⟨[u, v], []⟩ [(sf, u), (x, v)]
  bindK : ∀ (s : Shared) (u v : Value), BindsTo s fd ⟨[u], [(x, v)]⟩ [(sf, u), (x, v)]
  head : ∃ ar, (fd.params.posonlyargs ++ fd.params.args).head? = some ar ∧ ar.arg = sf
  kind : fd.scope.kind = .function
  co : fd.scope.isCoroutine = false
  gen : fd.scope.isGenerator = false
  noc : ∀ y ∈ fd.scope.names, y.2 ≠ .cell
  ls : fd.scope.names.lookup sf = some .local
  lx : fd.scope.names.lookup x = some .local
  lsu : fd.scope.names.lookup ("super" : Str) = some .globalImplicit
  lcl : fd.scope.names.lookup ("__class__" : Str) = some .free
  ne : sf ≠ x
  dbs : (sf == ("__debug__" : Str)) = false
  dbx : (x == ("__debug__" : Str)) = false
  msup : mg "super" = none
  top : (P.main.scope.names.lookup ("super" : Str)).isSome = false
  third : PySem.W.nsIn K cStatics "thirdparty.any" = some none
  sup : PySem.W.ks_superIn K C C "__init__" = some (some (.builtin "ValueError.__init__"))
  subV : PySem.W.subIn K (.ref C) (.type "ValueError") = some true
  selfC : PySem.W.mroIn K C (.ref C) = some true
  noat : PySem.W.findIn K (.ref C) f = some none
section
variable {P : Program} {w : World} {A : Around} {E : Value → Shared → Prop} {K : PySem.W.Frag} {mg mb : Str → Option Value} {f sf x : Str} {C fI : Addr} {fd : FuncData}
end
end U
namespace U
open PySem L2 PySem.Spec PyProof.Rows
section
variable {X : Cx} {W : WX} {k : Nat}
structure Exc0 (K : PySem.W.Frag) (C : Addr) : Prop where
  ex : ∃ bmB newId initId, ExcBaseFacts "ValueError" newId initId bmB ∧ PySem.W.excIn K C bmB newId = true
  kC : PySem.W.keepIn K (.ref C) = true
  bs : PySem.W.subIn K (.ref C) (.type "BaseException") = some true
  ty : PySem.W.typeIn K (.ref C) = some (.type "type")
end
end U
namespace U
open PySem L2 PySem.Spec PyProof.Rows
section
variable {X : Cx} {pins : List (Addr × Obj)} {σ : L2.St} {H : Hp} {s : Shared}
end
section
variable {X : Cx} {x n m : Str} {c : Value} {i j : Nat} {body : List Stmt} {np pos pos' p1 p2 p3 : Pos} {tb : WX → TS}
end
end U
namespace U
open PySem L2 PySem.Spec PyProof.Rows
open LamX (CodeO TabS Tabs ExtN TabB LamS lamEnv lamCx lam_make2 lam_start2)
theorem ExtN.ex {H H1 : Hp} (e : ExtN H H1) : Ex H H1 := ⟨fun a ws z => e a _ z (fun ps y => by cases y), fun a o u z => e a _ z (fun ps y => by cases y)⟩
def TTR (G : Gm) (R : Res Val → Res Val) (tl : XK → Hp → VK → Prop) (H : Hp) (Q : VK) (E : XK) : Prop :=
  ∃ μ h r, HR G μ h H ∧ (∀ (E' : XK) (Q' : VK) (H' : Hp), Ex H H' → HR G μ h H' → Ps G E' μ H' r (qV G Q') → tl E' H' Q') ∧ Ps G E μ H (R r) (qV G Q)
structure LamD (P : Program) (w : World) (K : PySem.W.Frag) (mg : Str → Option Value) (base : Heap) (x : Str) (k : Nat) (R : Res Val → Res Val) : Prop where
  ex : ∃ (g : Addr) (fd : FuncData) (a : Str) (N : List Str) (st : Stmt) (oc : Value) (od : Option Addr) (dV kV doc pm : Value) (an : Option Addr) (cdv ct : Value) (osl : Array (Option Value)),
    fd = PySem.W.fnOf x x (defArgs st) (defBody st) (defScope st) dV kV doc pm an cdv ct ∧ K.lookup g = some ⟨oc, od, .func fd, osl⟩ ∧ PySem.W.codeIn K cdv x = true ∧ mg x = some (.ref g) ∧ PySem.W.keepIn K (.ref g) = true ∧ Binds K fd [a] [] ∧
    FnScope N [a] (defScope st) ∧ N[0]? = some a ∧ Vis (defScope st) a ∧ (a == ("__debug__" : Str)) = false ∧ (a == ("__classdict__" : Str)) = false ∧
    ∀ (A : Around) (outer : List Env) (s : Shared) (H : Hp) (E : XK) (f c' : Addr) (q : Str) (Q : VK) (tl : XK → Hp → VK → Prop), Room k (A.deeper (envOfC x (defScope st) s.heap.objs.size g cdv)) → A.guards = some [] →
      (∀ (W : WX) (pn : List (Addr × Obj)) (xe : Value → Shared → Prop) (p1 p2 : Pos), Takes ((bx P w K mg base N x st g cdv A outer s H E).tr pn xe) W →
        PE ((bx P w K mg base N x st g cdv A outer s H E).tr pn xe) (.Call (.Name a p1) [] [] p2) (fun σZ HZ Q => σZ[0]? = some (some (.ref f)) ∧ HZ c' = some (CodeO c' q) ∧ tl (WE W σZ) HZ Q)) →
      H c' = some (CodeO c' q) → TTR ⟨K, mg, w⟩ R tl H Q E → ∃ t, PSs (bx P w K mg base N x st g cdv A outer s H E) (defBody st) t ∧ t { nx := fun _ H' => Q .non H', rt := Q } (L2.start N [.ref f]) H
section
variable {X : Cx} {pins : List (Addr × Obj)} {σ : L2.St} {H HZ : Hp} {s s1 : Shared}
end
section
variable {X : Cx} {W : WX} {k kT : Nat}
end
end U
namespace U
open PySem L2 PySem.Spec PyProof.Rows
open LamX (CodeO)
section
variable {P : Program} {w : World} {K : PySem.W.Frag} {mg : Str → Option Value} {base : Heap} {x : Str} {st : Stmt} {g : Addr} {fd : FuncData} {N : List Str} {a m n e : Str} {i j jj kk : Nat} {rest : List Stmt} {mrest : MS} {L : List Str} {q1 q2 q3 q4 q5 q6 q7 q8 q9 q10 q11 q12 q13 q14 : Pos} {k : Nat}
end
end U
namespace PySem.W
open PySem PySem.Spec PySem.Calls PyProof.Rows
section
variable {prog : Program} {w : World} {A : Around} {E : Value → Shared → Prop} {s : Shared} {K : Frag} {x D : Addr} {ox : Obj} {od : Option Obj}
end
end PySem.W
namespace U
open PySem L2 PySem.Spec PyProof.Rows
structure XIs (K : PySem.W.Frag) (mg : Str → Option Value) (xs : List Str) (xt : List (Str × Str)) : Prop where
  exc : ∀ C ∈ xs, ∀ Ca, mg C = some (.ref Ca) → ExcC K Ca
  own : ∀ C ∈ xs, ∀ D ∈ xs, ∀ Ca Da, mg C = some (.ref Ca) → mg D = some (.ref Da) → PySem.W.kitOne K (.ref Ca) (.ref Da) = some (decide ((C, D) ∈ xt))
  ve : ∀ C ∈ xs, ∀ Ca, mg C = some (.ref Ca) → PySem.W.kitOne K (.ref Ca) (.type "ValueError") = some true
  blt : ∀ D ∈ xs, ∀ Da, mg D = some (.ref Da) → ∀ T ∈ bTys, PySem.W.kitOne K (.type T) (.ref Da) = some false
section
variable {X : Cx} {W : WX}
end
end U
namespace U
open PySem L2 PySem.Spec PyProof.Rows
structure Exc0At (K : PySem.W.Frag) (mg : Str → Option Value) (x : Str) : Prop where
  ex : ∃ C, mg x = some (.ref C) ∧ Exc0 K C
structure SupAt (P : Program) (K : PySem.W.Frag) (mg : Str → Option Value) (x f : Str) : Prop where
  ex : ∃ C fI fd sf, mg x = some (.ref C) ∧ SupC P K mg f C fI fd sf f
section
variable {X : Cx} {W : WX} {k : Nat}
end
structure LamF (K : PySem.W.Frag) (mg : Str → Option Value) (base : Heap) (x : Str) (c T : Addr) : Prop where
  tb : LamX.TabB base mg c T
  mem : (T, x ++ ".<locals>.<lambda>") ∈ lamT K
  uni : ∀ p ∈ lamT K, p.1 = T → p.2 = x ++ ".<locals>.<lambda>"
section
variable {X : Cx} {W : WX} {k kT : Nat}
end
end U
namespace U
open PySem L2 PySem.Spec PyProof.Rows
structure SupF (P : Program) (K : PySem.W.Frag) (f : Str) (C : Addr) (fd : FuncData) (sf x : Str) : Prop where
  glob : fd.globals = mainGlobals
  blt : fd.builtins = builtinsNs
  clo : ∃ cc cl cld csl, fd.closure = [(("__class__" : Str), cc)] ∧ K.lookup cc = some ⟨cl, cld, .cell (some (.ref C)), csl⟩
  code : ∃ cda ccl cdd vs ccs file tf, fd.code = .ref cda ∧ K.lookup cda = some ⟨ccl, cdd, .fields vs, ccs⟩ ∧ vs[2]? = some (.str file tf) ∧ ((P.main.file : Str) == file) = true
  cin : PySem.W.codeIn K fd.code fd.qualname = true
  body : ∃ m j p0 p1 p2 p3 p4 p5 p6 p7 p8 p9, fd.body = .stmts (supBody m sf f x j p0 p1 p2 p3 p4 p5 p6 p7 p8 p9) ∧ (p2.endLine == p4.line) = true
  bind : ∀ (s : Shared) (u v : Value), BindsTo s fd ⟨[u, v], []⟩ [(sf, u), (x, v)]
  bindK : ∀ (s : Shared) (u v : Value), BindsTo s fd ⟨[u], [(x, v)]⟩ [(sf, u), (x, v)]
  head : ∃ ar, (fd.params.posonlyargs ++ fd.params.args).head? = some ar ∧ ar.arg = sf
  kind : fd.scope.kind = .function
  co : fd.scope.isCoroutine = false
  gen : fd.scope.isGenerator = false
  noc : ∀ y ∈ fd.scope.names, y.2 ≠ .cell
  ls : fd.scope.names.lookup sf = some .local
  lx : fd.scope.names.lookup x = some .local
  lsu : fd.scope.names.lookup ("super" : Str) = some .globalImplicit
  lcl : fd.scope.names.lookup ("__class__" : Str) = some .free
  ne : sf ≠ x
  dbs : (sf == ("__debug__" : Str)) = false
  dbx : (x == ("__debug__" : Str)) = false
  top : (P.main.scope.names.lookup ("super" : Str)).isSome = false
  third : PySem.W.nsIn K cStatics "thirdparty.any" = some none
  sup : PySem.W.ks_superIn K C C "__init__" = some (some (.builtin "ValueError.__init__"))
  subV : PySem.W.subIn K (.ref C) (.type "ValueError") = some true
  selfC : PySem.W.mroIn K C (.ref C) = some true
  noat : PySem.W.findIn K (.ref C) f = some none
end U
namespace PySem.HandSPX
open PySem PySem.W PySem.Calls PyProof.Rows PySem.Builtin
section
variable {M : Model} {A : Around} {E : Value → Shared → Prop} {h : Heap} {g : Array GenState} {d : Drawn} {t : Nat} {os : OsState}
variable {nm q : Str} {C N : Addr} {bs bm bmB : List Value} {hdct : Bool} {sn : List Str} {sub : List Value} {ab : Bool} {col : Option Bool} {dd : Option Addr} {k0 k1 k2 k3 k5 : Option Value} {B newId initId : String}
end
section
variable {prog : Program} {w : World} {A : Around} {E : Value → Shared → Prop} {R : Result → Shared → Prop} {h : Heap} {g : Array GenState} {d : Drawn} {t : Nat} {os : OsState}
variable {nm q : Str} {C N : Addr} {bs bm bmB : List Value} {hdct : Bool} {sn : List Str} {sub : List Value} {ab : Bool} {col : Option Bool} {dd : Option Addr} {k0 k1 k2 k3 k5 : Option Value} {B newId initId : String}
end
end PySem.HandSPX
namespace U
open PySem L2 PySem.Spec PyProof.Rows PySem.W
section
variable {P : Program} {w : World} {A : Around} {E : Value → Shared → Prop} {K : PySem.W.Frag} {mg mb : Str → Option Value} {f sf x : Str} {C fI : Addr} {fd : FuncData}
end
section
variable {X : Cx} {W : WX} {k : Nat}
end
end U
namespace U
open PySem L2 PySem.Spec PyProof.Rows
section
variable {prog : Program} {w : World} {A : Around} {E : Value → Shared → Prop} {s : Shared}
end
def ESt (k : Bool) (e it l S : Addr) (xs : Array Value) (i : Nat) (h : Heap) : Prop :=
  StI k it l xs i h ∧ ((∃ old, IsEnum h e it i old) ∨ ∃ old T f oT, IsEnumHeld h e it i old T f ∧ h.get? T = some oT ∧ T ≠ e ∧ T ≠ it ∧ T ≠ S)
structure EG (xs : Array Value) (lo : Addr) (h : Heap) (as : List Addr) : Prop where
  rise : as.Pairwise (· < ·)
  above : ∀ a ∈ as, lo < a
  pairs : ∀ (j : Nat) (a : Addr), as[j]? = some a → ∃ t x, xs[j]? = some x ∧ h.get? a = some { cls := .type "tuple", data := .seq #[.int (j : Nat) t, x] }
theorem EG.there {xs : Array Value} {lo : Addr} {h : Heap} {as : List Addr} (g : EG xs lo h as) {a : Addr} (ha : a ∈ as) : a < h.objs.size := by
  obtain ⟨j, hj⟩ := List.mem_iff_getElem?.mp ha
  obtain ⟨_, _, _, e⟩ := g.pairs j a hj
  exact Heap.lt_size e
theorem ESt.keep {k : Bool} {e it l S : Addr} {xs : Array Value} {i : Nat} {h h' : Heap} (x : ESt k e it l S xs i h) (hS : S ≠ e ∧ S ≠ it ∧ S ≠ l) (hk : ∀ b o, b ≠ S → h.get? b = some o → h'.get? b = some o) : ESt k e it l S xs i h' := by
  obtain ⟨s1, s2, s3⟩ := hS
  obtain ⟨⟨hit, hl⟩, hz⟩ := x
  refine ⟨⟨hit.at fun o e => hk _ o (Ne.symm s2) e, hl.at fun o e => hk _ o (Ne.symm s3) e⟩, ?_⟩
  rcases hz with ⟨old, hz⟩ | ⟨old, T, f, oT, hz, hT, r1, r2, r4⟩
  · exact .inl ⟨old, hk _ _ (Ne.symm s1) hz⟩
  · exact .inr ⟨old, T, f, oT, hk _ _ (Ne.symm s1) hz, hk _ _ r4 hT, r1, r2, r4⟩
section
variable {prog : Program} {w : World} {A : Around} {E : Value → Shared → Prop} {s : Shared} {k : Bool} {e it l S : Addr} {xs : Array Value} {i : Nat}
end
section
variable {prog : Program} {w : World} {A : Around} {s : Shared} {R : Result → Shared → Prop} {k : Bool} {e it l S : Addr} {xs : Array Value}
end
section
variable {prog : Program} {w : World} {A : Around} {E : Value → Shared → Prop} {s : Shared} {k : Bool} {e it l : Addr} {xs : Array Value}
end
end U
namespace U
open PySem L2 PySem.Spec PyProof.Rows
section
variable {X : Cx} {W : WX}
end
end U
namespace U
open PySem L2 PySem.Spec PyProof.Rows
open LamX (CodeO)
section
variable {P : Program} {w : World} {K : PySem.W.Frag} {mg : Str → Option Value} {base : Heap} {x : Str} {st : Stmt} {g : Addr} {fd : FuncData} {N : List Str} {a m n e : Str} {i j jj kk : Nat} {rest : List Stmt} {mrest : MS} {L : List Str} {q1 q2 q3 q4 q5 q6 q7 q8 q9 q10 q11 q12 q13 q14 : Pos} {k : Nat}
end
end U
namespace U
open PySem L2 PySem.Spec PyProof.Rows
section
variable {X : Cx} {W : WX}
end
end U
namespace U
open PySem L2 PySem.Spec PyProof.Rows
section
variable {X : Cx} {W : WX} {k : Nat} {e : Expr} {m : ME}
end
end U
namespace U
open PySem L2 PySem.Spec PyProof.Rows
section
variable {X : Cx} {W : WX} {k : Nat}
end
end U
namespace U
open PySem L2 PySem.Spec PyProof.Rows
section
variable {X : Cx} {W : WX} {j k n : Nat} {F : Fn} {a b : Expr} {ma mb : ME} {pos : Pos}
end
end U
namespace U
open PySem L2
section
variable {X : Cx} {W : WX} {k : Nat} {ea eb : Expr} {ma mb : ME} {pos : Pos}
end
end U
namespace U
open PySem L2 PySem.Spec PyProof.Rows
section
variable {X : Cx} {W : WX} {k : Nat}
end
end U
namespace U
open PySem L2 PySem.Spec PyProof.Rows
section
variable {prog : Program} {w : World} {A : Around} {E : Value → Shared → Prop} {s : Shared}
end
section
variable {X : Cx} {W : WX}
end
end U
namespace U
open PySem L2 PySem.Spec PyProof.Rows
section
variable {X : Cx} {W : WX} {k : Nat}
end
end U
namespace U
open PySem L2 PySem.Spec PyProof.Rows
end U
namespace U
open PySem L2 PySem.Spec PyProof.Rows
section
variable {X : Cx}
end
end U
namespace U
open PySem L2 PySem.Spec PyProof.Rows
section
variable {X : Cx}
def vEqT0 (neg : Bool) (x y : Val) (h : Hh) : Res Val := match x, y with
  | .tup xs, .tup [] => .ok (.bl (if neg then !xs.isEmpty else xs.isEmpty)) h
  | _, _ => vEqD neg x y h
end
end U
namespace U
open PySem L2
open Classical
noncomputable def lc2I (n : Nat) (vs1 : List Nat) (t1 : Tg) (c1 : MT) (e : ME) (mi1 : MI) (σ2 : Loc) (h : Hh) : Res Unit := (mi1 σ2 h).nr.bind fun it1 h1 => if it1.lk = none then lcV it1.src n (lcB vs1 t1 c1 e σ2) it1.items h1 else .no
noncomputable def lc2B (inner : Loc → Hh → Res Unit) (vs : List Nat) (t : Tg) (c : MT) (σ : Loc) (v : Val) (h : Hh) : Res Unit := match t.bd v (wipeL σ vs) with
  | none => .no
  | some σ2 => (c σ2 h).nr.bind fun b h1 => if b = true then inner σ2 h1 else .ok () h1
noncomputable def lc2V (src : Hh → Prop) (body : Val → Hh → Res Unit) : List Val → Hh → Res Unit
  | [], h => if src h then .ok () h else .no
  | v :: vs, h => if src h then (match body v h with
      | .ok _ h' => lc2V src body vs h'
      | _ => .no) else .no
noncomputable def mLc2 (mi : MI) (vs : List Nat) (t : Tg) (c : MT) (mi1 : MI) (vs1 : List Nat) (t1 : Tg) (c1 : MT) (e : ME) : ME := fun σ h => (mi σ h).bind fun it h1 => (lc2V it.src (lc2B (lc2I h1.length vs1 t1 c1 e mi1) vs t c σ) it.items (h1 ++ [.lst []])).bind fun _ h2 => match unlH it.lk h2 with
  | some h3 => .ok (.ref h1.length) h3
  | none => .no
def tMI0 (G : Gm) (W : WX) (m : MI) : TI := fun τ H R => ∃ μ σ h, LR G μ H σ τ ∧ HR G μ h H ∧ Ps G (WE W τ) μ H (m σ h) (fun it μ' h' H' => ∀ J, ItOk G μ' H' J it → R J H')
theorem lc2V_rs {src : Hh → Prop} {body : Val → Hh → Res Unit} : ∀ (xs : List Val) (h : Hh) (x : Xc) (h' : Hh), lc2V src body xs h ≠ .rs x h'
  | [], h, x, h', z => by unfold lc2V at z; split at z <;> cases z
  | v :: xs, h, x, h', z => by
    unfold lc2V at z
    split at z
    · split at z
      · exact lc2V_rs xs _ _ _ z
      · cases z
    · cases z
theorem lcR2 {H0 : Hp} {G : Gm} {W : WX} {mi mi1 : MI} {vs vs1 : List Nat} {t t1 : Tg} {c c1 : MT} {e : ME} (li : LkIn mi) (hsl : ∀ i ∈ t.slots, i ∈ vs) (hsl1 : ∀ i ∈ t1.slots, i ∈ vs1) {τ : St} {H : Hp} {Q : VK} (hh : tM G W (mLc2 mi vs t c mi1 vs1 t1 c1 e) τ H Q) :
    tLc2 (tMI H0 G W mi) (tgT G.K t) (tMT G WN c) (tMI0 G WN mi1) (tgT G.K t1) (tMT G WN c1) (tM G WN e) vs vs1 τ H (fun v => unl H0 (Q v)) := by
  obtain ⟨μ, σ, h, l, r, p⟩ := hh
  refine ⟨μ, σ, h, l, r, ?_⟩
  have lin := li σ h
  unfold mLc2 at p
  cases em : mi σ h with
  | no => rw [em] at p; exact p
  | rs x h' => rw [em] at p; exact p
  | ok it h1 =>
  rw [em] at p
  simp only [bind_ok] at p
  cases el : lc2V it.src (lc2B (lc2I h1.length vs1 t1 c1 e mi1) vs t c σ) it.items (h1 ++ [.lst []]) with
  | no => rw [el] at p; exact p.elim
  | rs x h' => exact absurd el (lc2V_rs _ _ _ _)
  | ok u h2 =>
  rw [el] at p
  simp only [bind_ok] at p
  intro μ1 H1 p1 e1 r1 J ok lk D hD
  have exD : Ex H1 (upd H1 D (.lst [])) := Ex.new hD
  have rD : HR G (μ1 ++ [D]) (h1 ++ [.lst []]) (upd H1 D (.lst [])) := r1.laid hD ⟨[], upd_same, .nil⟩
  have hDn : (μ1 ++ [D])[h1.length]? = some D := by rw [← r1.len]; simp
  refine ⟨fun i m H' => m + i = it.items.length ∧ ∃ μ' h', (μ1 ++ [D]) <+: μ' ∧ Ex (upd H1 D (.lst [])) H' ∧ HR G μ' h' H' ∧ lc2V it.src (lc2B (lc2I h1.length vs1 t1 c1 e mi1) vs t c σ) (it.items.drop i) h' = .ok u h2,
    ⟨it.items.length, rfl, _, _, List.prefix_refl _, Ex.refl _, rD, el⟩, ?_⟩
  rintro i m H' ⟨hm, μ', h', p2, e2, r2, q2⟩
  have pa : μ1 <+: μ' := (List.prefix_append μ1 [D]).trans p2
  have ea : Ex H1 H' := exD.trans e2
  cases ed : it.items.drop i with
  | nil =>
    rw [ed] at q2
    have hl : it.items.length ≤ i := by
      have := congrArg List.length ed
      rw [List.length_drop] at this
      simpa using Nat.le_of_sub_eq_zero this
    unfold lc2V at q2
    split at q2
    · rename_i hsrc
      cases q2
      refine .inl ⟨(ok μ' h2 H' pa ea r2 hsrc).2 i hl, ?_⟩
      cases ek : it.lk with
      | none =>
        rw [ek] at p
        exact .inl (p μ' H' (p1.trans pa) (e1.trans ea) r2 _ (.ref (pre_get p2 hDn)))
      | some n =>
        rw [ek] at p
        cases eu : unlH (some n) h2 with
        | none => rw [eu] at p; exact p.elim
        | some h3 =>
          rw [eu] at p
          refine unlH_ok r2 (e1.trans ea) eu (fun a ha => ?_) fun H3 e3 t3 r3 => p μ' H3 (p1.trans pa) e3 r3 _ (.ref (pre_get p2 hDn))
          refine lk n a ek ?_
          have hi : n < μ1.length := by rw [r1.len]; exact lin it h1 em n ek
          obtain ⟨t', rfl⟩ := pa
          rw [List.getElem?_append_left hi] at ha; exact ha
    · cases q2
  | cons v rest =>
    rw [ed] at q2
    have hv : it.items[i]? = some v := by
      have : (it.items.drop i)[0]? = some v := by rw [ed]; rfl
      rw [List.getElem?_drop] at this; simpa using this
    have hr : it.items.drop (i + 1) = rest := by
      have := congrArg (List.drop 1) ed
      rw [List.drop_drop] at this
      simpa using this
    have hi' : i < it.items.length := (List.getElem?_eq_some_iff.mp hv).1
    unfold lc2V at q2
    split at q2
    · rename_i hsrc
      obtain ⟨go, yl⟩ := (ok μ' h' H' pa ea r2 hsrc).1 i v hv
      refine .inr ⟨go, fun H3 => ∃ μ3 h3, (μ1 ++ [D]) <+: μ3 ∧ Ex (upd H1 D (.lst [])) H3 ∧ HR G μ3 h3 H3 ∧ lc2V it.src (lc2B (lc2I h1.length vs1 t1 c1 e mi1) vs t c σ) rest h3 = .ok u h2, ?_, fun x H3 y3 => ?_⟩
      · rintro H3 ⟨μ3, h3, q⟩
        refine ⟨m - 1, by omega, by omega, μ3, h3, ?_⟩
        rw [hr]; exact q
      · obtain ⟨e3, r3, rv3⟩ := yl x H3 y3
        have lw : LR G μ' H3 (wipeL σ vs) (L2.wipe τ vs) := ((l.mono p1 e1).mono pa (ea.trans e3).et).wipe vs
        cases eb : t.bd v (wipeL σ vs) with
        | none => simp only [lc2B, eb] at q2; cases q2
        | some σ2 =>
          simp only [lc2B, eb] at q2
          refine tg_ok lw rv3 eb fun τ2 l2 hw => ⟨?_, μ', σ2, h', l2, r3, ?_⟩
          · rw [hw vs hsl]
            exact wipe_idem τ vs vs fun _ h => h
          · cases ec : c σ2 h' with
            | no => rw [ec] at q2; cases q2
            | rs x hx => rw [ec] at q2; cases q2
            | ok b h3 =>
              rw [ec] at q2
              simp only [nr_ok, bind_ok] at q2
              intro μ3 H4 p4 e4 r4
              cases b with
              | false =>
                refine iteF ?_
                simp only [Bool.false_eq_true, if_false] at q2
                exact ⟨μ3, h3, p2.trans p4, e2.trans (e3.trans e4), r4, q2⟩
              | true =>
                have l4 := l2.mono p4 e4.et
                refine iteT ⟨μ3, σ2, h3, l4, r4, ?_⟩
                simp only [if_true] at q2
                unfold lc2I at q2
                cases em1 : mi1 σ2 h3 with
                | no => rw [em1] at q2; cases q2
                | rs x hx => rw [em1] at q2; cases q2
                | ok it1 h4 =>
                  rw [em1] at q2
                  simp only [nr_ok, bind_ok] at q2
                  intro μ5 H5 p5 e5 r5 J1 ok1
                  by_cases hlk : it1.lk = none
                  · rw [if_pos hlk] at q2
                    cases el1 : lcV it1.src h1.length (lcB vs1 t1 c1 e σ2) it1.items h4 with
                    | no => rw [el1] at q2; cases q2
                    | rs x hx => rw [el1] at q2; cases q2
                    | ok u1 h5 =>
                      rw [el1] at q2
                      dsimp only at q2
                      have l5 := l4.mono p5 e5.et
                      have pD : (μ1 ++ [D]) <+: μ5 := p2.trans (p4.trans p5)
                      have eD : Ex (upd H1 D (.lst [])) H5 := e2.trans (e3.trans (e4.trans e5))
                      refine ⟨fun j k H' => k + j = it1.items.length ∧ ∃ μ' h', μ5 <+: μ' ∧ Ex H5 H' ∧ HR G μ' h' H' ∧ lcV it1.src h1.length (lcB vs1 t1 c1 e σ2) (it1.items.drop j) h' = .ok u1 h5,
                        ⟨it1.items.length, rfl, _, _, List.prefix_refl _, Ex.refl _, r5, el1⟩, ?_⟩
                      rintro j k H6 ⟨hk, μ6, h6, p6, e6, r6, q6⟩
                      cases ed1 : it1.items.drop j with
                      | nil =>
                        rw [ed1] at q6
                        have hl : it1.items.length ≤ j := by
                          have := congrArg List.length ed1
                          rw [List.length_drop] at this
                          simpa using Nat.le_of_sub_eq_zero this
                        unfold lcV at q6
                        split at q6
                        · rename_i hsrc1
                          cases q6
                          exact .inl ⟨(ok1 μ6 h5 H6 p6 e6 r6 hsrc1).2 j hl, μ6, h5, pD.trans p6, eD.trans e6, r6, q2⟩
                        · cases q6
                      | cons v1 rest1 =>
                        rw [ed1] at q6
                        have hv1 : it1.items[j]? = some v1 := by
                          have : (it1.items.drop j)[0]? = some v1 := by rw [ed1]; rfl
                          rw [List.getElem?_drop] at this; simpa using this
                        have hr1 : it1.items.drop (j + 1) = rest1 := by
                          have := congrArg (List.drop 1) ed1
                          rw [List.drop_drop] at this
                          simpa using this
                        have hj' : j < it1.items.length := (List.getElem?_eq_some_iff.mp hv1).1
                        unfold lcV at q6
                        split at q6
                        · rename_i hsrc1
                          obtain ⟨go1, yl1⟩ := (ok1 μ6 h6 H6 p6 e6 r6 hsrc1).1 j v1 hv1
                          refine .inr ⟨go1, fun H3 => ∃ μ3 h3, μ5 <+: μ3 ∧ Ex H5 H3 ∧ HR G μ3 h3 H3 ∧ lcV it1.src h1.length (lcB vs1 t1 c1 e σ2) rest1 h3 = .ok u1 h5, ?_, fun x H7 y7 => ?_⟩
                          · rintro H3 ⟨μ3, h3, q⟩
                            refine ⟨k - 1, by omega, by omega, μ3, h3, ?_⟩
                            rw [hr1]; exact q
                          · obtain ⟨e7, r7, rv7⟩ := yl1 x H7 y7
                            have lw1 : LR G μ6 H7 (wipeL σ2 vs1) (L2.wipe τ2 vs1) := (l5.mono p6 (e6.trans e7).et).wipe vs1
                            cases eb1 : t1.bd v1 (wipeL σ2 vs1) with
                            | none => simp only [lcB, eb1] at q6; cases q6
                            | some σ3 =>
                              simp only [lcB, eb1] at q6
                              refine tg_ok lw1 rv7 eb1 fun τ3 l3 hw1 => ⟨?_, μ6, σ3, h6, l3, r7, ?_⟩
                              · rw [hw1 vs1 hsl1]
                                exact wipe_idem τ2 vs1 vs1 fun _ h => h
                              · cases ec1 : c1 σ3 h6 with
                                | no => rw [ec1] at q6; cases q6
                                | rs x hx => rw [ec1] at q6; cases q6
                                | ok b1 h7 =>
                                  rw [ec1] at q6
                                  simp only [nr_ok, bind_ok] at q6
                                  intro μ8 H8 p8 e8 r8
                                  cases b1 with
                                  | false =>
                                    refine iteF ?_
                                    simp only [Bool.false_eq_true, if_false] at q6
                                    exact ⟨μ8, h7, p6.trans p8, e6.trans (e7.trans e8), r8, q6⟩
                                  | true =>
                                    refine iteT ⟨μ8, σ3, h7, l3.mono p8 e8, r8, ?_⟩
                                    simp only [if_true] at q6
                                    cases ee : e σ3 h7 with
                                    | no => rw [ee] at q6; cases q6
                                    | rs x hx => rw [ee] at q6; cases q6
                                    | ok y h8 =>
                                      rw [ee] at q6
                                      simp only [nr_ok, bind_ok] at q6
                                      intro μ9 H9 p9 e9 r9 w9 rw9
                                      cases epu : push1 h1.length y h8 with
                                      | none => rw [epu] at q6; cases q6
                                      | some h9 =>
                                        rw [epu] at q6
                                        obtain ⟨acc, a1, a2, a3, a4⟩ := push_ok r9 (pre_get p9 (pre_get p8 (pre_get p6 (pre_get pD hDn)))) rw9 epu
                                        exact ⟨acc, a1, a2, μ9, h9, p6.trans (p8.trans p9), e6.trans (e7.trans (e8.trans (e9.trans a3))), a4, q6⟩
                        · cases q6
                  · rw [if_neg hlk] at q2; cases q2
    · cases q2
section
variable {X : Cx} {W : WX} {k : Nat} {elt tg iter tg1 iter1 : Expr} {ifs ifs1 : List Expr} {scope : Scope} {own : List (Str × Nat)} {vs1 : List Nat} {pos : Pos} {mi mi1 : MI} {t t1 : Tg} {c c1 : MT} {e : ME}
theorem t_setLc2 (i : Nat) {y : Str} {py spos : Pos} (ck : Cok X W k) (hi : CI X W tg iter mi) (li : LkIn mi) (ok : BlkOk X.N X.env.scope scope own) (hsl : ∀ i ∈ t.slots, i ∈ own.map (·.2)) (hv : ∀ i ∈ vs1, i ∈ own.map (·.2)) (hsl1 : ∀ i ∈ t1.slots, i ∈ vs1)
    (hg : ∀ (s : Shared) (H : Hp) (C : Addr) (cl : List (Str × Addr)) (fp : List Addr), PG (X.blk s H scope (compEnvC scope cl C X.env) fp) tg (tgT X.K t))
    (ht : ∀ (s : Shared) (H : Hp) (C : Addr) (cl : List (Str × Addr)) (fp : List Addr), CTs (X.blk s H scope (compEnvC scope cl C X.env) fp) WN ifs c)
    (hi1 : ∀ (s : Shared) (H : Hp) (C : Addr) (cl : List (Str × Addr)) (fp : List Addr), CI (X.blk s H scope (compEnvC scope cl C X.env) fp) WN tg1 iter1 mi1)
    (hg1 : ∀ (s : Shared) (H : Hp) (C : Addr) (cl : List (Str × Addr)) (fp : List Addr), PG (X.blk s H scope (compEnvC scope cl C X.env) fp) tg1 (tgT X.K t1))
    (ht1 : ∀ (s : Shared) (H : Hp) (C : Addr) (cl : List (Str × Addr)) (fp : List Addr), CTs (X.blk s H scope (compEnvC scope cl C X.env) fp) WN ifs1 c1)
    (he : ∀ (s : Shared) (H : Hp) (C : Addr) (cl : List (Str × Addr)) (fp : List Addr), CE (X.blk s H scope (compEnvC scope cl C X.env) fp) WN elt e)
    (hsw : swapsWith (.ListComp elt [⟨tg, iter, ifs, 0⟩, ⟨tg1, iter1, ifs1, 0⟩] scope pos) (some (.Name y py)) spos.line X.env = pure true)
    (hy : X.N[i]? = some y := by rfl) (hyl : X.env.scope.names.lookup y = some .local := by rfl) (hs : ∀ x, foldedSetIterable iter X.env x = pure x := by intro _; rfl) (hs1 : ∀ env x, foldedSetIterable iter1 env x = pure x := by intro _ _; rfl) :
    CS X W (.Assign [.Name y py] (.ListComp elt [⟨tg, iter, ifs, 0⟩, ⟨tg1, iter1, ifs1, 0⟩] scope pos) spos) (msAsg (mLc2 mi (own.map (·.2)) t c mi1 vs1 t1 c1 e) (mgName i)) := by
  refine psI (ps_unl (ps_setLc2 (i := i) (tt := tMT (gm X) WN c) (tt1 := tMT (gm X) WN c1) (te := tM (gm X) WN e) (wi1 := tMI0 (gm X) WN mi1) ck.calm ck.nd hy hyl hsw hi ok hv hg ht
    (fun s H C cl fp => piI (hi1 s H C cl fp) fun τ H R ⟨μ, σ, h, l, r, p⟩ => ⟨μ, σ, h, l, r, p.imp fun it μ1 h1 H1 p1 e1 r1 q J ok lk => q J ok⟩) hg1 ht1 he hs hs1)) fun D τ H ⟨μ, σ, h, l, r, p⟩ => ?_
  refine lcR2 (G := gm X) (Q := fun x H1 => D.nx (τ.set i (some x)) H1) li hsl hsl1 ⟨μ, σ, h, l, r, ?_⟩
  exact (PsF.bind l p).imp fun x μ1 h1 H1 p1 e1 r1 q1 w rw1 => q1 μ1 H1 _ (List.prefix_refl _) (Ex.refl _) r1 ((l.mono p1 e1).set i rw1)
end
end U
namespace U
open PySem L2 PyProof.Rows
section
variable {X : Cx} {pins : List (Addr × Obj)} {τ : L2.St} {H : Hp} {s : Shared} {μ : List Addr}
end
end U
namespace U
open PySem L2 PyProof.Rows PySem.W
def vMinD (vs zs : List Val) (h : Hh) : Res Val := match vs, zs with
  | [.ref n], [d] => (match h[n]? with
    | some (.lst ws) => (match intsOf ws with
      | some [] => .ok d h
      | some (i :: is) => .ok (.int (is.foldl min i)) h
      | none => .no)
    | _ => .no)
  | _, _ => .no
def mMinD (mm mk : MA) : ME := fun σ h => (mm σ h).bind fun vs h1 => (mk σ h1).bind fun zs h2 => vMinD vs zs h2
section
variable {X : Cx} {W : WX} {k : Nat} {e : Expr} {es : List Expr} {kws : List Keyword} {p pos : Pos} {mm mk : MA} {x : Str}
end
end U
namespace U
open PySem L2 PySem.Spec PyProof.Rows PySem.W PySem.Calls
section
variable {prog : Program} {w : World} {A : Around} {E : Value → Shared → Prop} {s : Shared}
end
section
variable {X : Cx}
end
end U
namespace U
open PySem L2 PySem.Spec PyProof.Rows
section
variable {X : Cx} {W : WX} {o e : Expr} {es : List Expr} {apos cpos : Pos} {to : TE} {t : TA} {mo : ME} {mm : MA} {k : Nat} {r : V → List V → Hp → VK → Prop}
end
end U
namespace U
open PySem L2 PySem.Spec PyProof.Rows PySem.W
section
variable {X : Cx} {W : WX} {k : Nat}
def vSumX : Fn := fun vs h => match vs with
  | [.tup ws] => (match intsOf ws with | some ns => .ok (.int ns.sum) h | none => .no)
  | _ => vSum vs h
theorem nr_sumX : ∀ vs h z k, vSumX vs h ≠ .rs z k := fun x h z k => by
  unfold vSumX
  split
  · split <;> simp
  · exact nr_sum x h z k
theorem intItems_of : ∀ {us : List Value} {ns : List Int}, IntsAre us ns → ∃ xs : List (Int × Tok), us = xs.map (fun p => Value.int p.1 p.2) ∧ xs.map (·.1) = ns
  | _, _, .nil => ⟨[], rfl, rfl⟩
  | _, _, .cons n t r => by
    obtain ⟨xs, e1, e2⟩ := intItems_of r
    exact ⟨(n, t) :: xs, by rw [e1]; rfl, by rw [← e2]; rfl⟩
theorem c_sumX (hc : X.calm = true) : CallR X (.builtin "sum") (rMs (gm X) W0 vSumX) := fun pins s τ H xs us Q I rx p => by
  obtain ⟨μ, hh, vs, r, ra, p⟩ := p
  unfold vSumX at p
  split at p
  · rename_i ws
    cases ra with
    | cons rv rn =>
      cases rn
      cases rv with
      | @tup _ zs a ta rs =>
        cases q : intsOf ws with
        | none => rw [q] at p; exact p.elim
        | some ns =>
          rw [q] at p
          rw [intsOf_ok q] at rs
          have g3 := rs.ints
          obtain ⟨u, rfl, ru⟩ := vals1 rx
          cases (show u = Value.ref a from ru)
          obtain ⟨its, rv, pl, hz⟩ := I.tuple ta.sq
          rw [g3] at rv
          obtain ⟨ps, e1, e2⟩ := intItems_of rv.ints
          have hit : s.heap.IsTuple a (intItems ps.toArray) := by
            have : intItems ps.toArray = its.toArray := by
              rw [e1]
              simp [intItems]
            rw [this]
            exact pl
          refine ktm_sumG (I.ok.hd hc) hit fun h' tk t' hk => ⟨.int ns.sum, H, I.kept hk, ⟨t', ?_⟩, p.at r _ (.int _)⟩
          show Value.int (preSum (numAt ps.toArray) ps.toArray.size) t' = Value.int ns.sum t'
          rw [preSum_eq, ← e2, List.size_toArray, List.toList_toArray, ← List.length_map (f := (·.1)), List.take_length]
  · exact c_sum hc pins s τ H xs us Q I rx ⟨μ, hh, _, r, ra, p⟩
end
end U
namespace U
open PySem L2 PySem.Spec PyProof.Rows
section
variable {b1 b2 : Bool} {prog : Program} {w : World} {A : Around} {s : Shared} {R : Result → Shared → Prop} {z TI TO i1 i2 l1 l2 S : Addr} {xs ys : Array Value}
theorem zip_loopG (hh : A.handled = none) (D : ZipSep2 z TI TO i1 i2 [i1, l1] [i2, l2]) (n1 : l1 ≠ i1) (n2 : l2 ≠ i2) (hS7 : S ≠ z ∧ S ≠ TI ∧ S ≠ TO ∧ S ≠ i1 ∧ S ≠ i2 ∧ S ≠ l1 ∧ S ≠ l2) (hlow : z < S ∧ TO < S ∧ i1 < S ∧ i2 < S) (n : Nat) (hn : n = min xs.size ys.size) (hz' : n ≤ sizeLine) (res : Value) {h₁ : Heap}
    (hR : ∀ h' tk acc c as, (∀ b o, b ≠ S → b ≠ z → b ≠ TO → b ≠ i1 → b ≠ i2 → h₁.get? b = some o → h'.get? b = some o) → h'.get? S = some { cls := .type "list", dict := none, data := .seq acc c, slots := #[] } → as.length = n → ZG xs ys S h' as →
      acc.toList = as.map Value.ref → R (.ok (.ret res)) { s with heap := h', toks := tk }) :
    ∀ (k i : Nat) (h : Heap) (tk c : Nat) (acc : Array Value) (as : List Addr), n - i = k → i ≤ n → ZGt b1 b2 z TI TO i1 i2 l1 l2 S xs ys i h → (∀ b o, b ≠ S → b ≠ z → b ≠ TO → b ≠ i1 → b ≠ i2 → h₁.get? b = some o → h.get? b = some o) →
      h.get? S = some { cls := .type "list", dict := none, data := .seq acc c, slots := #[] } → acc.toList = as.map Value.ref → as.length = i → ZG xs ys S h as →
      codeAny (model prog w) A (.builtin "list.extend.loop" ⟨[.ref S, .ref z, res], []⟩) R { s with heap := h, toks := tk } := by
  intro k
  induction k with
  | zero =>
    intro i h tk c acc as hk hi hst hkeep hS hacc hal hG
    have hin : i = n := by omega
    refine codeAny_builtin PySem.F.entry_extend_loop ?_
    rw [Around.under_plainId PySem.F.plain_extend_loop _]
    show wpAny _ A.in1 (pyNext (.ref z) >>= _) _ _ _
    have hend : xs[i]? = none ∨ ys[i]? = none := by
      rcases Nat.le_total xs.size ys.size with h | h
      · exact .inl (Array.getElem?_eq_none (by omega))
      · exact .inr (Array.getElem?_eq_none (by omega))
    refine wpAny_bind (zg_done (s := { s with heap := h, toks := tk }) (A := A.in1) hh D n1 n2 hst (hin.trans hn) fun h' tk he => ?_)
    refine wpAny_pure (hR h' tk acc c as (fun b o c0 c1 c2 c3 c4 e => he b o c1 c2 c3 c4 (hkeep b o c0 c1 c2 c3 c4 e)) (he S _ hS7.1 hS7.2.2.1 hS7.2.2.2.1 hS7.2.2.2.2.1 hS) (by omega) ⟨hG.rise, hG.above, fun j a hj => ?_⟩ hacc)
    obtain ⟨x, y, e1, e2, e3⟩ := hG.pairs j a hj
    have hb := hG.above a (List.mem_of_getElem? hj)
    exact ⟨x, y, e1, e2, he a _ (Nat.ne_of_gt (Nat.lt_trans hlow.1 hb)) (Nat.ne_of_gt (Nat.lt_trans hlow.2.1 hb)) (Nat.ne_of_gt (Nat.lt_trans hlow.2.2.1 hb)) (Nat.ne_of_gt (Nat.lt_trans hlow.2.2.2 hb)) e3⟩
  | succ k ih =>
    intro i h tk c acc as hk hi hst hkeep hS hacc hal hG
    have hlt : i < n := by omega
    obtain ⟨x, hx⟩ : ∃ x, xs[i]? = some x := ⟨xs[i]'(by omega), Array.getElem?_eq_getElem (by omega)⟩
    obtain ⟨y, hy⟩ : ∃ y, ys[i]? = some y := ⟨ys[i]'(by omega), Array.getElem?_eq_getElem (by omega)⟩
    have hsz : acc.size = i := by rw [← Array.length_toList, hacc, List.length_map, hal]
    refine codeAny_builtin PySem.F.entry_extend_loop ?_
    rw [Around.under_plainId PySem.F.plain_extend_loop _]
    show wpAny _ A.in1 (pyNext (.ref z) >>= _) _ _ _
    refine wpAny_bind (zg_item (s := { s with heap := h, toks := tk }) (d := S) (A := A.in1) hh D n1 n2 hst (Heap.lt_size hS) hx hy fun h' tk2 hst' ht hz hkp => ?_)
    dsimp only at ht hz hkp ⊢
    have hS' := hkp S _ hS7.1 hS7.2.2.1 hS7.2.2.2.1 hS7.2.2.2.2.1 hS
    have up : ∀ b o, b ≠ S → h'.get? b = some o → (h'.update S (Obj.mapSeq (·.push (Value.ref h.objs.size)))).get? b = some o := fun b o hb e => (Heap.get?_update_other _ _ (Ne.symm hb)).trans e
    have hSl : S < h.objs.size := Heap.lt_size hS
    show wpAny _ A.in1 (updateSeq S (·.push (Value.ref h.objs.size)) >>= _) _ _ _
    refine wpAny_bind ?_
    refine wpAny_updateSeq hS' rfl (wpAny_pure ⟨plainId_quiet PySem.F.plain_extend_loop _, ih (i + 1) _ tk2 _ (acc.push (Value.ref h.objs.size)) (as ++ [h.objs.size]) (by omega) hlt (hst'.keep hS7 up)
      (fun b o c0 c1 c2 c3 c4 e => up b o c0 (hkp b o c1 c2 c3 c4 (hkeep b o c0 c1 c2 c3 c4 e))) (Heap.get?_update_self _ hS' rfl) (by rw [Array.toList_push, hacc, List.map_append]; rfl) (by rw [List.length_append, hal]; rfl) ⟨?_, ?_, ?_⟩⟩) (by rw [hsz]; omega) (by show (acc.push (Value.ref h.objs.size)).size ≤ sizeLine + 1; rw [Array.size_push, hsz]; omega)
    · refine List.pairwise_append.mpr ⟨hG.rise, List.pairwise_singleton _ _, fun a ha b hb => ?_⟩
      rw [List.mem_singleton.mp hb]
      exact hG.there ha
    · intro a ha
      rcases List.mem_append.mp ha with ha | ha
      · exact hG.above a ha
      · rw [List.mem_singleton.mp ha]; exact hSl
    · intro j b hj
      rcases Nat.lt_trichotomy j as.length with h1 | h1 | h1
      · rw [List.getElem?_append_left h1] at hj
        obtain ⟨x', y', e1, e2, e3⟩ := hG.pairs j b hj
        have hb := hG.above b (List.mem_of_getElem? hj)
        exact ⟨x', y', e1, e2, up b _ (Nat.ne_of_gt hb) (hkp b _ (Nat.ne_of_gt (Nat.lt_trans hlow.1 hb)) (Nat.ne_of_gt (Nat.lt_trans hlow.2.1 hb)) (Nat.ne_of_gt (Nat.lt_trans hlow.2.2.1 hb)) (Nat.ne_of_gt (Nat.lt_trans hlow.2.2.2 hb)) e3)⟩
      · subst h1
        have hb : h.objs.size = b := by simpa using hj
        subst hb
        exact ⟨x, y, by rw [hal]; exact hx, by rw [hal]; exact hy, up _ _ (Nat.ne_of_gt hSl) ht⟩
      · have hnone : (as ++ [h.objs.size])[j]? = none := List.getElem?_eq_none (by rw [List.length_append, List.length_singleton]; omega)
        rw [hnone] at hj; cases hj
end
section
variable {b1 b2 : Bool} {prog : Program} {w : World} {A : Around} {E : Value → Shared → Prop} {s : Shared} {z TI TO i1 i2 l1 l2 : Addr} {xs ys : Array Value}
theorem zip_extendG {R : Result → Shared → Prop} {S : Addr} (hh : A.handled = none) (D : ZipSep2 z TI TO i1 i2 [i1, l1] [i2, l2]) (n1 : l1 ≠ i1) (n2 : l2 ≠ i2) (hst : ZGt b1 b2 z TI TO i1 i2 l1 l2 S xs ys 0 s.heap) (hz0 : IsZip s.heap z TI TO .none) (hS7 : S ≠ z ∧ S ≠ TI ∧ S ≠ TO ∧ S ≠ i1 ∧ S ≠ i2 ∧ S ≠ l1 ∧ S ≠ l2) (hlow : z < S ∧ TO < S ∧ i1 < S ∧ i2 < S)
    (hz' : min xs.size ys.size ≤ sizeLine) (res : Value) (c₀ : Nat) (hS : s.heap.get? S = some { cls := .type "list", data := .seq #[] c₀ })
    (hR : ∀ h' tk acc c as, (∀ b o, b ≠ S → b ≠ z → b ≠ TO → b ≠ i1 → b ≠ i2 → s.heap.get? b = some o → h'.get? b = some o) → h'.get? S = some { cls := .type "list", dict := none, data := .seq acc c, slots := #[] } → as.length = min xs.size ys.size → ZG xs ys S h' as →
      acc.toList = as.map Value.ref → R (.ok (.ret res)) { s with heap := h', toks := tk }) :
    wpAny (model prog w) A.in1 (Builtin.List.listExtendWith (.ref S) (.ref z) res)
      (fun fin s' => match fin with | .done f => R (.ok f) s' | .again c' => c'.quiet = true ∧ codeAny (model prog w) A c' R s') (fun e s' => R (.error e) s') s := by
  have hT : s.TypeIs (.ref z) "zip" := ⟨_, hz0, rfl⟩
  have key : ∀ (h : Heap) (c₁ tk : Nat), (∀ b o, b ≠ S → s.heap.get? b = some o → h.get? b = some o) →
      h.get? S = some { cls := .type "list", data := .seq #[] c₁ } → codeAny (model prog w) A (.builtin "list.extend.loop" ⟨[.ref S, .ref z, res], []⟩) R { s with heap := h, toks := tk } := by
    intro h c₁ tk hk hS₁
    exact zip_loopG (s := s) (h₁ := s.heap) hh D n1 n2 hS7 hlow (min xs.size ys.size) rfl hz' res hR
      (min xs.size ys.size) 0 h tk c₁ #[] [] (Nat.sub_zero _) (Nat.zero_le _) (hst.keep hS7 hk) (fun b o hb _ _ _ _ e => hk b o hb e) hS₁ rfl rfl
      ⟨List.Pairwise.nil, (fun _ ha => nomatch ha), (fun j a hj => by simp at hj)⟩
  unfold Builtin.List.listExtendWith
  refine wpAny_bind (wpAny_typeOf (T := "zip") hT ?_)
  have h1 : Builtin.List.listSameRef (.ref S) (.ref z) = false := by simp [Builtin.List.listSameRef, hS7.1]
  have h2 : (Value.type "zip" == Value.type "list") = false := by decide
  have h3 : (Value.type "zip" == Value.type "tuple") = false := by decide
  simp only [h1, h2, h3, Bool.or_false, Bool.false_eq_true, if_false]
  refine wpAny_bind (wpAny_pyIter_zip hz0 ?_)
  refine wpAny_bind (wpAny_holding ?_)
  unfold Builtin.List.listLengthHint
  refine wpAny_bind (wpAny_specialOf hT zip_no_len ?_)
  show wpAny _ A.in1 (specialOf (Value.ref z) (Str.ofString "__length_hint__") >>= _) _ _ _
  refine wpAny_bind (wpAny_specialOf hT zip_no_hint ?_)
  refine wpAny_pure ?_
  show wpAny _ A.in1 (rule "list.extend.makes-room" >>= fun _ => Builtin.List.listTouch (.ref S) >>= fun _ =>
    again (.builtin "list.extend.loop" ⟨[.ref S, .ref z, res], []⟩)) _ _ _
  refine wpAny_bind (wpAny_rule ?_)
  refine wpAny_bind ?_
  show wpAny _ A.in1 (updateSeq S (·.push .none) >>= fun _ => updateSeq S (·.pop)) _ _ _
  refine wpAny_bind (wpAny_updateSeq hS rfl ?_)
  have hS₂ := Heap.get?_update_self (Obj.mapSeq (·.push Value.none)) hS rfl
  refine wpAny_updateSeq (hz := by seq_fits) hS₂ rfl ?_
  have hS₃ := Heap.get?_update_self (Obj.mapSeq (·.pop)) hS₂ rfl
  refine wpAny_pure ⟨plainId_quiet PySem.F.plain_extend_loop _, key _ _ s.toks (fun b o hb e => ?_) hS₃⟩
  exact (Heap.get?_update_other _ _ (Ne.symm hb)).trans ((Heap.get?_update_other _ _ (Ne.symm hb)).trans e)
theorem zip_initG {R : Result → Shared → Prop} {S : Addr} (hh : A.handled = none) (D : ZipSep2 z TI TO i1 i2 [i1, l1] [i2, l2]) (n1 : l1 ≠ i1) (n2 : l2 ≠ i2) (hst : ZGt b1 b2 z TI TO i1 i2 l1 l2 S xs ys 0 s.heap) (hz0 : IsZip s.heap z TI TO .none) (hS7 : S ≠ z ∧ S ≠ TI ∧ S ≠ TO ∧ S ≠ i1 ∧ S ≠ i2 ∧ S ≠ l1 ∧ S ≠ l2) (hlow : z < S ∧ TO < S ∧ i1 < S ∧ i2 < S)
    (hz' : min xs.size ys.size ≤ sizeLine) (hS : s.heap.get? S = some { cls := .type "list", data := .seq #[] })
    (hR : ∀ h' tk acc c as, (∀ b o, b ≠ S → b ≠ z → b ≠ TO → b ≠ i1 → b ≠ i2 → s.heap.get? b = some o → h'.get? b = some o) → h'.get? S = some { cls := .type "list", dict := none, data := .seq acc c, slots := #[] } → as.length = min xs.size ys.size → ZG xs ys S h' as →
      acc.toList = as.map Value.ref → R (.ok (.ret .none)) { s with heap := h', toks := tk }) :
    wpAny (model prog w) A.in1 (Builtin.«list.__init__» ⟨[.ref S, .ref z], []⟩)
      (fun fin s' => match fin with | .done f => R (.ok f) s' | .again c' => c'.quiet = true ∧ codeAny (model prog w) A c' R s') (fun e s' => R (.error e) s') s := by
  show wpAny _ _ (do let old ← Builtin.List.listItems (.ref S); Builtin.List.listUpdate (.ref S) (fun _ => #[]); letGo old.toList.reverse; Builtin.List.listExtendWith (.ref S) (.ref z) .none) _ _ s
  refine wpAny_bind ?_
  unfold Builtin.List.listItems
  refine wpAny_bind (wpAny_seqItems hS rfl (wpAny_pure ?_))
  show wpAny _ _ (updateSeq S (fun _ => #[]) >>= fun _ => letGo (#[] : Array Value).toList.reverse >>= fun _ => Builtin.List.listExtendWith (.ref S) (.ref z) .none) _ _ s
  refine wpAny_bind (wpAny_updateSeq hS rfl ?_)
  have hS₂ := Heap.get?_update_self (Obj.mapSeq (fun _ => (#[] : Array Value))) hS rfl
  have oth : ∀ b o, b ≠ S → s.heap.get? b = some o → (s.heap.update S (Obj.mapSeq (fun _ => (#[] : Array Value)))).get? b = some o :=
    fun b o hb e => (Heap.get?_update_other _ _ (Ne.symm hb)).trans e
  refine wpAny_bind (wpAny_letGo ?_)
  refine zip_extendG (s := { s with heap := s.heap.update S (Obj.mapSeq (fun _ => (#[] : Array Value))) }) hh D n1 n2 (hst.keep hS7 oth) (oth _ _ (Ne.symm hS7.1) hz0) hS7 hlow hz' .none _ hS₂ fun h' tk acc c as hk hS' hl hG hacc => ?_
  exact hR h' tk acc c as (fun b o c0 c1 c2 c3 c4 e => hk b o c0 c1 c2 c3 c4 (oth b o c0 e)) hS' hl hG hacc
theorem zip_listG {Q : Value → Shared → Prop} (hh : A.handled = none) (D : ZipSep2 z TI TO i1 i2 [i1, l1] [i2, l2]) (n1 : l1 ≠ i1) (n2 : l2 ≠ i2) (hst : ∀ S, s.heap.objs.size ≤ S → ZGt b1 b2 z TI TO i1 i2 l1 l2 S xs ys 0 s.heap) (hz0 : IsZip s.heap z TI TO .none) (h7 : z < s.heap.objs.size ∧ TI < s.heap.objs.size ∧ TO < s.heap.objs.size ∧ i1 < s.heap.objs.size ∧ i2 < s.heap.objs.size ∧ l1 < s.heap.objs.size ∧ l2 < s.heap.objs.size)
    (hz' : min xs.size ys.size ≤ sizeLine)
    (hQ : ∀ h' tk acc c as, (∀ b o, b ≠ z → b ≠ TO → b ≠ i1 → b ≠ i2 → s.heap.get? b = some o → h'.get? b = some o) → h'.get? s.heap.objs.size = some { cls := .type "list", dict := none, data := .seq acc c, slots := #[] } → as.length = min xs.size ys.size → ZG xs ys s.heap.objs.size h' as →
      acc.toList = as.map Value.ref → Q (.ref s.heap.objs.size) { s with heap := h', toks := tk }) :
    wpAny (model prog w) A (call (.type "list") [.ref z]) Q E s := by
  refine callType_codes (Q₁ := fun obj s₁ => obj = .ref s.heap.objs.size ∧ s₁ = { s with heap := s.heap.push { cls := .type "list", data := .seq #[] } }) PySem.F.called_list (PySem.F.typeCall_list_1 _) PySem.F.entry_list_init
    (code_list_new _ ⟨rfl, rfl⟩) fun obj s₁ h₁ => ?_
  obtain ⟨rfl, rfl⟩ := h₁
  have hS : (s.heap.push { cls := .type "list", data := .seq #[] }).get? s.heap.objs.size = some { cls := .type "list", data := .seq #[] } := Heap.get?_push_size _ rfl
  obtain ⟨a1, a2, a3, a4, a5, a6, a7⟩ := h7
  have hS7 : s.heap.objs.size ≠ z ∧ s.heap.objs.size ≠ TI ∧ s.heap.objs.size ≠ TO ∧ s.heap.objs.size ≠ i1 ∧ s.heap.objs.size ≠ i2 ∧ s.heap.objs.size ≠ l1 ∧ s.heap.objs.size ≠ l2 := ⟨Nat.ne_of_gt a1, Nat.ne_of_gt a2, Nat.ne_of_gt a3, Nat.ne_of_gt a4, Nat.ne_of_gt a5, Nat.ne_of_gt a6, Nat.ne_of_gt a7⟩
  refine ⟨⟨_, hS, rfl⟩, PySem.F.args_list_init_2 _ _, zip_initG (s := { s with heap := s.heap.push { cls := .type "list", data := .seq #[] } }) (A := A.in1) hh D n1 n2 ((hst _ (Nat.le_refl _)).keep hS7 fun b o _ e => Heap.get?_push_of_some _ e) (Heap.get?_push_of_some _ hz0) hS7 ⟨a1, a3, a4, a5⟩ hz' hS fun h' tk acc c as hk hS' hl hG hacc => ?_⟩
  exact ⟨rfl, hQ h' tk acc c as (fun b o c1 c2 c3 c4 e => hk b o (Nat.ne_of_lt (Heap.lt_size e)) c1 c2 c3 c4 (Heap.get?_push_of_some _ e)) hS' hl hG hacc⟩
end
section
variable {X : Cx} {W : WX}
def rZipX (K : PySem.W.Frag) : List V → Hp → VK → Prop := fun vs H Q => ∃ (a b : Addr) (xs ys : List V), vs = [.ref a, .ref b] ∧ SqA K H a xs ∧ SqA K H b ys ∧
  ∀ (H' : Hp) (p : Addr) (ts : List Addr), (∀ b o, H b = some o → H' b = some o) → H p = none → (∀ t ∈ ts, H t = none) → p ∉ ts → H' p = some (.lst (ts.map V.ref)) → Paired (fun (t : Addr) (q : V × V) => H' t = some (.tup [q.1, q.2])) ts (xs.zip ys) → Q (.ref p) H'
def tListZipX (K : PySem.W.Frag) (ta : TA) : TE := fun σ H Q => ta σ H fun vs H1 => rZipX K vs H1 Q
theorem pe_listZipX {e e2 : Expr} {ta : TA} {p p2 q pos : Pos} (hc : X.calm = true) (hg : Gl X "list") (hm : X.mg "list" = none) (hv : bootBuiltins "list" = some (.type "list")) (hg2 : Gl X "zip") (hm2 : X.mg "zip" = none) (ha : PA X [e, e2] ta)
    (hs : starEach [e, e2] X.env = (false, eval e X.env) :: starEach [e2] X.env := by rfl) (hpl : (backTo q (starEach [e2] X.env)).any (·.1) = false := by rfl)
    (hs1 : starEach [.Call (.Name "zip" p2) [e, e2] [] q] X.env = (false, eval (.Call (.Name "zip" p2) [e, e2] [] q) X.env) :: starEach [] X.env := by rfl) :
    PE X (.Call (.Name "list" p) [.Call (.Name "zip" p2) [e, e2] [] q] [] pos) (tListZipX X.K ta) := by
  refine ⟨fun pins s σ H Q I h => ?_⟩
  refine wpAny_Call_Name_kw (ld_blt I hg hm hv ?_)
  refine PyProof.Rows.callWith_type1 ?_ hs1 rfl
  rw [hs1]
  show wpAny _ _ (spliced ((false, eval (.Call (.Name "zip" p2) [e, e2] [] q) X.env) :: backTo pos (starEach [] X.env))) _ _ s
  refine Calls.spliced_cons ?_
  refine Call_ (ld_blt I hg2 hm2 PyProof.Rows.boot_zip (PyProof.Rows.callWith_type1 (thn (ha.run q pins s σ H _ I h) fun us s1 ⟨vs, H1, I1, r1, q1⟩ => ?_) hs hpl))
  obtain ⟨a, b, xs, ys, ex, hqx, hqy, q1⟩ := q1
  subst ex
  cases r1 with
  | cons r rr =>
    cases rr with
    | cons r' rr =>
      cases rr
      cases r
      cases r'
      obtain ⟨b1, its, rv, pl1, hz1⟩ := sqA_at I1 hqx
      obtain ⟨b2, its2, rv2, pl2, hz2⟩ := sqA_at I1 hqy
      have la : a < s1.heap.objs.size := pl1.lt
      have lb : b < s1.heap.objs.size := pl2.lt
      refine call_zipI pl1 pl2 fun h' hz hTI hTO h1 h2 hsz hk => Calls.spliced_nil ?_
      have l1 := rv.length
      have l2 := rv2.length
      have hN : s1.heap.objs.size < h'.objs.size := by rw [hsz]; exact Nat.lt_add_of_pos_right (by decide)
      refine zip_listG (b1 := b1) (b2 := b2) (s := { s1 with heap := h' }) (xs := its.toArray) (ys := its2.toArray) (I1.ok.hd hc) (sepI la lb) (Nat.ne_of_lt la) (Nat.ne_of_lt (Nat.lt_succ_of_lt lb))
        (fun S _ => ⟨hTI, h1, h2, .inl ⟨hz, _, _, hTO⟩⟩) hz
        ⟨Heap.lt_size hz, Heap.lt_size hTI, Heap.lt_size hTO, let ⟨_, e, _⟩ := h1.1.obj; Heap.lt_size e, let ⟨_, e, _⟩ := h2.1.obj; Heap.lt_size e, Nat.lt_trans la hN, Nat.lt_trans lb hN⟩ ?_ fun h'' tk acc c as hk2 hS hl hG hacc => ?_
      · rw [List.size_toArray]
        exact Nat.le_trans (Nat.min_le_left _ _) (by rw [← l1]; exact hz1)
      · have hk3 : ∀ b o, s1.heap.get? b = some o → h''.get? b = some o := fun b o e => by
          have hb := Heap.lt_size e
          have ne : ∀ k, b ≠ s1.heap.objs.size + k := fun k z => Nat.lt_irrefl _ (Nat.lt_of_lt_of_le hb (by rw [z]; exact Nat.le_add_right _ _))
          exact hk2 b o (ne 4) (ne 3) (ne 0) (ne 1) (hk b o e)
        have hll : as.length = (xs.zip ys).length := by
          rw [hl, List.length_zip, List.size_toArray, List.size_toArray, l1, l2]
        have hpairs : ∀ (j : Nat) (a : Addr) (p : V × V), as[j]? = some a → (xs.zip ys)[j]? = some p → ∃ u v, RelV p.1 u ∧ RelV p.2 v ∧ h''.get? a = some { cls := .type "tuple", data := .seq #[u, v] } := fun j a p e1 e2 => by
          obtain ⟨u, v, g1, g2, g3⟩ := hG.pairs j a e1
          obtain ⟨z1, z2⟩ := List.getElem?_zip_eq_some.mp e2
          obtain ⟨u', hu, ru⟩ := rv.get z1
          obtain ⟨v', hv', rv'⟩ := rv2.get z2
          have e3 : its[j]? = some u := by simpa using g1
          have e4 : its2[j]? = some v := by simpa using g2
          rw [hu] at e3; cases e3
          rw [hv'] at e4; cases e4
          exact ⟨_, _, ru, rv', g3⟩
        have hzz : (xs.zip ys).length ≤ sizeLine := by
          rw [List.length_zip]
          exact Nat.le_trans (Nat.min_le_left _ _) hz1
        obtain ⟨H', k1, k2, k3, k4, k5, k6, J⟩ := zip_laid (tk := tk) I1 hzz hk3 (Nat.le_of_lt hN) hS hll hG.rise hG.above hpairs hacc
        exact ⟨.ref _, H', J, rfl, q1 H' _ as k1 k2 k3 k4 k5 k6⟩
def vZipX : Fn := fun vs h => match vs with
  | [x, y] => (match seqV x h, seqV y h with
    | some xs, some ys => .ok (.ref h.length) (h ++ [.lst (zipV xs ys)])
    | _, _ => .no)
  | _ => .no
theorem s_listZipX {e e2 : Expr} {ma : MA} {p p2 q pos : Pos} (hc : X.calm = true) (hm : X.mg "list" = none) (hm2 : X.mg "zip" = none) (ha : CA X W [e, e2] ma) (hg : Gl X "list" := by rfl) (hv : bootBuiltins "list" = some (.type "list") := by rfl) (hg2 : Gl X "zip" := by rfl)
    (hs : starEach [e, e2] X.env = (false, eval e X.env) :: starEach [e2] X.env := by rfl) (hpl : (backTo q (starEach [e2] X.env)).any (·.1) = false := by rfl)
    (hs1 : starEach [.Call (.Name "zip" p2) [e, e2] [] q] X.env = (false, eval (.Call (.Name "zip" p2) [e, e2] [] q) X.env) :: starEach [] X.env := by rfl) :
    CE X W (.Call (.Name "list" p) [.Call (.Name "zip" p2) [e, e2] [] q] [] pos) (mApp vZipX ma) := by
  refine peI (pe_listZipX hc hg hm hv hg2 hm2 ha hs hpl hs1) fun τ H Q ⟨μ, σ, hh, l, r, pp⟩ => ⟨μ, σ, hh, l, r, ?_⟩
  refine (Ps.bind pp).imp fun vs μ1 h1 H1 p1 e1 r1 q1 ws rws => ?_
  unfold vZipX at q1
  split at q1
  · rename_i x y
    cases rws with
    | cons ra rt =>
      cases rt with
      | cons rb rn =>
        cases rn
        cases ex : seqV x h1 with
        | none => rw [ex] at q1; exact q1.elim
        | some xs =>
          cases ey : seqV y h1 with
          | none => rw [ex, ey] at q1; exact q1.elim
          | some ys =>
            rw [ex, ey] at q1
            obtain ⟨a, us, ea, g1, g2⟩ := seqV_ok r1 ra ex
            obtain ⟨b, vs, eb, g3, g4⟩ := seqV_ok r1 rb ey
            subst ea eb
            refine ⟨a, b, us, vs, rfl, g1, g3, fun H' q ts kp hp ht hn hq pr => ?_⟩
            have ex : Ex H1 H' := ⟨fun b ws z => kp b _ z, fun b o u z => kp b _ z⟩
            have rk : HR (gm X) μ1 h1 H' := r1.keepAll kp
            have hq0 : q ∉ μ1 := r1.none hp
            refine q1 (μ1 ++ [q]) H' (List.prefix_append μ1 [q]) ex ?_ _ (.ref (by rw [← r1.len]; simp))
            exact rk.adopt hq0 (fun u e => by rw [hq] at e; cases e; exact ⟨fun _ z => (nomatch z), fun _ z => (nomatch z)⟩) ⟨_, hq, zip_rv (g2.mono (List.prefix_append μ1 [q]) ex.et) (g4.mono (List.prefix_append μ1 [q]) ex.et) pr⟩
  · exact q1.elim
end
end U
namespace U
open PySem L2 PySem.Spec PyProof.Rows PySem.SeqAt
def vEqB (f : Val → Val → Hh → Res Val) (x y : Val) (h : Hh) : Res Val := match x, y with
  | .ref n, .ref m => if n = m then .ok (.bl true) h else f x y h
  | _, _ => .no
def eqFrom (f : Val → Val → Hh → Res Val) (n m : Nat) (neg : Bool) : Nat → Nat → Hh → Res Val
  | 0, k, h => (match h[n]?, h[m]? with
    | some (.lst xs), some (.lst ys) => if xs.length = k ∧ ys.length = k then .ok (.bl (!neg)) h else .no
    | _, _ => .no)
  | d + 1, k, h => (match h[n]?, h[m]? with
    | some (.lst xs), some (.lst ys) => (match xs[k]?, ys[k]? with
      | some x, some y => (f x y h).nr.bind fun v h1 => (match v with
        | .bl true => eqFrom f n m neg d (k + 1) h1
        | .bl false => (match h1[n]?, h1[m]? with
          | some (.lst us), some (.lst ws) => if k < us.length ∧ k < ws.length then .ok (.bl neg) h1 else .no
          | _, _ => .no)
        | _ => .no)
      | _, _ => .no)
    | _, _ => .no)
def vEqLO (f : Val → Val → Hh → Res Val) (neg : Bool) (x y : Val) (h : Hh) : Res Val := match x, y with
  | .ref n, .ref m => (match h[n]?, h[m]? with
    | some (.lst xs), some (.lst ys) => if xs.length = ys.length then eqFrom f n m neg xs.length 0 h else .ok (.bl neg) h
    | _, _ => .no)
  | _, _ => .no
theorem nr_eqFrom {f : Val → Val → Hh → Res Val} {n m : Nat} {neg : Bool} : ∀ d k h z j, eqFrom f n m neg d k h ≠ .rs z j
  | 0, k, h, z, j => by unfold eqFrom; (repeat' split) <;> simp
  | d + 1, k, h, z, j => by
    unfold eqFrom
    split
    · split
      · rename_i x y _ _
        cases e : f x y h with
        | ok v h1 =>
          simp only [nr_ok, bind_ok]
          split
          · exact nr_eqFrom d (k + 1) h1 z j
          · (repeat' split) <;> simp
          · simp
        | _ => simp
      · simp
    · simp
theorem nr_eqLO {f : Val → Val → Hh → Res Val} {neg : Bool} : ∀ x y h z j, vEqLO f neg x y h ≠ .rs z j := fun x y h z j => by
  unfold vEqLO
  split
  · split
    · split
      · exact nr_eqFrom _ _ _ z j
      · simp
    · simp
  · simp
section
variable {X : Cx}
def ItemR (X : Cx) (A : Around) (f : Val → Val → Hh → Res Val) : Prop := ∀ (pins : List (Addr × Obj)) (s : Shared) (τ : L2.St) (H : Hp) (μ : List Addr) (h : Hh) (a b : Val) (x y : V) (v u : Value) (Q : VK) (E : Value → Shared → Prop),
  L2.Inv X pins τ H s → RelV x v → RelV y u → HR (gm X) μ h H → RV (gm X) μ H a x → RV (gm X) μ H b y → Ps (gm X) W0 μ H (f a b h).nr (qV (gm X) Q) → wpAny (model X.prog X.w) A (eqBool v u) (fun t s' => ∃ H', L2.Inv X pins τ H' s' ∧ Q (.bl t) H') E s
theorem rvs_lenU {G : Gm} {μ : List Addr} {H : Hp} : ∀ {xs : List Val} {ws : List V}, RVs G μ H xs ws → ws.length = xs.length
  | _, _, .nil => rfl
  | _, _, .cons _ rs => by rw [List.length_cons, List.length_cons, rvs_lenU rs]
theorem lst_at {pins : List (Addr × Obj)} {s : Shared} {τ : L2.St} {H : Hp} {μ : List Addr} {h : Hh} {n : Nat} {l : Addr} {xs : List Val} (I : L2.Inv X pins τ H s) (r : HR (gm X) μ h H) (e : h[n]? = some (.lst xs)) (q : μ[n]? = some l) :
    ∃ ws its o nn, s.heap.get? l = some o ∧ o.data = Data.seq its nn ∧ o.cls = Value.type "list" ∧ RVs (gm X) μ H xs ws ∧ Vals ws its.toList ∧ its.size = xs.length := by
  obtain ⟨o0, ho, ro⟩ := r.obj q
  rw [e] at ho; cases ho
  obtain ⟨ws, g1, rs⟩ := ro
  obtain ⟨its, rv, ⟨o, nn, h1, h2, _, h4⟩, _⟩ := I.list (a := l) (xs := ws) (.inl (.inl g1))
  refine ⟨ws, its.toArray, o, nn, h1, h4, h2, rs, by simpa using rv, ?_⟩
  have l1 := rv.length
  have l2 : ws.length = xs.length := rvs_lenU rs
  simp
  omega
theorem rvs_at {G : Gm} {μ : List Addr} {H : Hp} : ∀ {xs : List Val} {ws : List V} {us : List Value} {k : Nat} {x : Val}, RVs G μ H xs ws → Vals ws us → xs[k]? = some x → ∃ w u, ws[k]? = some w ∧ us[k]? = some u ∧ RV G μ H x w ∧ RelV w u
  | _, _, _, _, _, .nil, _, e => by simp at e
  | _, _, _, 0, _, .cons r rs, .cons q qs, e => by
    simp at e; subst e
    exact ⟨_, _, rfl, rfl, r, q⟩
  | _, _, _, k + 1, _, .cons r rs, .cons q qs, e => by
    simp at e
    obtain ⟨w, u, h1, h2, h3, h4⟩ := rvs_at rs qs e
    exact ⟨w, u, by simpa using h1, by simpa using h2, h3, h4⟩
theorem entry_eq_loopU : entryFor table "list.__eq__.loop" = some Builtin.«list.__eq__.loop» := by rfl
theorem plain_eq_loopU : plainId "list.__eq__.loop" = true := by decide +kernel
def codeEq (neg : Bool) : Int := if neg then 3 else 2
def SpecEq (X : Cx) (f : Val → Val → Hh → Res Val) (neg : Bool) (l b : Addr) (n m d k : Nat) : PySem.Spec := fun A R s =>
  A = X.A ∧ ∃ (pins : List (Addr × Obj)) (τ : L2.St) (H : Hp) (μ : List Addr) (h : Hh) (Q : VK), L2.Inv X pins τ H s ∧ HR (gm X) μ h H ∧ μ[n]? = some l ∧ μ[m]? = some b ∧ Ps (gm X) W0 μ H (eqFrom f n m neg d k h) (qV (gm X) Q) ∧
    ∀ t H' s', L2.Inv X pins τ H' s' → Q (.bl t) H' → R (.ok (.ret (.bool t))) s'
theorem eq_walk {f : Val → Val → Hh → Res Val} (hf : ItemR X X.A.in1 f) (neg : Bool) (l b : Addr) (n m : Nat) : ∀ d k : Nat, MeetsIn X.prog X.w (Builtin.«list.__eq__.loop» { pos := [Value.ref l, Value.ref b, rawInt (k : Nat), rawInt (codeEq neg)] }) (SpecEq X f neg l b n m d k)
  | 0, k => by
    rintro A R s ⟨rfl, pins, τ, H, μ, h, Q, I, r, qn, qm, p, hR⟩
    unfold eqFrom at p
    split at p
    rotate_left
    · exact p.elim
    rename_i xs ys en em
    split at p
    rotate_left
    · exact p.elim
    rename_i hk
    obtain ⟨ws, its, o, nn, g1, g2, g3, g4, g5, g6⟩ := lst_at I r en qn
    obtain ⟨ws2, its2, o2, nn2, k1, k2, k3, k4, k5, k6⟩ := lst_at I r em qm
    have hq : Q (.bl (!neg)) H := p.at r _ (.bl _)
    unfold Builtin.«list.__eq__.loop»
    have n1 : its[k]? = none := by rw [Array.getElem?_eq_none_iff]; omega
    have n2 : its2[k]? = none := by rw [Array.getElem?_eq_none_iff]; omega
    have hsz : its.size = its2.size := by omega
    cases neg with
    | false =>
      show wpAny _ _ (Builtin.List.listItems (Value.ref l) >>= _) _ _ _
      refine wpAny_bind (wpAny_listItems g1 g2 (wpAny_bind (wpAny_listItems k1 k2 ?_)))
      simp only [Int.toNat_natCast, n1, n2]
      refine wpAny_bind (wpAny_listItems g1 g2 (wpAny_bind (wpAny_listItems k1 k2 ?_)))
      show wpAny _ _ (pure (Fin.done (Flow.ret (Value.bool (its.size == its2.size))))) _ _ _
      refine wpAny_pure ?_
      rw [show (its.size == its2.size) = true by rw [hsz]; simp]
      exact hR _ H s I hq
    | true =>
      show wpAny _ _ (Builtin.List.listItems (Value.ref l) >>= _) _ _ _
      refine wpAny_bind (wpAny_listItems g1 g2 (wpAny_bind (wpAny_listItems k1 k2 ?_)))
      simp only [Int.toNat_natCast, n1, n2]
      refine wpAny_bind (wpAny_listItems g1 g2 (wpAny_bind (wpAny_listItems k1 k2 ?_)))
      show wpAny _ _ (pure (Fin.done (Flow.ret (Value.bool (its.size != its2.size))))) _ _ _
      refine wpAny_pure ?_
      rw [show (its.size != its2.size) = false by rw [hsz]; simp]
      exact hR _ H s I hq
  | d + 1, k => by
    rintro A R s ⟨rfl, pins, τ, H, μ, h, Q, I, r, qn, qm, p, hR⟩
    unfold eqFrom at p
    split at p
    rotate_left
    · exact p.elim
    rename_i xs ys en em
    split at p
    rotate_left
    · exact p.elim
    rename_i x y ex ey
    obtain ⟨ws, its, o, nn, g1, g2, g3, g4, g5, g6⟩ := lst_at I r en qn
    obtain ⟨ws2, its2, o2, nn2, k1, k2, k3, k4, k5, k6⟩ := lst_at I r em qm
    obtain ⟨w1, u1, a1, a2, a3, a4⟩ := rvs_at g4 g5 ex
    obtain ⟨w2, u2, b1, b2, b3, b4⟩ := rvs_at k4 k5 ey
    have n1 : its[k]? = some u1 := by rw [← Array.getElem?_toList]; exact a2
    have n2 : its2[k]? = some u2 := by rw [← Array.getElem?_toList]; exact b2
    unfold Builtin.«list.__eq__.loop»
    have pf : Ps (gm X) W0 μ H (f x y h).nr (qV (gm X) fun v H1 => ∃ t, v = .bl t ∧ ∃ μ1 h1, HR (gm X) μ1 h1 H1 ∧ μ1[n]? = some l ∧ μ1[m]? = some b ∧ (match t with
        | true => Ps (gm X) W0 μ1 H1 (eqFrom f n m neg d (k + 1) h1) (qV (gm X) Q)
        | false => Q (.bl neg) H1 ∧ ∃ us vs, h1[n]? = some (.lst us) ∧ h1[m]? = some (.lst vs) ∧ k < us.length ∧ k < vs.length)) := by
      refine (Ps.bind p).imp fun v μ1 h1 H1 p1 e1 r1 q1 w rw1 => ?_
      cases v with
      | bl t =>
        cases rw1
        refine ⟨t, rfl, μ1, h1, r1, pre_get p1 qn, pre_get p1 qm, ?_⟩
        cases t with
        | true => exact q1
        | false =>
          dsimp only at q1 ⊢
          split at q1
          · rename_i us vs eu ev
            split at q1
            · rename_i hl
              exact ⟨q1.at r1 _ (.bl _), us, vs, eu, ev, hl.1, hl.2⟩
            · exact q1.elim
          · exact q1.elim
      | _ => exact q1.elim
    have back : ∀ (t : Bool) (s' : Shared) (H1 : Hp), L2.Inv X pins τ H1 s' → (∃ t', V.bl t = .bl t' ∧ ∃ μ1 h1, HR (gm X) μ1 h1 H1 ∧ μ1[n]? = some l ∧ μ1[m]? = some b ∧ (match t' with
        | true => Ps (gm X) W0 μ1 H1 (eqFrom f n m neg d (k + 1) h1) (qV (gm X) Q)
        | false => Q (.bl neg) H1 ∧ ∃ us vs, h1[n]? = some (.lst us) ∧ h1[m]? = some (.lst vs) ∧ k < us.length ∧ k < vs.length)) →
        (t = true → codeAny (model X.prog X.w) X.A (Code.builtin "list.__eq__.loop" { pos := [Value.ref l, Value.ref b, rawInt ((k : Int) + 1), rawInt (codeEq neg)] }) R s') ∧
        (t = false → R (.ok (.ret (.bool neg))) s' ∧ ∃ its o nn its2 o2 nn2 v1 v2, s'.heap.get? l = some o ∧ o.data = Data.seq its nn ∧ s'.heap.get? b = some o2 ∧ o2.data = Data.seq its2 nn2 ∧ its[k]? = some v1 ∧ its2[k]? = some v2) := by
      rintro t s' H1 I1 ⟨t', et, μ1, h1, r1, q1n, q1m, hq⟩
      cases et
      constructor
      · rintro rfl
        refine codeAny_builtin entry_eq_loopU ?_
        rw [Around.under_plainId plain_eq_loopU]
        have hw := eq_walk hf neg l b n m d (k + 1) X.A R s' ⟨rfl, pins, τ, H1, μ1, h1, Q, I1, r1, q1n, q1m, hq, hR⟩
        rw [show (((k + 1 : Nat) : Int)) = (k : Int) + 1 by push_cast; rfl] at hw
        exact hw
      · rintro rfl
        obtain ⟨hq, us, vs, eu, ev, lu, lv⟩ := hq
        obtain ⟨_, its', o', nn', j1, j2, _, _, _, j6⟩ := lst_at I1 r1 eu q1n
        obtain ⟨_, its2', o2', nn2', i1, i2, _, _, _, i6⟩ := lst_at I1 r1 ev q1m
        refine ⟨hR _ H1 s' I1 hq, its', o', nn', its2', o2', nn2', _, _, j1, j2, i1, i2, Array.getElem?_eq_getElem (by omega), Array.getElem?_eq_getElem (by omega)⟩
    cases neg with
    | false =>
      show wpAny _ _ (Builtin.List.listItems (Value.ref l) >>= _) _ _ _
      refine wpAny_bind (wpAny_listItems g1 g2 (wpAny_bind (wpAny_listItems k1 k2 ?_)))
      simp only [Int.toNat_natCast, n1, n2]
      refine wpAny_bind (wpAny_mono (hf pins s τ H μ h x y w1 w2 u1 u2 _ _ I a4 b4 r a3 b3 pf) (fun t s' hh => ?_) fun _ _ e => e)
      obtain ⟨H1, I1, hh⟩ := hh
      obtain ⟨bt, bf⟩ := back t s' H1 I1 hh
      cases t with
      | true =>
        simp only [if_true]
        exact wpAny_pure ⟨plainId_quiet plain_eq_loopU _, bt rfl⟩
      | false =>
        obtain ⟨hRf, its', o', nn', its2', o2', nn2', v1, v2, j1, j2, i1, i2, z1, z2⟩ := bf rfl
        simp only [Bool.false_eq_true, if_false]
        refine wpAny_bind (wpAny_listItems j1 j2 (wpAny_bind (wpAny_listItems i1 i2 ?_)))
        simp only [z1, z2]
        exact wpAny_pure hRf
    | true =>
      show wpAny _ _ (Builtin.List.listItems (Value.ref l) >>= _) _ _ _
      refine wpAny_bind (wpAny_listItems g1 g2 (wpAny_bind (wpAny_listItems k1 k2 ?_)))
      simp only [Int.toNat_natCast, n1, n2]
      refine wpAny_bind (wpAny_mono (hf pins s τ H μ h x y w1 w2 u1 u2 _ _ I a4 b4 r a3 b3 pf) (fun t s' hh => ?_) fun _ _ e => e)
      obtain ⟨H1, I1, hh⟩ := hh
      obtain ⟨bt, bf⟩ := back t s' H1 I1 hh
      cases t with
      | true =>
        simp only [if_true]
        exact wpAny_pure ⟨plainId_quiet plain_eq_loopU _, bt rfl⟩
      | false =>
        obtain ⟨hRf, its', o', nn', its2', o2', nn2', v1, v2, j1, j2, i1, i2, z1, z2⟩ := bf rfl
        simp only [Bool.false_eq_true, if_false]
        refine wpAny_bind (wpAny_listItems j1 j2 (wpAny_bind (wpAny_listItems i1 i2 ?_)))
        simp only [z1, z2]
        exact wpAny_pure hRf
theorem eqLO_gen {op : CmpOp} {id : String} {B : Builtin} {neg : Bool} {f : Val → Val → Hh → Res Val} (hf : ItemR X X.A.in1 f) (hu : X.A.units + 64 < cLine) (hop : op = if neg then .NotEq else .Eq) (hsl : Slot "list" (cmpInfo op).snd.fst id) (hen : entryFor table id = some B) (har : ∀ a b : Value, argsOk id { pos := [a, b] })
    (hB : ∀ (l b : Addr) (n m : Nat) (xs ys : List Val), MeetsIn X.prog X.w (B { pos := [Value.ref l, Value.ref b] }) (fun A R s => A = X.A ∧ ∃ (pins : List (Addr × Obj)) (τ : L2.St) (H : Hp) (μ : List Addr) (h : Hh) (Q : VK), L2.Inv X pins τ H s ∧ HR (gm X) μ h H ∧ μ[n]? = some l ∧ μ[m]? = some b ∧ h[n]? = some (.lst xs) ∧ h[m]? = some (.lst ys) ∧ Ps (gm X) W0 μ H (if xs.length = ys.length then eqFrom f n m neg xs.length 0 h else .ok (.bl neg) h) (qV (gm X) Q) ∧
      ∀ t H' s', L2.Inv X pins τ H' s' → Q (.bl t) H' → R (.ok (.ret (.bool t))) s')) : OpR X (compareOp op) (rM2 (gm X) W0 (vEqLO f neg)) := by
  intro pins s τ H x y v u Q I rx ry p
  obtain ⟨μ, hh, a, b, r, ra, rb, p⟩ := p
  unfold vEqLO at p
  split at p
  rotate_left
  · exact p.elim
  rename_i n m
  split at p
  rotate_left
  · exact p.elim
  rename_i xs ys en em
  cases ra with
  | @ref _ ad qa =>
  cases rb with
  | @ref _ bd qb =>
  cases rx
  cases ry
  obtain ⟨ws, its, o, nn, g1, g2, g3, g4, g5, g6⟩ := lst_at I r en qa
  obtain ⟨ws2, its2, o2, nn2, k1, k2, k3, k4, k5, k6⟩ := lst_at I r em qb
  have main : wpAny (model X.prog X.w) X.A (richCompare op (.ref ad) (.ref bd)) (EP X pins τ Q) X.xe s := by
    refine wpAny_richCompare_same_room (op := op) (T := "list") ⟨o, g1, g3⟩ ⟨o2, k1, k3⟩ hsl ?_ (by omega)
    refine call_meetsIn hsl ⟨o, g1, g3⟩ hen (har _ _) (hB ad bd n m xs ys) ⟨rfl, pins, τ, H, μ, hh, Q, I, r, qa, qb, en, em, p, fun t H' s' I' q => ?_⟩
    exact ⟨(fun z => nomatch z), V.bl t, H', I', rfl, q⟩
  subst hop
  cases neg <;> exact main
theorem list_ne_meets {f : Val → Val → Hh → Res Val} (hf : ItemR X X.A.in1 f) (l b : Addr) (n m : Nat) (xs ys : List Val) : MeetsIn X.prog X.w (Builtin.«list.__ne__» { pos := [Value.ref l, Value.ref b] }) (fun A R s => A = X.A ∧ ∃ (pins : List (Addr × Obj)) (τ : L2.St) (H : Hp) (μ : List Addr) (h : Hh) (Q : VK), L2.Inv X pins τ H s ∧ HR (gm X) μ h H ∧ μ[n]? = some l ∧ μ[m]? = some b ∧ h[n]? = some (.lst xs) ∧ h[m]? = some (.lst ys) ∧ Ps (gm X) W0 μ H (if xs.length = ys.length then eqFrom f n m true xs.length 0 h else .ok (.bl true) h) (qV (gm X) Q) ∧
      ∀ t H' s', L2.Inv X pins τ H' s' → Q (.bl t) H' → R (.ok (.ret (.bool t))) s') := by
  rintro A R s ⟨rfl, pins, τ, H, μ, h, Q, I, r, qn, qm, en, em, p, hR⟩
  obtain ⟨ws, its, o, nn, g1, g2, g3, g4, g5, g6⟩ := lst_at I r en qn
  obtain ⟨ws2, its2, o2, nn2, k1, k2, k3, k4, k5, k6⟩ := lst_at I r em qm
  unfold Builtin.«list.__ne__»
  show wpAny _ _ (isInstance (Value.ref b) (Value.type "list") >>= _) _ _ _
  refine wpAny_bind (wpAny_isInstance (T := "list") ⟨o2, k1, k3⟩ PySem.F.sub_list_list ?_)
  simp only [Bool.not_true, Bool.false_eq_true, if_false]
  show wpAny _ _ (Builtin.List.listItems (Value.ref l) >>= _) _ _ _
  refine wpAny_bind (wpAny_listItems g1 g2 (wpAny_bind (wpAny_listItems k1 k2 ?_)))
  by_cases hs : its.size = its2.size
  · rw [if_neg (by simp [hs])]
    rw [if_pos (show xs.length = ys.length by omega)] at p
    show wpAny _ _ (pure (Fin.again (Code.builtin "list.__eq__.loop" { pos := [Value.ref l, Value.ref b, rawInt 0, rawInt 3] }))) _ _ _
    refine wpAny_pure ⟨plainId_quiet plain_eq_loopU _, ?_⟩
    refine codeAny_builtin entry_eq_loopU ?_
    rw [Around.under_plainId plain_eq_loopU]
    exact eq_walk hf true l b n m xs.length 0 X.A R s ⟨rfl, pins, τ, H, μ, h, Q, I, r, qn, qm, p, hR⟩
  · rw [if_pos (by simpa using hs)]
    rw [if_neg (show ¬ xs.length = ys.length by omega)] at p
    refine wpAny_bind (wpAny_rule (wpAny_pure ?_))
    exact hR _ H s I (p.at r _ (.bl _))
theorem o_neLO {f : Val → Val → Hh → Res Val} (hf : ItemR X X.A.in1 f) (hu : X.A.units + 64 < cLine) : OpR X (compareOp .NotEq) (rM2 (gm X) W0 (vEqLO f true)) :=
  eqLO_gen hf hu rfl PySem.F.slot_list_ne PySem.F.entry_list_ne PySem.F.args_list_ne_2 (list_ne_meets hf)
theorem nr_idU {r : Res Val} (h : ∀ z k, r ≠ .rs z k) : r.nr = r := by
  cases r with
  | rs z k => exact absurd rfl (h z k)
  | _ => rfl
theorem item_own {W : WX} {j k n : Nat} {F : Fn} {C : Str} {cs : List Str} (c : Cok X W k) (T : SpAt X.prog X.w X.K X.mg X.base C "__eq__" j n F) (hj : j + 1 ≤ k) (ap : Apart X.K X.mg C cs) : ItemR X X.A.in1 (vEqB (vOwn C cs n F false)) := by
  intro pins s τ H μ h a b x y v u Q E I rx ry r ra rb p
  obtain ⟨Ca, f, fd, ps, hm, hs, hf, hb, T⟩ := T.ex
  unfold vEqB at p
  split at p
  rotate_left
  · exact p.elim
  rename_i n1 m1
  cases ra with
  | @ref _ ad qa =>
  cases rb with
  | @ref _ bd qb =>
  cases rx
  cases ry
  unfold eqBool
  refine wpAny_holding ?_
  by_cases hnm : n1 = m1
  · subst hnm
    rw [if_pos rfl] at p
    rw [qa] at qb
    cases qb
    rw [if_pos (by simp)]
    exact wpAny_bind (wpAny_rule (wpAny_pure ⟨H, I, p.at r _ (.bl _)⟩))
  · rw [if_neg hnm] at p
    rw [nr_idU (nr_own _ _ _)] at p
    have hne : ad ≠ bd := fun z => by
      subst z
      have h1 := (List.getElem?_eq_some_iff.mp qa)
      have h2 := (List.getElem?_eq_some_iff.mp qb)
      obtain ⟨l1, e1⟩ := h1
      obtain ⟨l2, e2⟩ := h2
      rcases Nat.lt_or_gt_of_ne hnm with hlt | hlt
      · exact absurd (e1.trans e2.symm) ((List.pairwise_iff_getElem.mp r.nd) n1 m1 l1 l2 hlt)
      · exact absurd (e2.trans e1.symm) ((List.pairwise_iff_getElem.mp r.nd) m1 n1 l2 l1 hlt)
    rw [if_neg (by simpa using hne)]
    show wpAny _ _ (richCompare .Eq (Value.ref ad) (Value.ref bd) >>= truthOfDropped) _ _ _
    refine wpAny_bind ?_
    unfold vOwn at p
    split at p
    rotate_left
    · exact p.elim
    rename_i hi
    obtain ⟨ad', dx, gs, ex, ea⟩ := isIn_ok r (RV.ref qa) hi hm
    cases ex
    obtain ⟨mA, O, _⟩ := ins_get I.hok ea
    obtain ⟨od, J, _⟩ := O.look
    obtain ⟨m, hF⟩ := I.fr
    obtain ⟨t1, t2⟩ := ty_looks (u := Value.ref bd) I r (RV.ref qb) rfl
    have fin : ∀ tb, PySem.W.Looks (model X.prog X.w) s.heap (typeOf (Value.ref bd)) tb → PySem.W.notFirst X.K Ca tb = true → Ps (gm X) W0 μ H ((callF n F [.ref n1, .ref m1] h).nr.bind fun v h1 => (match v with | .bl b => .ok (.bl (if false then !b else b)) h1 | _ => .no)) (qV (gm X) Q) → wpAny (model X.prog X.w) X.A.in1 (richCompare .Eq (Value.ref ad) (Value.ref bd)) (fun a s' => wpAny (model X.prog X.w) X.A.in1 (truthOfDropped a) (fun t s' => ∃ H', L2.Inv X pins τ H' s' ∧ Q (.bl t) H') E s') E s := fun tb lt nf p => by
      refine PySem.W.cmp_K (op := .Eq) (tb := tb) c.hu hF I.ok.mod.kin J lt nf hs hf ?_
      refine thn (run_call1 (us := [.ref ad, .ref bd]) (vs := [.ref ad, .ref bd]) c hj T hb I (.cons rfl (.cons rfl .nil)) (own_sp r (RV.ref qa) (RV.ref qb) p)) fun w s' ⟨z, H', I', rz, bb, ez, q⟩ => ?_
      subst ez
      cases rz
      show wpAny _ _ (truthy (.bool bb)) _ _ _
      exact wpAny_truthy_bool ⟨H', I', q⟩
    cases ey : tyNm (.ref m1) h with
    | none => rw [ey] at p; exact p.elim
    | some t =>
      rw [ey] at p
      cases t with
      | inl T => exact fin _ (t1 T ey) (notFirst_b (tyNm_b ey)) p
      | inr D =>
        dsimp only at p
        split at p
        · rename_i hD
          obtain ⟨Da, hDa, lt⟩ := t2 D ey
          exact fin _ lt (ap D hD Ca Da hm hDa) p
        · exact p.elim
end
end U
namespace U
open PySem L2 PyProof.Rows PySem.W
section
variable {X : Cx} {W : WX} {k : Nat}
end
end U
noncomputable section
namespace U
open PySem L2
def kCs : List Str := ["Songs"]
def kTys : List String := ["bool", "dict", "int", "list", "str", "tuple"]
def b__law_begin_1 : MS :=
  (msRet (mDisp [((mC (.str "large")), (mVar 1)), ((mC (.str "cells")), (mApp vList (maCons (mVar 0) maNil))), ((mC (.str "rest")), (mC (.int 0))), ((mC (.str "turn")), (mC (.int 0))), ((mC (.str "mix")), (mC (.int 7)))]))
def b__law_begin : MS :=
  (msSeq (msAsg (mLc (miVal (mVar 0)) [2] (.one 2) (tBl (mOp vGe (mApp vAbs (maCons (mVar 2) maNil)) (mOp vPow (mC (.int 10)) (mC (.int 18))))) (mApp vAbs (maCons (mVar 2) maNil))) (mgName 1))
  b__law_begin_1)
def f__law_begin : Fn := mkFn 3 b__law_begin
def b__law_take_1 : MS :=
  (msAsg (mOp vMod (mApp vInt (maCons (mOp vPow (mOp vIx (mVar 0) (mC (.str "mix"))) (mC (.int 5))) maNil)) (mC (.int 2305843009213693951))) (mgSub (mVar 0) (mC (.str "rest"))))
def b__law_take_2 : MS :=
  (msSeq (msFor (miVal (mOp vAdd (mApp vLst (maCons (mOp vIx (mVar 0) (mC (.str "turn"))) maNil)) (mOp vIx (mVar 0) (mC (.str "cells"))))) (mgName 2)
  (msAsg (mOp vMod (mApp vInt (maCons (mOp vAdd (mOp vAdd (mOp vMulA (mOp vIx (mVar 0) (mC (.str "mix"))) (mC (.int 69621))) (mOp vMulA (mVar 2) (mC (.int 48271)))) (mC (.int 12345))) maNil)) (mC (.int 2147483629))) (mgSub (mVar 0) (mC (.str "mix")))))
  b__law_take_1)
def b__law_take_3 : MS :=
  (msRet (mVar 3))
def b__law_take_4 : MS :=
  (msSeq (msAsg (mApp vDm (maCons (mOp vIx (mVar 0) (mC (.str "rest"))) (maCons (mVar 1) maNil))) (mgTup 2 (mgCons (mgSub (mVar 0) (mC (.str "rest"))) (mgCons (mgName 3) mgNil))))
  b__law_take_3)
def b__law_take : MS :=
  (msSeq (msIf (tAnd2 (tBl (mOp (vEqD false) (mOp vIx (mVar 0) (mC (.str "rest"))) (mC (.int 0)))) (tBl (mOp (vEqD true) (mOp vIx (mVar 0) (mC (.str "large"))) (mApp vLst maNil))))
  (msAsg (mMt "list" vPop (mOp vIx (mVar 0) (mC (.str "large"))) (maCons (mC (.int 0)) maNil)) (mgSub (mVar 0) (mC (.str "rest"))))
  (msIf (tBl (mOp (vEqD false) (mOp vIx (mVar 0) (mC (.str "rest"))) (mC (.int 0))))
  (msSeq (msAsg (mOp vAdd (mOp vIx (mVar 0) (mC (.str "turn"))) (mC (.int 1))) (mgSub (mVar 0) (mC (.str "turn"))))
  b__law_take_2)
  msNil))
  b__law_take_4)
def f__law_take : Fn := mkFn 4 b__law_take
def b__law_pick : MS :=
  (msRet (mOp vIx (mVar 1) (mApp (callF 2 f__law_take) (maCons (mVar 0) (maCons (mApp vLen (maCons (mVar 1) maNil)) maNil)))))
def f__law_pick : Fn := mkFn 2 b__law_pick
def b__law_names_1 : MS :=
  (msExpr (mMt "list" vAppend (mVar 4) (maCons (mOp vIx (mLc (miVal (mVar 7)) [10] (.one 10) (tBl (mOp (vIn true) (mVar 10) (mVar 4))) (mVar 10)) (mC (.int 0))) maNil)))
def b__law_names_2 : MS :=
  (msSeq (msAsg (mOp vAdd (mApp vLst (maCons (mVar 6) maNil)) (mLc (miVal (mVar 3)) [9] (.one 9) tTrue (mOp vAdd (mSl (mVar 6) mpNo (mpE (mC (.int 7)))) (mVar 9)))) (mgName 7))
  b__law_names_1)
def b__law_names_3 : MS :=
  (msSeq (msIf (tBl (mOp (vEqD false) (mApp (callF 2 f__law_take) (maCons (mVar 0) (maCons (mC (.int 3)) maNil))) (mC (.int 0))))
  (msAsg (mMt "str" vJoin (mC (.str "")) (maCons (mLc (miRng1 (mApp (callF 2 f__law_pick) (maCons (mVar 0) (maCons (mApp vLst (maCons (mC (.int 1)) (maCons (mC (.int 2)) (maCons (mC (.int 3)) (maCons (mC (.int 8)) maNil))))) maNil)))) [8] (.one 8) tTrue (mApp (callF 2 f__law_pick) (maCons (mVar 0) (maCons (mVar 3) maNil)))) maNil)) (mgName 6))
  msNil)
  b__law_names_2)
def b__law_names_4 : MS :=
  (msRet (mVar 4))
def b__law_names_5 : MS :=
  (msSeq (msFor (miRng1 (mVar 1)) (mgName 5)
  (msSeq (msAsg (mApp (callF 2 f__law_pick) (maCons (mVar 0) (maCons (mVar 2) maNil))) (mgName 6))
  b__law_names_3))
  b__law_names_4)
def b__law_names_6 : MS :=
  (msSeq (msAsg (mApp vTup (maCons (mC (.str "abcdefghijklmnopqrstuvwxyz")) (maCons (mApp vLst maNil) maNil))) (mgTup 2 (mgCons (mgName 3) (mgCons (mgName 4) mgNil))))
  b__law_names_5)
def b__law_names : MS :=
  (msSeq (msAsg (mApp vLst (maCons (mC (.str "a")) (maCons (mC (.str "b")) (maCons (mC (.str "ab")) (maCons (mC (.str "kind")) (maCons (mC (.str "song")) (maCons (mC (.str "play")) (maCons (mC (.str "pop")) (maCons (mC (.str "zzzzzzzz")) maNil))))))))) (mgName 2))
  b__law_names_6)
def f__law_names : Fn := mkFn 11 b__law_names
def b__law_number_rows_1 : MS :=
  (msRet (mLc (miVal (mApp vSortD (maCons (mLc (miVal (mVar 2)) [7] (.one 7) tTrue (mApp vTup (maCons (mApp vSumX (maCons (mVar 7) maNil)) (maCons (mVar 7) maNil)))) maNil))) [6, 7] (.many [6, 7]) (tBl (mOp vGt (mVar 6) (mC (.int 0)))) (mVar 7)))
def b__law_number_rows_2 : MS :=
  (msSeq (msIf (tBl (mOp (vEqD false) (mVar 0) (mC (.int 2))))
  (msAsg (mLc (miVal (mLc (miRng1 (mOp vMulA (mOp vAdd (mVar 1) (mC (.int 1))) (mOp vAdd (mVar 1) (mC (.int 1))))) [5] (.one 5) tTrue (mApp vDm (maCons (mVar 5) (maCons (mOp vAdd (mVar 1) (mC (.int 1))) maNil))))) [3, 4] (.many [3, 4]) tTrue (mApp vTup (maCons (mVar 3) (maCons (mVar 4) maNil)))) (mgName 2))
  msNil)
  b__law_number_rows_1)
def b__law_number_rows : MS :=
  (msSeq (msAsg (mLc (miRng1 (mOp vAdd (mVar 1) (mC (.int 1)))) [3] (.one 3) tTrue (mApp vTup (maCons (mVar 3) maNil))) (mgName 2))
  b__law_number_rows_2)
def f__law_number_rows : Fn := mkFn 8 b__law_number_rows
def b_is_name_1 : MS :=
  (msRet (mApp vAll (maCons (mLc (miVal (mVar 0)) [1] (.one 1) tTrue (mOp (vIn false) (mVar 1) (mC (.str "abcdefghijklmnopqrstuvwxyz")))) maNil)))
def b_is_name : MS :=
  (msSeq (msIf (tOr2 (tNot1 (tVal (mApp (vIsi kCs kTys) (maCons (mVar 0) (maCons (mC (.ty "str")) maNil))))) (tNot1 (tBl (mChain vLe vLe (mC (.int 1)) (mApp vLen (maCons (mVar 0) maNil)) (mC (.int 8))))))
  (msRet (mC (.bl false)))
  msNil)
  b_is_name_1)
def f_is_name : Fn := mkFn 2 b_is_name
def b_is_integer : MS :=
  (msRet (mAnd (mApp (vIsi kCs kTys) (maCons (mVar 0) (maCons (mC (.ty "int")) maNil))) (mNot (mApp (vIsi kCs kTys) (maCons (mVar 0) (maCons (mC (.ty "bool")) maNil))))))
def f_is_integer : Fn := mkFn 1 b_is_integer
def b_is_number : MS :=
  (msRet (mAnd (mApp (callF 1 f_is_integer) (maCons (mVar 0) maNil)) (mOp vGe (mVar 0) (mC (.int 0)))))
def f_is_number : Fn := mkFn 1 b_is_number
def b_Songs_init_1 : MS :=
  (msAsg (mOp vIx (mVar 1) (mVar 2)) (mgSub (mUn (vFld kCs "s_numbers") (mVar 0)) (mVar 2)))
def b_Songs_init_2 : MS :=
  (msIf (tBl (mOp (vEqD false) (mApp vSum (maCons (mVals (mUn (vFld kCs "s_numbers") (mVar 0))) maNil)) (mC (.int 0))))
  msNo
  msNil)
def b_Songs_init_3 : MS :=
  (msSeq (msFor (miVal (mApp vSortS (maCons (mVar 1) maNil))) (mgName 2)
  (msSeq (msIf (tNot1 (tVal (mApp (callF 1 f_is_number) (maCons (mOp vIx (mVar 1) (mVar 2)) maNil))))
  msNo
  msNil)
  b_Songs_init_1))
  b_Songs_init_2)
def b_Songs_init_4 : MS :=
  (msSeq (msFld kCs "s_numbers" (mVar 0) vNewD)
  b_Songs_init_3)
def b_Songs_init_5 : MS :=
  (msSeq (msIf (tNot1 (tVal (mApp vAll (maCons (mLc (miVal (mVar 1)) [2] (.one 2) tTrue (mApp (callF 1 f_is_name) (maCons (mVar 2) maNil))) maNil))))
  msNo
  msNil)
  b_Songs_init_4)
def b_Songs_init : MS :=
  (msSeq (msIf (tOr2 (tNot1 (tVal (mApp (vIsi kCs kTys) (maCons (mVar 1) (maCons (mC (.ty "dict")) maNil))))) (tNot1 (tBl (mChain vLe vLe (mC (.int 1)) (mApp vLen (maCons (mVar 1) maNil)) (mC (.int 3))))))
  msNo
  msNil)
  b_Songs_init_5)
def f_Songs_init : Fn := mkFn 3 b_Songs_init
def b__law_songs : MS :=
  (msRet (mApp (fun vs => mkI "Songs" 2 f_Songs_init (vs ++ [])) (maCons (mApp vDict (maCons (mItems (mOp vIx (mVar 0) (mC (.str "numbers")))) maNil)) maNil)))
def f__law_songs : Fn := mkFn 1 b__law_songs
def b__law_with_1 : MS :=
  (msRet (mVar 3))
def b__law_with_2 : MS :=
  (msSeq (msAsg (mApp vDict (maCons (mApp vZipX (maCons (mVar 1) (maCons (mVar 2) maNil))) maNil)) (mgSub (mVar 3) (mC (.str "numbers"))))
  b__law_with_1)
def b__law_with : MS :=
  (msSeq (msAsg (mApp vDict (maCons (mItems (mVar 0)) maNil)) (mgName 3))
  b__law_with_2)
def f__law_with : Fn := mkFn 4 b__law_with
def b_is_list : MS :=
  (msRet (mApp (vIsi kCs kTys) (maCons (mVar 0) (maCons (mApp vTup (maCons (mC (.ty "list")) (maCons (mC (.ty "tuple")) maNil))) maNil))))
def f_is_list : Fn := mkFn 1 b_is_list
def b_need_kinds_1 : MS :=
  (msRet (mApp vSortX (maCons (mVar 0) maNil)))
def b_need_kinds_2 : MS :=
  (msSeq (msIf (tBl (mOp vLt (mUn vLenSet (mVar 0)) (mApp vLen (maCons (mVar 0) maNil))))
  msNo
  msNil)
  b_need_kinds_1)
def b_need_kinds : MS :=
  (msSeq (msIf (tOr2 (tNot1 (tVal (mApp (callF 1 f_is_list) (maCons (mVar 0) maNil)))) (tOr2 (tNot1 (tBl (mChain vLe vLe (mC (.int 1)) (mApp vLen (maCons (mVar 0) maNil)) (mC (.int 2))))) (tNot1 (tVal (mApp vAll (maCons (mLc (miVal (mVar 0)) [1] (.one 1) tTrue (mApp (callF 1 f_is_name) (maCons (mVar 1) maNil))) maNil))))))
  msNo
  msNil)
  b_need_kinds_2)
def f_need_kinds : Fn := mkFn 2 b_need_kinds
def b_number_rows_1 : MS :=
  (msRet (mVar 2))
def b_number_rows_2 : MS :=
  (msSeq (msFor (miRng1 (mVar 0)) (mgName 3)
  (msAsg (mLc2 (miVal (mVar 2)) [4, 5] (.one 4) tTrue (miRng1 (mOp vAdd (mVar 1) (mC (.int 1)))) [5] (.one 5) tTrue (mApp vTup (maStar (mVar 4) (maCons (mVar 5) maNil)))) (mgName 2)))
  b_number_rows_1)
def b_number_rows : MS :=
  (msSeq (msAsg (mApp vLst (maCons (mApp vTup maNil) maNil)) (mgName 2))
  b_number_rows_2)
def f_number_rows : Fn := mkFn 6 b_number_rows
def b_songs_by : MS :=
  (msRet (mApp (fun vs => mkI "Songs" 2 f_Songs_init (vs ++ [])) (maCons (mApp vDictZ (maCons (mVar 0) (maCons (mVar 1) maNil))) maNil)))
def f_songs_by : Fn := mkFn 2 b_songs_by
def b_lists_of_1 : MS :=
  (msRet (mLc (miVal (mApp vSortD (maCons (mVar 2) maNil))) [4, 3] (.many [4, 3]) tTrue (mApp (callF 2 f_songs_by) (maCons (mVar 0) (maCons (mVar 3) maNil)))))
def b_lists_of : MS :=
  (msSeq (msAsg (mLc (miVal (mApp (callF 2 f_number_rows) (maCons (mApp vLen (maCons (mVar 0) maNil)) (maCons (mVar 1) maNil)))) [3] (.one 3) (tBl (mOp vGt (mApp vSumX (maCons (mVar 3) maNil)) (mC (.int 0)))) (mApp vTup (maCons (mApp vSumX (maCons (mVar 3) maNil)) (maCons (mVar 3) maNil)))) (mgName 2))
  b_lists_of_1)
def f_lists_of : Fn := mkFn 5 b_lists_of
def b_lists_up_to_1 : MS :=
  (msRet (mApp (callF 2 f_lists_of) (maCons (mVar 2) (maCons (mVar 1) maNil))))
def b_lists_up_to_2 : MS :=
  (msSeq (msIf (tOr2 (tNot1 (tVal (mApp (callF 1 f_is_integer) (maCons (mVar 1) maNil)))) (tNot1 (tBl (mChain vLe vLe (mC (.int 1)) (mVar 1) (mC (.int 9))))))
  msNo
  msNil)
  b_lists_up_to_1)
def b_lists_up_to : MS :=
  (msSeq (msAsg (mApp (callF 1 f_need_kinds) (maCons (mVar 0) maNil)) (mgName 2))
  b_lists_up_to_2)
def f_lists_up_to : Fn := mkFn 3 b_lists_up_to
def b_Songs_eq : MS :=
  (msRet (mAnd (mApp (vIsi kCs kTys) (maCons (mVar 1) (maCons (mC (.gl "Songs")) maNil))) (mOp vEqI (mUn (vFld kCs "s_numbers") (mVar 1)) (mUn (vFld kCs "s_numbers") (mVar 0)))))
def f_Songs_eq : Fn := mkFn 2 b_Songs_eq
def b_Songs_numbers : MS :=
  (msRet (mApp vDict (maCons (mUn (vFld kCs "s_numbers") (mVar 0)) maNil)))
def f_Songs_numbers : Fn := mkFn 1 b_Songs_numbers
def b_law_1 : MS :=
  (msIf (tBl (mOp (vEqD true) (mApp vRepr (maCons (mProp "Songs" f_Songs_numbers (mOp vIx (mVar 5) (mVar 8))) maNil)) (mApp vRepr (maCons (mProp "Songs" f_Songs_numbers (mOp vIx (mApp (callF 2 f_lists_up_to) (maCons (mVar 3) (maCons (mVar 4) maNil))) (mVar 8))) maNil))))
  (msRet (mC (.bl false)))
  msNil)
def b_law_2 : MS :=
  (msSeq (msAsg (mApp (callF 2 f__law_take) (maCons (mVar 1) (maCons (mApp vLen (maCons (mVar 5) maNil)) maNil))) (mgName 8))
  b_law_1)
def b_law_3 : MS :=
  (msSeq (msIf (tBl (mOp (vEqLO (vEqB (vOwn "Songs" kCs 2 f_Songs_eq false)) true) (mKw 0 2 [1, 0] [] 2 f_lists_up_to maNil (maCons (mVar 4) (maCons (mApp vTuple (maCons (mUn vRev (mVar 3)) maNil)) maNil))) (mVar 5)))
  (msRet (mC (.bl false)))
  msNil)
  b_law_2)
def b_law_4 : MS :=
  (msSeq (msExpr (mMt "list" vAppend (mVar 6) (maCons (mC .non) maNil)))
  b_law_3)
def b_law_5 : MS :=
  (msSeq (msIf (tOr2 (tNot1 (tVal (mApp (vIsi kCs kTys) (maCons (mVar 6) (maCons (mC (.ty "list")) maNil))))) (tOr2 (tBl (mOp (vEqLO (vEqB (vOwn "Songs" kCs 2 f_Songs_eq false)) true) (mVar 6) (mVar 5))) (tBl (mOp (vEqD true) (mApp vRepr (maCons (mVar 3) maNil)) (mVar 7)))))
  (msRet (mC (.bl false)))
  msNil)
  b_law_4)
def b_law_6 : MS :=
  (msSeq (msPar 6 7 (maCons (mApp (callF 2 f_lists_up_to) (maCons (mVar 3) (maCons (mVar 4) maNil))) (maCons (mApp vRepr (maCons (mVar 3) maNil)) maNil)))
  b_law_5)
def b_law_7 : MS :=
  (msSeq (msAsg (mLc (miVal (mApp (callF 2 f__law_number_rows) (maCons (mApp vLen (maCons (mVar 3) maNil)) (maCons (mVar 4) maNil)))) [9] (.one 9) tTrue (mApp (callF 1 f__law_songs) (maCons (mApp (callF 3 f__law_with) (maCons vNewD (maCons (mApp vSortS (maCons (mVar 3) maNil)) (maCons (mVar 9) maNil)))) maNil))) (mgName 5))
  b_law_6)
def b_law_8 : MS :=
  (msRet (mC (.bl true)))
def b_law_9 : MS :=
  (msSeq (msFor (miRng1 (mOp vAdd (mC (.int 3)) (mApp vMin (maCons (mApp vLen (maCons (mVar 0) maNil)) (maCons (mC (.int 8)) maNil))))) (mgName 2)
  (msSeq (msAsg (mApp vTup (maCons (mApp (callF 2 f__law_names) (maCons (mVar 1) (maCons (mOp vAdd (mC (.int 1)) (mApp (callF 2 f__law_take) (maCons (mVar 1) (maCons (mC (.int 2)) maNil)))) maNil))) (maCons (mOp vAdd (mC (.int 1)) (mApp (callF 2 f__law_take) (maCons (mVar 1) (maCons (mC (.int 9)) maNil)))) maNil))) (mgTup 2 (mgCons (mgName 3) (mgCons (mgName 4) mgNil))))
  b_law_7))
  b_law_8)
def b_law : MS :=
  (msSeq (msAsg (mApp (callF 1 f__law_begin) (maCons (mVar 0) maNil)) (mgName 1))
  b_law_9)
def f_law : Fn := mkFn 10 b_law
end U
end
namespace U
open PySem L2
def top (i : Nat) : Stmt := PySem.Challenge.pw_unheard_k32_lists_in_order.main.body.getD i (.Pass ⟨0, 0, 0, 0⟩)
structure Txt (P : Program) (K : PySem.W.Frag) (mg : Str → Option Value) (base : Heap) : Prop where
  sys : SysAt base
  isa : IsaOk K mg kCs kTys
  n_abs : mg "abs" = none
  n_all : mg "all" = none
  n_bool : mg "bool" = none
  n_dict : mg "dict" = none
  n_divmod : mg "divmod" = none
  n_int : mg "int" = none
  n_isinstance : mg "isinstance" = none
  n_len : mg "len" = none
  n_list : mg "list" = none
  n_min : mg "min" = none
  n_range : mg "range" = none
  n_repr : mg "repr" = none
  n_set : mg "set" = none
  n_sorted : mg "sorted" = none
  n_str : mg "str" = none
  n_sum : mg "sum" = none
  n_tuple : mg "tuple" = none
  n_zip : mg "zip" = none
  g_LETTERS : ∃ t, mg "LETTERS" = some (.str "abcdefghijklmnopqrstuvwxyz" t)
  g_LONGEST_NAME : ∃ t, mg "LONGEST_NAME" = some (.int 8 t)
  g_MOST_KINDS_lists : ∃ t, mg "MOST_KINDS_lists" = some (.int 2 t)
  g_MOST_KINDS_songs : ∃ t, mg "MOST_KINDS_songs" = some (.int 3 t)
  g_MOST_LISTED : ∃ t, mg "MOST_LISTED" = some (.int 9 t)
  m_Songs : ∃ f, mg "Songs" = some (.ref f)
  fl_s_numbers : FldOk K mg kCs "s_numbers"
  ap_Songs : Apart K mg "Songs" kCs
  ne_Songs : NeOk K mg "Songs"
section
variable {P : Program} {w : World} {K : PySem.W.Frag} {mg : Str → Option Value} {base : Heap}
theorem sc__law_begin : FnScope ["_law_script", "_law_large", "_law_cell"] ["_law_script"] (defScope (top 26)) := ⟨rfl, rfl, rfl, by decide +kernel, rfl, by decide +kernel, by decide +kernel⟩
theorem d__law_begin (T : Txt P K mg base)  : Bd P w K mg base ["_law_script", "_law_large", "_law_cell"] "_law_begin" (top 26) 0 b__law_begin := fun f cdv A outer s H E c =>
  (b_cons (t_setLc 1 (own := [("_law_cell", 2)]) (t := (.one 2)) c (i_val (s_var 0)) (li_val _) (blkOk_by (N := ["_law_script", "_law_large", "_law_cell"]) (sc := defScope (top 26)) (by decide +kernel)) (by decide) (fun _ _ _ _ _ => (lg_one (c.blk _ _ _ _ _).nd)) (fun _ _ _ _ _ => (ts_one (c_cmp o_ge nr_ord (s_blt c_abs nr_abs T.n_abs rfl (a_cons (s_var 2) a_nil)) (s_op o_pow nr_pow s_int s_int)))) (fun _ _ _ _ _ => (s_blt c_abs nr_abs T.n_abs rfl (a_cons (s_var 2) a_nil))) (sw_true rfl rfl rfl (by decide +kernel)))
  (b_one (t_ret (s_disp [((mC (.str "large")), (mVar 1)), ((mC (.str "cells")), (mApp vList (maCons (mVar 0) maNil))), ((mC (.str "rest")), (mC (.int 0))), ((mC (.str "turn")), (mC (.int 0))), ((mC (.str "mix")), (mC (.int 7)))] (pps_cons s_str (s_var 1) (pps_cons s_str (s_typ (c_list c.calm) nr_list T.n_list rfl (a_cons (s_var 0) a_nil)) (pps_cons s_str s_int (pps_cons s_str s_int (pps_cons s_str s_int pps_nil)))))))))
theorem sc__law_take : FnScope ["_law_draw", "_law_size", "_law_cell", "_law_found"] ["_law_draw", "_law_size"] (defScope (top 27)) := ⟨rfl, rfl, rfl, by decide +kernel, rfl, by decide +kernel, by decide +kernel⟩
theorem d__law_take (T : Txt P K mg base)  : Bd P w K mg base ["_law_draw", "_law_size", "_law_cell", "_law_found"] "_law_take" (top 27) 0 b__law_take := fun f cdv A outer s H E c =>
  (b_cons (t_if (PW.pt (c_and (c_cmp (o_eq c.u64) nr_eqd (s_ix c (s_var 0) s_str) s_int) (c_and1 (c_cmp (o_ne c.u64) nr_eqd (s_ix c (s_var 0) s_str) (s_lst a_nil)))))
  (b_one (t_asg (s_mt F.plainAttrs_list F.slot_list_pop F.type_list_pop m_pop nr_pop (s_ix c (s_var 0) s_str) (a_cons s_int a_nil)) (g_sub c (s_var 0) s_str) (plain_sub _ _)))
  (b_one (t_if (c_cmp (o_eq c.u64) nr_eqd (s_ix c (s_var 0) s_str) s_int)
  (b_cons (t_asg (s_op o_add nr_add (s_ix c (s_var 0) s_str) s_int) (g_sub c (s_var 0) s_str) (plain_sub _ _))
  (b_cons (t_for c (i_val (s_op o_add nr_add (s_lst (a_cons (s_ix c (s_var 0) s_str) a_nil)) (s_ix c (s_var 0) s_str))) (li_val _) (g_name 2 c.nd) (plain_name 2)
  (b_one (t_asg (s_op o_mod nr_mod (s_typ c_int nr_int T.n_int rfl (a_cons (s_op o_add nr_add (s_op o_add nr_add (s_op (o_mulA o_mul) nr_mulA (s_ix c (s_var 0) s_str) s_int) (s_op (o_mulA o_mul) nr_mulA (s_var 2) s_int)) s_int) a_nil)) s_int) (g_sub c (s_var 0) s_str) (plain_sub _ _))))
  (b_one (t_asg (s_op o_mod nr_mod (s_typ c_int nr_int T.n_int rfl (a_cons (s_op o_pow nr_pow (s_ix c (s_var 0) s_str) s_int) a_nil)) s_int) (g_sub c (s_var 0) s_str) (plain_sub _ _)))))
  b_nil)))
  (b_cons (t_asg (s_blt c_dm nr_dm T.n_divmod rfl (a_cons (s_ix c (s_var 0) s_str) (a_cons (s_var 1) a_nil))) (g_tup c.calm (gs_cons (g_sub c (s_var 0) s_str) (gs_cons (g_name 3 c.nd) gs_nil (plain_name 3)) (plain_sub _ _))) (plain_tup (plains_cons (plain_sub _ _) (plains_cons (plain_name 3) plains_nil))))
  (b_one (t_ret (s_var 3)))))
theorem sc__law_pick : FnScope ["_law_draw", "_law_some"] ["_law_draw", "_law_some"] (defScope (top 28)) := ⟨rfl, rfl, rfl, by decide +kernel, rfl, by decide +kernel, by decide +kernel⟩
theorem d__law_pick (T : Txt P K mg base) (h_Fn__law_take : FnAt P w K mg base "_law_take" 1 2 f__law_take) : Bd P w K mg base ["_law_draw", "_law_some"] "_law_pick" (top 28) 1 b__law_pick := fun f cdv A outer s H E c =>
  (b_one (t_ret (s_ix c (s_var 1) (s_call c h_Fn__law_take (by decide) (a_cons (s_var 0) (a_cons (s_blt c_len nr_len T.n_len rfl (a_cons (s_var 1) a_nil)) a_nil))))))
theorem sc__law_names : FnScope ["_law_draw", "_law_many", "_law_pool", "_law_letters", "_law_found", "_law_turn", "_law_word", "_law_near", "_law_sign", "_law_letter", "_law_one"] ["_law_draw", "_law_many"] (defScope (top 29)) := ⟨rfl, rfl, rfl, by decide +kernel, rfl, by decide +kernel, by decide +kernel⟩
theorem d__law_names (T : Txt P K mg base) (h_Fn__law_pick : FnAt P w K mg base "_law_pick" 2 2 f__law_pick) (h_Fn__law_take : FnAt P w K mg base "_law_take" 1 2 f__law_take) : Bd P w K mg base ["_law_draw", "_law_many", "_law_pool", "_law_letters", "_law_found", "_law_turn", "_law_word", "_law_near", "_law_sign", "_law_letter", "_law_one"] "_law_names" (top 29) 2 b__law_names := fun f cdv A outer s H E c =>
  (b_cons (t_set 2 (s_lst (a_cons s_str (a_cons s_str (a_cons s_str (a_cons s_str (a_cons s_str (a_cons s_str (a_cons s_str (a_cons s_str a_nil))))))))) c.nd)
  (b_cons (t_asg (s_tup (a_cons s_str (a_cons (s_lst a_nil) a_nil))) (g_tup c.calm (gs_cons (g_name 3 c.nd) (gs_cons (g_name 4 c.nd) gs_nil (plain_name 4)) (plain_name 3))) (plain_tup (plains_cons (plain_name 3) (plains_cons (plain_name 4) plains_nil))))
  (b_cons (t_for c (i_rng1 (s_var 1) T.n_range) (li_rng1 _) (g_name 5 c.nd) (plain_name 5)
  (b_cons (t_set 6 (s_call c h_Fn__law_pick (by decide) (a_cons (s_var 0) (a_cons (s_var 2) a_nil))) c.nd)
  (b_cons (t_if (c_cmp (o_eq c.u64) nr_eqd (s_call c h_Fn__law_take (by decide) (a_cons (s_var 0) (a_cons s_int a_nil))) s_int)
  (b_one (t_set 6 (s_mt F.plainAttrs_str F.slot_str_join F.type_str_join m_join nr_join s_str (a_cons (s_lc (own := [("_law_sign", 8)]) (t := (.one 8)) c (i_rng1 (s_call c h_Fn__law_pick (by decide) (a_cons (s_var 0) (a_cons (s_lst (a_cons s_int (a_cons s_int (a_cons s_int (a_cons s_int a_nil))))) a_nil))) T.n_range) (li_rng1 _) (blkOk_by (N := ["_law_draw", "_law_many", "_law_pool", "_law_letters", "_law_found", "_law_turn", "_law_word", "_law_near", "_law_sign", "_law_letter", "_law_one"]) (sc := defScope (top 29)) (by decide +kernel)) (by decide) (fun _ _ _ _ _ => (lg_one (c.blk _ _ _ _ _).nd)) (fun _ _ _ _ _ => ts_nil) (fun _ _ _ _ _ => (s_call (c.blk _ _ _ _ _) h_Fn__law_pick (by decide) (a_cons (s_var 0) (a_cons (s_var 3) a_nil))))) a_nil)) c.nd))
  b_nil)
  (b_cons (t_set 7 (s_op o_add nr_add (s_lst (a_cons (s_var 6) a_nil)) (s_lc (own := [("_law_letter", 9)]) (t := (.one 9)) c (i_val (s_var 3)) (li_val _) (blkOk_by (N := ["_law_draw", "_law_many", "_law_pool", "_law_letters", "_law_found", "_law_turn", "_law_word", "_law_near", "_law_sign", "_law_letter", "_law_one"]) (sc := defScope (top 29)) (by decide +kernel)) (by decide) (fun _ _ _ _ _ => (lg_one (c.blk _ _ _ _ _).nd)) (fun _ _ _ _ _ => ts_nil) (fun _ _ _ _ _ => (s_op o_add nr_add (s_sl (s_var 6) p_no (p_e s_int)) (s_var 9))))) c.nd)
  (b_one (t_expr (s_mt F.plainAttrs_list F.slot_list_append F.type_list_append m_append nr_append (s_var 4) (a_cons (s_ix c (s_lc (own := [("_law_one", 10)]) (t := (.one 10)) c (i_val (s_var 7)) (li_val _) (blkOk_by (N := ["_law_draw", "_law_many", "_law_pool", "_law_letters", "_law_found", "_law_turn", "_law_word", "_law_near", "_law_sign", "_law_letter", "_law_one"]) (sc := defScope (top 29)) (by decide +kernel)) (by decide) (fun _ _ _ _ _ => (lg_one (c.blk _ _ _ _ _).nd)) (fun _ _ _ _ _ => (ts_one (c_cmp (o_notIn (c.blk _ _ _ _ _).hu (c.blk _ _ _ _ _).u65) nr_in (s_var 10) (s_var 4)))) (fun _ _ _ _ _ => (s_var 10))) s_int) a_nil))))))))
  (b_one (t_ret (s_var 4))))))
theorem sc__law_number_rows : FnScope ["_law_many", "_law_roof", "_law_found", "_law_first", "_law_second", "_law_at", "_law_total", "_law_row"] ["_law_many", "_law_roof"] (defScope (top 32)) := ⟨rfl, rfl, rfl, by decide +kernel, rfl, by decide +kernel, by decide +kernel⟩
theorem d__law_number_rows (T : Txt P K mg base)  : Bd P w K mg base ["_law_many", "_law_roof", "_law_found", "_law_first", "_law_second", "_law_at", "_law_total", "_law_row"] "_law_number_rows" (top 32) 0 b__law_number_rows := fun f cdv A outer s H E c =>
  (b_cons (t_setLc 2 (own := [("_law_first", 3)]) (t := (.one 3)) c (i_rng1 (s_op o_add nr_add (s_var 1) s_int) T.n_range) (li_rng1 _) (blkOk_by (N := ["_law_many", "_law_roof", "_law_found", "_law_first", "_law_second", "_law_at", "_law_total", "_law_row"]) (sc := defScope (top 32)) (by decide +kernel)) (by decide) (fun _ _ _ _ _ => (lg_one (c.blk _ _ _ _ _).nd)) (fun _ _ _ _ _ => ts_nil) (fun _ _ _ _ _ => (s_tup (a_cons (s_var 3) a_nil))) (sw_true rfl rfl rfl (by decide +kernel)))
  (b_cons (t_if (c_cmp (o_eq c.u64) nr_eqd (s_var 0) s_int)
  (b_one (t_setLc 2 (own := [("_law_first", 3), ("_law_second", 4)]) (t := (.many [3, 4])) c (i_val (s_lc (own := [("_law_at", 5)]) (t := (.one 5)) c (i_rng1 (s_op (o_mulA o_mul) nr_mulA (s_op o_add nr_add (s_var 1) s_int) (s_op o_add nr_add (s_var 1) s_int)) T.n_range) (li_rng1 _) (blkOk_by (N := ["_law_many", "_law_roof", "_law_found", "_law_first", "_law_second", "_law_at", "_law_total", "_law_row"]) (sc := defScope (top 32)) (by decide +kernel)) (by decide) (fun _ _ _ _ _ => (lg_one (c.blk _ _ _ _ _).nd)) (fun _ _ _ _ _ => ts_nil) (fun _ _ _ _ _ => (s_blt c_dm nr_dm T.n_divmod rfl (a_cons (s_var 5) (a_cons (s_op o_add nr_add (s_var 1) s_int) a_nil)))))) (li_val _) (blkOk_by (N := ["_law_many", "_law_roof", "_law_found", "_law_first", "_law_second", "_law_at", "_law_total", "_law_row"]) (sc := defScope (top 32)) (by decide +kernel)) (by decide) (fun _ _ _ _ _ => (lg_many (c.blk _ _ _ _ _).calm (lgs_cons (c.blk _ _ _ _ _).nd (lgs_cons (c.blk _ _ _ _ _).nd lgs_nil)))) (fun _ _ _ _ _ => ts_nil) (fun _ _ _ _ _ => (s_tup (a_cons (s_var 3) (a_cons (s_var 4) a_nil)))) (sw_true rfl rfl rfl (by decide +kernel))))
  b_nil)
  (b_one (t_ret (s_lc (own := [("_law_total", 6), ("_law_row", 7)]) (t := (.many [6, 7])) c (i_val (s_blt (c_sortD c.calm T.sys c) nr_sortD T.n_sorted rfl (a_cons (s_lc (own := [("_law_row", 7)]) (t := (.one 7)) c (i_val (s_var 2)) (li_val _) (blkOk_by (N := ["_law_many", "_law_roof", "_law_found", "_law_first", "_law_second", "_law_at", "_law_total", "_law_row"]) (sc := defScope (top 32)) (by decide +kernel)) (by decide) (fun _ _ _ _ _ => (lg_one (c.blk _ _ _ _ _).nd)) (fun _ _ _ _ _ => ts_nil) (fun _ _ _ _ _ => (s_tup (a_cons (s_blt (c_sumX (c.blk _ _ _ _ _).calm) nr_sumX T.n_sum rfl (a_cons (s_var 7) a_nil)) (a_cons (s_var 7) a_nil))))) a_nil))) (li_val _) (blkOk_by (N := ["_law_many", "_law_roof", "_law_found", "_law_first", "_law_second", "_law_at", "_law_total", "_law_row"]) (sc := defScope (top 32)) (by decide +kernel)) (by decide) (fun _ _ _ _ _ => (lg_many (c.blk _ _ _ _ _).calm (lgs_cons (c.blk _ _ _ _ _).nd (lgs_cons (c.blk _ _ _ _ _).nd lgs_nil)))) (fun _ _ _ _ _ => (ts_one (c_cmp o_gt nr_ord (s_var 6) s_int))) (fun _ _ _ _ _ => (s_var 7)))))))
theorem sc_is_name : FnScope ["thing", "sign"] ["thing"] (defScope (top 14)) := ⟨rfl, rfl, rfl, by decide +kernel, rfl, by decide +kernel, by decide +kernel⟩
theorem d_is_name (T : Txt P K mg base)  : Bd P w K mg base ["thing", "sign"] "is_name" (top 14) 0 b_is_name := fun f cdv A outer s H E c =>
  (b_cons (t_if (PW.pt (c_or (c_not (c_val (s_blt (c_isi T.isa) nr_isi T.n_isinstance rfl (a_cons (s_var 0) (a_cons (s_ty T.n_str rfl) a_nil))))) (c_or1 (c_not (c_chain o_le nr_ord o_le nr_ord s_int (s_blt c_len nr_len T.n_len rfl (a_cons (s_var 0) a_nil)) (s_glI' T.g_LONGEST_NAME))))))
  (b_one (t_ret s_bl))
  b_nil)
  (b_one (t_ret (s_blt (c_all c.calm) nr_all T.n_all rfl (a_cons (s_lc (own := [("sign", 1)]) (t := (.one 1)) c (i_val (s_var 0)) (li_val _) (blkOk_by (N := ["thing", "sign"]) (sc := defScope (top 14)) (by decide +kernel)) (by decide) (fun _ _ _ _ _ => (lg_one (c.blk _ _ _ _ _).nd)) (fun _ _ _ _ _ => ts_nil) (fun _ _ _ _ _ => (s_cmp (o_in (c.blk _ _ _ _ _).hu (c.blk _ _ _ _ _).u65) nr_in (s_var 1) (s_glS' T.g_LETTERS)))) a_nil)))))
theorem sc_is_integer : FnScope ["thing"] ["thing"] (defScope (top 11)) := ⟨rfl, rfl, rfl, by decide +kernel, rfl, by decide +kernel, by decide +kernel⟩
theorem d_is_integer (T : Txt P K mg base)  : Bd P w K mg base ["thing"] "is_integer" (top 11) 0 b_is_integer := fun f cdv A outer s H E c =>
  (b_one (t_ret (s_and (s_blt (c_isi T.isa) nr_isi T.n_isinstance rfl (a_cons (s_var 0) (a_cons (s_ty T.n_int rfl) a_nil))) (s_one (s_not (s_blt (c_isi T.isa) nr_isi T.n_isinstance rfl (a_cons (s_var 0) (a_cons (s_ty T.n_bool rfl) a_nil))))))))
theorem sc_is_number : FnScope ["thing"] ["thing"] (defScope (top 12)) := ⟨rfl, rfl, rfl, by decide +kernel, rfl, by decide +kernel, by decide +kernel⟩
theorem d_is_number (T : Txt P K mg base) (h_Fn_is_integer : FnAt P w K mg base "is_integer" 1 1 f_is_integer) : Bd P w K mg base ["thing"] "is_number" (top 12) 1 b_is_number := fun f cdv A outer s H E c =>
  (b_one (t_ret (s_and (s_call c h_Fn_is_integer (by decide) (a_cons (s_var 0) a_nil)) (s_one (s_cmp o_ge nr_ord (s_var 0) s_int)))))
theorem sc_Songs_init : FnScope ["self", "numbers", "kind"] ["self", "numbers"] (defScope (inClass (top 15) 0)) := ⟨rfl, rfl, rfl, by decide +kernel, rfl, by decide +kernel, by decide +kernel⟩
theorem d_Songs_init (T : Txt P K mg base) (h_Fn_is_name : FnAt P w K mg base "is_name" 1 1 f_is_name) (h_Fn_is_number : FnAt P w K mg base "is_number" 2 1 f_is_number) : Bd P w K mg base ["self", "numbers", "kind"] "Songs.__init__" (inClass (top 15) 0) 2 b_Songs_init := fun f cdv A outer s H E c =>
  (b_cons (t_if (PW.pt (c_or (c_not (c_val (s_blt (c_isi T.isa) nr_isi T.n_isinstance rfl (a_cons (s_var 1) (a_cons (s_ty T.n_dict rfl) a_nil))))) (c_or1 (c_not (c_chain o_le nr_ord o_le nr_ord s_int (s_blt c_len nr_len T.n_len rfl (a_cons (s_var 1) a_nil)) (s_glI' T.g_MOST_KINDS_songs))))))
  (b_one t_no)
  b_nil)
  (b_cons (t_if (c_not (c_val (s_blt (c_all c.calm) nr_all T.n_all rfl (a_cons (s_lc (own := [("kind", 2)]) (t := (.one 2)) c (i_val (s_var 1)) (li_val _) (blkOk_by (N := ["self", "numbers", "kind"]) (sc := defScope (inClass (top 15) 0)) (by decide +kernel)) (by decide) (fun _ _ _ _ _ => (lg_one (c.blk _ _ _ _ _).nd)) (fun _ _ _ _ _ => ts_nil) (fun _ _ _ _ _ => (s_call (c.blk _ _ _ _ _) h_Fn_is_name (by decide) (a_cons (s_var 2) a_nil)))) a_nil))))
  (b_one t_no)
  b_nil)
  (b_cons (t_fld T.fl_s_numbers (s_var 0) s_newD)
  (b_cons (t_for c (i_val (s_blt (c_sortS c.calm) nr_sortS T.n_sorted rfl (a_cons (s_var 1) a_nil))) (li_val _) (g_name 2 c.nd) (plain_name 2)
  (b_cons (t_if (c_not (c_val (s_call c h_Fn_is_number (by decide) (a_cons (s_ix c (s_var 1) (s_var 2)) a_nil))))
  (b_one t_no)
  b_nil)
  (b_one (t_asg (s_ix c (s_var 1) (s_var 2)) (g_sub c (s_fld T.fl_s_numbers (s_var 0)) (s_var 2)) (plain_sub _ _)))))
  (b_one (t_if (c_cmp (o_eq c.u64) nr_eqd (s_blt (c_sum c.calm) nr_sum T.n_sum rfl (a_cons (s_vals c.calm (s_fld T.fl_s_numbers (s_var 0)) T.n_list) a_nil)) s_int)
  (b_one t_no)
  b_nil))))))
theorem sc__law_songs : FnScope ["_law_case"] ["_law_case"] (defScope (top 30)) := ⟨rfl, rfl, rfl, by decide +kernel, rfl, by decide +kernel, by decide +kernel⟩
theorem d__law_songs (T : Txt P K mg base) (h_Mk_Songs : MkAt P w K mg base "Songs" 3 2 f_Songs_init []) : Bd P w K mg base ["_law_case"] "_law_songs" (top 30) 4 b__law_songs := fun f cdv A outer s H E c =>
  (b_one (t_ret (s_make c h_Mk_Songs (by decide) (a_cons (s_typ (c_dict c.calm) nr_dict T.n_dict rfl (a_cons (s_items c.calm (s_ix c (s_var 0) s_str) T.n_list) a_nil)) a_nil))))
theorem sc__law_with : FnScope ["_law_case", "_law_groups", "_law_row", "_law_found"] ["_law_case", "_law_groups", "_law_row"] (defScope (top 31)) := ⟨rfl, rfl, rfl, by decide +kernel, rfl, by decide +kernel, by decide +kernel⟩
theorem d__law_with (T : Txt P K mg base)  : Bd P w K mg base ["_law_case", "_law_groups", "_law_row", "_law_found"] "_law_with" (top 31) 0 b__law_with := fun f cdv A outer s H E c =>
  (b_cons (t_set 3 (s_typ (c_dict c.calm) nr_dict T.n_dict rfl (a_cons (s_items c.calm (s_var 0) T.n_list) a_nil)) c.nd)
  (b_cons (t_asg (s_typ (c_dict c.calm) nr_dict T.n_dict rfl (a_cons (s_listZipX c.calm T.n_list T.n_zip (a_cons (s_var 1) (a_cons (s_var 2) a_nil))) a_nil)) (g_sub c (s_var 3) s_str) (plain_sub _ _))
  (b_one (t_ret (s_var 3)))))
theorem sc_is_list : FnScope ["thing"] ["thing"] (defScope (top 13)) := ⟨rfl, rfl, rfl, by decide +kernel, rfl, by decide +kernel, by decide +kernel⟩
theorem d_is_list (T : Txt P K mg base)  : Bd P w K mg base ["thing"] "is_list" (top 13) 0 b_is_list := fun f cdv A outer s H E c =>
  (b_one (t_ret (s_blt (c_isi T.isa) nr_isi T.n_isinstance rfl (a_cons (s_var 0) (a_cons (s_tup (a_cons (s_ty T.n_list rfl) (a_cons (s_ty T.n_tuple rfl) a_nil))) a_nil)))))
theorem sc_need_kinds : FnScope ["kinds", "kind"] ["kinds"] (defScope (top 20)) := ⟨rfl, rfl, rfl, by decide +kernel, rfl, by decide +kernel, by decide +kernel⟩
theorem d_need_kinds (T : Txt P K mg base) (h_Fn_is_list : FnAt P w K mg base "is_list" 1 1 f_is_list) (h_Fn_is_name : FnAt P w K mg base "is_name" 1 1 f_is_name) : Bd P w K mg base ["kinds", "kind"] "need_kinds" (top 20) 1 b_need_kinds := fun f cdv A outer s H E c =>
  (b_cons (t_if (PW.pt (c_or (c_not (c_val (s_call c h_Fn_is_list (by decide) (a_cons (s_var 0) a_nil)))) (c_or (c_not (c_chain o_le nr_ord o_le nr_ord s_int (s_blt c_len nr_len T.n_len rfl (a_cons (s_var 0) a_nil)) (s_glI' T.g_MOST_KINDS_lists))) (c_or1 (c_not (c_val (s_blt (c_all c.calm) nr_all T.n_all rfl (a_cons (s_lc (own := [("kind", 1)]) (t := (.one 1)) c (i_val (s_var 0)) (li_val _) (blkOk_by (N := ["kinds", "kind"]) (sc := defScope (top 20)) (by decide +kernel)) (by decide) (fun _ _ _ _ _ => (lg_one (c.blk _ _ _ _ _).nd)) (fun _ _ _ _ _ => ts_nil) (fun _ _ _ _ _ => (s_call (c.blk _ _ _ _ _) h_Fn_is_name (by decide) (a_cons (s_var 1) a_nil)))) a_nil))))))))
  (b_one t_no)
  b_nil)
  (b_cons (t_if (c_cmp o_lt nr_ord (s_lenSet c.calm rfl T.n_len rfl T.n_set (s_var 0)) (s_blt c_len nr_len T.n_len rfl (a_cons (s_var 0) a_nil)))
  (b_one t_no)
  b_nil)
  (b_one (t_ret (s_blt (c_sortX c.calm) nr_sortX T.n_sorted rfl (a_cons (s_var 0) a_nil))))))
theorem sc_number_rows : FnScope ["many", "most", "found", "turn", "row", "number"] ["many", "most"] (defScope (top 21)) := ⟨rfl, rfl, rfl, by decide +kernel, rfl, by decide +kernel, by decide +kernel⟩
theorem d_number_rows (T : Txt P K mg base)  : Bd P w K mg base ["many", "most", "found", "turn", "row", "number"] "number_rows" (top 21) 0 b_number_rows := fun f cdv A outer s H E c =>
  (b_cons (t_set 2 (s_lst (a_cons (s_tup a_nil) a_nil)) c.nd)
  (b_cons (t_for c (i_rng1 (s_var 0) T.n_range) (li_rng1 _) (g_name 3 c.nd) (plain_name 3)
  (b_one (t_setLc2 2 (own := [("row", 4), ("number", 5)]) (t := (.one 4)) (vs1 := [5]) (t1 := (.one 5)) c (i_val (s_var 2)) (li_val _) (blkOk_by (N := ["many", "most", "found", "turn", "row", "number"]) (sc := defScope (top 21)) (by decide +kernel)) (by decide) (by decide) (by decide) (fun _ _ _ _ _ => (lg_one (c.blk _ _ _ _ _).nd)) (fun _ _ _ _ _ => ts_nil) (fun _ _ _ _ _ => (i_rng1 (s_op o_add nr_add (s_var 1) s_int) T.n_range)) (fun _ _ _ _ _ => (lg_one (c.blk _ _ _ _ _).nd)) (fun _ _ _ _ _ => ts_nil) (fun _ _ _ _ _ => (s_tup (a_star (s_var 4) (a_cons (s_var 5) a_nil)))) (sw_true rfl rfl rfl (by decide +kernel)))))
  (b_one (t_ret (s_var 2)))))
theorem sc_songs_by : FnScope ["kinds", "row"] ["kinds", "row"] (defScope (top 22)) := ⟨rfl, rfl, rfl, by decide +kernel, rfl, by decide +kernel, by decide +kernel⟩
theorem d_songs_by (T : Txt P K mg base) (h_Mk_Songs : MkAt P w K mg base "Songs" 3 2 f_Songs_init []) : Bd P w K mg base ["kinds", "row"] "songs_by" (top 22) 4 b_songs_by := fun f cdv A outer s H E c =>
  (b_one (t_ret (s_make c h_Mk_Songs (by decide) (a_cons (s_dictZip c.calm T.n_dict T.n_zip (a_cons (s_var 0) (a_cons (s_var 1) a_nil))) a_nil))))
theorem sc_lists_of : FnScope ["kinds", "most", "rows", "row", "many"] ["kinds", "most"] (defScope (top 23)) := ⟨rfl, rfl, rfl, by decide +kernel, rfl, by decide +kernel, by decide +kernel⟩
theorem d_lists_of (T : Txt P K mg base) (h_Fn_number_rows : FnAt P w K mg base "number_rows" 1 2 f_number_rows) (h_Fn_songs_by : FnAt P w K mg base "songs_by" 5 2 f_songs_by) : Bd P w K mg base ["kinds", "most", "rows", "row", "many"] "lists_of" (top 23) 5 b_lists_of := fun f cdv A outer s H E c =>
  (b_cons (t_setLc 2 (own := [("row", 3)]) (t := (.one 3)) c (i_val (s_call c h_Fn_number_rows (by decide) (a_cons (s_blt c_len nr_len T.n_len rfl (a_cons (s_var 0) a_nil)) (a_cons (s_var 1) a_nil)))) (li_val _) (blkOk_by (N := ["kinds", "most", "rows", "row", "many"]) (sc := defScope (top 23)) (by decide +kernel)) (by decide) (fun _ _ _ _ _ => (lg_one (c.blk _ _ _ _ _).nd)) (fun _ _ _ _ _ => (ts_one (c_cmp o_gt nr_ord (s_blt (c_sumX (c.blk _ _ _ _ _).calm) nr_sumX T.n_sum rfl (a_cons (s_var 3) a_nil)) s_int))) (fun _ _ _ _ _ => (s_tup (a_cons (s_blt (c_sumX (c.blk _ _ _ _ _).calm) nr_sumX T.n_sum rfl (a_cons (s_var 3) a_nil)) (a_cons (s_var 3) a_nil)))) (sw_true rfl rfl rfl (by decide +kernel)))
  (b_one (t_ret (s_lc (own := [("many", 4), ("row", 3)]) (t := (.many [4, 3])) c (i_val (s_blt (c_sortD c.calm T.sys c) nr_sortD T.n_sorted rfl (a_cons (s_var 2) a_nil))) (li_val _) (blkOk_by (N := ["kinds", "most", "rows", "row", "many"]) (sc := defScope (top 23)) (by decide +kernel)) (by decide) (fun _ _ _ _ _ => (lg_many (c.blk _ _ _ _ _).calm (lgs_cons (c.blk _ _ _ _ _).nd (lgs_cons (c.blk _ _ _ _ _).nd lgs_nil)))) (fun _ _ _ _ _ => ts_nil) (fun _ _ _ _ _ => (s_call (c.blk _ _ _ _ _) h_Fn_songs_by (by decide) (a_cons (s_var 0) (a_cons (s_var 3) a_nil))))))))
theorem sc_lists_up_to : FnScope ["kinds", "most", "ascending"] ["kinds", "most"] (defScope (top 24)) := ⟨rfl, rfl, rfl, by decide +kernel, rfl, by decide +kernel, by decide +kernel⟩
theorem d_lists_up_to (T : Txt P K mg base) (h_Fn_need_kinds : FnAt P w K mg base "need_kinds" 2 1 f_need_kinds) (h_Fn_is_integer : FnAt P w K mg base "is_integer" 1 1 f_is_integer) (h_Fn_lists_of : FnAt P w K mg base "lists_of" 6 2 f_lists_of) : Bd P w K mg base ["kinds", "most", "ascending"] "lists_up_to" (top 24) 6 b_lists_up_to := fun f cdv A outer s H E c =>
  (b_cons (t_set 2 (s_call c h_Fn_need_kinds (by decide) (a_cons (s_var 0) a_nil)) c.nd)
  (b_cons (t_if (PW.pt (c_or (c_not (c_val (s_call c h_Fn_is_integer (by decide) (a_cons (s_var 1) a_nil)))) (c_or1 (c_not (c_chain o_le nr_ord o_le nr_ord s_int (s_var 1) (s_glI' T.g_MOST_LISTED))))))
  (b_one t_no)
  b_nil)
  (b_one (t_ret (s_call c h_Fn_lists_of (by decide) (a_cons (s_var 2) (a_cons (s_var 1) a_nil)))))))
theorem sc_Songs_eq : FnScope ["self", "other"] ["self", "other"] (defScope (inClass (top 15) 7)) := ⟨rfl, rfl, rfl, by decide +kernel, rfl, by decide +kernel, by decide +kernel⟩
theorem d_Songs_eq (T : Txt P K mg base)  : Bd P w K mg base ["self", "other"] "Songs.__eq__" (inClass (top 15) 7) 0 b_Songs_eq := fun f cdv A outer s H E c =>
  (b_one (t_ret (s_and (s_blt (c_isi T.isa) nr_isi T.n_isinstance rfl (a_cons (s_var 1) (a_cons (s_gl' T.m_Songs) a_nil))) (s_one (s_cmp (o_eqI c.u64) nr_eqi (s_fld T.fl_s_numbers (s_var 1)) (s_fld T.fl_s_numbers (s_var 0)))))))
theorem sc_Songs_numbers : FnScope ["self"] ["self"] (defScope (inClass (top 15) 2)) := ⟨rfl, rfl, rfl, by decide +kernel, rfl, by decide +kernel, by decide +kernel⟩
theorem d_Songs_numbers (T : Txt P K mg base)  : Bd P w K mg base ["self"] "Songs.numbers" (inClass (top 15) 2) 0 b_Songs_numbers := fun f cdv A outer s H E c =>
  (b_one (t_ret (s_typ (c_dict c.calm) nr_dict T.n_dict rfl (a_cons (s_fld T.fl_s_numbers (s_var 0)) a_nil))))
theorem sc_law : FnScope ["_law_script", "_law_draw", "_law_turn", "_law_groups", "_law_roof", "_law_due", "_law_found", "_law_shown", "_law_at", "_law_row"] ["_law_script"] (defScope (top 33)) := ⟨rfl, rfl, rfl, by decide +kernel, rfl, by decide +kernel, by decide +kernel⟩
theorem d_law (T : Txt P K mg base) (h_Fn__law_begin : FnAt P w K mg base "_law_begin" 1 1 f__law_begin) (h_Fn__law_take : FnAt P w K mg base "_law_take" 1 2 f__law_take) (h_Fn__law_names : FnAt P w K mg base "_law_names" 3 2 f__law_names) (h_Fn__law_number_rows : FnAt P w K mg base "_law_number_rows" 1 2 f__law_number_rows) (h_Fn__law_songs : FnAt P w K mg base "_law_songs" 5 1 f__law_songs) (h_Fn__law_with : FnAt P w K mg base "_law_with" 1 3 f__law_with) (h_Fn_lists_up_to : FnAt P w K mg base "lists_up_to" 7 2 f_lists_up_to) (h_Sp_Songs___eq__ : SpAt P w K mg base "Songs" "__eq__" 1 2 f_Songs_eq) (h_FnK_lists_up_to : FnKw P w K mg base "lists_up_to" 7 2 f_lists_up_to 0 ["most", "kinds"] [1, 0] []) (h_Pr_Songs_numbers : PrAt P w K mg base "Songs" "numbers" 1 f_Songs_numbers) : Bd P w K mg base ["_law_script", "_law_draw", "_law_turn", "_law_groups", "_law_roof", "_law_due", "_law_found", "_law_shown", "_law_at", "_law_row"] "law" (top 33) 7 b_law := fun f cdv A outer s H E c =>
  (b_cons (t_set 1 (s_call c h_Fn__law_begin (by decide) (a_cons (s_var 0) a_nil)) c.nd)
  (b_cons (t_for c (i_rng1 (s_op o_add nr_add s_int (s_blt (c_min c.calm) nr_min T.n_min rfl (a_cons (s_blt c_len nr_len T.n_len rfl (a_cons (s_var 0) a_nil)) (a_cons s_int a_nil)))) T.n_range) (li_rng1 _) (g_name 2 c.nd) (plain_name 2)
  (b_cons (t_asg (s_tup (a_cons (s_call c h_Fn__law_names (by decide) (a_cons (s_var 1) (a_cons (s_op o_add nr_add s_int (s_call c h_Fn__law_take (by decide) (a_cons (s_var 1) (a_cons s_int a_nil)))) a_nil))) (a_cons (s_op o_add nr_add s_int (s_call c h_Fn__law_take (by decide) (a_cons (s_var 1) (a_cons s_int a_nil)))) a_nil))) (g_tup c.calm (gs_cons (g_name 3 c.nd) (gs_cons (g_name 4 c.nd) gs_nil (plain_name 4)) (plain_name 3))) (plain_tup (plains_cons (plain_name 3) (plains_cons (plain_name 4) plains_nil))))
  (b_cons (t_setLc 5 (own := [("_law_row", 9)]) (t := (.one 9)) c (i_val (s_call c h_Fn__law_number_rows (by decide) (a_cons (s_blt c_len nr_len T.n_len rfl (a_cons (s_var 3) a_nil)) (a_cons (s_var 4) a_nil)))) (li_val _) (blkOk_by (N := ["_law_script", "_law_draw", "_law_turn", "_law_groups", "_law_roof", "_law_due", "_law_found", "_law_shown", "_law_at", "_law_row"]) (sc := defScope (top 33)) (by decide +kernel)) (by decide) (fun _ _ _ _ _ => (lg_one (c.blk _ _ _ _ _).nd)) (fun _ _ _ _ _ => ts_nil) (fun _ _ _ _ _ => (s_call (c.blk _ _ _ _ _) h_Fn__law_songs (by decide) (a_cons (s_call (c.blk _ _ _ _ _) h_Fn__law_with (by decide) (a_cons s_newD (a_cons (s_blt (c_sortS (c.blk _ _ _ _ _).calm) nr_sortS T.n_sorted rfl (a_cons (s_var 3) a_nil)) (a_cons (s_var 9) a_nil)))) a_nil))) (sw_true rfl rfl rfl (by decide +kernel)))
  (b_cons (t_par 6 7 (a_cons (s_call c h_Fn_lists_up_to (by decide) (a_cons (s_var 3) (a_cons (s_var 4) a_nil))) (a_cons (s_blt (c_repr T.sys c) nr_repr T.n_repr rfl (a_cons (s_var 3) a_nil)) a_nil)) c.nd c.calm)
  (b_cons (t_if (PW.pt (c_or (c_not (c_val (s_blt (c_isi T.isa) nr_isi T.n_isinstance rfl (a_cons (s_var 6) (a_cons (s_ty T.n_list rfl) a_nil))))) (c_or (c_cmp (o_neLO (item_own c h_Sp_Songs___eq__ (by decide) T.ap_Songs) c.u64) nr_eqLO (s_var 6) (s_var 5)) (c_or1 (c_cmp (o_ne c.u64) nr_eqd (s_blt (c_repr T.sys c) nr_repr T.n_repr rfl (a_cons (s_var 3) a_nil)) (s_var 7))))))
  (b_one (t_ret s_bl))
  b_nil)
  (b_cons (t_expr (s_mt F.plainAttrs_list F.slot_list_append F.type_list_append m_append nr_append (s_var 6) (a_cons s_non a_nil)))
  (b_cons (t_if (c_cmp (o_neLO (item_own c h_Sp_Songs___eq__ (by decide) T.ap_Songs) c.u64) nr_eqLO (s_callK0 c h_FnK_lists_up_to (by decide) (k_cons (s_var 4) (k_cons (s_typ c_tuple nr_tuple T.n_tuple rfl (a_cons (s_rev (s_var 3)) a_nil)) k_nil))) (s_var 5))
  (b_one (t_ret s_bl))
  b_nil)
  (b_cons (t_set 8 (s_call c h_Fn__law_take (by decide) (a_cons (s_var 1) (a_cons (s_blt c_len nr_len T.n_len rfl (a_cons (s_var 5) a_nil)) a_nil))) c.nd)
  (b_one (t_if (c_cmp (o_ne c.u64) nr_eqd (s_blt (c_repr T.sys c) nr_repr T.n_repr rfl (a_cons (s_prop c h_Pr_Songs_numbers (by decide) (s_ix c (s_var 5) (s_var 8))) a_nil)) (s_blt (c_repr T.sys c) nr_repr T.n_repr rfl (a_cons (s_prop c h_Pr_Songs_numbers (by decide) (s_ix c (s_call c h_Fn_lists_up_to (by decide) (a_cons (s_var 3) (a_cons (s_var 4) a_nil))) (s_var 8))) a_nil)))
  (b_one (t_ret s_bl))
  b_nil))))))))))
  (b_one (t_ret s_bl))))
end
end U
namespace U
open PySem L2
section
theorem all_mk {P : Program} {w : World} {K : PySem.W.Frag} {h : Heap} {mg : Str → Option Value} {fa C_Songs a__law_begin a__law_take a__law_pick a__law_names a__law_number_rows a_is_name a_is_integer a_is_number a_Songs_init a__law_songs a__law_with a_is_list a_need_kinds a_number_rows a_songs_by a_lists_of a_lists_up_to a_Songs_eq a_Songs_numbers a_law p_Songs_numbers : Addr} {t_LETTERS t_LONGEST_NAME t_MOST_KINDS_lists t_MOST_KINDS_songs t_MOST_LISTED : Tok} {oc__law_begin kV__law_begin dc__law_begin pm__law_begin cd__law_begin ct__law_begin oc__law_take kV__law_take dc__law_take pm__law_take cd__law_take ct__law_take oc__law_pick kV__law_pick dc__law_pick pm__law_pick cd__law_pick ct__law_pick oc__law_names kV__law_names dc__law_names pm__law_names cd__law_names ct__law_names oc__law_number_rows kV__law_number_rows dc__law_number_rows pm__law_number_rows cd__law_number_rows ct__law_number_rows oc_is_name kV_is_name dc_is_name pm_is_name cd_is_name ct_is_name oc_is_integer kV_is_integer dc_is_integer pm_is_integer cd_is_integer ct_is_integer oc_is_number kV_is_number dc_is_number pm_is_number cd_is_number ct_is_number oc_Songs_init kV_Songs_init dc_Songs_init pm_Songs_init cd_Songs_init ct_Songs_init oc__law_songs kV__law_songs dc__law_songs pm__law_songs cd__law_songs ct__law_songs oc__law_with kV__law_with dc__law_with pm__law_with cd__law_with ct__law_with oc_is_list kV_is_list dc_is_list pm_is_list cd_is_list ct_is_list oc_need_kinds kV_need_kinds dc_need_kinds pm_need_kinds cd_need_kinds ct_need_kinds oc_number_rows kV_number_rows dc_number_rows pm_number_rows cd_number_rows ct_number_rows oc_songs_by kV_songs_by dc_songs_by pm_songs_by cd_songs_by ct_songs_by oc_lists_of kV_lists_of dc_lists_of pm_lists_of cd_lists_of ct_lists_of oc_lists_up_to kV_lists_up_to dc_lists_up_to pm_lists_up_to cd_lists_up_to ct_lists_up_to oc_Songs_eq kV_Songs_eq dc_Songs_eq pm_Songs_eq cd_Songs_eq ct_Songs_eq oc_Songs_numbers kV_Songs_numbers dc_Songs_numbers pm_Songs_numbers cd_Songs_numbers ct_Songs_numbers oc_law kV_law dc_law pm_law cd_law ct_law : Value} {od__law_begin an__law_begin : Option Addr} {sl__law_begin : Array (Option Value)} {od__law_take an__law_take : Option Addr} {sl__law_take : Array (Option Value)} {od__law_pick an__law_pick : Option Addr} {sl__law_pick : Array (Option Value)} {od__law_names an__law_names : Option Addr} {sl__law_names : Array (Option Value)} {od__law_number_rows an__law_number_rows : Option Addr} {sl__law_number_rows : Array (Option Value)} {od_is_name an_is_name : Option Addr} {sl_is_name : Array (Option Value)} {od_is_integer an_is_integer : Option Addr} {sl_is_integer : Array (Option Value)} {od_is_number an_is_number : Option Addr} {sl_is_number : Array (Option Value)} {od_Songs_init an_Songs_init : Option Addr} {sl_Songs_init : Array (Option Value)} {od__law_songs an__law_songs : Option Addr} {sl__law_songs : Array (Option Value)} {od__law_with an__law_with : Option Addr} {sl__law_with : Array (Option Value)} {od_is_list an_is_list : Option Addr} {sl_is_list : Array (Option Value)} {od_need_kinds an_need_kinds : Option Addr} {sl_need_kinds : Array (Option Value)} {od_number_rows an_number_rows : Option Addr} {sl_number_rows : Array (Option Value)} {od_songs_by an_songs_by : Option Addr} {sl_songs_by : Array (Option Value)} {od_lists_of an_lists_of : Option Addr} {sl_lists_of : Array (Option Value)} {od_lists_up_to an_lists_up_to : Option Addr} {sl_lists_up_to : Array (Option Value)} {od_Songs_eq an_Songs_eq : Option Addr} {sl_Songs_eq : Array (Option Value)} {od_Songs_numbers an_Songs_numbers : Option Addr} {sl_Songs_numbers : Array (Option Value)} {rs_Songs_numbers : List Value} {od_law an_law : Option Addr} {sl_law : Array (Option Value)} (X : K.In h) (G : h.Ns mainGlobals mg) (hfa : mg "law" = some (.ref fa))
    (g_Songs : PySem.W.nsIn K mainGlobals "Songs" = some (some (.ref C_Songs)))
    (pg_Songs : PySem.W.plainGet K C_Songs Str.empty = true)
    (hd_Songs : PySem.W.hasDictIn K C_Songs = true)
    (po_Songs : PySem.W.plainOver K C_Songs = true)
    (sa_Songs : PySem.W.findIn K (.ref C_Songs) "__setattr__" = some (some (.builtin "object.__setattr__")))
    (ha_Songs : PySem.W.findIn K (.ref C_Songs) "__class__" = some (some (.builtin "object.__class__")))
    (hm_Songs : PySem.W.mroIn K C_Songs (.type "object") = some true)
    (bt_Songs_NoneType : PySem.W.kitOne K (.type "NoneType") (.ref C_Songs) = some false)
    (bt_Songs_bool : PySem.W.kitOne K (.type "bool") (.ref C_Songs) = some false)
    (bt_Songs_int : PySem.W.kitOne K (.type "int") (.ref C_Songs) = some false)
    (bt_Songs_str : PySem.W.kitOne K (.type "str") (.ref C_Songs) = some false)
    (bt_Songs_tuple : PySem.W.kitOne K (.type "tuple") (.ref C_Songs) = some false)
    (bt_Songs_list : PySem.W.kitOne K (.type "list") (.ref C_Songs) = some false)
    (bt_Songs_dict : PySem.W.kitOne K (.type "dict") (.ref C_Songs) = some false)
    (ty_Songs_bool : PySem.W.kitOne K (.ref C_Songs) (.type "bool") = some false)
    (ty_Songs_dict : PySem.W.kitOne K (.ref C_Songs) (.type "dict") = some false)
    (ty_Songs_int : PySem.W.kitOne K (.ref C_Songs) (.type "int") = some false)
    (ty_Songs_list : PySem.W.kitOne K (.ref C_Songs) (.type "list") = some false)
    (ty_Songs_str : PySem.W.kitOne K (.ref C_Songs) (.type "str") = some false)
    (ty_Songs_tuple : PySem.W.kitOne K (.ref C_Songs) (.type "tuple") = some false)
    (kk_Songs_Songs : PySem.W.kitOne K (.ref C_Songs) (.ref C_Songs) = some true)
    (na_Songs_s_numbers : PySem.W.findIn K (.ref C_Songs) "s_numbers" = some none)
    (hn0 : PySem.W.specialIn K (.builtin "object.__class__") "__get__" = some (some (.builtin "getset_descriptor.__get__")))
    (htk0 : PySem.W.takesIn K (.builtin "object.__class__") = some true)
    (nf_Songs_Songs : PySem.W.notFirst K C_Songs (.ref C_Songs) = true)
    (nn_Songs : PySem.W.findIn K (.ref C_Songs) "__ne__" = some (some (.builtin "object.__ne__")))
    (so_Songs : PySem.W.subIn K (.ref C_Songs) (.type "object") = some true)
    (z_abs : PySem.W.nsIn K mainGlobals "abs" = some none)
    (z_all : PySem.W.nsIn K mainGlobals "all" = some none)
    (z_bool : PySem.W.nsIn K mainGlobals "bool" = some none)
    (z_dict : PySem.W.nsIn K mainGlobals "dict" = some none)
    (z_divmod : PySem.W.nsIn K mainGlobals "divmod" = some none)
    (z_int : PySem.W.nsIn K mainGlobals "int" = some none)
    (z_isinstance : PySem.W.nsIn K mainGlobals "isinstance" = some none)
    (z_len : PySem.W.nsIn K mainGlobals "len" = some none)
    (z_list : PySem.W.nsIn K mainGlobals "list" = some none)
    (z_min : PySem.W.nsIn K mainGlobals "min" = some none)
    (z_range : PySem.W.nsIn K mainGlobals "range" = some none)
    (z_repr : PySem.W.nsIn K mainGlobals "repr" = some none)
    (z_set : PySem.W.nsIn K mainGlobals "set" = some none)
    (z_sorted : PySem.W.nsIn K mainGlobals "sorted" = some none)
    (z_str : PySem.W.nsIn K mainGlobals "str" = some none)
    (z_sum : PySem.W.nsIn K mainGlobals "sum" = some none)
    (z_tuple : PySem.W.nsIn K mainGlobals "tuple" = some none)
    (z_zip : PySem.W.nsIn K mainGlobals "zip" = some none)
    (k_LETTERS : PySem.W.nsIn K mainGlobals "LETTERS" = some (some (.str "abcdefghijklmnopqrstuvwxyz" t_LETTERS)))
    (k_LONGEST_NAME : PySem.W.nsIn K mainGlobals "LONGEST_NAME" = some (some (.int 8 t_LONGEST_NAME)))
    (k_MOST_KINDS_lists : PySem.W.nsIn K mainGlobals "MOST_KINDS_lists" = some (some (.int 2 t_MOST_KINDS_lists)))
    (k_MOST_KINDS_songs : PySem.W.nsIn K mainGlobals "MOST_KINDS_songs" = some (some (.int 3 t_MOST_KINDS_songs)))
    (k_MOST_LISTED : PySem.W.nsIn K mainGlobals "MOST_LISTED" = some (some (.int 9 t_MOST_LISTED)))
    (f_a__law_begin : PySem.W.nsIn K mainGlobals "_law_begin" = some (some (.ref a__law_begin)))
    (l__law_begin : K.lookup a__law_begin = some ⟨oc__law_begin, od__law_begin, .func (PySem.W.fnOf "_law_begin" "_law_begin" (defArgs (top 26)) (defBody (top 26)) (defScope (top 26)) .none kV__law_begin dc__law_begin pm__law_begin an__law_begin cd__law_begin ct__law_begin), sl__law_begin⟩)
    (cd_ok__law_begin : PySem.W.codeIn K cd__law_begin "_law_begin" = true)
    (kp__law_begin : PySem.W.keepIn K (.ref a__law_begin) = true)
    (f_a__law_take : PySem.W.nsIn K mainGlobals "_law_take" = some (some (.ref a__law_take)))
    (l__law_take : K.lookup a__law_take = some ⟨oc__law_take, od__law_take, .func (PySem.W.fnOf "_law_take" "_law_take" (defArgs (top 27)) (defBody (top 27)) (defScope (top 27)) .none kV__law_take dc__law_take pm__law_take an__law_take cd__law_take ct__law_take), sl__law_take⟩)
    (cd_ok__law_take : PySem.W.codeIn K cd__law_take "_law_take" = true)
    (kp__law_take : PySem.W.keepIn K (.ref a__law_take) = true)
    (f_a__law_pick : PySem.W.nsIn K mainGlobals "_law_pick" = some (some (.ref a__law_pick)))
    (l__law_pick : K.lookup a__law_pick = some ⟨oc__law_pick, od__law_pick, .func (PySem.W.fnOf "_law_pick" "_law_pick" (defArgs (top 28)) (defBody (top 28)) (defScope (top 28)) .none kV__law_pick dc__law_pick pm__law_pick an__law_pick cd__law_pick ct__law_pick), sl__law_pick⟩)
    (cd_ok__law_pick : PySem.W.codeIn K cd__law_pick "_law_pick" = true)
    (kp__law_pick : PySem.W.keepIn K (.ref a__law_pick) = true)
    (f_a__law_names : PySem.W.nsIn K mainGlobals "_law_names" = some (some (.ref a__law_names)))
    (l__law_names : K.lookup a__law_names = some ⟨oc__law_names, od__law_names, .func (PySem.W.fnOf "_law_names" "_law_names" (defArgs (top 29)) (defBody (top 29)) (defScope (top 29)) .none kV__law_names dc__law_names pm__law_names an__law_names cd__law_names ct__law_names), sl__law_names⟩)
    (cd_ok__law_names : PySem.W.codeIn K cd__law_names "_law_names" = true)
    (kp__law_names : PySem.W.keepIn K (.ref a__law_names) = true)
    (f_a__law_number_rows : PySem.W.nsIn K mainGlobals "_law_number_rows" = some (some (.ref a__law_number_rows)))
    (l__law_number_rows : K.lookup a__law_number_rows = some ⟨oc__law_number_rows, od__law_number_rows, .func (PySem.W.fnOf "_law_number_rows" "_law_number_rows" (defArgs (top 32)) (defBody (top 32)) (defScope (top 32)) .none kV__law_number_rows dc__law_number_rows pm__law_number_rows an__law_number_rows cd__law_number_rows ct__law_number_rows), sl__law_number_rows⟩)
    (cd_ok__law_number_rows : PySem.W.codeIn K cd__law_number_rows "_law_number_rows" = true)
    (kp__law_number_rows : PySem.W.keepIn K (.ref a__law_number_rows) = true)
    (f_a_is_name : PySem.W.nsIn K mainGlobals "is_name" = some (some (.ref a_is_name)))
    (l_is_name : K.lookup a_is_name = some ⟨oc_is_name, od_is_name, .func (PySem.W.fnOf "is_name" "is_name" (defArgs (top 14)) (defBody (top 14)) (defScope (top 14)) .none kV_is_name dc_is_name pm_is_name an_is_name cd_is_name ct_is_name), sl_is_name⟩)
    (cd_ok_is_name : PySem.W.codeIn K cd_is_name "is_name" = true)
    (kp_is_name : PySem.W.keepIn K (.ref a_is_name) = true)
    (f_a_is_integer : PySem.W.nsIn K mainGlobals "is_integer" = some (some (.ref a_is_integer)))
    (l_is_integer : K.lookup a_is_integer = some ⟨oc_is_integer, od_is_integer, .func (PySem.W.fnOf "is_integer" "is_integer" (defArgs (top 11)) (defBody (top 11)) (defScope (top 11)) .none kV_is_integer dc_is_integer pm_is_integer an_is_integer cd_is_integer ct_is_integer), sl_is_integer⟩)
    (cd_ok_is_integer : PySem.W.codeIn K cd_is_integer "is_integer" = true)
    (kp_is_integer : PySem.W.keepIn K (.ref a_is_integer) = true)
    (f_a_is_number : PySem.W.nsIn K mainGlobals "is_number" = some (some (.ref a_is_number)))
    (l_is_number : K.lookup a_is_number = some ⟨oc_is_number, od_is_number, .func (PySem.W.fnOf "is_number" "is_number" (defArgs (top 12)) (defBody (top 12)) (defScope (top 12)) .none kV_is_number dc_is_number pm_is_number an_is_number cd_is_number ct_is_number), sl_is_number⟩)
    (cd_ok_is_number : PySem.W.codeIn K cd_is_number "is_number" = true)
    (kp_is_number : PySem.W.keepIn K (.ref a_is_number) = true)
    (f_a_Songs_init : PySem.W.findIn K (.ref C_Songs) "__init__" = some (some (.ref a_Songs_init)))
    (f_i_Songs_init : PySem.W.isFn K (.ref a_Songs_init) = true)
    (f_m_Songs_init : PySem.W.makesIn K C_Songs = true)
    (f_c_Songs_init : PySem.W.keepIn K (.ref C_Songs) = true)
    (l_Songs_init : K.lookup a_Songs_init = some ⟨oc_Songs_init, od_Songs_init, .func (PySem.W.fnOf "__init__" "Songs.__init__" (defArgs (inClass (top 15) 0)) (defBody (inClass (top 15) 0)) (defScope (inClass (top 15) 0)) .none kV_Songs_init dc_Songs_init pm_Songs_init an_Songs_init cd_Songs_init ct_Songs_init), sl_Songs_init⟩)
    (cd_ok_Songs_init : PySem.W.codeIn K cd_Songs_init "Songs.__init__" = true)
    (kp_Songs_init : PySem.W.keepIn K (.ref a_Songs_init) = true)
    (f_a__law_songs : PySem.W.nsIn K mainGlobals "_law_songs" = some (some (.ref a__law_songs)))
    (l__law_songs : K.lookup a__law_songs = some ⟨oc__law_songs, od__law_songs, .func (PySem.W.fnOf "_law_songs" "_law_songs" (defArgs (top 30)) (defBody (top 30)) (defScope (top 30)) .none kV__law_songs dc__law_songs pm__law_songs an__law_songs cd__law_songs ct__law_songs), sl__law_songs⟩)
    (cd_ok__law_songs : PySem.W.codeIn K cd__law_songs "_law_songs" = true)
    (kp__law_songs : PySem.W.keepIn K (.ref a__law_songs) = true)
    (f_a__law_with : PySem.W.nsIn K mainGlobals "_law_with" = some (some (.ref a__law_with)))
    (l__law_with : K.lookup a__law_with = some ⟨oc__law_with, od__law_with, .func (PySem.W.fnOf "_law_with" "_law_with" (defArgs (top 31)) (defBody (top 31)) (defScope (top 31)) .none kV__law_with dc__law_with pm__law_with an__law_with cd__law_with ct__law_with), sl__law_with⟩)
    (cd_ok__law_with : PySem.W.codeIn K cd__law_with "_law_with" = true)
    (kp__law_with : PySem.W.keepIn K (.ref a__law_with) = true)
    (f_a_is_list : PySem.W.nsIn K mainGlobals "is_list" = some (some (.ref a_is_list)))
    (l_is_list : K.lookup a_is_list = some ⟨oc_is_list, od_is_list, .func (PySem.W.fnOf "is_list" "is_list" (defArgs (top 13)) (defBody (top 13)) (defScope (top 13)) .none kV_is_list dc_is_list pm_is_list an_is_list cd_is_list ct_is_list), sl_is_list⟩)
    (cd_ok_is_list : PySem.W.codeIn K cd_is_list "is_list" = true)
    (kp_is_list : PySem.W.keepIn K (.ref a_is_list) = true)
    (f_a_need_kinds : PySem.W.nsIn K mainGlobals "need_kinds" = some (some (.ref a_need_kinds)))
    (l_need_kinds : K.lookup a_need_kinds = some ⟨oc_need_kinds, od_need_kinds, .func (PySem.W.fnOf "need_kinds" "need_kinds" (defArgs (top 20)) (defBody (top 20)) (defScope (top 20)) .none kV_need_kinds dc_need_kinds pm_need_kinds an_need_kinds cd_need_kinds ct_need_kinds), sl_need_kinds⟩)
    (cd_ok_need_kinds : PySem.W.codeIn K cd_need_kinds "need_kinds" = true)
    (kp_need_kinds : PySem.W.keepIn K (.ref a_need_kinds) = true)
    (f_a_number_rows : PySem.W.nsIn K mainGlobals "number_rows" = some (some (.ref a_number_rows)))
    (l_number_rows : K.lookup a_number_rows = some ⟨oc_number_rows, od_number_rows, .func (PySem.W.fnOf "number_rows" "number_rows" (defArgs (top 21)) (defBody (top 21)) (defScope (top 21)) .none kV_number_rows dc_number_rows pm_number_rows an_number_rows cd_number_rows ct_number_rows), sl_number_rows⟩)
    (cd_ok_number_rows : PySem.W.codeIn K cd_number_rows "number_rows" = true)
    (kp_number_rows : PySem.W.keepIn K (.ref a_number_rows) = true)
    (f_a_songs_by : PySem.W.nsIn K mainGlobals "songs_by" = some (some (.ref a_songs_by)))
    (l_songs_by : K.lookup a_songs_by = some ⟨oc_songs_by, od_songs_by, .func (PySem.W.fnOf "songs_by" "songs_by" (defArgs (top 22)) (defBody (top 22)) (defScope (top 22)) .none kV_songs_by dc_songs_by pm_songs_by an_songs_by cd_songs_by ct_songs_by), sl_songs_by⟩)
    (cd_ok_songs_by : PySem.W.codeIn K cd_songs_by "songs_by" = true)
    (kp_songs_by : PySem.W.keepIn K (.ref a_songs_by) = true)
    (f_a_lists_of : PySem.W.nsIn K mainGlobals "lists_of" = some (some (.ref a_lists_of)))
    (l_lists_of : K.lookup a_lists_of = some ⟨oc_lists_of, od_lists_of, .func (PySem.W.fnOf "lists_of" "lists_of" (defArgs (top 23)) (defBody (top 23)) (defScope (top 23)) .none kV_lists_of dc_lists_of pm_lists_of an_lists_of cd_lists_of ct_lists_of), sl_lists_of⟩)
    (cd_ok_lists_of : PySem.W.codeIn K cd_lists_of "lists_of" = true)
    (kp_lists_of : PySem.W.keepIn K (.ref a_lists_of) = true)
    (f_a_lists_up_to : PySem.W.nsIn K mainGlobals "lists_up_to" = some (some (.ref a_lists_up_to)))
    (l_lists_up_to : K.lookup a_lists_up_to = some ⟨oc_lists_up_to, od_lists_up_to, .func (PySem.W.fnOf "lists_up_to" "lists_up_to" (defArgs (top 24)) (defBody (top 24)) (defScope (top 24)) .none kV_lists_up_to dc_lists_up_to pm_lists_up_to an_lists_up_to cd_lists_up_to ct_lists_up_to), sl_lists_up_to⟩)
    (cd_ok_lists_up_to : PySem.W.codeIn K cd_lists_up_to "lists_up_to" = true)
    (kp_lists_up_to : PySem.W.keepIn K (.ref a_lists_up_to) = true)
    (f_a_Songs_eq : PySem.W.findIn K (.ref C_Songs) "__eq__" = some (some (.ref a_Songs_eq)))
    (f_i_Songs_eq : PySem.W.isFn K (.ref a_Songs_eq) = true)
    (l_Songs_eq : K.lookup a_Songs_eq = some ⟨oc_Songs_eq, od_Songs_eq, .func (PySem.W.fnOf "__eq__" "Songs.__eq__" (defArgs (inClass (top 15) 7)) (defBody (inClass (top 15) 7)) (defScope (inClass (top 15) 7)) .none kV_Songs_eq dc_Songs_eq pm_Songs_eq an_Songs_eq cd_Songs_eq ct_Songs_eq), sl_Songs_eq⟩)
    (cd_ok_Songs_eq : PySem.W.codeIn K cd_Songs_eq "Songs.__eq__" = true)
    (kp_Songs_eq : PySem.W.keepIn K (.ref a_Songs_eq) = true)
    (f_p_Songs_numbers : PySem.W.findIn K (.ref C_Songs) "numbers" = some (some (.ref p_Songs_numbers)))
    (f_g_Songs_numbers : PySem.W.specialIn K (.ref p_Songs_numbers) "__get__" = some (some (.builtin "property.__get__")))
    (f_t_Songs_numbers : PySem.W.takesIn K (.ref p_Songs_numbers) = some true)
    (f_r_Songs_numbers : PySem.W.recIn K p_Songs_numbers "property" = some (.ref a_Songs_numbers :: rs_Songs_numbers))
    (l_Songs_numbers : K.lookup a_Songs_numbers = some ⟨oc_Songs_numbers, od_Songs_numbers, .func (PySem.W.fnOf "numbers" "Songs.numbers" (defArgs (inClass (top 15) 2)) (defBody (inClass (top 15) 2)) (defScope (inClass (top 15) 2)) .none kV_Songs_numbers dc_Songs_numbers pm_Songs_numbers an_Songs_numbers cd_Songs_numbers ct_Songs_numbers), sl_Songs_numbers⟩)
    (cd_ok_Songs_numbers : PySem.W.codeIn K cd_Songs_numbers "Songs.numbers" = true)
    (kp_Songs_numbers : PySem.W.keepIn K (.ref a_Songs_numbers) = true)
    (f_a_law : PySem.W.nsIn K mainGlobals "law" = some (some (.ref a_law)))
    (l_law : K.lookup a_law = some ⟨oc_law, od_law, .func (PySem.W.fnOf "law" "law" (defArgs (top 33)) (defBody (top 33)) (defScope (top 33)) .none kV_law dc_law pm_law an_law cd_law ct_law), sl_law⟩)
    (cd_ok_law : PySem.W.codeIn K cd_law "law" = true)
    (kp_law : PySem.W.keepIn K (.ref a_law) = true) :
    ∃ fd : FuncData, (∀ (s : Shared) (v : Value), BindsTo s fd ⟨[v], []⟩ [("_law_script", v)]) ∧ ∀ base : Heap, K.In base → base.Ns mainGlobals mg → SysAt base → TabsB K mg base → FK P w K mg base 8 fa fd ["_law_script"] (spF ⟨K, mg, w⟩ f_law 1) := by
  have e := hfa.symm.trans (PySem.W.mg_of X G f_a_law)
  cases e
  have mg_Songs : mg "Songs" = some (.ref C_Songs) := PySem.W.mg_of X G g_Songs
  have cl_Songs : Cls K C_Songs := ⟨pg_Songs, hd_Songs, po_Songs, sa_Songs⟩
  have F__law_begin := fun_mk (st := (top 26)) l__law_begin cd_ok__law_begin kp__law_begin
  have b__law_begin := F__law_begin.binds (ps := ["_law_script"]) fun _ _ _ _ _ _ us hl => match us, hl with | [_], _ => rfl
  have F__law_take := fun_mk (st := (top 27)) l__law_take cd_ok__law_take kp__law_take
  have b__law_take := F__law_take.binds (ps := ["_law_draw", "_law_size"]) fun _ _ _ _ _ _ us hl => match us, hl with | [_, _], _ => rfl
  have F__law_pick := fun_mk (st := (top 28)) l__law_pick cd_ok__law_pick kp__law_pick
  have b__law_pick := F__law_pick.binds (ps := ["_law_draw", "_law_some"]) fun _ _ _ _ _ _ us hl => match us, hl with | [_, _], _ => rfl
  have F__law_names := fun_mk (st := (top 29)) l__law_names cd_ok__law_names kp__law_names
  have b__law_names := F__law_names.binds (ps := ["_law_draw", "_law_many"]) fun _ _ _ _ _ _ us hl => match us, hl with | [_, _], _ => rfl
  have F__law_number_rows := fun_mk (st := (top 32)) l__law_number_rows cd_ok__law_number_rows kp__law_number_rows
  have b__law_number_rows := F__law_number_rows.binds (ps := ["_law_many", "_law_roof"]) fun _ _ _ _ _ _ us hl => match us, hl with | [_, _], _ => rfl
  have F_is_name := fun_mk (st := (top 14)) l_is_name cd_ok_is_name kp_is_name
  have b_is_name := F_is_name.binds (ps := ["thing"]) fun _ _ _ _ _ _ us hl => match us, hl with | [_], _ => rfl
  have F_is_integer := fun_mk (st := (top 11)) l_is_integer cd_ok_is_integer kp_is_integer
  have b_is_integer := F_is_integer.binds (ps := ["thing"]) fun _ _ _ _ _ _ us hl => match us, hl with | [_], _ => rfl
  have F_is_number := fun_mk (st := (top 12)) l_is_number cd_ok_is_number kp_is_number
  have b_is_number := F_is_number.binds (ps := ["thing"]) fun _ _ _ _ _ _ us hl => match us, hl with | [_], _ => rfl
  have F_Songs_init := fun_mk (st := (inClass (top 15) 0)) l_Songs_init cd_ok_Songs_init kp_Songs_init
  have b_Songs_init := F_Songs_init.binds (ps := ["self", "numbers"]) fun _ _ _ _ _ _ us hl => match us, hl with | [_, _], _ => rfl
  have F__law_songs := fun_mk (st := (top 30)) l__law_songs cd_ok__law_songs kp__law_songs
  have b__law_songs := F__law_songs.binds (ps := ["_law_case"]) fun _ _ _ _ _ _ us hl => match us, hl with | [_], _ => rfl
  have F__law_with := fun_mk (st := (top 31)) l__law_with cd_ok__law_with kp__law_with
  have b__law_with := F__law_with.binds (ps := ["_law_case", "_law_groups", "_law_row"]) fun _ _ _ _ _ _ us hl => match us, hl with | [_, _, _], _ => rfl
  have F_is_list := fun_mk (st := (top 13)) l_is_list cd_ok_is_list kp_is_list
  have b_is_list := F_is_list.binds (ps := ["thing"]) fun _ _ _ _ _ _ us hl => match us, hl with | [_], _ => rfl
  have F_need_kinds := fun_mk (st := (top 20)) l_need_kinds cd_ok_need_kinds kp_need_kinds
  have b_need_kinds := F_need_kinds.binds (ps := ["kinds"]) fun _ _ _ _ _ _ us hl => match us, hl with | [_], _ => rfl
  have F_number_rows := fun_mk (st := (top 21)) l_number_rows cd_ok_number_rows kp_number_rows
  have b_number_rows := F_number_rows.binds (ps := ["many", "most"]) fun _ _ _ _ _ _ us hl => match us, hl with | [_, _], _ => rfl
  have F_songs_by := fun_mk (st := (top 22)) l_songs_by cd_ok_songs_by kp_songs_by
  have b_songs_by := F_songs_by.binds (ps := ["kinds", "row"]) fun _ _ _ _ _ _ us hl => match us, hl with | [_, _], _ => rfl
  have F_lists_of := fun_mk (st := (top 23)) l_lists_of cd_ok_lists_of kp_lists_of
  have b_lists_of := F_lists_of.binds (ps := ["kinds", "most"]) fun _ _ _ _ _ _ us hl => match us, hl with | [_, _], _ => rfl
  have F_lists_up_to := fun_mk (st := (top 24)) l_lists_up_to cd_ok_lists_up_to kp_lists_up_to
  have b_lists_up_to := F_lists_up_to.binds (ps := ["kinds", "most"]) fun _ _ _ _ _ _ us hl => match us, hl with | [_, _], _ => rfl
  have F_Songs_eq := fun_mk (st := (inClass (top 15) 7)) l_Songs_eq cd_ok_Songs_eq kp_Songs_eq
  have b_Songs_eq := F_Songs_eq.binds (ps := ["self", "other"]) fun _ _ _ _ _ _ us hl => match us, hl with | [_, _], _ => rfl
  have F_Songs_numbers := fun_mk (st := (inClass (top 15) 2)) l_Songs_numbers cd_ok_Songs_numbers kp_Songs_numbers
  have b_Songs_numbers := F_Songs_numbers.binds (ps := ["self"]) fun _ _ _ _ _ _ us hl => match us, hl with | [_], _ => rfl
  have F_law := fun_mk (st := (top 33)) l_law cd_ok_law kp_law
  have b_law := F_law.binds (ps := ["_law_script"]) fun _ _ _ _ _ _ us hl => match us, hl with | [_], _ => rfl
  refine ⟨_, fun s v => .of_eq (fd := PySem.W.fnOf "law" "law" (defArgs (top 33)) (defBody (top 33)) (defScope (top 33)) .none kV_law dc_law pm_law an_law cd_law ct_law) rfl, fun base xb gb sys tbs0 => ?_⟩
  have T : Txt P K mg base :=
    { sys := sys, isa := ⟨(allC_cons mg_Songs (⟨cl_Songs, ha_Songs, hn0, htk0, hm_Songs⟩) allC_nil),
    isa_own (allC_cons mg_Songs ((allC_cons (p := fun D a => PySem.W.kitOne _ (.ref a) (.ref C_Songs) = some (decide (D = "Songs"))) mg_Songs (kk_Songs_Songs.trans (by decide +kernel)) allC_nil)) allC_nil),
    (allC_cons mg_Songs ((allT_cons (bt_Songs_NoneType) (allT_cons (bt_Songs_bool) (allT_cons (bt_Songs_int) (allT_cons (bt_Songs_str) (allT_cons (bt_Songs_tuple) (allT_cons (bt_Songs_list) (allT_cons (bt_Songs_dict) allT_nil)))))))) allC_nil),
    (allC_cons mg_Songs ((allT_cons (ty_Songs_bool) (allT_cons (ty_Songs_dict) (allT_cons (ty_Songs_int) (allT_cons (ty_Songs_list) (allT_cons (ty_Songs_str) (allT_cons (ty_Songs_tuple) allT_nil))))))) allC_nil)⟩,
      n_abs := PySem.W.mg_none_of X G z_abs,
      n_all := PySem.W.mg_none_of X G z_all,
      n_bool := PySem.W.mg_none_of X G z_bool,
      n_dict := PySem.W.mg_none_of X G z_dict,
      n_divmod := PySem.W.mg_none_of X G z_divmod,
      n_int := PySem.W.mg_none_of X G z_int,
      n_isinstance := PySem.W.mg_none_of X G z_isinstance,
      n_len := PySem.W.mg_none_of X G z_len,
      n_list := PySem.W.mg_none_of X G z_list,
      n_min := PySem.W.mg_none_of X G z_min,
      n_range := PySem.W.mg_none_of X G z_range,
      n_repr := PySem.W.mg_none_of X G z_repr,
      n_set := PySem.W.mg_none_of X G z_set,
      n_sorted := PySem.W.mg_none_of X G z_sorted,
      n_str := PySem.W.mg_none_of X G z_str,
      n_sum := PySem.W.mg_none_of X G z_sum,
      n_tuple := PySem.W.mg_none_of X G z_tuple,
      n_zip := PySem.W.mg_none_of X G z_zip,
      g_LETTERS := ⟨t_LETTERS, PySem.W.mg_of X G k_LETTERS⟩,
      g_LONGEST_NAME := ⟨t_LONGEST_NAME, PySem.W.mg_of X G k_LONGEST_NAME⟩,
      g_MOST_KINDS_lists := ⟨t_MOST_KINDS_lists, PySem.W.mg_of X G k_MOST_KINDS_lists⟩,
      g_MOST_KINDS_songs := ⟨t_MOST_KINDS_songs, PySem.W.mg_of X G k_MOST_KINDS_songs⟩,
      g_MOST_LISTED := ⟨t_MOST_LISTED, PySem.W.mg_of X G k_MOST_LISTED⟩,
      m_Songs := ⟨C_Songs, PySem.W.mg_of X G g_Songs⟩,
      fl_s_numbers := (allC_cons mg_Songs (⟨cl_Songs, na_Songs_s_numbers⟩) allC_nil),
      ap_Songs := fun D hD Ca Da h1 h2 => (by cases (h1.symm.trans mg_Songs); exact ((allC_cons (p := fun _ a => PySem.W.notFirst K C_Songs (.ref a) = true) mg_Songs (nf_Songs_Songs) allC_nil)) D hD Da h2),
      ne_Songs := fun Ca h1 => (by cases (h1.symm.trans mg_Songs); exact ⟨nn_Songs, so_Songs⟩) }
  have K__law_begin : FK P w K mg base 1 a__law_begin _ ["_law_script"] (spF ⟨K, mg, w⟩ f__law_begin 1) := fk_fn F__law_begin sc__law_begin rfl (d__law_begin T )
  have K__law_take : FK P w K mg base 1 a__law_take _ ["_law_draw", "_law_size"] (spF ⟨K, mg, w⟩ f__law_take 2) := fk_fn F__law_take sc__law_take rfl (d__law_take T )
  have K__law_pick : FK P w K mg base 2 a__law_pick _ ["_law_draw", "_law_some"] (spF ⟨K, mg, w⟩ f__law_pick 2) := fk_fn F__law_pick sc__law_pick rfl (d__law_pick T (by exact ⟨a__law_take, _, _, PySem.W.mg_of X G f_a__law_take, kp__law_take, b__law_take, K__law_take⟩))
  have K__law_names : FK P w K mg base 3 a__law_names _ ["_law_draw", "_law_many"] (spF ⟨K, mg, w⟩ f__law_names 2) := fk_fn F__law_names sc__law_names rfl (d__law_names T (by exact ⟨a__law_pick, _, _, PySem.W.mg_of X G f_a__law_pick, kp__law_pick, b__law_pick, K__law_pick⟩) (by exact ⟨a__law_take, _, _, PySem.W.mg_of X G f_a__law_take, kp__law_take, b__law_take, K__law_take⟩))
  have K__law_number_rows : FK P w K mg base 1 a__law_number_rows _ ["_law_many", "_law_roof"] (spF ⟨K, mg, w⟩ f__law_number_rows 2) := fk_fn F__law_number_rows sc__law_number_rows rfl (d__law_number_rows T )
  have K_is_name : FK P w K mg base 1 a_is_name _ ["thing"] (spF ⟨K, mg, w⟩ f_is_name 1) := fk_fn F_is_name sc_is_name rfl (d_is_name T )
  have K_is_integer : FK P w K mg base 1 a_is_integer _ ["thing"] (spF ⟨K, mg, w⟩ f_is_integer 1) := fk_fn F_is_integer sc_is_integer rfl (d_is_integer T )
  have K_is_number : FK P w K mg base 2 a_is_number _ ["thing"] (spF ⟨K, mg, w⟩ f_is_number 1) := fk_fn F_is_number sc_is_number rfl (d_is_number T (by exact ⟨a_is_integer, _, _, PySem.W.mg_of X G f_a_is_integer, kp_is_integer, b_is_integer, K_is_integer⟩))
  have K_Songs_init : FK P w K mg base 3 a_Songs_init _ ["self", "numbers"] (spF ⟨K, mg, w⟩ f_Songs_init 2) := fk_fn F_Songs_init sc_Songs_init rfl (d_Songs_init T (by exact ⟨a_is_name, _, _, PySem.W.mg_of X G f_a_is_name, kp_is_name, b_is_name, K_is_name⟩) (by exact ⟨a_is_number, _, _, PySem.W.mg_of X G f_a_is_number, kp_is_number, b_is_number, K_is_number⟩))
  have K__law_songs : FK P w K mg base 5 a__law_songs _ ["_law_case"] (spF ⟨K, mg, w⟩ f__law_songs 1) := fk_fn F__law_songs sc__law_songs rfl (d__law_songs T (by exact ⟨C_Songs, a_Songs_init, _, _, [], [], mg_Songs, ⟨f_m_Songs_init, f_a_Songs_init, f_i_Songs_init, f_c_Songs_init⟩, b_Songs_init, .nil, fun _ _ => .nil, K_Songs_init⟩))
  have K__law_with : FK P w K mg base 1 a__law_with _ ["_law_case", "_law_groups", "_law_row"] (spF ⟨K, mg, w⟩ f__law_with 3) := fk_fn F__law_with sc__law_with rfl (d__law_with T )
  have K_is_list : FK P w K mg base 1 a_is_list _ ["thing"] (spF ⟨K, mg, w⟩ f_is_list 1) := fk_fn F_is_list sc_is_list rfl (d_is_list T )
  have K_need_kinds : FK P w K mg base 2 a_need_kinds _ ["kinds"] (spF ⟨K, mg, w⟩ f_need_kinds 1) := fk_fn F_need_kinds sc_need_kinds rfl (d_need_kinds T (by exact ⟨a_is_list, _, _, PySem.W.mg_of X G f_a_is_list, kp_is_list, b_is_list, K_is_list⟩) (by exact ⟨a_is_name, _, _, PySem.W.mg_of X G f_a_is_name, kp_is_name, b_is_name, K_is_name⟩))
  have K_number_rows : FK P w K mg base 1 a_number_rows _ ["many", "most"] (spF ⟨K, mg, w⟩ f_number_rows 2) := fk_fn F_number_rows sc_number_rows rfl (d_number_rows T )
  have K_songs_by : FK P w K mg base 5 a_songs_by _ ["kinds", "row"] (spF ⟨K, mg, w⟩ f_songs_by 2) := fk_fn F_songs_by sc_songs_by rfl (d_songs_by T (by exact ⟨C_Songs, a_Songs_init, _, _, [], [], mg_Songs, ⟨f_m_Songs_init, f_a_Songs_init, f_i_Songs_init, f_c_Songs_init⟩, b_Songs_init, .nil, fun _ _ => .nil, K_Songs_init⟩))
  have K_lists_of : FK P w K mg base 6 a_lists_of _ ["kinds", "most"] (spF ⟨K, mg, w⟩ f_lists_of 2) := fk_fn F_lists_of sc_lists_of rfl (d_lists_of T (by exact ⟨a_number_rows, _, _, PySem.W.mg_of X G f_a_number_rows, kp_number_rows, b_number_rows, K_number_rows⟩) (by exact ⟨a_songs_by, _, _, PySem.W.mg_of X G f_a_songs_by, kp_songs_by, b_songs_by, K_songs_by⟩))
  have K_lists_up_to : FK P w K mg base 7 a_lists_up_to _ ["kinds", "most"] (spF ⟨K, mg, w⟩ f_lists_up_to 2) := fk_fn F_lists_up_to sc_lists_up_to rfl (d_lists_up_to T (by exact ⟨a_need_kinds, _, _, PySem.W.mg_of X G f_a_need_kinds, kp_need_kinds, b_need_kinds, K_need_kinds⟩) (by exact ⟨a_is_integer, _, _, PySem.W.mg_of X G f_a_is_integer, kp_is_integer, b_is_integer, K_is_integer⟩) (by exact ⟨a_lists_of, _, _, PySem.W.mg_of X G f_a_lists_of, kp_lists_of, b_lists_of, K_lists_of⟩))
  have K_Songs_eq : FK P w K mg base 1 a_Songs_eq _ ["self", "other"] (spF ⟨K, mg, w⟩ f_Songs_eq 2) := fk_fn F_Songs_eq sc_Songs_eq rfl (d_Songs_eq T )
  have K_Songs_numbers : FK P w K mg base 1 a_Songs_numbers _ ["self"] (spF ⟨K, mg, w⟩ f_Songs_numbers 1) := fk_fn F_Songs_numbers sc_Songs_numbers rfl (d_Songs_numbers T )
  have K_law : FK P w K mg base 8 fa _ ["_law_script"] (spF ⟨K, mg, w⟩ f_law 1) := fk_fn F_law sc_law rfl (d_law T (by exact ⟨a__law_begin, _, _, PySem.W.mg_of X G f_a__law_begin, kp__law_begin, b__law_begin, K__law_begin⟩) (by exact ⟨a__law_take, _, _, PySem.W.mg_of X G f_a__law_take, kp__law_take, b__law_take, K__law_take⟩) (by exact ⟨a__law_names, _, _, PySem.W.mg_of X G f_a__law_names, kp__law_names, b__law_names, K__law_names⟩) (by exact ⟨a__law_number_rows, _, _, PySem.W.mg_of X G f_a__law_number_rows, kp__law_number_rows, b__law_number_rows, K__law_number_rows⟩) (by exact ⟨a__law_songs, _, _, PySem.W.mg_of X G f_a__law_songs, kp__law_songs, b__law_songs, K__law_songs⟩) (by exact ⟨a__law_with, _, _, PySem.W.mg_of X G f_a__law_with, kp__law_with, b__law_with, K__law_with⟩) (by exact ⟨a_lists_up_to, _, _, PySem.W.mg_of X G f_a_lists_up_to, kp_lists_up_to, b_lists_up_to, K_lists_up_to⟩) (by exact ⟨C_Songs, a_Songs_eq, _, _, mg_Songs, f_a_Songs_eq, f_i_Songs_eq, b_Songs_eq, K_Songs_eq⟩) (by exact ⟨a_lists_up_to, _, _, [], [], PySem.W.mg_of X G f_a_lists_up_to, kp_lists_up_to, fun s us ws _ h1 h2 => (match us, ws, h1, h2 with | [], [_, _], _, _ => .of_eq rfl), .nil, fun _ _ => .nil, K_lists_up_to⟩) (by exact ⟨C_Songs, p_Songs_numbers, a_Songs_numbers, _, _, mg_Songs, cl_Songs, ⟨f_p_Songs_numbers, f_g_Songs_numbers, f_t_Songs_numbers, ⟨_, f_r_Songs_numbers⟩⟩, b_Songs_numbers, K_Songs_numbers⟩))
  exact K_law
end
end U
namespace U
open PySem L2
inductive Wp {α : Type} : Res α → (α → Hh → Prop) → Prop
  | ok {a : α} {h : Hh} {Q : α → Hh → Prop} : Q a h → Wp (.ok a h) Q
inductive WpF : Fl → (Loc → Hh → Prop) → (Val → Hh → Prop) → Prop
  | nx {σ : Loc} {h : Hh} {N : Loc → Hh → Prop} {R : Val → Hh → Prop} : N σ h → WpF (.nx σ h) N R
  | rt {v : Val} {h : Hh} {N : Loc → Hh → Prop} {R : Val → Hh → Prop} : R v h → WpF (.rt v h) N R
section
variable {α β : Type} {r : Res α} {Q Q' : α → Hh → Prop} {σ : Loc} {h : Hh} {N N' : Loc → Hh → Prop} {R R' : Val → Hh → Prop} {a b c : ME} {f g : Val → Val → Hh → Res Val} {QV : Val → Hh → Prop} {QB : Bool → Hh → Prop} {QL : List Val → Hh → Prop}
@[simp] theorem wp_ok (a : α) (h : Hh) : Wp (.ok a h) Q ↔ Q a h := ⟨fun w => by cases w; assumption, .ok⟩
@[simp] theorem wp_no : Wp (.no : Res α) Q ↔ False := ⟨fun w => (by cases w), False.elim⟩
@[simp] theorem wp_rs (x : Xc) (h : Hh) : Wp (.rs x h : Res α) Q ↔ False := ⟨fun w => (by cases w), False.elim⟩
@[simp] theorem wp_bind (k : α → Hh → Res β) (Q : β → Hh → Prop) : Wp (r.bind k) Q ↔ Wp r fun a h => Wp (k a h) Q := by cases r <;> simp
@[simp] theorem wp_nr : Wp r.nr Q ↔ Wp r Q := by cases r <;> simp [Res.nr]
theorem Wp.mono (w : Wp r Q) (k : ∀ a h, Q a h → Q' a h) : Wp r Q' := by
  cases w with
  | ok w => exact .ok (k _ _ w)
theorem Wp.ex (w : Wp r Q) : ∃ a h, r = .ok a h ∧ Q a h := by
  cases w with
  | ok w => exact ⟨_, _, rfl, w⟩
theorem wp_ite (p : Prop) [Decidable p] (x y : Res α) : Wp (if p then x else y) Q ↔ (if p then Wp x Q else Wp y Q) := by split <;> rfl
theorem wp_ifT {p : Prop} [Decidable p] {x y : Res α} (hp : p) (w : Wp x Q) : Wp (if p then x else y) Q := by rw [if_pos hp]; exact w
@[simp] theorem wpf_nx (σ : Loc) (h : Hh) : WpF (.nx σ h) N R ↔ N σ h := ⟨fun w => by cases w; assumption, .nx⟩
@[simp] theorem wpf_rt (v : Val) (h : Hh) : WpF (.rt v h) N R ↔ R v h := ⟨fun w => by cases w; assumption, .rt⟩
@[simp] theorem wpf_no : WpF .no N R ↔ False := ⟨fun w => (by cases w), False.elim⟩
@[simp] theorem wpf_bk (σ : Loc) (h : Hh) : WpF (.bk σ h) N R ↔ False := ⟨fun w => (by cases w), False.elim⟩
@[simp] theorem wpf_ct (σ : Loc) (h : Hh) : WpF (.ct σ h) N R ↔ False := ⟨fun w => (by cases w), False.elim⟩
@[simp] theorem wpf_rs (x : Xc) (σ : Loc) (h : Hh) : WpF (.rs x σ h) N R ↔ False := ⟨fun w => (by cases w), False.elim⟩
@[simp] theorem wpf_fl (k : α → Hh → Fl) : WpF (r.fl σ k) N R ↔ Wp r fun a h => WpF (k a h) N R := by cases r <;> simp
@[simp] theorem wpf_next (r : Fl) (k : MS) : WpF (r.next k) N R ↔ WpF r (fun σ h => WpF (k σ h) N R) R := by cases r <;> simp
theorem WpF.mono {r : Fl} (w : WpF r N R) (k1 : ∀ σ h, N σ h → N' σ h) (k2 : ∀ v h, R v h → R' v h) : WpF r N' R' := by
  cases w with
  | nx w => exact .nx (k1 _ _ w)
  | rt w => exact .rt (k2 _ _ w)
@[simp] theorem w_C (v : Val) : Wp (mC v σ h) QV ↔ QV v h := wp_ok _ _
@[simp] theorem w_var0 (x : Val) (r : Loc) : mVar 0 (some x :: r) h = .ok x h := rfl
@[simp] theorem w_varS (n : Nat) (x : Option Val) (r : Loc) : mVar (n + 1) (x :: r) h = mVar n r h := by unfold mVar; simp
@[simp] theorem w_op : Wp (mOp f a b σ h) QV ↔ Wp (a σ h) fun x h1 => Wp (b σ h1) fun y h2 => Wp (f x y h2) QV := by simp [mOp]
@[simp] theorem w_un (f : Val → Hh → Res Val) : Wp (mUn f a σ h) QV ↔ Wp (a σ h) fun x h1 => Wp (f x h1) QV := by simp [mUn]
@[simp] theorem w_anil : Wp (maNil σ h) QL ↔ QL [] h := wp_ok _ _
@[simp] theorem w_acons (m : MA) : Wp (maCons a m σ h) QL ↔ Wp (a σ h) fun x h1 => Wp (m σ h1) fun xs h2 => QL (x :: xs) h2 := by simp [maCons]
@[simp] theorem w_app (F : Fn) (m : MA) : Wp (mApp F m σ h) QV ↔ Wp (m σ h) fun vs h1 => Wp (F vs h1) QV := by simp [mApp]
@[simp] theorem w_chain : Wp (mChain f g a b c σ h) QV ↔ Wp (a σ h) fun x h1 => Wp (b σ h1) fun y h2 => Wp (f x y h2) fun z h3 => (match z with
  | .bl true => Wp (c σ h3) fun w h4 => Wp (g y w h4) QV
  | .bl false => QV (.bl false) h3
  | _ => False) := by
  unfold mChain
  simp only [wp_bind]
  refine iff_of_eq (congrArg _ (funext fun x => funext fun h1 => congrArg _ (funext fun y => funext fun h2 => congrArg _ (funext fun z => funext fun h3 => ?_))))
  cases z with
  | bl b => cases b <;> simp
  | _ => simp
@[simp] theorem w_and : Wp (mAnd a b σ h) QV ↔ Wp (a σ h) fun x h1 => (match x with
  | .bl true => Wp (b σ h1) QV
  | .bl false => QV (.bl false) h1
  | _ => False) := by
  unfold mAnd
  simp only [wp_bind]
  refine iff_of_eq (congrArg _ (funext fun z => funext fun h3 => ?_))
  cases z with
  | bl b => cases b <;> simp
  | _ => simp
@[simp] theorem w_or : Wp (mOr a b σ h) QV ↔ Wp (a σ h) fun x h1 => (match x with
  | .bl true => QV (.bl true) h1
  | .bl false => Wp (b σ h1) QV
  | _ => False) := by
  unfold mOr
  simp only [wp_bind]
  refine iff_of_eq (congrArg _ (funext fun z => funext fun h3 => ?_))
  cases z with
  | bl b => cases b <;> simp
  | _ => simp
@[simp] theorem w_not : Wp (mNot a σ h) QV ↔ Wp (a σ h) fun x h1 => (match truth x h1 with
  | some b => QV (.bl !b) h1
  | none => False) := by
  unfold mNot
  simp only [wp_bind]
  refine iff_of_eq (congrArg _ (funext fun z => funext fun h3 => ?_))
  cases truth z h3 <;> simp
@[simp] theorem w_if (t : MT) : Wp (mIf t a b σ h) QV ↔ Wp (t σ h) fun c h1 => if c = true then Wp (a σ h1) QV else Wp (b σ h1) QV := by
  unfold mIf; simp only [wp_bind, wp_ite]
@[simp] theorem w_tval : Wp (tVal a σ h) QB ↔ Wp (a σ h) fun x h1 => (match truth x h1 with
  | some b => QB b h1
  | none => False) := by
  unfold tVal
  simp only [wp_bind]
  refine iff_of_eq (congrArg _ (funext fun z => funext fun h3 => ?_))
  cases truth z h3 <;> simp
@[simp] theorem w_tand (a b : MT) : Wp (tAnd2 a b σ h) QB ↔ Wp (a σ h) fun c h1 => if c = true then Wp (b σ h1) QB else QB false h1 := by
  unfold tAnd2; simp only [wp_bind, wp_ite, wp_ok]
@[simp] theorem w_tor (a b : MT) : Wp (tOr2 a b σ h) QB ↔ Wp (a σ h) fun c h1 => if c = true then QB true h1 else Wp (b σ h1) QB := by
  unfold tOr2; simp only [wp_bind, wp_ite, wp_ok]
@[simp] theorem w_tnot (a : MT) : Wp (tNot1 a σ h) QB ↔ Wp (a σ h) fun c h1 => QB (!c) h1 := by
  unfold tNot1; simp only [wp_bind, wp_ok]
@[simp] theorem w_tbl : Wp (tBl a σ h) QB ↔ Wp (a σ h) fun x h1 => (match x with
  | .bl b => QB b h1
  | _ => False) := by
  unfold tBl
  simp only [wp_bind]
  refine iff_of_eq (congrArg _ (funext fun z => funext fun h3 => ?_))
  cases z <;> simp
@[simp] theorem w_ttrue : Wp (tTrue σ h) QB ↔ QB true h := wp_ok _ _
variable {ms mr : MS} {t : MT}
@[simp] theorem f_nil : WpF (msNil σ h) N R ↔ N σ h := wpf_nx _ _
@[simp] theorem f_seq : WpF (msSeq ms mr σ h) N R ↔ WpF (ms σ h) (fun σ h => WpF (mr σ h) N R) R := by simp [msSeq]
@[simp] theorem f_if : WpF (msIf t ms mr σ h) N R ↔ Wp (t σ h) fun c h1 => if c = true then WpF (ms σ h1) N R else WpF (mr σ h1) N R := by
  unfold msIf
  simp only [wpf_fl]
  refine iff_of_eq (congrArg _ (funext fun c => funext fun h3 => ?_))
  cases c <;> simp
@[simp] theorem f_ret : WpF (msRet a σ h) N R ↔ Wp (a σ h) R := by simp [msRet]
@[simp] theorem f_retN : WpF (msRetN σ h) N R ↔ R .non h := wpf_rt _ _
@[simp] theorem f_expr : WpF (msExpr a σ h) N R ↔ Wp (a σ h) fun _ h1 => N σ h1 := by simp [msExpr]
@[simp] theorem f_no : WpF (msNo σ h) N R ↔ False := wpf_no
@[simp] theorem f_asg (g : MG) : WpF (msAsg a g σ h) N R ↔ Wp (a σ h) fun v h1 => WpF (g v σ h1) N R := by simp [msAsg]
@[simp] theorem f_name (i : Nat) (v : Val) : WpF (mgName i v σ h) N R ↔ N (σ.set i (some v)) h := wpf_nx _ _
@[simp] theorem f_tup (n : Nat) (gs : MGs) (vs : List Val) : WpF (mgTup n gs (.tup vs) σ h) N R ↔ vs.length = n ∧ WpF (gs vs σ h) N R := by
  unfold mgTup
  by_cases e : vs.length = n <;> simp [e]
@[simp] theorem f_gnil : WpF (mgNil [] σ h) N R ↔ N σ h := wpf_nx _ _
@[simp] theorem f_gcons (g : MG) (gs : MGs) (v : Val) (vs : List Val) : WpF (mgCons g gs (v :: vs) σ h) N R ↔ WpF (g v σ h) (fun σ h => WpF (gs vs σ h) N R) R := by simp [mgCons]
@[simp] theorem f_sub (mo mi : ME) (v : Val) : WpF (mgSub mo mi v σ h) N R ↔ Wp (mo σ h) fun o h1 => Wp (mi σ h1) fun i h2 => (match vSet o i v h2 with
  | some h3 => N σ h3
  | none => False) := by
  unfold mgSub
  cases mo σ h with
  | ok o h1 =>
    simp only [wp_ok]
    cases mi σ h1 with
    | ok i h2 =>
      simp only [wp_ok]
      cases vSet o i v h2 <;> simp
    | _ => simp
  | _ => simp
@[simp] theorem f_par (i j : Nat) (m : MA) : WpF (msPar i j m σ h) N R ↔ Wp (m σ h) fun vs h1 => (match vs with
  | [v, w] => N ((σ.set i (some v)).set j (some w)) h1
  | _ => False) := by
  unfold msPar
  simp only [wpf_fl]
  refine iff_of_eq (congrArg _ (funext fun vs => funext fun h3 => ?_))
  match vs with
  | [] => simp
  | [_] => simp
  | [_, _] => simp
  | _ :: _ :: _ :: _ => simp
@[simp] theorem f_par3 (i j l : Nat) (m : MA) : WpF (msPar3 i j l m σ h) N R ↔ Wp (m σ h) fun vs h1 => (match vs with
  | [u, v, w] => N (((σ.set i (some u)).set j (some v)).set l (some w)) h1
  | _ => False) := by
  unfold msPar3
  simp only [wpf_fl]
  refine iff_of_eq (congrArg _ (funext fun vs => funext fun h3 => ?_))
  match vs with
  | [] => simp
  | [_] => simp
  | [_, _] => simp
  | [_, _, _] => simp
  | _ :: _ :: _ :: _ :: _ => simp
def setF (cs : List Str) (f : Str) (x y : Val) (h : Hh) : Option Hh := match x with
  | .ref n => (match h[n]? with
    | some (.ins C fs) => if C ∈ cs ∧ fs.length < 1000 then some (h.set n (.ins C (putFv f y fs))) else none
    | _ => none)
  | _ => none
theorem setF_ok {cs : List Str} {f C : Str} {n : Nat} {y : Val} {fs : List (Str × Val)} (e : h[n]? = some (.ins C fs)) (hc : C ∈ cs) (hf : fs.length < 1000) : setF cs f (.ref n) y h = some (h.set n (.ins C (putFv f y fs))) := by
  simp only [setF, e, if_pos (And.intro hc hf)]
@[simp] theorem f_fld (cs : List Str) (f : Str) (mo mv : ME) : WpF (msFld cs f mo mv σ h) N R ↔ Wp (mv σ h) fun y h1 => Wp (mo σ h1) fun x h2 => (match setF cs f x y h2 with
  | some h3 => N σ h3
  | none => False) := by
  unfold msFld
  simp only [wpf_fl]
  refine iff_of_eq (congrArg _ (funext fun y => funext fun h1 => congrArg _ (funext fun x => funext fun h2 => ?_)))
  unfold setF
  cases x with
  | ref n =>
    dsimp only
    cases h2[n]? with
    | none => simp
    | some o =>
      cases o with
      | ins C fs =>
        dsimp only
        split <;> simp
      | _ => simp
  | _ => simp
theorem w_fn (n : Nat) (b : MS) (vs : List Val) : Wp (mkFn n b vs h) QV ↔ WpF (b (vs.map some ++ List.replicate (n - vs.length) none) h) (fun _ h' => QV .non h') QV := by
  unfold mkFn
  cases b (vs.map some ++ List.replicate (n - vs.length) none) h <;> simp
@[simp] theorem w_callF (n : Nat) (F : Fn) (vs : List Val) : Wp (callF n F vs h) QV ↔ vs.length = n ∧ Wp (F vs h) QV := by
  unfold callF
  by_cases e : vs.length = n <;> simp [e]
theorem forV_wp {src : Hh → Prop} {body : Val → MS} (I : Nat → Loc → Hh → Prop) (hs : ∀ k σ h, I k σ h → src h) : ∀ (vs : List Val) (k : Nat) {σ : Loc} {h : Hh}, I k σ h →
    (∀ j v σ' h', vs[j]? = some v → I (k + j) σ' h' → WpF (body v σ' h') (I (k + j + 1)) R) → (∀ σ' h', I (k + vs.length) σ' h' → N σ' h') → WpF (forV src body vs σ h) N R
  | [], k, σ, h, i, _, e => by
    unfold forV
    rw [if_pos (hs k σ h i)]
    exact .nx (e σ h i)
  | v :: vs, k, σ, h, i, st, e => by
    unfold forV
    rw [if_pos (hs k σ h i)]
    have w := st 0 v σ h rfl i
    cases q : body v σ h with
    | nx σ' h' =>
      rw [q, wpf_nx] at w
      refine forV_wp I hs vs (k + 1) (show I (k + 1) σ' h' from w) (fun j v σ' h' ev i' => ?_) fun σ' h' i' => e σ' h' (by rw [List.length_cons, show k + (vs.length + 1) = k + 1 + vs.length by omega]; exact i')
      have := st (j + 1) v σ' h' (by simpa using ev) (by rw [show k + (j + 1) = k + 1 + j by omega]; exact i')
      rw [show k + (j + 1) + 1 = k + 1 + j + 1 by omega] at this
      exact this
    | rt v' h' => rw [q, wpf_rt] at w; exact .rt w
    | bk _ _ => rw [q] at w; cases w
    | ct _ _ => rw [q] at w; cases w
    | rs _ _ _ => rw [q] at w; cases w
    | no => rw [q] at w; cases w
theorem f_for {mi : MI} {g : MG} {b : MS} (I : Nat → Loc → Hh → Prop) (w : Wp (mi σ h) fun it h1 => it.lk = none ∧ I 0 σ h1 ∧ (∀ k σ' h', I k σ' h' → it.src h') ∧
    (∀ k v σ' h', it.items[k]? = some v → I k σ' h' → WpF (g v σ' h') (fun σ2 h2 => WpF (b σ2 h2) (I (k + 1)) R) R) ∧ ∀ σ' h', I it.items.length σ' h' → N σ' h') : WpF (msFor mi g b σ h) N R := by
  unfold msFor
  rw [wpf_fl]
  refine w.mono fun it h1 ⟨w1, w2, w3, w4, w5⟩ => ?_
  rw [w1]
  show WpF (forV it.src (fun v σ h => (g v σ h).next b) it.items σ h1) N R
  refine forV_wp I w3 it.items 0 w2 (fun j v σ' h' ev i => ?_) fun σ' h' i => w5 σ' h' (by simpa using i)
  rw [wpf_next]
  have := w4 j v σ' h' ev (by simpa using i)
  simpa using this
theorem lcV_wp {src : Hh → Prop} {n : Nat} {body : Val → Hh → Res (Option Val)} {Q : Unit → Hh → Prop} (I : Nat → List Val → Hh → Prop) (hs : ∀ k acc h, I k acc h → src h) : ∀ (vs : List Val) (k : Nat) {acc : List Val} {h : Hh}, I k acc h → h[n]? = some (.lst acc) → acc.length + vs.length ≤ sizeLine →
    (∀ j v acc' h', vs[j]? = some v → I (k + j) acc' h' → h'[n]? = some (.lst acc') → Wp (body v h') fun o h2 => h2[n]? = some (.lst acc') ∧ (match o with
      | none => I (k + j + 1) acc' h2
      | some y => I (k + j + 1) (acc' ++ [y]) (h2.set n (.lst (acc' ++ [y]))))) → (∀ acc' h', I (k + vs.length) acc' h' → h'[n]? = some (.lst acc') → Q () h') → Wp (lcV src n body vs h) Q
  | [], k, acc, h, i, hn, _, _, e => by
    unfold lcV
    rw [if_pos (hs k acc h i)]
    exact .ok (e acc h i hn)
  | v :: vs, k, acc, h, i, hn, hz, st, e => by
    unfold lcV
    rw [if_pos (hs k acc h i)]
    have w := st 0 v acc h rfl i hn
    rw [List.length_cons] at hz
    have st' : ∀ j v acc' h', vs[j]? = some v → I (k + 1 + j) acc' h' → h'[n]? = some (.lst acc') → Wp (body v h') fun o h2 => h2[n]? = some (.lst acc') ∧ (match o with
      | none => I (k + 1 + j + 1) acc' h2
      | some y => I (k + 1 + j + 1) (acc' ++ [y]) (h2.set n (.lst (acc' ++ [y])))) := fun j v acc' h' ev i' hn' => by
      have := st (j + 1) v acc' h' (by simpa using ev) (by rw [show k + (j + 1) = k + 1 + j by omega]; exact i') hn'
      rw [show k + (j + 1) + 1 = k + 1 + j + 1 by omega] at this
      exact this
    have e' : ∀ acc' h', I (k + 1 + vs.length) acc' h' → h'[n]? = some (.lst acc') → Q () h' := fun acc' h' i' => e acc' h' (by rw [List.length_cons, show k + (vs.length + 1) = k + 1 + vs.length by omega]; exact i')
    cases q : body v h with
    | ok o h' =>
      rw [q, wp_ok] at w
      cases o with
      | none => exact lcV_wp I hs vs (k + 1) (show I (k + 1) acc h' from w.2) w.1 (by omega) st' e'
      | some y =>
        have hp : push1 n y h' = some (h'.set n (.lst (acc ++ [y]))) := by
          unfold push1
          rw [w.1]
          dsimp only
          rw [if_pos (by omega)]
        dsimp only
        rw [hp]
        have hl : n < h'.length := (List.getElem?_eq_some_iff.mp w.1).1
        exact lcV_wp I hs vs (k + 1) (show I (k + 1) (acc ++ [y]) _ from w.2) (List.getElem?_set_self hl) (by rw [List.length_append, List.length_singleton]; omega) st' e'
    | rs _ _ => rw [q] at w; cases w
    | no => rw [q] at w; cases w
theorem w_lc {mi : MI} {vs : List Nat} {tg : Tg} {c : MT} {e : ME} (I : Itb → Hh → Nat → List Val → Hh → Prop) (w : Wp (mi σ h) fun it h1 => it.items.length ≤ sizeLine ∧ I it h1 0 [] (h1 ++ [.lst []]) ∧ (∀ k acc h', I it h1 k acc h' → it.src h') ∧
    (∀ k v acc h', it.items[k]? = some v → I it h1 k acc h' → h'[h1.length]? = some (.lst acc) → Wp (lcB vs tg c e σ v h') fun o h2 => h2[h1.length]? = some (.lst acc) ∧ (match o with
      | none => I it h1 (k + 1) acc h2
      | some y => I it h1 (k + 1) (acc ++ [y]) (h2.set h1.length (.lst (acc ++ [y]))))) ∧
    ∀ acc h', I it h1 it.items.length acc h' → h'[h1.length]? = some (.lst acc) → ∃ h3, unlH it.lk h' = some h3 ∧ QV (.ref h1.length) h3) : Wp (mLc mi vs tg c e σ h) QV := by
  unfold mLc
  rw [wp_bind]
  refine w.mono fun it h1 ⟨w0, w2, w3, w4, w5⟩ => ?_
  rw [wp_bind]
  refine lcV_wp (I it h1) w3 it.items 0 w2 (by simp) (by simpa using w0) (fun j v acc h' ev i hn => ?_) fun acc h' i hn => ?_
  · have := w4 j v acc h' ev (by simpa using i) hn
    simpa using this
  · obtain ⟨h3, q1, q2⟩ := w5 acc h' (by simpa using i) hn
    rw [q1]
    exact .ok q2
theorem f_forE {mi : MI} {g : MG} {b : MS} {it : Itb} {h1 : Hh} (I : Nat → Loc → Hh → Prop) (hm : mi σ h = .ok it h1) (hl : it.lk = none) (i0 : I 0 σ h1) (hs : ∀ k σ' h', I k σ' h' → it.src h')
    (st : ∀ k v σ' h', it.items[k]? = some v → I k σ' h' → WpF (g v σ' h') (fun σ2 h2 => WpF (b σ2 h2) (I (k + 1)) R) R) (e : ∀ σ' h', I it.items.length σ' h' → N σ' h') : WpF (msFor mi g b σ h) N R :=
  f_for I (by rw [hm]; exact .ok ⟨hl, i0, hs, st, e⟩)
@[simp] theorem add_int (i j : Int) (h : Hh) : vAdd (.int i) (.int j) h = .ok (.int (i + j)) h := rfl
@[simp] theorem sub_int (i j : Int) (h : Hh) : vSub (.int i) (.int j) h = .ok (.int (i - j)) h := rfl
theorem mul_int {i j : Int} (h : Hh) (hj : -(2 ^ 64) < j ∧ j < 2 ^ 64) : vMulA (.int i) (.int j) h = .ok (.int (i * j)) h := by
  have : vMulI i j = true := by
    unfold vMulI
    rw [decide_eq_true hj.1, decide_eq_true hj.2]; simp
  simp [vMulA, isTup, vMul, this]
theorem mod_int {i j : Int} (h : Hh) (hj : 0 < j) : vMod (.int i) (.int j) h = .ok (.int (i % j)) h := by simp [vMod, hj]
theorem pow_int {i j : Int} (h : Hh) (hj : 0 ≤ j ∧ j ≤ 1000000 ∧ i.natAbs < 2 ^ 64) : vPow (.int i) (.int j) h = .ok (.int (i ^ j.toNat)) h := by simp only [vPow, if_pos hj]
@[simp] theorem int_int (i : Int) (h : Hh) : vInt [.int i] h = .ok (.int i) h := rfl
theorem tup_v {vs : List Val} (h : Hh) (hz : vs.length ≤ sizeLine) : vTup vs h = .ok (.tup vs) h := by simp only [vTup, if_pos hz]
theorem lst_v {vs : List Val} (h : Hh) (hz : vs.length ≤ sizeLine) : vLst vs h = .ok (.ref h.length) (h ++ [.lst vs]) := by simp only [vLst, if_pos hz]
theorem add_lst {m n : Nat} {xs ys : List Val} {h : Hh} (e1 : h[m]? = some (.lst xs)) (e2 : h[n]? = some (.lst ys)) (hz : xs.length + ys.length ≤ sizeLine) : vAdd (.ref m) (.ref n) h = .ok (.ref h.length) (h ++ [.lst (xs ++ ys)]) := by
  simp only [vAdd, e1, e2, if_pos hz]
theorem val_lst {m : ME} {n : Nat} {vs : List Val} {h1 : Hh} (e : m σ h = .ok (.ref n) h1) (e1 : h1[n]? = some (.lst vs)) : miVal m σ h = .ok ⟨vs, fun h => h[n]? = some (.lst vs), none⟩ h1 := by
  unfold miVal; rw [e]; simp only [bind_ok, e1]
theorem val_tup {m : ME} {vs : List Val} {h1 : Hh} (e : m σ h = .ok (.tup vs) h1) : miVal m σ h = .ok ⟨vs, fun _ => True, none⟩ h1 := by
  unfold miVal; rw [e]; rfl
theorem val_rng {m : ME} {j : Int} {h1 : Hh} (e : m σ h = .ok (.int j) h1) (hj : -(2 ^ 62) ≤ j ∧ j < 2 ^ 62) : miRng1 m σ h = .ok ⟨(List.range j.toNat).map fun i => .int ((i : Nat) : Int), fun _ => True, none⟩ h1 := by
  unfold miRng1; rw [e]; simp only [bind_ok, if_pos hj]
end
end U
namespace U
open PySem L2
theorem str_inj (a b : String) : (Str.ofString a = Str.ofString b) = (a = b) := by
  apply propext
  constructor
  · intro h
    rw [Str.ofString_eq_toList, Str.ofString_eq_toList] at h
    injection h with h
    have h2 : a.toList.map Char.toNat = b.toList.map Char.toNat := by simpa using h
    have inj : ∀ (x y : List Char), x.map Char.toNat = y.map Char.toNat → x = y := by
      intro x
      induction x with
      | nil => intro y e; cases y with
        | nil => rfl
        | cons _ _ => cases e
      | cons c x ih => intro y e; cases y with
        | nil => cases e
        | cons d y =>
          simp only [List.map_cons, List.cons.injEq] at e
          have : c = d := Char.toNat_inj.mp e.1
          rw [this, ih y e.2]
    exact String.toList_inj.mp (inj _ _ h2)
  · intro h; rw [h]
structure Kp (S : List Nat) (h h' : Hh) : Prop where
  len : h.length ≤ h'.length
  at_ : ∀ i o, h[i]? = some o → i ∉ S → h'[i]? = some o
section
variable {S S' : List Nat} {h h1 h2 : Hh}
theorem Kp.refl (S : List Nat) (h : Hh) : Kp S h h := ⟨Nat.le_refl _, fun _ _ e _ => e⟩
theorem Kp.trans (a : Kp S h h1) (b : Kp S h1 h2) : Kp S h h2 := ⟨Nat.le_trans a.len b.len, fun i o e n => b.at_ i o (a.at_ i o e n) n⟩
theorem Kp.app (l : Hh) (a : Kp S h h1) : Kp S h (h1 ++ l) := ⟨by rw [List.length_append]; have := a.len; omega, fun i o e n => by
  have := a.at_ i o e n
  rw [List.getElem?_append_left (List.getElem?_eq_some_iff.mp this).1]; exact this⟩
theorem Kp.set (i : Nat) (o : Ob) (hi : i ∈ S ∨ h.length ≤ i) (a : Kp S h h1) : Kp S h (h1.set i o) := ⟨by rw [List.length_set]; exact a.len, fun j o' e n => by
  have hj : j < h.length := (List.getElem?_eq_some_iff.mp e).1
  rw [List.getElem?_set_ne (fun z => by subst z; rcases hi with hi | hi; exact n hi; omega)]
  exact a.at_ j o' e n⟩
theorem Kp.weak (a : Kp S h h1) (hs : ∀ i ∈ S, i ∈ S' ∨ h.length ≤ i) : Kp S' h h1 := ⟨a.len, fun i o e n => a.at_ i o e fun z => by
  rcases hs i z with q | q
  · exact n q
  · have := (List.getElem?_eq_some_iff.mp e).1; omega⟩
end
theorem app_at {h : Hh} {i : Nat} {o : Ob} (l : Hh) (e : h[i]? = some o) : (h ++ l)[i]? = some o := by
  rw [List.getElem?_append_left (List.getElem?_eq_some_iff.mp e).1]; exact e
theorem app_new (h : Hh) (o : Ob) : (h ++ [o])[h.length]? = some o := by simp
theorem set_at {h : Hh} {i j : Nat} {o o' : Ob} (e : h[i]? = some o) (n : j ≠ i) : (h.set j o')[i]? = some o := by rw [List.getElem?_set_ne n]; exact e
theorem set_self {h : Hh} {i : Nat} {o o' : Ob} (e : h[i]? = some o) : (h.set i o')[i]? = some o' := List.getElem?_set_self (List.getElem?_eq_some_iff.mp e).1
def drawD (lg ce : Nat) (r t m : Int) : List (Val × Val) := [(.str "large", .ref lg), (.str "cells", .ref ce), (.str "rest", .int r), (.str "turn", .int t), (.str "mix", .int m)]
section
variable (lg ce : Nat) (r t m i : Int)
@[simp] theorem dg_large : dGet (drawD lg ce r t m) (.str "large") = some (.ref lg) := by simp [drawD, dGet, keyOf, str_inj]
@[simp] theorem dg_cells : dGet (drawD lg ce r t m) (.str "cells") = some (.ref ce) := by simp [drawD, dGet, keyOf, str_inj]
@[simp] theorem dg_rest : dGet (drawD lg ce r t m) (.str "rest") = some (.int r) := by simp [drawD, dGet, keyOf, str_inj]
@[simp] theorem dg_turn : dGet (drawD lg ce r t m) (.str "turn") = some (.int t) := by simp [drawD, dGet, keyOf, str_inj]
@[simp] theorem dg_mix : dGet (drawD lg ce r t m) (.str "mix") = some (.int m) := by simp [drawD, dGet, keyOf, str_inj]
@[simp] theorem dp_rest : dPut (drawD lg ce r t m) (.str "rest") (.int i) = drawD lg ce i t m := by simp [drawD, dPut, keyOf, str_inj]
@[simp] theorem dp_turn : dPut (drawD lg ce r t m) (.str "turn") (.int i) = drawD lg ce r i m := by simp [drawD, dPut, keyOf, str_inj]
@[simp] theorem dp_mix : dPut (drawD lg ce r t m) (.str "mix") (.int i) = drawD lg ce r t i := by simp [drawD, dPut, keyOf, str_inj]
end
structure DrS (dr lg ce : Nat) (L C : List Int) (r t m : Int) (h : Hh) : Prop where
  ne1 : dr ≠ lg
  ne2 : dr ≠ ce
  ne3 : lg ≠ ce
  d : h[dr]? = some (.dct (drawD lg ce r t m))
  l : h[lg]? = some (.lst (L.map .int))
  c : h[ce]? = some (.lst (C.map .int))
section
variable {dr lg ce : Nat} {L C : List Int} {r t m : Int} {h : Hh}
theorem DrS.app (D : DrS dr lg ce L C r t m h) (l : Hh) : DrS dr lg ce L C r t m (h ++ l) := ⟨D.ne1, D.ne2, D.ne3, app_at l D.d, app_at l D.l, app_at l D.c⟩
theorem DrS.kp (D : DrS dr lg ce L C r t m h) {S : List Nat} {h' : Hh} (k : Kp S h h') (h1 : dr ∉ S) (h2 : lg ∉ S) (h3 : ce ∉ S) : DrS dr lg ce L C r t m h' := ⟨D.ne1, D.ne2, D.ne3, k.at_ _ _ D.d h1, k.at_ _ _ D.l h2, k.at_ _ _ D.c h3⟩
theorem DrS.rest (D : DrS dr lg ce L C r t m h) : vIx (.ref dr) (.str "rest") h = .ok (.int r) h := by simp [vIx, D.d, keyOf]
theorem DrS.turn (D : DrS dr lg ce L C r t m h) : vIx (.ref dr) (.str "turn") h = .ok (.int t) h := by simp [vIx, D.d, keyOf]
theorem DrS.mix (D : DrS dr lg ce L C r t m h) : vIx (.ref dr) (.str "mix") h = .ok (.int m) h := by simp [vIx, D.d, keyOf]
theorem DrS.large (D : DrS dr lg ce L C r t m h) : vIx (.ref dr) (.str "large") h = .ok (.ref lg) h := by simp [vIx, D.d, keyOf]
theorem DrS.cells (D : DrS dr lg ce L C r t m h) : vIx (.ref dr) (.str "cells") h = .ok (.ref ce) h := by simp [vIx, D.d, keyOf]
theorem size5 : 5 < sizeLine := by decide
theorem DrS.sRest (D : DrS dr lg ce L C r t m h) (i : Int) : vSet (.ref dr) (.str "rest") (.int i) h = some (h.set dr (.dct (drawD lg ce i t m))) := by
  simp [vSet, D.d, keyOf]; exact size5
theorem DrS.sTurn (D : DrS dr lg ce L C r t m h) (i : Int) : vSet (.ref dr) (.str "turn") (.int i) h = some (h.set dr (.dct (drawD lg ce r i m))) := by
  simp [vSet, D.d, keyOf]; exact size5
theorem DrS.sMix (D : DrS dr lg ce L C r t m h) (i : Int) : vSet (.ref dr) (.str "mix") (.int i) h = some (h.set dr (.dct (drawD lg ce r t i))) := by
  simp [vSet, D.d, keyOf]; exact size5
theorem DrS.put (D : DrS dr lg ce L C r t m h) (r' t' m' : Int) : DrS dr lg ce L C r' t' m' (h.set dr (.dct (drawD lg ce r' t' m'))) := ⟨D.ne1, D.ne2, D.ne3, set_self D.d, set_at D.l D.ne1, set_at D.c D.ne2⟩
theorem DrS.pop (D : DrS dr lg ce L C r t m h) (L' : List Int) : DrS dr lg ce L' C r t m (h.set lg (.lst (L'.map .int))) := ⟨D.ne1, D.ne2, D.ne3, set_at D.d (Ne.symm D.ne1), set_self D.l, set_at D.c D.ne3⟩
end
structure Dr (dr lg ce : Nat) (h : Hh) : Prop where
  ex : ∃ (L C : List Int) (r t m : Int), DrS dr lg ce L C r t m h ∧ 0 ≤ m ∧ m < 2147483629 ∧ C.length ≤ 63
@[simp] theorem toD_int (n : Nat) (h : Hh) (i : Int) : toD (n + 1) h (.int i) = some (.int i) := by simp [toD]
@[simp] theorem toD_str (n : Nat) (h : Hh) (i : Str) : toD (n + 1) h (.str i) = some (.str i) := by simp [toD]
@[simp] theorem toD_bl (n : Nat) (h : Hh) (i : Bool) : toD (n + 1) h (.bl i) = some (.bool i) := by simp [toD]
@[simp] theorem toD_non (n : Nat) (h : Hh) : toD (n + 1) h .non = some .none := by simp [toD]
theorem toDs_ints (n : Nat) (h : Hh) : ∀ L : List Int, toDs (n + 1) h (L.map .int) = some (L.map .int)
  | [] => by simp [toDs]
  | i :: L => by rw [List.map_cons, toDs, toD_int, toDs_ints n h L]; rfl
theorem noDs_ints : ∀ L : List Int, noDs (L.map .int) = true
  | [] => by simp [noDs]
  | i :: L => by simp [noDs, noD, noDs_ints L]
theorem canLay_ints : ∀ L : List Int, PyData.canLayAll0 (L.map .int) = true
  | [] => by simp [PyData.canLayAll0]
  | i :: L => by simp [PyData.canLayAll0, PyData.canLay0, canLay_ints L]
theorem shaped_int (i : Int) : SeqAt.shaped (.int i) = true := by simp [SeqAt.shaped, PyData.canLay0, PyData.depth]
theorem shaped_ints (L : List Int) : SeqAt.shaped (.list (L.map .int)) = true := by simp [SeqAt.shaped, PyData.canLay0, PyData.depth, canLay_ints, PySem.W.depth_ints]
theorem eqv_int (i j : Int) : PyData.eqv (.int i) (.int j) = decide (i = j) := by
  simp only [PyData.eqv]
  by_cases e : i = j <;> simp [e]
theorem eqD_int (neg : Bool) (i j : Int) (h : Hh) : vEqD neg (.int i) (.int j) h = .ok (.bl (if neg then !decide (i = j) else decide (i = j))) h := by
  simp [vEqD, vEqO, strs2, noD, shaped_int, eqv_int]
theorem eqv_nil : ∀ L : List Int, PyData.eqv (.list (L.map .int)) (.list []) = L.isEmpty
  | [] => by simp [PyData.eqv, PyData.eqvAll]
  | i :: L => by simp [PyData.eqv, PyData.eqvAll]
theorem neD_nil {lg : Nat} {L : List Int} {h : Hh} (e : h[lg]? = some (.lst (L.map .int))) : vEqD true (.ref lg) (.ref h.length) (h ++ [.lst []]) = .ok (.bl (!L.isEmpty)) (h ++ [.lst []]) := by
  have e2 := app_at [.lst []] e
  have e3 := app_new h (.lst [])
  have t1 : toD 30 (h ++ [.lst []]) (.ref lg) = some (.list (L.map .int)) := by
    show toD (29 + 1) _ _ = _
    simp only [toD]; rw [e2]; simp [toDs_ints]
  have t2 : toD 30 (h ++ [.lst []]) (.ref h.length) = some (.list []) := by
    show toD (29 + 1) _ _ = _
    simp only [toD]; rw [e3]; simp [toDs]
  have s0 := shaped_ints []
  unfold vEqD vEqO
  rw [show strs2 (.ref lg) (.ref h.length) = none from rfl]
  dsimp only
  rw [t1, t2]
  simp only [noD, noDs_ints, shaped_ints, eqv_nil]
  simp at s0
  simp [s0, noDs]
theorem lst0 (h : Hh) : vLst [] h = .ok (.ref h.length) (h ++ [.lst []]) := by simp [vLst]
theorem dr_pos (m : Int) (c : Int) : 0 ≤ m → 0 ≤ (m * 69621 + c * 48271 + 12345) % 2147483629 ∧ (m * 69621 + c * 48271 + 12345) % 2147483629 < 2147483629 := fun _ => ⟨Int.emod_nonneg _ (by decide), Int.emod_lt_of_pos _ (by decide)⟩
theorem take_ok {dr lg ce : Nat} {h : Hh} {n : Int} (D : Dr dr lg ce h) (h1 : 1 ≤ n) (h2 : n < 1073741824) {Q : Val → Hh → Prop} (q : ∀ (k : Int) h', 0 ≤ k → k < n → Dr dr lg ce h' → Kp [dr, lg] h h' → Q (.int k) h') : Wp (f__law_take [.ref dr, .int n] h) Q := by
  obtain ⟨L, C, r, t, m, D, m0, m1, lc⟩ := D
  unfold f__law_take b__law_take b__law_take_4 b__law_take_3 b__law_take_2 b__law_take_1
  rw [w_fn, f_seq]
  let P : Loc → Hh → Prop := fun σ h' => ∃ (L : List Int) (r t m : Int) (x : Option Val), σ = [some (.ref dr), some (.int n), x, none] ∧ DrS dr lg ce L C r t m h' ∧ 0 ≤ m ∧ m < 2147483629 ∧ Kp [dr, lg] h h'
  refine WpF.mono (N := P) (R := fun _ _ => False) ?_ ?_ fun _ _ z => z.elim
  · -- what is taken from
    have k0 := Kp.refl [dr, lg] h
    have D1 := D.app [.lst []]
    have k1 := k0.app [.lst []]
    by_cases e0 : r = 0
    · subst e0
      by_cases e1 : L = []
      · subst e1
        simp [D.rest, eqD_int, D.large, lst0, neD_nil D.l, D1.rest, D1.turn, vAdd, D1.sTurn]
        have D2 := D1.put 0 (t + 1) m
        have k2 : Kp [dr, lg] h _ := k1.set dr (.dct (drawD lg ce 0 (t + 1) m)) (.inl (by simp))
        generalize (h ++ [Ob.lst []]).set dr (.dct (drawD lg ce 0 (t + 1) m)) = g at D2 k2 ⊢
        -- the mixing
        have s63 : (64 : Nat) ≤ sizeLine := by decide
        have D3 := D2.app [.lst [.int (t + 1)]]
        have c3 := D3.c
        have n3 := app_new g (.lst [.int (t + 1)])
        have hdr : dr < g.length := (List.getElem?_eq_some_iff.mp D2.d).1
        have D4 := D3.app [.lst ([.int (t + 1)] ++ C.map .int)]
        have z1 : [Val.int (t + 1)].length ≤ sizeLine := by simp only [List.length_singleton]; omega
        have z2 : [Val.int (t + 1)].length + (C.map Val.int).length ≤ sizeLine := by simp only [List.length_singleton, List.length_map]; omega
        have hm : miVal (mOp vAdd (mApp vLst (maCons (mOp vIx (mVar 0) (mC (.str "turn"))) maNil)) (mOp vIx (mVar 0) (mC (.str "cells")))) [some (.ref dr), some (.int n), none, none] g = .ok ⟨.int (t + 1) :: C.map .int, fun h => h[g.length + 1]? = some (.lst (.int (t + 1) :: C.map .int)), none⟩ (g ++ [.lst [.int (t + 1)]] ++ [.lst ([.int (t + 1)] ++ C.map .int)]) :=
          val_lst (n := g.length + 1) (by
            simp only [mOp, mApp, maCons, maNil, mC, w_var0, bind_ok, D2.turn, lst_v _ z1, D3.cells, add_lst n3 c3 z2]
            simp) (by simp)
        refine f_forE (fun _ σ h' => ∃ (m : Int) (x : Option Val), σ = [some (.ref dr), some (.int n), x, none] ∧ DrS dr lg ce [] C 0 (t + 1) m h' ∧ 0 ≤ m ∧ m < 2147483629 ∧ Kp [dr, lg] h h' ∧ h'[g.length + 1]? = some (.lst (.int (t + 1) :: C.map .int))) hm rfl ?_ ?_ ?_ ?_
        · exact ⟨m, none, rfl, D4, m0, m1, (k2.app [.lst [.int (t + 1)]]).app [.lst ([.int (t + 1)] ++ C.map .int)], by simp⟩
        · rintro k σ' h' ⟨m, x, rfl, D, _, _, _, e⟩
          exact e
        · rintro k v σ' h' ev ⟨m, x, rfl, D, m0, m1, K, e⟩
          obtain ⟨c, rfl⟩ : ∃ c, v = .int c := by
            have : v ∈ (Val.int (t + 1) :: C.map .int) := List.mem_of_getElem? ev
            simp at this
            rcases this with rfl | ⟨c, _, rfl⟩
            · exact ⟨_, rfl⟩
            · exact ⟨c, rfl⟩
          simp [D.mix, mul_int, mod_int, D.sMix]
          exact ⟨_, D.put _ _ _, (dr_pos m c m0).1, (dr_pos m c m0).2, K.set _ _ (.inl (by simp)), set_at e (by omega)⟩
        · rintro σ' h' ⟨m, x, rfl, D, m0, m1, K, e⟩
          have hp : 0 ≤ (5 : Int) ∧ (5 : Int) ≤ 1000000 ∧ m.natAbs < 2 ^ 64 := by omega
          simp [D.mix, pow_int _ hp, mod_int, D.sRest]
          exact ⟨[], _, t + 1, m, x, rfl, D.put _ _ _, m0, m1, K.set _ _ (.inl (by simp))⟩
      · obtain ⟨i, L, rfl⟩ : ∃ i L', L = i :: L' := by
          cases L with
          | nil => exact absurd rfl e1
          | cons i L => exact ⟨i, L, rfl⟩
        have D2 := D1.pop L
        simp [D.rest, eqD_int, D.large, lst0, neD_nil D.l, mMt, D1.large, isT, D1.l, vPop, seqIndex?, D2.sRest]
        exact ⟨L, i, t, m, none, rfl, D2.put i t m, m0, m1, (k1.set _ _ (.inl (by simp))).set _ _ (.inl (by simp))⟩
    · simp [D.rest, eqD_int, e0]
      exact ⟨L, r, t, m, none, rfl, D, m0, m1, k0⟩
  · rintro σ h' ⟨L, r, t, m, x, rfl, D, m0, m1, K⟩
    simp [D.rest, vDm, show 0 < n by omega, h2, D.sRest]
    exact q _ _ (Int.emod_nonneg _ (by omega)) (Int.emod_lt_of_pos _ (by omega)) ⟨L, C, _, t, m, D.put _ t m, m0, m1, lc⟩ (K.set _ _ (.inl (by simp)))
end U
namespace U
open PySem L2
section
variable {σ : Loc} {h h1 : Hh} {QV : Val → Hh → Prop}
theorem atI_ok {α : Type} {xs : List α} {i : Int} (h0 : 0 ≤ i) (h1 : i < xs.length) : ∃ x, L2.atI xs i = some x ∧ x ∈ xs ∧ xs[i.toNat]? = some x := by
  have hl : i.toNat < xs.length := by omega
  refine ⟨xs[i.toNat], ?_, List.getElem_mem _, List.getElem?_eq_getElem hl⟩
  unfold L2.atI L2.ixN
  rw [if_pos h0, if_pos h1]
  exact List.getElem?_eq_getElem hl
theorem len_lst {n : Nat} {vs : List Val} (e : h[n]? = some (.lst vs)) : vLen [.ref n] h = .ok (.int vs.length) h := by simp only [vLen, e]
@[simp] theorem len_tup (vs : List Val) (h : Hh) : vLen [.tup vs] h = .ok (.int vs.length) h := rfl
theorem ix_lst {n : Nat} {vs : List Val} {i : Int} {v : Val} (e : h[n]? = some (.lst vs)) (e2 : L2.atI vs i = some v) : vIx (.ref n) (.int i) h = .ok v h := by simp only [vIx, e, e2]
theorem pick_ok {dr lg ce n : Nat} {vs : List Val} (D : Dr dr lg ce h) (e : h[n]? = some (.lst vs)) (hn : n ∉ [dr, lg]) (l1 : 1 ≤ vs.length) (l2 : vs.length < 1073741824)
    (q : ∀ v h', v ∈ vs → Dr dr lg ce h' → Kp [dr, lg] h h' → QV v h') : Wp (f__law_pick [.ref dr, .ref n] h) QV := by
  unfold f__law_pick b__law_pick
  rw [w_fn]
  simp [len_lst e]
  refine take_ok D (by omega) (by omega) fun k h' k0 k1 D' K => ?_
  obtain ⟨v, v1, v2, _⟩ := atI_ok (xs := vs) k0 k1
  rw [ix_lst (K.at_ _ _ e hn) v1]
  exact .ok (q v h' v2 D' K)
theorem pick_str {dr lg ce : Nat} {z : Str} (D : Dr dr lg ce h) (l1 : 1 ≤ z.length) (l2 : z.length ≤ 1000)
    (q : ∀ c h', c ∈ z.cps.toList → Dr dr lg ce h' → Kp [dr, lg] h h' → QV (.str ⟨#[c]⟩) h') : Wp (f__law_pick [.ref dr, .str z] h) QV := by
  have hz : z.length ≤ sizeLine := Nat.le_trans l2 (by decide)
  have hc : z.cps.toList.length = z.length := by rw [Array.length_toList]; rfl
  unfold f__law_pick b__law_pick
  rw [w_fn]
  simp [vLen, hz]
  refine take_ok D (by omega) (by omega) fun k h' k0 k1 D' K => ?_
  obtain ⟨v, v1, v2, _⟩ := atI_ok (xs := z.cps.toList) k0 (by omega)
  simp only [vIx, if_pos hz, v1]
  exact .ok (q v h' v2 D' K)
theorem lc_pure {mi : MI} {vs : List Nat} {tg : Tg} {c : MT} {e : ME} {it : Itb} (F : Val → Option Val) (hm : mi σ h = .ok it h1) (hl : it.lk = none) (hz : it.items.length ≤ sizeLine) (hs : ∀ l, it.src (h1 ++ [l]))
    (hb : ∀ v ∈ it.items, ∀ l, lcB vs tg c e σ v (h1 ++ [l]) = .ok (F v) (h1 ++ [l])) : mLc mi vs tg c e σ h = .ok (.ref h1.length) (h1 ++ [.lst (it.items.filterMap F)]) := by
  have w : Wp (mLc mi vs tg c e σ h) fun v h' => v = .ref h1.length ∧ h' = h1 ++ [.lst (it.items.filterMap F)] := by
    refine w_lc (fun it h1 k acc h' => acc = (it.items.take k).filterMap F ∧ h' = h1 ++ [.lst acc]) ?_
    rw [hm]
    refine .ok ⟨hz, ⟨by simp, rfl⟩, fun k acc h' ⟨_, e2⟩ => by rw [e2]; exact hs _, fun k v acc h' ev ⟨e1, e2⟩ hn => ?_, fun acc h' ⟨e1, e2⟩ hn => ?_⟩
    · subst e2
      rw [hb v (List.mem_of_getElem? ev)]
      refine .ok ⟨by simp, ?_⟩
      have ht : it.items.take (k + 1) = it.items.take k ++ [v] := by
        rw [List.take_add_one, ev]; rfl
      cases q : F v with
      | none => exact ⟨by rw [ht, List.filterMap_append, e1]; simp [q], rfl⟩
      | some y => exact ⟨by rw [ht, List.filterMap_append, e1]; simp [q], by simp⟩
    · refine ⟨h', by rw [hl]; rfl, rfl, ?_⟩
      rw [e2, e1, List.take_length]
  obtain ⟨a, b, e1, e2, e3⟩ := w.ex
  rw [e1, e2, e3]
@[simp] theorem w_pnil {Q : List (Val × Val) → Hh → Prop} : Wp (mPairs [] σ h) Q ↔ Q [] h := wp_ok _ _
@[simp] theorem w_pcons {Q : List (Val × Val) → Hh → Prop} (a b : ME) (r : List (ME × ME)) : Wp (mPairs ((a, b) :: r) σ h) Q ↔ Wp (a σ h) fun x h1 => Wp (b σ h1) fun y h2 => Wp (mPairs r σ h2) fun ps h3 => Q ((x, y) :: ps) h3 := by simp [mPairs]
theorem w_disp (ms : List (ME × ME)) (w : Wp (mPairs ms σ (h ++ [.dct []])) fun ps h1 => h1[h.length]? = some (.dct []) ∧ keysOk ps = true ∧ ps.length ≤ 15 ∧ QV (.ref h.length) (h1.set h.length (.dct (dMerge [] ps)))) : Wp (mDisp ms σ h) QV := by
  unfold mDisp
  rw [wp_bind]
  refine w.mono fun ps h1 ⟨e1, e2, e3, e4⟩ => ?_
  simp only [e1, if_pos (And.intro e2 e3)]
  exact .ok e4
theorem list_fro {n : Nat} {vs : List Val} (e : h[n]? = some (.fro vs)) : vList [.ref n] h = .ok (.ref h.length) (h ++ [.lst vs]) := by simp only [vList, e]
theorem val_fro {m : ME} {n : Nat} {vs : List Val} (e : m σ h = .ok (.ref n) h1) (e1 : h1[n]? = some (.fro vs)) : miVal m σ h = .ok ⟨vs, fun h => h[n]? = some (.fro vs), none⟩ h1 := by
  unfold miVal; rw [e]; simp only [bind_ok, e1]
@[simp] theorem abs_int (i : Int) (h : Hh) : vAbs [.int i] h = .ok (.int (if i < 0 then -i else i)) h := rfl
@[simp] theorem ge_int (i j : Int) (h : Hh) : vGe (.int i) (.int j) h = .ok (.bl (decide (j ≤ i))) h := rfl
@[simp] theorem le_int (i j : Int) (h : Hh) : vLe (.int i) (.int j) h = .ok (.bl (decide (i ≤ j))) h := rfl
@[simp] theorem lt_int (i j : Int) (h : Hh) : vLt (.int i) (.int j) h = .ok (.bl (decide (i < j))) h := rfl
@[simp] theorem gt_int (i j : Int) (h : Hh) : vGt (.int i) (.int j) h = .ok (.bl (decide (j < i))) h := rfl
theorem begin_ok {s : Nat} {ns : List Int} (e : h[s]? = some (.fro (ns.map .int))) (hl : ns.length ≤ 63) (q : ∀ h', Dr (h.length + 1) h.length (h.length + 2) h' → Kp [] h h' → h'.length = h.length + 3 → QV (.ref (h.length + 1)) h') : Wp (f__law_begin [.ref s] h) QV := by
  unfold f__law_begin b__law_begin b__law_begin_1
  rw [w_fn]
  let F : Val → Option Val := fun v => match v with
    | .int i => if (10 : Int) ^ 18 ≤ (if i < 0 then -i else i) then some (.int (if i < 0 then -i else i)) else none
    | _ => none
  have s63 : (64 : Nat) ≤ sizeLine := by decide
  have hm : miVal (mVar 0) [some (.ref s), none, none] h = .ok _ h := val_fro rfl e
  have hp : 0 ≤ (18 : Int) ∧ (18 : Int) ≤ 1000000 ∧ (10 : Int).natAbs < 2 ^ 64 := by decide
  have lc := lc_pure (vs := [2]) (tg := .one 2) (c := tBl (mOp vGe (mApp vAbs (maCons (mVar 2) maNil)) (mOp vPow (mC (.int 10)) (mC (.int 18))))) (e := mApp vAbs (maCons (mVar 2) maNil)) F hm rfl (by simp; omega) (fun l => app_at [l] e) (fun v hv l => by
    simp at hv
    obtain ⟨i, _, rfl⟩ := hv
    simp only [lcB, Tg.bd, wipeL, List.set, tBl, mOp, mApp, maCons, maNil, mC, mVar, List.getElem?_cons_succ, List.getElem?_cons_zero, bind_ok, abs_int, pow_int _ hp, ge_int, nr_ok, F]
    by_cases hc : (10 : Int) ^ 18 ≤ (if i < 0 then -i else i)
    · rw [if_pos hc, decide_eq_true (show (10 : Int) ^ (18 : Int).toNat ≤ _ from hc)]
      rfl
    · rw [if_neg hc, decide_eq_false (show ¬ (10 : Int) ^ (18 : Int).toNat ≤ _ from hc)]
      rfl)
  let L : List Int := ns.filterMap fun i => if (10 : Int) ^ 18 ≤ (if i < 0 then -i else i) then some (if i < 0 then -i else i) else none
  have hL : (ns.map Val.int).filterMap F = L.map Val.int := by
    rw [List.filterMap_map, List.map_filterMap]
    congr 1
    funext i
    show (if (10 : Int) ^ 18 ≤ (if i < 0 then -i else i) then some (Val.int (if i < 0 then -i else i)) else none) = Option.map Val.int (if (10 : Int) ^ 18 ≤ (if i < 0 then -i else i) then some (if i < 0 then -i else i) else none)
    by_cases hc : (10 : Int) ^ 18 ≤ (if i < 0 then -i else i)
    · rw [if_pos hc, if_pos hc]; rfl
    · rw [if_neg hc, if_neg hc]; rfl
  show WpF (msSeq _ _ [some (.ref s), none, none] h) _ _
  rw [f_seq, f_asg, lc]
  simp only [wp_ok, f_name, List.set, f_ret]
  rw [hL]
  refine w_disp _ ?_
  have e1 : (h ++ [Ob.lst (L.map Val.int)] ++ [.dct []])[s]? = some (.fro (ns.map .int)) := app_at _ (app_at _ e)
  simp only [w_pcons, w_pnil, w_C, w_var0, w_varS, wp_ok, w_app, w_acons, w_anil, list_fro e1]
  refine ⟨by simp, by simp [keysOk, keyOf], by simp, ?_⟩
  have hd : dMerge [] [(Val.str "large", Val.ref h.length), (.str "cells", .ref (h ++ [Ob.lst (L.map Val.int)] ++ [Ob.dct []]).length), (.str "rest", .int 0), (.str "turn", .int 0), (.str "mix", .int 7)] = drawD h.length (h.length + 2) 0 0 7 := by
    simp [dMerge, dPut, drawD, keyOf, str_inj]
  rw [hd]
  have hlen : (h ++ [Ob.lst (L.map Val.int)]).length = h.length + 1 := by simp
  rw [hlen]
  have hall : h ++ [Ob.lst (L.map Val.int)] ++ [.dct []] ++ [.lst (ns.map Val.int)] = h ++ [Ob.lst (L.map Val.int), .dct [], .lst (ns.map Val.int)] := by simp
  rw [hall]
  have hset : (h ++ [Ob.lst (L.map Val.int), .dct [], .lst (ns.map Val.int)]).set (h.length + 1) (.dct (drawD h.length (h.length + 2) 0 0 7)) = h ++ [Ob.lst (L.map Val.int), .dct (drawD h.length (h.length + 2) 0 0 7), .lst (ns.map Val.int)] := by
    rw [List.set_append_right _ _ (by omega)]
    simp
  rw [hset]
  refine q _ ⟨L, ns, 0, 0, 7, ⟨by omega, by omega, by omega, ?_, ?_, ?_⟩, by decide, by decide, hl⟩ ((Kp.refl [] h).app _) (by simp)
  · rw [List.getElem?_append_right (by omega)]; simp
  · rw [List.getElem?_append_right (by omega)]; simp
  · rw [List.getElem?_append_right (by omega)]; simp
end
end U
namespace U
open PySem L2
theorem kb_ii : kitB "int" "int" = some true := by kernel_rfl
theorem kb_ib : kitB "int" "bool" = some false := by kernel_rfl
theorem kb_ss : kitB "str" "str" = some true := by kernel_rfl
theorem kb_dd : kitB "dict" "dict" = some true := by kernel_rfl
section
variable {σ : Loc} {h h1 : Hh} {QV : Val → Hh → Prop} {cs : List Str} {tys : List String}
theorem isi_b {x : Val} {a b : String} {r : Bool} (e : tyNm x h = some (.inl a)) (k : kitB a b = some r) : vIsi cs tys [x, .ty b] h = .ok (.bl r) h := by simp only [vIsi, e, isa1, k]
theorem isi_o {x : Val} {C D : Str} (e : tyNm x h = some (.inr D)) (k : D ∈ cs ∧ C ∈ cs) : vIsi cs tys [x, .gl C] h = .ok (.bl (decide (D = C))) h := by simp only [vIsi, e, isa1, if_pos k]
theorem is_integer_int (i : Int) (h : Hh) : f_is_integer [.int i] h = .ok (.bl true) h := by
  have e1 : vIsi kCs kTys [.int i, .ty "int"] h = .ok (.bl true) h := isi_b rfl kb_ii
  have e2 : vIsi kCs kTys [.int i, .ty "bool"] h = .ok (.bl false) h := isi_b rfl kb_ib
  simp [f_is_integer, b_is_integer, mkFn, msRet, mAnd, mApp, maCons, maNil, mC, mNot, e1, e2, truth]
theorem is_number_int (i : Int) (h : Hh) : f_is_number [.int i] h = .ok (.bl (decide (0 ≤ i))) h := by
  simp [f_is_number, b_is_number, mkFn, msRet, mAnd, mApp, maCons, maNil, mC, mOp, callF, is_integer_int]
def okW (ws : List Int) : Prop := ∀ w ∈ ws, 0 ≤ w ∧ w ≤ 9
def ruleF (ws ss : List Int) (sp : Int) : List (Str × Val) := [("r_weights", .tup (ws.map .int)), ("r_skipped", .tup (ss.map .int)), ("r_spread", .int sp)]
structure okR (ws ss : List Int) (sp : Int) : Prop where
  w : okW ws
  s : okW ss
  l1 : 1 ≤ ws.length
  l4 : ws.length ≤ 4
  ls : ss.length + 1 = ws.length
  p0 : 0 ≤ sp
  p1 : sp < ws.length
theorem songs_in : ("Songs" : Str) ∈ kCs := by decide
end
end U
namespace U
open PySem L2
section
variable {σ : Loc} {h h1 : Hh} {QV : Val → Hh → Prop}
theorem Kp.set' {S : List Nat} {h h1 : Hh} {i : Nat} {o : Ob} (a : Kp S h h1) (hi : h.length ≤ i) : Kp S h (h1.set i o) := a.set i o (.inr hi)
theorem lc_each {mi : MI} {vs : List Nat} {tg : Tg} {c : MT} {e : ME} {it : Itb} {S : List Nat} (P : Nat → Val → Prop) (I : Hh → Prop) (hm : mi σ h = .ok it h1) (hl : it.lk = none) (hz : it.items.length ≤ sizeLine) (hS : ∀ i ∈ S, i < h1.length)
    (i0 : I h1) (hI : ∀ g g', I g → Kp [h1.length] g g' → I g') (hs : ∀ g, Kp S h1 g → it.src g)
    (hb : ∀ k v g, it.items[k]? = some v → I g → Kp S h1 g → Wp (lcB vs tg c e σ v g) fun o g2 => I g2 ∧ Kp S g g2 ∧ ∃ y, o = some y ∧ P k y)
    (q : ∀ ys g, ys.length = it.items.length → (∀ k y, ys[k]? = some y → P k y) → I g → Kp S h1 g → h1.length < g.length → g[h1.length]? = some (.lst ys) → QV (.ref h1.length) g) : Wp (mLc mi vs tg c e σ h) QV := by
  refine w_lc (fun _ _ k acc g => acc.length = k ∧ (∀ j y, acc[j]? = some y → P j y) ∧ I g ∧ Kp S h1 g) ?_
  rw [hm]
  refine .ok ⟨hz, ⟨rfl, by simp, hI _ _ i0 ((Kp.refl _ _).app _), (Kp.refl _ _).app _⟩, fun k acc g ⟨_, _, _, k4⟩ => hs g k4, fun k v acc g ev ⟨k1, k2, k3, k4⟩ hn => ?_, fun acc g ⟨k1, k2, k3, k4⟩ hn => ?_⟩
  · refine (hb k v g ev k3 k4).mono fun o g2 ⟨a1, a2, y, a3, a4⟩ => ?_
    have hn2 := a2.at_ _ _ hn (fun z => Nat.lt_irrefl _ (hS _ z))
    subst a3
    refine ⟨hn2, by rw [List.length_append, k1]; rfl, fun j z ez => ?_, hI _ _ a1 ((Kp.refl _ _).set _ _ (.inl (by simp))), (k4.trans a2).set' (Nat.le_refl _)⟩
    by_cases hj : j < acc.length
    · rw [List.getElem?_append_left hj] at ez; exact k2 j z ez
    · have hj2 := (List.getElem?_eq_some_iff.mp ez).1
      rw [List.length_append, List.length_singleton] at hj2
      have : j = k := by omega
      subst this
      rw [List.getElem?_append_right (by omega), k1, Nat.sub_self] at ez
      simp at ez
      subst ez
      exact a4
  · refine ⟨g, by rw [hl]; rfl, q acc g (by rw [k1]) k2 k3 k4 (List.getElem?_eq_some_iff.mp hn).1 hn⟩
theorem lc_det {mi : MI} {vs : List Nat} {tg : Tg} {c : MT} {e : ME} {it : Itb} (F : Val → Option Val) (hm : mi σ h = .ok it h1) (hl : it.lk = none) (hz : it.items.length ≤ sizeLine) (hs : ∀ g, Kp [] h1 g → it.src g)
    (hb : ∀ v ∈ it.items, ∀ g, Kp [] h1 g → Wp (lcB vs tg c e σ v g) fun o g2 => Kp [] g g2 ∧ o = F v)
    (q : ∀ g, Kp [] h1 g → g[h1.length]? = some (.lst (it.items.filterMap F)) → QV (.ref h1.length) g) : Wp (mLc mi vs tg c e σ h) QV := by
  refine w_lc (fun _ _ k acc g => acc = (it.items.take k).filterMap F ∧ Kp [] h1 g) ?_
  rw [hm]
  refine .ok ⟨hz, ⟨by simp, (Kp.refl _ _).app _⟩, fun k acc g ⟨_, k4⟩ => hs g k4, fun k v acc g ev ⟨k1, k4⟩ hn => ?_, fun acc g ⟨k1, k4⟩ hn => ?_⟩
  · refine (hb v (List.mem_of_getElem? ev) g k4).mono fun o g2 ⟨a2, a3⟩ => ?_
    have hn2 := a2.at_ _ _ hn (by simp)
    have ht : it.items.take (k + 1) = it.items.take k ++ [v] := by rw [List.take_add_one, ev]; rfl
    subst a3
    refine ⟨hn2, ?_⟩
    cases e : F v with
    | none => exact ⟨by rw [ht, List.filterMap_append, k1]; simp [e], k4.trans a2⟩
    | some y => exact ⟨by rw [ht, List.filterMap_append, k1]; simp [e], (k4.trans a2).set' (Nat.le_refl _)⟩
  · refine ⟨g, by rw [hl]; rfl, q g k4 ?_⟩
    rw [hn, k1, List.take_length]
structure okName (x : Str) : Prop where
  l1 : 1 ≤ x.length
  l8 : x.length ≤ 8
  s : ∀ c ∈ x.cps.toList, 97 ≤ c ∧ c ≤ 122
def lets : Str := "abcdefghijklmnopqrstuvwxyz"
theorem lets_cps : lets.cps.toList = List.range' 97 26 := by decide +kernel
theorem lets_len : lets.length = 26 := by decide +kernel
theorem lets_size : lets.cps.size = 26 := lets_len
theorem lets_eq : (Str.ofString "abcdefghijklmnopqrstuvwxyz") = lets := rfl
theorem pig {α : Type} [DecidableEq α] : ∀ (ys xs : List α), ys.Nodup → (∀ y ∈ ys, y ∈ xs) → ys.length ≤ xs.length
  | [], xs, _, _ => Nat.zero_le _
  | y :: ys, xs, nd, hs => by
    have hy := hs y (by simp)
    have nd' := List.nodup_cons.mp nd
    have := pig ys (xs.erase y) nd'.2 fun z hz => by
      have hne : z ≠ y := fun e => nd'.1 (e ▸ hz)
      exact (List.mem_erase_of_ne hne).mpr (hs z (by simp [hz]))
    rw [List.length_erase_of_mem hy] at this
    have h0 : 0 < xs.length := List.length_pos_of_mem hy
    rw [List.length_cons]; omega
theorem str_len (x : Str) : x.cps.toList.length = x.length := by rw [Array.length_toList]; rfl
theorem str_app (x y : Str) : (x ++ y).cps.toList = x.cps.toList ++ y.cps.toList := by
  show (x.cps ++ y.cps).toList = _
  rw [Array.toList_append]
def nearOf (w : Str) : List Str := w :: lets.cps.toList.map fun c => cutS w none (some 7) ++ (⟨#[c]⟩ : Str)
theorem cut7 (w : Str) : (cutS w none (some 7)).cps.toList = w.cps.toList.take 7 := by
  unfold cutS
  show ((w.cps.toList.drop 0).take (HT.sIx w.length w.length (some ((7 : Nat) : Int)) - 0)) = _
  rw [HT.sIx_nat, List.drop_zero, Nat.sub_zero, ← str_len]
  rw [List.take_eq_take_iff]
  omega
theorem near_ok {w : Str} (o : okName w) : ∀ x ∈ nearOf w, okName x := by
  intro x hx
  unfold nearOf at hx
  rcases List.mem_cons.mp hx with rfl | hx
  · exact o
  · obtain ⟨c, hc, rfl⟩ := List.mem_map.mp hx
    rw [lets_cps] at hc
    have hc2 : 97 ≤ c ∧ c ≤ 122 := by
      have := List.mem_range'_1.mp hc
      omega
    have e : ((cutS w none (some 7)) ++ (⟨#[c]⟩ : Str)).cps.toList = w.cps.toList.take 7 ++ [c] := by rw [str_app, cut7]
    have o8 := o.l8
    refine ⟨?_, ?_, fun d hd => ?_⟩
    · rw [← str_len, e, List.length_append]; simp
    · rw [← str_len, e, List.length_append, List.length_take, str_len]; simp; omega
    · rw [e, List.mem_append] at hd
      rcases hd with hd | hd
      · exact o.s d (List.mem_of_mem_take hd)
      · simp at hd; subst hd; exact hc2
theorem near_free {w : Str} {xs : List Str} (hx : xs.length < 26) : ∃ y ys, (nearOf w).filter (fun x => decide (x ∉ xs)) = y :: ys := by
  cases e : (nearOf w).filter (fun x => decide (x ∉ xs)) with
  | cons y ys => exact ⟨y, ys, rfl⟩
  | nil =>
    exfalso
    have hall : ∀ y ∈ nearOf w, y ∈ xs := fun y hy => by
      have := List.filter_eq_nil_iff.mp e y hy
      simpa using this
    have nd : (lets.cps.toList.map fun c => cutS w none (some 7) ++ (⟨#[c]⟩ : Str)).Nodup := by
      rw [lets_cps]
      refine List.Pairwise.map _ (fun a b hab => ?_) (List.nodup_range' (n := 26) (s := 97))
      intro z
      have : (cutS w none (some 7) ++ (⟨#[a]⟩ : Str)).cps.toList = (cutS w none (some 7) ++ (⟨#[b]⟩ : Str)).cps.toList := by rw [z]
      rw [str_app, str_app] at this
      have := List.append_cancel_left this
      simp at this
      exact hab this
    have := pig _ xs nd fun y hy => hall y (by unfold nearOf; exact List.mem_cons_of_mem _ hy)
    rw [List.length_map, str_len, lets_len] at this
    omega
abbrev Dw (h : Hh) : Prop := Dr 2 1 3 h
abbrev Kd (h h' : Hh) : Prop := Kp [2, 1] h h'
theorem Dw.len (D : Dw h) : 4 ≤ h.length := by
  obtain ⟨L, C, r, t, m, D, _⟩ := D
  have := (List.getElem?_eq_some_iff.mp D.c).1
  omega
theorem Kp.d {h h' : Hh} {n : Nat} {o : Ob} (K : Kd h h') (e : h[n]? = some o) (g : 4 ≤ n) : h'[n]? = some o := K.at_ _ _ e (by simp; omega)
theorem Kp.k {h h' : Hh} {n : Nat} {o : Ob} (K : Kp [] h h') (e : h[n]? = some o) : h'[n]? = some o := K.at_ _ _ e (by simp)
theorem Kp.kd {h h' : Hh} (K : Kp [] h h') : Kd h h' := K.weak (by simp)
theorem Dw.kp {S : List Nat} {h' : Hh} (D : Dw h) (K : Kp S h h') (hS : ∀ i ∈ S, 4 ≤ i) : Dw h' := by
  obtain ⟨L, C, r, t, m, D, m0, m1, lc⟩ := D
  exact ⟨L, C, r, t, m, D.kp K (fun z => absurd (hS _ z) (by omega)) (fun z => absurd (hS _ z) (by omega)) (fun z => absurd (hS _ z) (by omega)), m0, m1, lc⟩
theorem Dw.k {h' : Hh} (D : Dw h) (K : Kp [] h h') : Dw h' := D.kp K (by simp)
theorem lt_of {n : Nat} {o : Ob} (e : h[n]? = some o) : n < h.length := (List.getElem?_eq_some_iff.mp e).1
theorem take_d {n : Int} (D : Dw h) (h1 : 1 ≤ n) (h2 : n < 1073741824) (q : ∀ (k : Int) h', 0 ≤ k → k < n → Dw h' → Kd h h' → QV (.int k) h') : Wp (f__law_take [.ref 2, .int n] h) QV := take_ok D h1 h2 q
theorem pick_d {n : Nat} {vs : List Val} (D : Dw h) (e : h[n]? = some (.lst vs)) (hn : 4 ≤ n) (l1 : 1 ≤ vs.length) (l2 : vs.length < 1073741824)
    (q : ∀ v h', v ∈ vs → Dw h' → Kd h h' → QV v h') : Wp (f__law_pick [.ref 2, .ref n] h) QV := pick_ok D e (by simp; omega) l1 l2 q
theorem pick_s {z : Str} (D : Dw h) (l1 : 1 ≤ z.length) (l2 : z.length ≤ 1000)
    (q : ∀ c h', c ∈ z.cps.toList → Dw h' → Kd h h' → QV (.str ⟨#[c]⟩) h') : Wp (f__law_pick [.ref 2, .str z] h) QV := pick_str D l1 l2 q
@[simp] theorem szl {n : Nat} (hn : n ≤ 1000) : n ≤ sizeLine := Nat.le_trans hn (by decide)
@[simp] theorem szlt {n : Nat} (hn : n ≤ 1000) : n < sizeLine := Nat.lt_of_le_of_lt hn (by decide)
theorem k_lst {vs : List Val} (hz : vs.length ≤ sizeLine) (q : ∀ n g, g[n]? = some (.lst vs) → h.length ≤ n → Kp [] h g → QV (.ref n) g) : Wp (vLst vs h) QV := by
  rw [lst_v h hz]
  exact .ok (q _ _ (app_new h _) (Nat.le_refl _) ((Kp.refl _ _).app _))
theorem k_tup {vs : List Val} (hz : vs.length ≤ sizeLine) (q : QV (.tup vs) h) : Wp (vTup vs h) QV := by
  rw [tup_v h hz]; exact .ok q
theorem k_addL {m n : Nat} {xs ys : List Val} (e1 : h[m]? = some (.lst xs)) (e2 : h[n]? = some (.lst ys)) (hz : xs.length + ys.length ≤ sizeLine)
    (q : ∀ n g, g[n]? = some (.lst (xs ++ ys)) → h.length ≤ n → Kp [] h g → QV (.ref n) g) : Wp (vAdd (.ref m) (.ref n) h) QV := by
  rw [add_lst e1 e2 hz]
  exact .ok (q _ _ (app_new h _) (Nat.le_refl _) ((Kp.refl _ _).app _))
theorem pure_k {m : ME} {v : Val} (e : m σ h = .ok v h1) (q : QV v h1) : Wp (m σ h) QV := by rw [e]; exact .ok q
theorem join_cps : ∀ xs : List Str, (Txt.join "" xs).cps.toList = xs.flatMap fun x => x.cps.toList := by
  intro xs
  rw [show Txt.join "" xs = Str.join "" xs from StrLaws.glued_eq_join "" xs]
  have e0 : ((("" : Str)).cps.toList : List Nat) = [] := by decide
  induction xs with
  | nil => rfl
  | cons x xs ih =>
    cases xs with
    | nil => simp [Str.join]
    | cons y ys =>
      show (x ++ "" ++ Str.join "" (y :: ys)).cps.toList = _
      rw [str_app, str_app, ih, e0]
      simp
theorem strsOf_of : ∀ (ys : List Val), (∀ y ∈ ys, ∃ c : Nat, 97 ≤ c ∧ c ≤ 122 ∧ y = .str ⟨#[c]⟩) → ∃ cs : List Nat, cs.length = ys.length ∧ (∀ c ∈ cs, 97 ≤ c ∧ c ≤ 122) ∧ strsOf ys = some (cs.map fun c => ⟨#[c]⟩)
  | [], _ => ⟨[], rfl, by simp, rfl⟩
  | y :: ys, hy => by
    obtain ⟨c, c1, c2, rfl⟩ := hy y (by simp)
    obtain ⟨cs, h1, h2, h3⟩ := strsOf_of ys fun z hz => hy z (by simp [hz])
    exact ⟨c :: cs, by simp [h1], by simpa using ⟨⟨c1, c2⟩, fun a ha => h2 a ha⟩, by simp [strsOf, h3]⟩
theorem flat_one : ∀ cs : List Nat, (cs.map fun c => (⟨#[c]⟩ : Str)).flatMap (fun x => x.cps.toList) = cs
  | [] => rfl
  | c :: cs => by simp [flat_one cs]
theorem word_ok {n : Nat} {ys : List Val} (e : h[n]? = some (.lst ys)) (l1 : 1 ≤ ys.length) (l8 : ys.length ≤ 8) (hy : ∀ y ∈ ys, ∃ c : Nat, 97 ≤ c ∧ c ≤ 122 ∧ y = .str ⟨#[c]⟩) : ∃ w, okName w ∧ vJoin [.str "", .ref n] h = .ok (.str w) h := by
  obtain ⟨cs, h1, h2, h3⟩ := strsOf_of ys hy
  have hc : (Txt.join "" (cs.map fun c => (⟨#[c]⟩ : Str))).cps.toList = cs := by rw [join_cps, flat_one]
  have hs : ((cs.map fun c => (⟨#[c]⟩ : Str)).map (·.length)).sum + (cs.map fun c => (⟨#[c]⟩ : Str)).length * ("" : Str).length ≤ 16777216 := by
    have : ∀ cs : List Nat, ((cs.map fun c => (⟨#[c]⟩ : Str)).map (·.length)).sum = cs.length := by
      intro cs
      induction cs with
      | nil => rfl
      | cons c cs ih =>
        simp only [List.map_cons, List.sum_cons, ih, List.length_cons]
        show 1 + cs.length = _
        omega
    rw [this]
    have : ("" : Str).length = 0 := by decide
    rw [this]; omega
  refine ⟨Txt.join "" (cs.map fun c => (⟨#[c]⟩ : Str)), ⟨?_, ?_, ?_⟩, ?_⟩
  · rw [← str_len, hc]; omega
  · rw [← str_len, hc]; omega
  · rw [hc]; exact h2
  · simp only [vJoin, e, h3, if_pos hs]
end
end U
namespace U
open PySem L2
section
variable {σ : Loc} {h h1 : Hh} {QV : Val → Hh → Prop} {N : Loc → Hh → Prop} {R : Val → Hh → Prop}
def pool : List Str := ["a", "b", "ab", "kind", "song", "play", "pop", "zzzzzzzz"]
theorem pool_ok : ∀ w ∈ pool, okName w := by
  have : ∀ w ∈ pool, 1 ≤ w.length ∧ w.length ≤ 8 ∧ w.cps.toList.all (fun c => decide (97 ≤ c) && decide (c ≤ 122)) = true := by decide +kernel
  intro w hw
  obtain ⟨a, b, c⟩ := this w hw
  refine ⟨a, b, fun d hd => ?_⟩
  have := List.all_eq_true.mp c d hd
  simpa using this
theorem ix0_lst {n : Nat} {v : Val} {vs : List Val} (e : h[n]? = some (.lst (v :: vs))) : vIx (.ref n) (.int 0) h = .ok v h := by
  have : L2.atI (v :: vs) 0 = some v := by simp [L2.atI, L2.ixN]
  simp only [vIx, e, this]
theorem eqF_str (a b : Str) : eqF (.str a) (.str b) = decide (b = a) := by
  show (a == b) = _
  by_cases e : b = a
  · subst e; simp
  · have : ¬ a = b := fun z => e z.symm
    simp [e, this]
theorem any_strs (x : Str) : ∀ xs : List Str, (xs.map Val.str).any (fun y => eqF y (.str x)) = decide (x ∈ xs)
  | [] => rfl
  | y :: ys => by
    rw [List.map_cons, List.any_cons, any_strs x ys, eqF_str]
    by_cases e : x = y <;> simp [e]
theorem in_strs (neg : Bool) {n : Nat} {xs : List Str} {x : Str} (e : h[n]? = some (.lst (xs.map .str))) : vIn neg (.str x) (.ref n) h = .ok (.bl (if neg then !decide (x ∈ xs) else decide (x ∈ xs))) h := by
  have h1 : (xs.map Val.str).all flat = true := by simp [flat]
  simp only [vIn, e, inSeq, h1, any_strs, flat, Bool.and_self, if_true]
theorem some_names_step {pl fo : Nat} {xs : List Str} {m : Int} {w : Str} {x5 x7 : Option Val} (D : Dw h) (ow : okName w) (lx : xs.length < 26) (nd : xs.Nodup) (ok : ∀ x ∈ xs, okName x) (ef : h[fo]? = some (.lst (xs.map .str))) (hf : 4 ≤ fo)
    (q : ∀ y x7 g, y ∉ xs → okName y → g[fo]? = some (.lst ((xs ++ [y]).map .str)) → Kp [fo] h g → N [some (.ref 2), some (.int m), some (.ref pl), some (.str lets), some (.ref fo), x5, some (.str w), some x7, none, none, none] g) :
    WpF (b__law_names_2 [some (.ref 2), some (.int m), some (.ref pl), some (.str lets), some (.ref fo), x5, some (.str w), x7, none, none, none] h) N R := by
  unfold b__law_names_2
  rw [f_seq, f_asg, w_op, w_app, w_acons, w_varS, w_varS, w_varS, w_varS, w_varS, w_varS, w_var0, wp_ok, w_anil]
  refine k_lst (by simp) fun n1 g1 e1 l1 k1 => ?_
  have hlen : w.length ≤ sizeLine := Nat.le_trans ow.l8 (by decide)
  have hm : miVal (mVar 3) [some (.ref 2), some (.int m), some (.ref pl), some (.str lets), some (.ref fo), x5, some (.str w), x7, none, none, none] g1 = .ok ⟨lets.cps.toList.map fun c => .str ⟨#[c]⟩, fun _ => True, none⟩ g1 := rfl
  have c7 : (cutS w none (some 7)).length ≤ 7 := by rw [← str_len, cut7, List.length_take]; omega
  refine pure_k (lc_pure (fun v => match v with | .str c => some (.str (cutS w none (some 7) ++ c)) | _ => none) hm rfl (by
    show (lets.cps.toList.map fun c => Val.str ⟨#[c]⟩).length ≤ sizeLine
    rw [List.length_map, str_len, lets_len]; simp) (fun _ => trivial) fun v hv l => ?_) ?_
  · obtain ⟨c, hc, rfl⟩ := List.mem_map.mp (show v ∈ lets.cps.toList.map fun c => Val.str ⟨#[c]⟩ from hv)
    have hz : (cutS w none (some 7)).length + (⟨#[c]⟩ : Str).length ≤ sizeLine := by
      have : (⟨#[c]⟩ : Str).length = 1 := rfl
      rw [this]; exact szl (by omega)
    simp [lcB, Tg.bd, wipeL, tTrue, mOp, mSl, mpNo, mpE, mC, vSl, hlen, vAdd, hz]
  · have e2 := app_new g1 (.lst ((lets.cps.toList.map fun c => Val.str ⟨#[c]⟩).filterMap fun v => match v with | .str c => some (.str (cutS w none (some 7) ++ c)) | _ => none))
    have hfm : ((lets.cps.toList.map fun c => Val.str ⟨#[c]⟩).filterMap fun v => match v with | .str c => some (.str (cutS w none (some 7) ++ c)) | _ => none) = (lets.cps.toList.map fun c => cutS w none (some 7) ++ (⟨#[c]⟩ : Str)).map Val.str := by
      rw [List.filterMap_map, List.map_map]
      show List.filterMap (fun c => some (Val.str (cutS w none (some 7) ++ (⟨#[c]⟩ : Str)))) _ = _
      rw [List.filterMap_eq_map']
      rfl
    rw [hfm] at e2 ⊢
    have k2 : Kp [] h _ := k1.app [.lst ((lets.cps.toList.map fun c => cutS w none (some 7) ++ (⟨#[c]⟩ : Str)).map Val.str)]
    have e1' := app_at [.lst ((lets.cps.toList.map fun c => cutS w none (some 7) ++ (⟨#[c]⟩ : Str)).map Val.str)] e1
    generalize g1 ++ [Ob.lst ((lets.cps.toList.map fun c => cutS w none (some 7) ++ (⟨#[c]⟩ : Str)).map Val.str)] = g2 at e2 k2 e1' ⊢
    refine k_addL e1' e2 (by simp [lets_size]) fun n3 g3 e3 l3 k3 => ?_
    have e3' : g3[n3]? = some (.lst ((nearOf w).map .str)) := by rw [e3]; rfl
    have k3' := k2.trans k3
    have ef3 := k3'.k ef
    rw [f_name]
    show WpF (b__law_names_1 [some (.ref 2), some (.int m), some (.ref pl), some (.str lets), some (.ref fo), x5, some (.str w), some (.ref n3), none, none, none] g3) N R
    unfold b__law_names_1
    rw [f_expr]
    unfold mMt
    have hi : isT "list" (.ref fo) g3 = true := by simp [isT, ef3]
    simp only [wp_bind, w_varS, w_var0, wp_ok, hi, if_true, w_acons, w_op, w_C, w_anil]
    have hm2 : miVal (mVar 7) [some (.ref 2), some (.int m), some (.ref pl), some (.str lets), some (.ref fo), x5, some (.str w), some (.ref n3), none, none, none] g3 = .ok ⟨(nearOf w).map .str, fun h => h[n3]? = some (.lst ((nearOf w).map .str)), none⟩ g3 := val_lst rfl e3'
    refine pure_k (lc_pure (fun v => match v with | .str c => if c ∈ xs then none else some (.str c) | _ => none) hm2 rfl (by
      show ((nearOf w).map Val.str).length ≤ sizeLine
      simp [nearOf, lets_size]) (fun l => app_at [l] e3') fun v hv l => ?_) ?_
    · obtain ⟨c, hc, rfl⟩ := List.mem_map.mp (show v ∈ (nearOf w).map Val.str from hv)
      have hin := in_strs true (x := c) (app_at [l] ef3)
      simp [lcB, Tg.bd, wipeL, tBl, mOp, mC, hin, mVar]
      by_cases hc : c ∈ xs
      · simp [hc]
      · simp [hc]
    · have hfm2 : (((nearOf w).map Val.str).filterMap fun v => match v with | .str c => if c ∈ xs then none else some (.str c) | _ => none) = ((nearOf w).filter fun x => decide (x ∉ xs)).map Val.str := by
        rw [List.filterMap_map, ← List.filterMap_eq_filter, List.map_filterMap]
        congr 1
        funext c
        simp only [Function.comp, Option.guard]
        by_cases hc : c ∈ xs <;> simp [hc]
      rw [hfm2]
      obtain ⟨y, ys, hy⟩ := near_free (w := w) lx
      have hy0 : y ∈ (nearOf w).filter fun x => decide (x ∉ xs) := by rw [hy]; simp
      obtain ⟨hy1, hy2⟩ := List.mem_filter.mp hy0
      rw [hy]
      have e4 := app_new g3 (.lst ((y :: ys).map Val.str))
      have ef4 := app_at [.lst ((y :: ys).map Val.str)] ef3
      have k4 := k3'.app [.lst ((y :: ys).map Val.str)]
      generalize g3 ++ [Ob.lst ((y :: ys).map Val.str)] = g4 at e4 ef4 k4 ⊢
      rw [ix0_lst e4]
      simp only [wp_ok, vAppend, ef4, List.length_map]
      rw [if_pos (szlt (by omega))]
      simp only [wp_ok]
      refine q y _ _ (by simpa using hy2) (near_ok ow y hy1) ?_ ?_
      · rw [set_self ef4]; simp
      · exact (k4.weak (by simp)).set _ _ (.inl (by simp))
theorem some_names_ok {m : Nat} (D : Dw h) (hm : m ≤ 26)
    (q : ∀ (xs : List Str) n g, xs.length = m → xs.Nodup → (∀ x ∈ xs, okName x) → g[n]? = some (.lst (xs.map .str)) → h.length ≤ n → Dw g → Kd h g → QV (.ref n) g) : Wp (f__law_names [.ref 2, .int m] h) QV := by
  unfold f__law_names b__law_names
  rw [w_fn]
  show WpF (msSeq _ _ [some (.ref 2), some (.int m), none, none, none, none, none, none, none, none, none] h) _ _
  rw [f_seq, f_asg]
  simp only [w_app, w_acons, w_C, w_anil]
  refine k_lst (by simp) fun pl g1 e1 l1 k1 => ?_
  rw [f_name]
  unfold b__law_names_6
  rw [f_seq, f_asg]
  simp only [w_app, w_acons, w_C, w_anil]
  refine k_lst (by simp) fun fo g2 e2 l2 k2 => ?_
  refine k_tup (by simp) ?_
  simp only [lets_eq, f_tup, f_gcons, f_gnil, f_name]
  refine ⟨rfl, ?_⟩
  have hl := D.len
  have k12 := k1.trans k2
  have lpl := lt_of e1
  have D2 := D.k k12
  have ep2 : g2[pl]? = some (.lst (pool.map .str)) := by
    have := k2.k e1
    exact this
  have ll := k1.len
  show WpF (b__law_names_5 [some (.ref 2), some (.int m), some (.ref pl), some (.str lets), some (.ref fo), none, none, none, none, none, none] g2) _ _
  unfold b__law_names_5
  rw [f_seq]
  have hmi : miRng1 (mVar 1) [some (.ref 2), some (.int m), some (.ref pl), some (.str lets), some (.ref fo), none, none, none, none, none, none] g2 = .ok ⟨(List.range m).map fun i => .int ((i : Nat) : Int), fun _ => True, none⟩ g2 := by
    have := val_rng (σ := [some (.ref 2), some (.int m), some (.ref pl), some (.str lets), some (.ref fo), none, none, none, none, none, none]) (h := g2) (m := mVar 1) (j := (m : Int)) (h1 := g2) rfl (by omega)
    rw [this, Int.toNat_natCast]
  refine f_forE (it := ⟨(List.range m).map fun i => .int ((i : Nat) : Int), fun _ => True, none⟩) (h1 := g2) (fun k σ g => ∃ (xs : List Str) (x5 x6 x7 : Option Val), σ = [some (.ref 2), some (.int m), some (.ref pl), some (.str lets), some (.ref fo), x5, x6, x7, none, none, none] ∧ xs.length = k ∧ xs.Nodup ∧ (∀ x ∈ xs, okName x) ∧
    g[fo]? = some (.lst (xs.map .str)) ∧ g[pl]? = some (.lst (pool.map .str)) ∧ Dw g ∧ Kd h g) hmi rfl ⟨[], none, none, none, rfl, rfl, List.nodup_nil, by simp, e2, ep2, D2, k12.kd⟩ (fun _ _ _ _ => trivial) ?_ ?_
  · rintro k v σ' g ev ⟨xs, x5, x6, x7, rfl, lx, nd, ok, ef, ep, D, K⟩
    have hk : k < m := by
      have := (List.getElem?_eq_some_iff.mp ev).1
      simpa using this
    simp only [f_name, List.set, f_seq, f_asg, w_app, w_acons, w_varS, w_var0, wp_ok, w_anil, w_callF]
    refine ⟨rfl, pick_d D ep (by omega) (by simp [pool]) (by simp [pool]) fun w g3 hw D3 K3 => ?_⟩
    obtain ⟨w, hw', rfl⟩ := List.mem_map.mp hw
    have ow := pool_ok w hw'
    have ef3 := K3.d ef (by omega)
    have ep3 := K3.d ep (by omega)
    unfold b__law_names_3
    simp only [f_seq, f_if, w_tbl, w_op, w_app, w_acons, w_varS, w_var0, wp_ok, w_anil, w_callF, w_C]
    refine ⟨rfl, take_d D3 (by omega) (by omega) fun t g4 t0 t1 D4 K4 => ?_⟩
    rw [eqD_int]
    have ef4 := K4.d ef3 (by omega)
    have ep4 := K4.d ep3 (by omega)
    have K34 := (K.trans K3).trans K4
    have fin : ∀ (w : Str) (g : Hh), okName w → g[fo]? = some (.lst (xs.map .str)) → g[pl]? = some (.lst (pool.map .str)) → Dw g → Kd h g →
        WpF (b__law_names_2 [some (.ref 2), some (.int m), some (.ref pl), some (.str lets), some (.ref fo), some v, some (.str w), x7, none, none, none] g) (fun σ g => ∃ (xs : List Str) (x5 x6 x7 : Option Val), σ = [some (.ref 2), some (.int m), some (.ref pl), some (.str lets), some (.ref fo), x5, x6, x7, none, none, none] ∧ xs.length = k + 1 ∧ xs.Nodup ∧ (∀ x ∈ xs, okName x) ∧
          g[fo]? = some (.lst (xs.map .str)) ∧ g[pl]? = some (.lst (pool.map .str)) ∧ Dw g ∧ Kd h g) QV := fun w g ow ef ep D K => by
      refine some_names_step D ow (by omega) nd ok ef (by omega) fun y x7 g' hy oy ef' K' => ?_
      refine ⟨xs ++ [y], _, _, _, rfl, by simp [lx], ?_, ?_, ef', K'.at_ _ _ ep (by simp; omega), D.kp K' (by simp; omega), ?_⟩
      · exact List.nodup_append.mpr ⟨nd, by simp, fun a ha b hb => by
          simp at hb; subst hb; exact fun z => hy (z ▸ ha)⟩
      · intro x hx
        rcases List.mem_append.mp hx with hx | hx
        · exact ok x hx
        · simp at hx; subst hx; exact oy
      · exact ⟨Nat.le_trans K.len K'.len, fun i o e n => K'.at_ i o (K.at_ i o e n) (by
          have := lt_of e
          simp; omega)⟩
    by_cases t00 : t = 0
    · subst t00
      simp only [wp_ok, decide_true, if_true, Bool.false_eq_true, if_false]
      rw [f_asg]
      unfold mMt
      simp only [wp_bind, w_C, isT, w_acons, beq_self_eq_true, if_true, w_anil]
      have hm : Wp (miRng1 (mApp (callF 2 f__law_pick) (maCons (mVar 0) (maCons (mApp vLst (maCons (mC (.int 1)) (maCons (mC (.int 2)) (maCons (mC (.int 3)) (maCons (mC (.int 8)) maNil))))) maNil))) [some (.ref 2), some (.int m), some (.ref pl), some (.str lets), some (.ref fo), some v, some (.str w), x7, none, none, none] g4) fun it g5 => ∃ t : Nat, 1 ≤ t ∧ t ≤ 8 ∧ it = ⟨(List.range t).map fun i => .int ((i : Nat) : Int), fun _ => True, none⟩ ∧ Dw g5 ∧ Kd g4 g5 := by
        unfold miRng1
        simp only [wp_bind, w_app, w_acons, w_varS, w_var0, wp_ok, w_C, w_anil, w_callF]
        refine k_lst (by simp) fun n5 g5 e5 l5 k5 => ⟨rfl, ?_⟩
        have hl4 := D4.len
        refine pick_d (D4.k k5) e5 (by omega) (by simp) (by simp) fun u g6 hu D6 K6 => ?_
        have : ∃ t : Nat, 1 ≤ t ∧ t ≤ 8 ∧ u = .int (t : Int) := by
          simp at hu
          rcases hu with rfl | rfl | rfl | rfl
          · exact ⟨1, by omega, by omega, rfl⟩
          · exact ⟨2, by omega, by omega, rfl⟩
          · exact ⟨3, by omega, by omega, rfl⟩
          · exact ⟨8, by omega, by omega, rfl⟩
        obtain ⟨t, t1, t2, rfl⟩ := this
        dsimp only
        rw [if_pos (by omega)]
        exact .ok ⟨t, t1, t2, by simp, D6, k5.kd.trans K6⟩
      obtain ⟨it, g5, hm, t, t1, t2, rfl, D5, K5⟩ := hm.ex
      have hl5 := D5.len
      refine lc_each (S := [2, 1]) (fun _ y => ∃ c : Nat, 97 ≤ c ∧ c ≤ 122 ∧ y = .str ⟨#[c]⟩) Dw hm rfl (szl (by simp; omega)) (by simp; omega) D5 (fun g g' D K => D.kp K (by simp; omega)) (fun _ _ => trivial) (fun j u g ej Dg Kg => ?_) fun ys g ly hy Dg Kg lg eg => ?_
      · unfold lcB
        simp only [Tg.bd, wipeL, List.set, tTrue, nr_ok, bind_ok, if_true, wp_bind, wp_nr, w_app, w_acons, w_varS, w_var0, wp_ok, w_anil, w_callF]
        refine ⟨rfl, pick_s Dg (by rw [lets_len]; omega) (by rw [lets_len]; omega) fun c g' hc D' K' => ⟨D', K', _, rfl, c, ?_, ?_, rfl⟩⟩
        · rw [lets_cps] at hc; have := List.mem_range'_1.mp hc; omega
        · rw [lets_cps] at hc; have := List.mem_range'_1.mp hc; omega
      · have hl : ys.length = t := by simpa using ly
        obtain ⟨w', ow', ew⟩ := word_ok eg (by omega) (by omega) fun y hy' => by
          obtain ⟨j, hj⟩ := List.getElem?_of_mem hy'
          exact hy j y hj
        rw [ew]
        simp only [wp_ok, f_name, List.set]
        have K45 := K5.trans Kg
        exact fin w' g ow' (K45.d ef4 (by omega)) (K45.d ep4 (by omega)) Dg (K34.trans K45)
    · simp only [wp_ok, decide_eq_false t00, Bool.false_eq_true, if_false, f_nil]
      exact fin w g4 ow ef4 ep4 D4 K34
  · rintro σ' g ⟨xs, x5, x6, x7, rfl, lx, nd, ok, ef, ep, D, K⟩
    unfold b__law_names_4
    simp only [f_ret, w_varS, w_var0, wp_ok]
    refine q xs fo g (by simpa using lx) nd ok ef (by omega) D K
end
end U
namespace U
open PySem L2
def sd (l : List (Str × Val)) : List (Val × Val) := l.map fun p => (.str p.1, p.2)
def nd (l : List (Str × Int)) : List (Val × Val) := l.map fun p => (.str p.1, .int p.2)
theorem nd_sd (l : List (Str × Int)) : nd l = sd (l.map fun p => (p.1, .int p.2)) := by simp [nd, sd]
@[simp] theorem key_str (a b : Str) : (keyOf (.str a) = keyOf (.str b)) ↔ a = b := by simp [keyOf]
theorem dget_sd (l : List (Str × Val)) (x : Str) : dGet (sd l) (.str x) = l.lookup x := by
  induction l with
  | nil => rfl
  | cons p l ih =>
    obtain ⟨a, v⟩ := p
    show (if keyOf (.str a) = keyOf (.str x) then some v else dGet (sd l) (.str x)) = _
    rw [List.lookup_cons, ih]
    by_cases e : a = x
    · subst e; simp
    · have : (x == a) = false := by simpa using fun z => e z.symm
      simp [e, this]
theorem lookup_nd (l : List (Str × Int)) (x : Str) : dGet (nd l) (.str x) = (l.lookup x).map .int := by
  rw [nd_sd, dget_sd]
  induction l with
  | nil => rfl
  | cons p l ih =>
    obtain ⟨a, v⟩ := p
    rw [List.map_cons, List.lookup_cons, List.lookup_cons]
    cases x == a <;> simp [ih]
def sput {α : Type} (l : List (Str × α)) (x : Str) (v : α) : List (Str × α) := if l.any (fun p => decide (p.1 = x)) = true then l.map (fun p => if p.1 = x then (p.1, v) else p) else l ++ [(x, v)]
theorem dput_sd (l : List (Str × Val)) (x : Str) (v : Val) : dPut (sd l) (.str x) v = sd (sput l x v) := by
  unfold dPut sput
  have e1 : (sd l).any (fun kv => decide (keyOf kv.1 = keyOf (.str x))) = l.any (fun p => decide (p.1 = x)) := by
    unfold sd
    rw [List.any_map]
    congr 1
    funext p
    simp
  rw [e1]
  split
  · unfold sd
    rw [List.map_map, List.map_map]
    congr 1
    funext p
    simp only [Function.comp]
    by_cases e : p.1 = x <;> simp [e]
  · simp [sd]
theorem dput_nd (l : List (Str × Int)) (x : Str) (v : Int) : dPut (nd l) (.str x) (.int v) = nd (sput l x v) := by
  rw [nd_sd, dput_sd, nd_sd]
  congr 1
  unfold sput
  have e1 : (l.map fun p => (p.1, Val.int p.2)).any (fun p => decide (p.1 = x)) = l.any (fun p => decide (p.1 = x)) := by
    rw [List.any_map]; rfl
  rw [e1]
  split
  · rw [List.map_map, List.map_map]
    congr 1
    funext p
    simp only [Function.comp]
    by_cases e : p.1 = x <;> simp [e]
  · simp
theorem sput_new {α : Type} {l : List (Str × α)} {x : Str} {v : α} (hx : x ∉ l.map (·.1)) : sput l x v = l ++ [(x, v)] := by
  unfold sput
  rw [if_neg]
  intro z
  obtain ⟨p, hp, e⟩ := List.any_eq_true.mp z
  exact hx (List.mem_map.mpr ⟨p, hp, by simpa using e⟩)
theorem merge_sd : ∀ (l m : List (Str × Val)), ((m ++ l).map (·.1)).Nodup → dMerge (sd m) (sd l) = sd (m ++ l)
  | [], m, _ => by simp [dMerge, sd]
  | (x, v) :: l, m, nd => by
    have hx : x ∉ m.map (·.1) := fun z => by
      rw [List.map_append, List.map_cons] at nd
      exact (List.nodup_append.mp nd).2.2 x z x (by simp) rfl
    show dMerge (dPut (sd m) (.str x) v) (sd l) = _
    rw [dput_sd, sput_new hx, merge_sd l (m ++ [(x, v)]) (by simpa using nd)]
    simp
theorem merge_sd0 {l : List (Str × Val)} (n : (l.map (·.1)).Nodup) : dMerge [] (sd l) = sd l := by
  have := merge_sd l [] (by simpa using n)
  simpa [sd] using this
theorem pairs_sd : ∀ l : List (Str × Val), pairsOf (l.map fun p => .tup [.str p.1, p.2]) = some (sd l)
  | [] => rfl
  | (x, v) :: l => by
    show (if (keyOf (.str x)).isSome = true then (pairsOf (l.map fun p => .tup [.str p.1, p.2])).map ((Val.str x, v) :: ·) else none) = _
    rw [pairs_sd l]; rfl
structure okNum (l : List (Str × Int)) (K : Nat) (M : Int) : Prop where
  l1 : 1 ≤ l.length
  lK : l.length ≤ K
  nd : (l.map (·.1)).Nodup
  nm : ∀ p ∈ l, okName p.1
  vl : ∀ p ∈ l, 0 ≤ p.2 ∧ p.2 ≤ M
  po : 0 < (l.map (·.2)).sum
def caseD (ws ss : List Int) (sp : Int) (n : Nat) : List (Val × Val) := [(.str "weights", .tup (ws.map .int)), (.str "skipped", .tup (ss.map .int)), (.str "spread", .int sp), (.str "numbers", .ref n)]
structure Case (c n : Nat) (ws ss : List Int) (sp : Int) (l : List (Str × Int)) (h : Hh) : Prop where
  c4 : 4 ≤ c
  n4 : 4 ≤ n
  ne : n ≠ c
  ec : h[c]? = some (.dct (caseD ws ss sp n))
  en : h[n]? = some (.dct (nd l))
section
variable {σ : Loc} {h h1 : Hh} {QV : Val → Hh → Prop} {N : Loc → Hh → Prop} {R : Val → Hh → Prop}
variable {c n : Nat} {ws ss : List Int} {sp : Int} {l : List (Str × Int)}
theorem Case.d {h' : Hh} (C : Case c n ws ss sp l h) (K : Kd h h') : Case c n ws ss sp l h' := ⟨C.c4, C.n4, C.ne, K.d C.ec C.c4, K.d C.en C.n4⟩
theorem Case.k {h' : Hh} (C : Case c n ws ss sp l h) (K : Kp [] h h') : Case c n ws ss sp l h' := C.d K.kd
theorem Case.weights (C : Case c n ws ss sp l h) : vIx (.ref c) (.str "weights") h = .ok (.tup (ws.map .int)) h := by simp [vIx, C.ec, keyOf, caseD, dGet, str_inj]
theorem Case.skipped (C : Case c n ws ss sp l h) : vIx (.ref c) (.str "skipped") h = .ok (.tup (ss.map .int)) h := by simp [vIx, C.ec, keyOf, caseD, dGet, str_inj]
theorem Case.spread (C : Case c n ws ss sp l h) : vIx (.ref c) (.str "spread") h = .ok (.int sp) h := by simp [vIx, C.ec, keyOf, caseD, dGet, str_inj]
theorem Case.numbers (C : Case c n ws ss sp l h) : vIx (.ref c) (.str "numbers") h = .ok (.ref n) h := by simp [vIx, C.ec, keyOf, caseD, dGet, str_inj]
theorem tuple_lst {n : Nat} {vs : List Val} (e : h[n]? = some (.lst vs)) : vTuple [.ref n] h = .ok (.tup vs) h := by simp only [vTuple, e]
theorem vals_dct {n : Nat} {kvs : List (Val × Val)} (e : h[n]? = some (.dct kvs)) : vVals (.ref n) h = .ok (.ref h.length) (h ++ [.lst (kvs.map (·.2))]) := by simp only [vVals, e]
theorem sum_lst {n : Nat} {is : List Int} (e : h[n]? = some (.lst (is.map .int))) : vSum [.ref n] h = .ok (.int is.sum) h := by simp only [vSum, e, intsOf_map]
@[simp] theorem w_vals (a : ME) : Wp (mVals a σ h) QV ↔ Wp (a σ h) fun x h1 => Wp (vVals x h1) QV := by simp [mVals]
theorem k_vals {n : Nat} {kvs : List (Val × Val)} (e : h[n]? = some (.dct kvs)) (q : ∀ m g, g[m]? = some (.lst (kvs.map (·.2))) → h.length ≤ m → Kp [] h g → QV (.ref m) g) : Wp (vVals (.ref n) h) QV := by
  rw [vals_dct e]
  exact .ok (q _ _ (app_new h _) (Nat.le_refl _) ((Kp.refl _ _).app _))
theorem nd_vals (l : List (Str × Int)) : (nd l).map (·.2) = (l.map (·.2)).map Val.int := by simp [nd]
theorem nd_keys (l : List (Str × Int)) : keysV (nd l) = (l.map (·.1)).map Val.str := by simp [nd, keysV]
end
end U
namespace U
open PySem L2
section
variable {σ : Loc} {h h1 : Hh} {QV : Val → Hh → Prop} {N : Loc → Hh → Prop} {R : Val → Hh → Prop}
theorem dict_lst {n : Nat} {ps : List (Str × Val)} (e : h[n]? = some (.lst (ps.map fun p => .tup [.str p.1, p.2]))) (hn : (ps.map (·.1)).Nodup) : vDict [.ref n] h = .ok (.ref h.length) (h ++ [.dct (sd ps)]) := by
  simp only [vDict, e, pairs_sd, merge_sd0 hn]
end
end U
namespace U
open PySem L2
mutual
def dz : PyData → Nat
  | .none => 1
  | .bool _ => 1
  | .int i => if i.natAbs < 10 ^ 40 then 140 else 1000000000
  | .str x => if x.cps.all (· < 0x110000) = true then x.cps.size + 1 else 1000000000
  | .list xs => dzs xs + 1
  | .tuple xs => dzs xs + 1
  | .dict kvs => dzk kvs + 1
def dzs : List PyData → Nat
  | [] => 0
  | x :: xs => dz x + 1 + dzs xs
def dzk : List (PyData × PyData) → Nat
  | [] => 0
  | (k, v) :: r => dz k + dz v + 2 + dzk r
end
theorem int_shown {i : Int} (h : i.natAbs < 10 ^ 40) : (PyData.shown (.int i)).length ≤ 41 ∧ i.natAbs.log2 < 1920 ∧ (if i == 0 then 0 else i.natAbs.log2 + 1) ≤ 140 := by
  have h3 : i.natAbs.log2 < 133 := by
    by_cases e : i.natAbs = 0
    · rw [e]; decide
    · exact (Nat.log2_lt e).mpr (Nat.lt_trans h (by decide))
  refine ⟨?_, by omega, by split <;> omega⟩
  have hr : ∀ m : Nat, m < 10 ^ 40 → (Nat.repr m).length ≤ 40 := fun m hm => by
    unfold Nat.repr
    rw [String.length_ofList]
    exact PyProof.Rows.digits10_le (by omega) hm
  have hs : ∀ s : String, (Str.ofString s).length = s.length := fun s => by
    rw [Str.ofString_eq_toList]
    show ((s.toList.map Char.toNat).toArray).size = _
    simp only [List.size_toArray, List.length_map]
    exact String.length_toList
  show (Str.ofString (toString i)).length ≤ 41
  rw [hs]
  cases i with
  | ofNat m =>
    show (Nat.repr m).length ≤ 41
    have := hr m h
    omega
  | negSucc m =>
    show ("-" ++ Nat.repr (m + 1)).length ≤ 41
    rw [String.length_append]
    have := hr (m + 1) h
    have : ("-" : String).length = 1 := by decide
    omega
mutual
theorem dz_ok : ∀ d : PyData, dz d ≤ 1000000 → d.showable = true ∧ d.leavesShort 41 = true ∧ d.weight ≤ dz d
  | .none, _ => by simp [PyData.showable, PyData.leavesShort, PyData.weight]
  | .bool b, _ => by simp [PyData.showable, PyData.leavesShort, PyData.weight]
  | .int i, h => by
    unfold dz at h ⊢
    split at h
    · rename_i hi
      obtain ⟨a, b, c⟩ := int_shown hi
      rw [if_pos hi]
      exact ⟨by simpa [PyData.showable] using b, by simpa [PyData.leavesShort] using a, by simpa [PyData.weight] using c⟩
    · omega
  | .str x, h => by
    unfold dz at h ⊢
    split at h
    · rename_i hx
      rw [if_pos hx]
      refine ⟨rfl, ?_, by simp [PyData.weight]⟩
      simp only [PyData.leavesShort, List.all_eq_true, decide_eq_true_eq]
      intro c hc
      have := Array.all_eq_true_iff_forall_mem.mp hx c (by simpa using hc)
      have : c < 0x110000 := by simpa using this
      omega
    · omega
  | .list xs, h => by
    unfold dz at h ⊢
    obtain ⟨a, b, c⟩ := dzs_ok xs (by omega)
    exact ⟨by simpa [PyData.showable] using a, by simpa [PyData.leavesShort] using b, by simp only [PyData.weight]; omega⟩
  | .tuple xs, h => by
    unfold dz at h ⊢
    obtain ⟨a, b, c⟩ := dzs_ok xs (by omega)
    exact ⟨by simpa [PyData.showable] using a, by simpa [PyData.leavesShort] using b, by simp only [PyData.weight]; omega⟩
  | .dict kvs, h => by
    unfold dz at h ⊢
    obtain ⟨a, b, c⟩ := dzk_ok kvs (by omega)
    exact ⟨by simpa [PyData.showable] using a, by simpa [PyData.leavesShort] using b, by simp only [PyData.weight]; omega⟩
theorem dzs_ok : ∀ xs : List PyData, dzs xs ≤ 1000000 → PyData.showableAll xs = true ∧ PyData.leavesShortAll 41 xs = true ∧ PyData.weightAll xs ≤ dzs xs
  | [], _ => by simp [PyData.showableAll, PyData.leavesShortAll, PyData.weightAll]
  | x :: xs, h => by
    unfold dzs at h ⊢
    obtain ⟨a, b, c⟩ := dz_ok x (by omega)
    obtain ⟨a', b', c'⟩ := dzs_ok xs (by omega)
    exact ⟨by simp [PyData.showableAll, a, a'], by simp [PyData.leavesShortAll, b, b'], by simp only [PyData.weightAll]; omega⟩
theorem dzk_ok : ∀ xs : List (PyData × PyData), dzk xs ≤ 1000000 → PyData.showableKv xs = true ∧ PyData.leavesShortKv 41 xs = true ∧ PyData.weightKv xs ≤ dzk xs
  | [], _ => by simp [PyData.showableKv, PyData.leavesShortKv, PyData.weightKv]
  | (k, v) :: xs, h => by
    unfold dzk at h ⊢
    obtain ⟨a, b, c⟩ := dz_ok k (by omega)
    obtain ⟨a1, b1, c1⟩ := dz_ok v (by omega)
    obtain ⟨a', b', c'⟩ := dzk_ok xs (by omega)
    exact ⟨by simp [PyData.showableKv, a, a', a1], by simp [PyData.leavesShortKv, b, b', b1], by simp only [PyData.weightKv]; omega⟩
end
mutual
theorem toD_depth : ∀ (n : Nat) {h : Hh} {v : Val} {d : PyData}, toD n h v = some d → d.depth ≤ n
  | 0, _, _, _, e => by simp [toD] at e
  | n + 1, h, v, d, e => by
    cases v with
    | non => simp [toD] at e; subst e; simp [PyData.depth]
    | bl b => simp [toD] at e; subst e; simp [PyData.depth]
    | int b => simp [toD] at e; subst e; simp [PyData.depth]
    | str b => simp [toD] at e; subst e; simp [PyData.depth]
    | tup vs =>
      simp only [toD] at e
      cases q : toDs n h vs with
      | none => rw [q] at e; cases e
      | some ds => rw [q] at e; cases e; have := toDs_depth n q; simp only [PyData.depth]; omega
    | ref i =>
      simp only [toD] at e
      split at e
      · rename_i vs _
        cases q : toDs n h vs with
        | none => rw [q] at e; cases e
        | some ds => rw [q] at e; cases e; have := toDs_depth n q; simp only [PyData.depth]; omega
      · rename_i vs _
        cases q : toDs n h vs with
        | none => rw [q] at e; cases e
        | some ds => rw [q] at e; cases e; have := toDs_depth n q; simp only [PyData.depth]; omega
      · rename_i vs _
        cases q : toDk n h vs with
        | none => rw [q] at e; cases e
        | some ds => rw [q] at e; cases e; have := toDk_depth n q; simp only [PyData.depth]; omega
      · rename_i vs _
        cases q : toDk n h vs with
        | none => rw [q] at e; cases e
        | some ds => rw [q] at e; cases e; have := toDk_depth n q; simp only [PyData.depth]; omega
      · cases e
    | ty _ => simp [toD] at e
    | gl _ => simp [toD] at e
theorem toDs_depth : ∀ (n : Nat) {h : Hh} {vs : List Val} {ds : List PyData}, toDs n h vs = some ds → PyData.depthAll ds ≤ n
  | n, h, [], ds, e => by simp [toDs] at e; subst e; simp [PyData.depthAll]
  | n, h, v :: vs, ds, e => by
    simp only [toDs] at e
    split at e
    · rename_i d es q1 q2
      cases e
      have a := toD_depth n q1
      have b := toDs_depth n q2
      simp only [PyData.depthAll]; omega
    · cases e
theorem toDk_depth : ∀ (n : Nat) {h : Hh} {vs : List (Val × Val)} {ds : List (PyData × PyData)}, toDk n h vs = some ds → PyData.depthKv ds ≤ n
  | n, h, [], ds, e => by simp [toDk] at e; subst e; simp [PyData.depthKv]
  | n, h, (k, v) :: vs, ds, e => by
    simp only [toDk] at e
    split at e
    · rename_i d es q1 q2 q3 q4
      cases e
      have a := toD_depth n q2
      have a2 := toD_depth n q3
      have b := toDk_depth n q4
      simp only [PyData.depthKv]; omega
    · cases e
end
theorem repr_ok {h : Hh} {x : Val} {d : PyData} (e : toD 30 h x = some d) (hz : dz d ≤ 300000) : vRepr [x] h = .ok (.str d.shown) h := by
  obtain ⟨a, b, c⟩ := dz_ok d (by omega)
  have hl := PyData.shown_le 41 (by omega) d b
  have hs : d.shown.length ≤ sizeLine := by
    have : sizeLine = 16777216 := rfl
    rw [this]
    have : (41 + 2) * d.weight ≤ 43 * 300000 := Nat.mul_le_mul_left _ (by omega)
    omega
  have hd := toD_depth 30 e
  simp only [vRepr, e, if_pos (show d.showable = true ∧ d.depth ≤ 32 ∧ d.shown.length ≤ sizeLine from ⟨a, by omega, hs⟩)]
mutual
theorem noD_of : ∀ d : PyData, d.canLay0 = true → noD d = true
  | .none, _ => rfl
  | .bool _, _ => rfl
  | .int _, _ => rfl
  | .str _, _ => rfl
  | .list xs, h => by simp only [noD]; exact noDs_of xs (by simpa [PyData.canLay0] using h)
  | .tuple xs, h => by simp only [noD]; exact noDs_of xs (by simpa [PyData.canLay0] using h)
  | .dict xs, h => by simp [PyData.canLay0] at h
theorem noDs_of : ∀ d : List PyData, PyData.canLayAll0 d = true → noDs d = true
  | [], _ => rfl
  | x :: xs, h => by
    have h' : x.canLay0 = true ∧ PyData.canLayAll0 xs = true := by simpa [PyData.canLayAll0] using h
    simp [noDs, noD_of x h'.1, noDs_of xs h'.2]
end
@[simp] theorem eqD_str {h : Hh} (neg : Bool) {x y : Str} : vEqD neg (.str x) (.str y) h = .ok (.bl (if neg then !decide (x = y) else decide (x = y))) h := rfl
end U
namespace U
open PySem L2
section
variable {σ : Loc} {h h1 : Hh} {QV : Val → Hh → Prop} {N : Loc → Hh → Prop} {R : Val → Hh → Prop}
@[simp] theorem w_prop (C : Str) (F : Fn) (a : ME) : Wp (mProp C F a σ h) QV ↔ Wp (a σ h) fun x h1 => isIn C x h1 = true ∧ Wp (F [x] h1) QV := by
  unfold mProp
  simp only [wp_bind]
  refine iff_of_eq (congrArg _ (funext fun x => funext fun h3 => ?_))
  by_cases e : isIn C x h3 = true <;> simp [e]
@[simp] theorem w_meth (C m : Str) (n : Nat) (F : Fn) (a : ME) (mm : MA) : Wp (mMeth C m n F a mm σ h) QV ↔ Wp (a σ h) fun x h1 => isI C m x h1 = true ∧ Wp (mm σ h1) fun xs h2 => Wp (callF n F (x :: xs) h2) QV := by
  unfold mMeth
  simp only [wp_bind]
  refine iff_of_eq (congrArg _ (funext fun x => funext fun h3 => ?_))
  by_cases e : isI C m x h3 = true <;> simp [e]
@[simp] theorem w_methK (C m : Str) (n nk : Nat) (ix : List Nat) (ds : List Val) (k : Nat) (F : Fn) (a : ME) (mm mk : MA) : Wp (mMethK C m n nk ix ds k F a mm mk σ h) QV ↔ Wp (a σ h) fun x h1 => isI C m x h1 = true ∧ Wp (mm σ h1) fun xs h2 => Wp (mk σ h2) fun zs h3 => Wp (kwF n nk ix ds k F (x :: xs) zs h3) QV := by
  unfold mMethK
  simp only [wp_bind]
  refine iff_of_eq (congrArg _ (funext fun x => funext fun h3 => ?_))
  by_cases e : isI C m x h3 = true <;> simp [e]
@[simp] theorem w_mkK' (C : Str) (n m : Nat) (ix : List Nat) (ds : List Val) (k : Nat) (F : Fn) (mm mk : MA) : Wp (mMkK C n m ix ds k F mm mk σ h) QV ↔ Wp (mm σ h) fun vs h1 => Wp (mk σ h1) fun zs h2 => Wp (mkK C n m ix ds k F vs zs h2) QV := by simp [mMkK]
@[simp] theorem w_kw (n m : Nat) (ix : List Nat) (ds : List Val) (k : Nat) (F : Fn) (mm mk : MA) : Wp (mKw n m ix ds k F mm mk σ h) QV ↔ Wp (mm σ h) fun vs h1 => Wp (mk σ h1) fun zs h2 => Wp (kwF n m ix ds k F vs zs h2) QV := by simp [mKw]
theorem w_kwF {n m : Nat} {ix : List Nat} {ds vs zs ws : List Val} {k : Nat} {F : Fn} (h1 : vs.length = n) (h2 : zs.length = m) (e : pick ix (vs ++ (zs ++ ds)) = ws) (h3 : ws.length = k) (w : Wp (F ws h) QV) : Wp (kwF n m ix ds k F vs zs h) QV := by
  unfold kwF
  rw [if_pos ⟨h1, h2⟩, e, if_pos h3]
  exact w
theorem isIn_of {C : Str} {n : Nat} {fs : List (Str × Val)} (e : h[n]? = some (.ins C fs)) : isIn C (.ref n) h = true := by simp [isIn, e]
theorem fld_of {C f : Str} {n : Nat} {fs : List (Str × Val)} {v : Val} (e : h[n]? = some (.ins C fs)) (hC : C ∈ kCs) (hf : getFv f fs = some v) : vFld kCs f (.ref n) h = .ok v h := by simp [vFld, e, hC, hf]
variable {n : Nat} {ws ss : List Int} {sp : Int}
@[simp] theorem gf_w : getFv "r_weights" (ruleF ws ss sp) = some (.tup (ws.map .int)) := by simp [getFv, ruleF]
@[simp] theorem gf_s : getFv "r_skipped" (ruleF ws ss sp) = some (.tup (ss.map .int)) := by simp [getFv, ruleF, str_inj]
@[simp] theorem gf_p : getFv "r_spread" (ruleF ws ss sp) = some (.int sp) := by simp [getFv, ruleF, str_inj]
theorem toD_tup {k : Nat} {vs : List Val} {ds : List PyData} (e : toDs k h vs = some ds) : toD (k + 1) h (.tup vs) = some (.tuple ds) := by simp only [toD, e]; rfl
theorem toD_lst {k m : Nat} {vs : List Val} {ds : List PyData} (e1 : h[m]? = some (.lst vs)) (e : toDs k h vs = some ds) : toD (k + 1) h (.ref m) = some (.list ds) := by simp only [toD, e1, e]; rfl
theorem toDs_cons {k : Nat} {v : Val} {vs : List Val} {d : PyData} {ds : List PyData} (e1 : toD k h v = some d) (e2 : toDs k h vs = some ds) : toDs k h (v :: vs) = some (d :: ds) := by simp only [toDs, e1, e2]
theorem toDs_nil {k : Nat} : toDs k h [] = some [] := by simp [toDs]
end
end U
namespace U
open PySem L2
theorem atI_nat {α : Type} (xs : List α) (k : Nat) : L2.atI xs (k : Int) = xs[k]? := by
  unfold L2.atI L2.ixN
  rw [if_pos (by omega)]
  by_cases h : k < xs.length
  · rw [if_pos (by omega)]; simp
  · rw [if_neg (by omega)]; simp; omega
section
variable {σ : Loc} {h h1 : Hh} {QV : Val → Hh → Prop} {N : Loc → Hh → Prop} {R : Val → Hh → Prop}
variable {n : Nat} {ws ss : List Int} {sp : Int}
@[simp] theorem w_sl (a : ME) (lo hi : MP) : Wp (mSl a lo hi σ h) QV ↔ Wp (a σ h) fun x h1 => Wp (lo σ h1) fun l h2 => Wp (hi σ h2) fun u h3 => Wp (vSl x l u h3) QV := by simp [mSl]
@[simp] theorem w_mpNo {Q : Option Int → Hh → Prop} : Wp (mpNo σ h) Q ↔ Q none h := wp_ok _ _
@[simp] theorem w_mpE {Q : Option Int → Hh → Prop} (a : ME) : Wp (mpE a σ h) Q ↔ Wp (a σ h) fun v h1 => (match v with
  | .int i => Q (some i) h1
  | _ => False) := by
  unfold mpE
  simp only [wp_bind]
  refine iff_of_eq (congrArg _ (funext fun z => funext fun h3 => ?_))
  cases z <;> simp
@[simp] theorem sl_tup (vs : List Val) (lo hi : Option Int) (h : Hh) : vSl (.tup vs) lo hi h = .ok (.tup (cutL vs lo hi)) h := rfl
theorem fm_const {α : Type} (v : Val) : ∀ xs : List α, xs.filterMap (fun _ => some v) = List.replicate xs.length v
  | [] => rfl
  | x :: xs => by
    show v :: xs.filterMap (fun _ => some v) = _
    rw [fm_const v xs]; rfl
theorem lc_dct {m : ME} {vs : List Nat} {tg : Tg} {c : MT} {e : ME} {kvs : List (Val × Val)} (F : Val → Option Val) (em : m σ h = .ok (.ref n) h) (en : h[n]? = some (.dct kvs)) (hz : kvs.length ≤ sizeLine)
    (hb : ∀ v ∈ kvs.map (·.1), ∀ g, Kp [n] h g → g[n]? = some (.fdc kvs) → Wp (lcB vs tg c e σ v g) fun o g2 => Kp [] g g2 ∧ o = F v)
    (q : ∀ r g, Kp [] h g → g[r]? = some (.lst ((kvs.map (·.1)).filterMap F)) → h.length ≤ r → QV (.ref r) g) : Wp (mLc (miVal m) vs tg c e σ h) QV := by
  have hl := lt_of en
  have hm : miVal m σ h = .ok ⟨kvs.map (·.1), fun h => h[n]? = some (.fdc kvs), some n⟩ (h.set n (.fdc kvs)) := by
    unfold miVal; rw [em]; simp only [bind_ok, en]
  have hlen : (h.set n (.fdc kvs)).length = h.length := List.length_set
  refine w_lc (fun _ _ k acc g => acc = ((kvs.map (·.1)).take k).filterMap F ∧ Kp [n] h g ∧ g[n]? = some (.fdc kvs)) ?_
  rw [hm]
  refine .ok ⟨by rw [List.length_map]; exact hz, ⟨by simp, (((Kp.refl [n] h).set n _ (.inl (by simp))).app _), app_at _ (set_self en)⟩, fun k acc g ⟨_, _, k4⟩ => k4, fun k v acc g ev ⟨k1, k4, k5⟩ hn => ?_, fun acc g ⟨k1, k4, k5⟩ hn => ?_⟩
  · refine (hb v (List.mem_of_getElem? ev) g k4 k5).mono fun o g2 ⟨a2, a3⟩ => ?_
    have hn2 := a2.k hn
    have k5' := a2.k k5
    have k4' : Kp [n] h g2 := k4.trans (a2.weak (by simp))
    have ht : (kvs.map (·.1)).take (k + 1) = (kvs.map (·.1)).take k ++ [v] := by rw [List.take_add_one, ev]; rfl
    subst a3
    refine ⟨hn2, ?_⟩
    rw [hlen] at hn2 ⊢
    cases e : F v with
    | none => exact ⟨by rw [ht, List.filterMap_append, k1]; simp [e], k4', k5'⟩
    | some y => exact ⟨by rw [ht, List.filterMap_append, k1]; simp [e], k4'.set' (Nat.le_refl _), set_at k5' (by omega)⟩
  · refine ⟨g.set n (.dct kvs), by simp only [unlH, k5], ?_⟩
    rw [hlen] at hn ⊢
    refine q _ _ ⟨by rw [List.length_set]; exact k4.len, fun i o ei _ => ?_⟩ ?_ (Nat.le_refl _)
    · by_cases hi : i = n
      · subst hi
        rw [en] at ei; cases ei
        exact set_self k5
      · exact set_at (k4.at_ i o ei (by simpa using hi)) (fun z => hi z.symm)
    · have : (kvs.map (·.1)).take (kvs.map (·.1)).length = kvs.map (·.1) := List.take_length
      rw [set_at hn (by omega), k1, this]
theorem sign_in {c : Nat} (hc : 97 ≤ c ∧ c ≤ 122) (h : Hh) : vIn false (.str ⟨#[c]⟩) (.str lets) h = .ok (.bl true) h := by
  have : c ∈ lets.cps.toList := by rw [lets_cps]; exact List.mem_range'_1.mpr (by omega)
  simp [vIn, sign?, show c ∈ lets.cps by simpa using this]
theorem is_name_ok {x : Str} (o : okName x) (q : ∀ g, Kp [] h g → QV (.bl true) g) : Wp (f_is_name [.str x] h) QV := by
  unfold f_is_name b_is_name
  rw [w_fn]
  show WpF (msSeq _ _ [some (.str x), none] h) _ _
  have o1 := o.l1
  have o8 := o.l8
  have i1 : vIsi kCs kTys [.str x, .ty "str"] h = .ok (.bl true) h := isi_b rfl kb_ss
  have ln : vLen [.str x] h = .ok (.int x.length) h := by simp only [vLen, if_pos (szl (show x.length ≤ 1000 by omega))]
  have c1 : decide ((1 : Int) ≤ (x.length : Int)) = true := decide_eq_true (by omega)
  have c2 : decide ((x.length : Int) ≤ 8) = true := decide_eq_true (by omega)
  simp only [f_seq, f_if, w_tor, w_tnot, w_tval, w_app, w_acons, w_anil, w_C, w_var0, w_varS, wp_ok, i1, truth, Bool.not_true, Bool.false_eq_true, if_false, w_tbl, w_chain, ln, le_int, c1, c2, f_nil]
  unfold b_is_name_1
  simp only [f_ret, w_app, w_acons, w_anil, lets_eq]
  have hm : miVal (mVar 0) [some (.str x), none] h = .ok ⟨x.cps.toList.map fun c => .str ⟨#[c]⟩, fun _ => True, none⟩ h := rfl
  refine pure_k (lc_pure (fun _ => some (.bl true)) hm rfl (szl (by simp; show x.length ≤ 1000; omega)) (fun _ => trivial) fun v hv l => ?_) ?_
  · obtain ⟨c, hc, rfl⟩ := List.mem_map.mp (show v ∈ x.cps.toList.map fun c => Val.str ⟨#[c]⟩ from hv)
    simp [lcB, Tg.bd, wipeL, tTrue, mOp, mC, sign_in (o.s c hc)]
  · rw [fm_const]
    have e1 := app_new h (.lst (List.replicate (x.cps.toList.map fun c => Val.str ⟨#[c]⟩).length (Val.bl true)))
    have : ∀ k, blsOf (List.replicate k (Val.bl true)) = some (List.replicate k true) := fun k => by
      have := blsOf_map (List.replicate k true)
      rwa [List.map_replicate] at this
    simp only [vAll, e1, this, wp_ok]
    rw [show (List.replicate (x.cps.toList.map fun c => Val.str ⟨#[c]⟩).length true).all id = true by simp]
    exact q _ ((Kp.refl [] h).app _)
end
end U
namespace U
open PySem L2
theorem sSort_perm (xs : List Str) : (sSort xs).Perm xs := List.mergeSort_perm xs strLe
theorem sum_perm {xs ys : List Int} (p : xs.Perm ys) : xs.sum = ys.sum := by
  induction p with
  | nil => rfl
  | cons x _ ih => simp [ih]
  | swap x y l => simp only [List.sum_cons]; omega
  | trans _ _ a b => rw [a, b]
def srt (l : List (Str × Int)) : List (Str × Int) := (sSort (l.map (·.1))).map fun x => (x, (l.lookup x).getD 0)
theorem lookup_mem : ∀ {l : List (Str × Int)} {p : Str × Int}, (l.map (·.1)).Nodup → p ∈ l → l.lookup p.1 = some p.2
  | (x, i) :: l, p, nd, hp => by
    rw [List.map_cons] at nd
    have nd' := List.nodup_cons.mp nd
    rw [List.lookup_cons]
    rcases List.mem_cons.mp hp with rfl | hp
    · simp
    · have : (p.1 == x) = false := by
        have : p.1 ≠ x := fun z => nd'.1 (List.mem_map.mpr ⟨p, hp, z⟩)
        simpa using this
      rw [this]
      exact lookup_mem nd'.2 hp
theorem map_lookup {l : List (Str × Int)} (nd : (l.map (·.1)).Nodup) : ((l.map (·.1)).map fun x => (x, (l.lookup x).getD 0)) = l := by
  rw [List.map_map]
  have : l.map ((fun x => (x, (l.lookup x).getD 0)) ∘ fun p : Str × Int => p.1) = l.map id := List.map_congr_left fun p hp => by
    simp only [Function.comp, lookup_mem nd hp, id]; rfl
  rw [this, List.map_id]
theorem srt_perm {l : List (Str × Int)} (nd : (l.map (·.1)).Nodup) : (srt l).Perm l := by
  have h1 : (srt l).Perm ((l.map (·.1)).map fun x => (x, (l.lookup x).getD 0)) := (sSort_perm _).map _
  rwa [map_lookup nd] at h1
theorem srt_keys (l : List (Str × Int)) : (srt l).map (·.1) = sSort (l.map (·.1)) := by
  unfold srt
  rw [List.map_map]
  exact List.map_id _
theorem srt_nodup {l : List (Str × Int)} (nd : (l.map (·.1)).Nodup) : ((srt l).map (·.1)).Nodup := by
  rw [srt_keys]; exact (sSort_perm _).nodup_iff.mpr nd
theorem srt_okN {l : List (Str × Int)} {K : Nat} {M : Int} (o : okNum l K M) : okNum (srt l) K M := by
  have p := srt_perm o.nd
  have hl := p.length_eq
  exact ⟨by rw [hl]; exact o.l1, by rw [hl]; exact o.lK, srt_nodup o.nd, fun q hq => o.nm q (p.mem_iff.mp hq), fun q hq => o.vl q (p.mem_iff.mp hq), by rw [sum_perm (p.map (·.2))]; exact o.po⟩
def songsF (d : Nat) : List (Str × Val) := [("s_numbers", .ref d)]
section
variable {σ : Loc} {h h1 : Hh} {QV : Val → Hh → Prop} {N : Loc → Hh → Prop} {R : Val → Hh → Prop}
variable {n m : Nat} {l : List (Str × Int)} {K : Nat} {M : Int}
@[simp] theorem gf_n {d : Nat} : getFv "s_numbers" (songsF d) = some (.ref d) := by simp [getFv, songsF]
theorem k_newD (q : ∀ n g, g[n]? = some (.dct []) → h.length ≤ n → Kp [] h g → QV (.ref n) g) : Wp (vNewD σ h) QV := by
  unfold vNewD
  exact .ok (q _ _ (app_new h _) (Nat.le_refl _) ((Kp.refl _ _).app _))
theorem ix_nd {x : Str} {i : Int} (e : h[n]? = some (.dct (nd l))) (hx : l.lookup x = some i) : vIx (.ref n) (.str x) h = .ok (.int i) h := by
  have : dGet (nd l) (.str x) = some (.int i) := by rw [lookup_nd, hx]; rfl
  simp only [vIx, e, keyOf, this]
theorem all_true {n k : Nat} (e : h[n]? = some (.lst (List.replicate k (Val.bl true)))) : vAll [.ref n] h = .ok (.bl true) h := by
  have : blsOf (List.replicate k (Val.bl true)) = some (List.replicate k true) := by
    have := blsOf_map (List.replicate k true)
    rwa [List.map_replicate] at this
  simp only [vAll, e, this]
  simp
theorem songs_init (ok : okNum l 3 M) (en : h[n]? = some (.ins "Songs" [])) (em : h[m]? = some (.dct (nd l)))
    (q : ∀ d g, g[n]? = some (.ins "Songs" (songsF d)) → g[d]? = some (.dct (nd (srt l))) → h.length ≤ d → Kp [n] h g → QV .non g) : Wp (f_Songs_init [.ref n, .ref m] h) QV := by
  have hne : n ≠ m := fun z => by subst z; rw [en] at em; cases em
  unfold f_Songs_init b_Songs_init
  rw [w_fn]
  show WpF (msSeq _ _ [some (.ref n), some (.ref m), none] h) _ _
  have l1 := ok.l1
  have l3 := ok.lK
  have i1 : vIsi kCs kTys [.ref m, .ty "dict"] h = .ok (.bl true) h := isi_b (a := "dict") (by simp [tyNm, em]) kb_dd
  have ln : vLen [.ref m] h = .ok (.int l.length) h := by simp [vLen, em, nd]
  have c1 : decide ((1 : Int) ≤ (l.length : Int)) = true := decide_eq_true (by omega)
  have c2 : decide ((l.length : Int) ≤ 3) = true := decide_eq_true (by omega)
  simp only [f_seq, f_if, w_tor, w_tnot, w_tval, w_app, w_acons, w_anil, w_C, w_var0, w_varS, wp_ok, i1, truth, Bool.not_true, Bool.false_eq_true, if_false, w_tbl, w_chain, ln, le_int, c1, c2, f_nil]
  unfold b_Songs_init_5
  simp only [f_seq, f_if, w_tnot, w_tval, w_app, w_acons, w_anil]
  refine lc_dct (n := m) (kvs := nd l) (fun _ => some (.bl true)) rfl em (szl (by simp [nd]; omega)) (fun v hv g K5 e5 => ?_) fun r g1 k1 e1 lr => ?_
  · rw [show (nd l).map (·.1) = (l.map (·.1)).map Val.str from nd_keys l] at hv
    obtain ⟨x, hx, rfl⟩ := List.mem_map.mp hv
    obtain ⟨p, hp, rfl⟩ := List.mem_map.mp hx
    unfold lcB
    simp only [Tg.bd, wipeL, List.set, tTrue, nr_ok, bind_ok, if_true, wp_bind, wp_nr, w_app, w_acons, w_anil, w_varS, w_var0, wp_ok, w_callF]
    exact ⟨rfl, is_name_ok (ok.nm p hp) fun g2 k2 => ⟨k2, rfl⟩⟩
  rw [fm_const] at e1
  rw [all_true e1]
  simp only [wp_ok, truth, Bool.not_true, Bool.false_eq_true, if_false, f_nil]
  have en1 := k1.k en
  have em1 := k1.k em
  unfold b_Songs_init_4
  simp only [f_seq, f_fld]
  refine k_newD fun d g2 e2 l2 k2 => ?_
  have en2 := k2.k en1
  have em2 := k2.k em1
  have ln2 := lt_of en
  have lm2 := lt_of em
  have lk1 := k1.len
  have lk2 := k2.len
  have ld2 := lt_of e2
  simp only [w_var0, wp_ok, setF_ok en2 songs_in (by simp)]
  have hput : putFv "s_numbers" (.ref d) [] = songsF d := rfl
  rw [hput]
  have en3 := set_self (o' := .ins "Songs" (songsF d)) en2
  have em3 := set_at (o' := .ins "Songs" (songsF d)) em2 hne
  have ed3 := set_at (o' := .ins "Songs" (songsF d)) e2 (show n ≠ d by omega)
  have k3 : Kp [n] h (g2.set n (.ins "Songs" (songsF d))) := ((k1.trans k2).weak (by simp)).set _ _ (.inl (by simp))
  have hl3 : (g2.set n (.ins "Songs" (songsF d))).length = g2.length := List.length_set
  generalize g2.set n (.ins "Songs" (songsF d)) = g3 at en3 em3 ed3 k3 hl3 ⊢
  -- the loop
  unfold b_Songs_init_3
  rw [f_seq]
  have hs : vSortS [.ref m] g3 = .ok (.ref g3.length) (g3 ++ [.lst ((sSort (l.map (·.1))).map Val.str)]) := by
    simp only [vSortS, em3, nd_keys, strsOf'_map]
    rw [if_pos (by simp; omega)]
  have hm : miVal (mApp vSortS (maCons (mVar 1) maNil)) [some (.ref n), some (.ref m), none] g3 = .ok ⟨(sSort (l.map (·.1))).map Val.str, fun h => h[g3.length]? = some (.lst ((sSort (l.map (·.1))).map Val.str)), none⟩ (g3 ++ [.lst ((sSort (l.map (·.1))).map Val.str)]) :=
    val_lst (n := g3.length) (by simp [mApp, maCons, maNil, hs]) (app_new g3 _)
  have k4 := k3.app [.lst ((sSort (l.map (·.1))).map Val.str)]
  refine f_forE (fun k σ g => ∃ x2, σ = [some (.ref n), some (.ref m), x2] ∧ g[n]? = some (.ins "Songs" (songsF d)) ∧ g[m]? = some (.dct (nd l)) ∧ g[d]? = some (.dct (nd ((srt l).take k))) ∧ Kp [n] h g ∧ g[g3.length]? = some (.lst ((sSort (l.map (·.1))).map Val.str))) hm rfl
    ⟨none, rfl, app_at _ en3, app_at _ em3, app_at _ ed3, k4, app_new g3 _⟩ (fun k σ g ⟨_, _, _, _, _, _, e⟩ => e) ?_ ?_
  · rintro k v σ g ev ⟨x2, rfl, en, em, ed, K, es⟩
    have ev' : ((sSort (l.map (·.1))).map Val.str)[k]? = some v := ev
    rw [List.getElem?_map] at ev'
    cases ex : (sSort (l.map (·.1)))[k]? with
    | none => rw [ex] at ev'; cases ev'
    | some x =>
      rw [ex] at ev'
      simp at ev'
      subst ev'
      have hx : x ∈ l.map (·.1) := (sSort_perm _).mem_iff.mp (List.mem_of_getElem? ex)
      obtain ⟨p, hp, rfl⟩ := List.mem_map.mp hx
      have hlk := lookup_mem ok.nd hp
      have hv := ok.vl p hp
      have hix := ix_nd em hlk
      simp only [f_name, List.set, f_seq, f_if, w_tnot, w_tval, w_app, w_acons, w_anil, w_op, w_var0, w_varS, wp_ok, hix, w_callF, is_number_int]
      refine ⟨rfl, ?_⟩
      rw [decide_eq_true hv.1]
      simp only [truth, Bool.not_true, Bool.false_eq_true, if_false, f_nil]
      unfold b_Songs_init_1
      simp only [f_asg, w_op, w_var0, w_varS, wp_ok, hix, f_sub, w_un, fld_of en songs_in gf_n]
      have hsk : (srt l)[k]? = some (p.1, p.2) := by
        unfold srt
        rw [List.getElem?_map, ex]
        simp [hlk]
      have hnew : p.1 ∉ ((srt l).take k).map (·.1) := fun z => by
        have nd := srt_nodup ok.nd
        rw [List.map_take] at z
        obtain ⟨j, hj, ej⟩ := List.getElem_of_mem z
        have hkl : k < ((srt l).map (·.1)).length := by rw [List.length_map]; exact (List.getElem?_eq_some_iff.mp hsk).1
        have ek : ((srt l).map (·.1))[k] = p.1 := by
          have : ((srt l).map (·.1))[k]? = some p.1 := by rw [List.getElem?_map, hsk]; rfl
          exact (List.getElem?_eq_some_iff.mp this).2
        rw [List.length_take] at hj
        rw [List.getElem_take] at ej
        have := (List.getElem_inj nd).mp (ej.trans ek.symm)
        omega
      have hset : vSet (.ref d) (.str p.1) (.int p.2) g = some (g.set d (.dct (nd ((srt l).take (k + 1))))) := by
        have ht : (srt l).take (k + 1) = (srt l).take k ++ [(p.1, p.2)] := by rw [List.take_add_one, hsk]; rfl
        simp only [vSet, ed, keyOf, dput_nd, sput_new hnew, ht]
        rw [if_pos (szlt (by
          have := (srt_perm ok.nd).length_eq
          simp only [nd, List.length_map, List.length_take]; omega))]
      simp only [hset]
      refine ⟨_, rfl, set_at en (by omega), set_at em (by omega), set_self ed, K.set' (by omega), set_at es (by omega)⟩
  · rintro σ g ⟨x2, rfl, en, em, ed, K, es⟩
    have hlen : (srt l).length = ((sSort (l.map (·.1))).map Val.str).length := by unfold srt; simp
    rw [show (⟨(sSort (l.map (·.1))).map Val.str, fun h => h[g3.length]? = some (.lst ((sSort (l.map (·.1))).map Val.str)), none⟩ : Itb).items.length = (srt l).length from hlen.symm, List.take_length] at ed
    unfold b_Songs_init_2
    simp only [f_if, w_tbl, w_op, w_app, w_acons, w_anil, w_vals, w_un, w_var0, wp_ok, fld_of en songs_in gf_n]
    refine k_vals ed fun r g5 e5 l5 k5 => ?_
    rw [nd_vals] at e5
    have hpo : ¬ ((srt l).map (·.2)).sum = 0 := by have := (srt_okN ok).po; omega
    rw [sum_lst e5, wp_ok, w_C, eqD_int, decide_eq_false hpo]
    simp only [wp_ok, Bool.false_eq_true, if_false, f_nil]
    exact q d g5 (k5.k en) (k5.k ed) (by omega) (K.trans (k5.weak (by simp)))
structure SongsAt (n d : Nat) (l : List (Str × Int)) (h : Hh) : Prop where
  e : h[n]? = some (.ins "Songs" (songsF d))
  ed : h[d]? = some (.dct (nd l))
theorem SongsAt.k {d : Nat} {g : Hh} (S : SongsAt n d l h) (K : Kp [] h g) : SongsAt n d l g := ⟨K.k S.e, K.k S.ed⟩
theorem SongsAt.d {d : Nat} {g : Hh} (S : SongsAt n d l h) (K : Kd h g) (h1 : 4 ≤ n) (h2 : 4 ≤ d) : SongsAt n d l g := ⟨K.d S.e h1, K.d S.ed h2⟩
theorem k_songs (ok : okNum l 3 M) (em : h[m]? = some (.dct (nd l))) (q : ∀ n d g, SongsAt n d (srt l) g → h.length ≤ n → h.length ≤ d → Kp [] h g → QV (.ref n) g) : Wp (mkI "Songs" 2 f_Songs_init [.ref m] h) QV := by
  unfold mkI
  refine wp_ifT rfl ?_
  rw [wp_bind]
  refine songs_init ok (app_new h _) (app_at _ em) fun d g e ed ld K => ?_
  refine .ok (q _ d g ⟨e, ed⟩ (Nat.le_refl _) (by simp at ld; omega) ((((Kp.refl [] h).app [.ins "Songs" []]).weak (by simp)).trans K |>.weak (by simp)))
end
end U
namespace U
open PySem L2
abbrev Itm := Option (Str × Bool)
def itV : Itm → Val
  | none => .tup []
  | some (k, b) => .tup [.str k, .bl b]
def stV (st : List Itm) : Val := .tup (st.map itV)
def nmOk (k : Str) : Prop := k.cps.all (· < 0x110000) = true
theorem okName.nm {x : Str} (o : okName x) : nmOk x := by
  unfold nmOk
  rw [Array.all_eq_true_iff_forall_mem]
  intro c hc
  have := o.s c (by simpa using hc)
  simp; omega
def itOk (i : Itm) : Prop := ∀ k b, i = some (k, b) → nmOk k
def isK (k : Str) (i : Itm) : Bool := match i with
  | none => false
  | some p => decide (p.1 = k)
def cnt (st : List Itm) (k : Str) : Nat := st.countP (isK k)
section
variable {σ : Loc} {h h1 : Hh} {QV : Val → Hh → Prop} {N : Loc → Hh → Prop} {R : Val → Hh → Prop}
@[simp] theorem eqT0_tup (neg : Bool) (xs : List Val) (h : Hh) : vEqT0 neg (.tup xs) (.tup []) h = .ok (.bl (if neg then !xs.isEmpty else xs.isEmpty)) h := by
  unfold vEqT0
  rfl
theorem tup0 (h : Hh) : vTup [] h = .ok (.tup []) h := tup_v h (by simp)
theorem ix_tup {vs : List Val} {k : Nat} {v : Val} (e : vs[k]? = some v) (h : Hh) : vIx (.tup vs) (.int (k : Int)) h = .ok v h := by
  simp only [vIx, atI_nat, e]
@[simp] theorem w_get2 (a b c : ME) : Wp (mGet2 a b c σ h) QV ↔ Wp (a σ h) fun x h1 => isDct x h1 = true ∧ Wp (b σ h1) fun y h2 => Wp (c σ h2) fun z h3 => Wp (vGet x y z h3) QV := by
  unfold mGet2
  simp only [wp_bind]
  refine iff_of_eq (congrArg _ (funext fun x => funext fun h3 => ?_))
  by_cases e : isDct x h3 = true <;> simp [e]
variable {n d : Nat} {l : List (Str × Int)}
end
end U
namespace U
open PySem L2
section
variable {σ : Loc} {h h1 : Hh} {QV : Val → Hh → Prop} {N : Loc → Hh → Prop} {R : Val → Hh → Prop}
structure okSt (l : List (Str × Int)) (n : Nat) (st : List Itm) : Prop where
  len : st.length = n
  kd : ∀ k b, some (k, b) ∈ st → (l.lookup k).isSome = true
  le : ∀ k i, l.lookup k = some i → (cnt st k : Int) ≤ i
variable {n d m : Nat} {l : List (Str × Int)} {st : List Itm} {ws ss : List Int} {sp : Int}
def nmsOk (l : List (Str × Int)) : Prop := ∀ p ∈ l, nmOk p.1
theorem lookup_some_mem : ∀ {l : List (Str × Int)} {x : Str} {i : Int}, l.lookup x = some i → (x, i) ∈ l
  | (a, j) :: l, x, i, e => by
    rw [List.lookup_cons] at e
    by_cases z : x = a
    · subst z
      simp at e
      subst e
      simp
    · have : (x == a) = false := by simpa using z
      rw [this] at e
      exact List.mem_cons_of_mem _ (lookup_some_mem e)
theorem okSt.it {l : List (Str × Int)} {k : Nat} (o : okSt l k st) (hn : nmsOk l) : ∀ i ∈ st, itOk i := fun i hi k b e => by
  subst e
  obtain ⟨j, ej⟩ := Option.isSome_iff_exists.mp (o.kd k b hi)
  exact hn _ (lookup_some_mem ej)
def olds (l : List (Str × Int)) (st : List Itm) : List (Str × Int) := l.filterMap fun p => if 0 < p.2 - (cnt st p.1 : Int) then some (p.1, p.2 - (cnt st p.1 : Int)) else none
theorem numbers_ok (S : SongsAt n d l h) : f_Songs_numbers [.ref n] h = .ok (.ref h.length) (h ++ [.dct (nd l)]) := by
  simp [f_Songs_numbers, b_Songs_numbers, mkFn, msRet, mUn, mApp, maCons, maNil, fld_of S.e songs_in gf_n, vDict, S.ed]
end
end U
namespace U
open PySem L2
def agesFrom : Nat → List Itm → List Int
  | _, [] => []
  | k, none :: r => agesFrom (k + 1) r
  | k, some _ :: r => ((k : Int) + 1) :: agesFrom (k + 1) r
def ages (st : List Itm) : List Int := agesFrom 0 st
theorem mem_agesFrom : ∀ (st : List Itm) (k : Nat) (a : Int), a ∈ agesFrom k st ↔ ∃ (j : Nat) (p : Str × Bool), st[j]? = some (some p) ∧ a = (k : Int) + j + 1
  | [], k, a => by simp [agesFrom]
  | none :: r, k, a => by
    rw [agesFrom, mem_agesFrom r (k + 1) a]
    constructor
    · rintro ⟨j, p, h1, h2⟩; exact ⟨j + 1, p, by simpa using h1, by omega⟩
    · rintro ⟨j, p, h1, h2⟩
      cases j with
      | zero => simp at h1
      | succ j => exact ⟨j, p, by simpa using h1, by omega⟩
  | some q :: r, k, a => by
    rw [agesFrom, List.mem_cons, mem_agesFrom r (k + 1) a]
    constructor
    · rintro (h | ⟨j, p, h1, h2⟩)
      · exact ⟨0, q, rfl, by omega⟩
      · exact ⟨j + 1, p, by simpa using h1, by omega⟩
    · rintro ⟨j, p, h1, h2⟩
      cases j with
      | zero => exact .inl (by omega)
      | succ j => exact .inr ⟨j, p, by simpa using h1, by omega⟩
def blankFrom : Nat → Option Int → List Itm → List Itm
  | _, _, [] => []
  | k, a, i :: r => (if a = some ((k : Int) + 1) then none else i) :: blankFrom (k + 1) a r
def blank (a : Option Int) (st : List Itm) : List Itm := blankFrom 0 a st
def drawnS (st : List Itm) (a : Option Int) (k : Str) (b : Bool) : List Itm := (some (k, b) :: blank a st).take st.length
inductive PlAt (l : List (Str × Int)) (st : List Itm) : Val → Option Int → Str → Prop
  | age {j : Nat} {k : Str} {b : Bool} : st[j]? = some (some (k, b)) → PlAt l st (.int ((j : Int) + 1)) (some ((j : Int) + 1)) k
  | old {x : Str} : ((olds l st).lookup x).isSome = true → nmOk x → PlAt l st (.str x) none x
section
variable {σ : Loc} {h h1 : Hh} {QV : Val → Hh → Prop} {N : Loc → Hh → Prop} {R : Val → Hh → Prop}
variable {n d m : Nat} {l : List (Str × Int)} {st : List Itm} {ws ss : List Int} {sp : Int} {pv : Val} {a : Option Int} {k : Str}
end
end U
namespace U
open PySem L2
section
variable {σ : Loc} {h h1 : Hh} {QV : Val → Hh → Prop} {N : Loc → Hh → Prop} {R : Val → Hh → Prop}
variable {n d c m : Nat} {l : List (Str × Int)} {st : List Itm} {ws ss : List Int} {sp : Int} {K : Nat} {M : Int}
@[simp] theorem w_items (a : ME) : Wp (mItems a σ h) QV ↔ Wp (a σ h) fun x h1 => Wp (vItems x h1) QV := by simp [mItems]
theorem items_nd {n : Nat} (e : h[n]? = some (.dct (nd l))) : vItems (.ref n) h = .ok (.ref h.length) (h ++ [.lst ((l.map fun p => (p.1, Val.int p.2)).map fun p => .tup [.str p.1, p.2])]) := by
  simp only [vItems, e]
  congr 3
  simp [nd]
theorem copy_nd {n : Nat} (e : h[n]? = some (.dct (nd l))) (hnd : (l.map (·.1)).Nodup) {Q : Val → Hh → Prop} (q : ∀ m g, g[m]? = some (.dct (nd l)) → h.length ≤ m → Kp [] h g → Q (.ref m) g) : Wp (vItems (.ref n) h) fun v g => Wp (vDict [v] g) Q := by
  rw [items_nd e, wp_ok]
  have e1 := app_new h (.lst ((l.map fun p => (p.1, Val.int p.2)).map fun p => .tup [.str p.1, p.2]))
  have hn2 : ((l.map fun p => (p.1, Val.int p.2)).map (·.1)).Nodup := by rw [List.map_map]; exact hnd
  rw [dict_lst e1 hn2, ← nd_sd, wp_ok]
  refine q _ _ (app_new _ _) (by simp) (((Kp.refl [] h).app _).app _)
end
end U
namespace U
open PySem L2
abbrev Row := Val × Int × Int
def bars (sp : Nat) (st : List Itm) : List Str := (st.take sp).filterMap fun i => i.map (·.1)
def bar0 (bs : List Str) (x : Str) : Int := if x ∈ bs then 0 else 1
def ageRowsN (ws ss : List Int) (bs : List Str) (st : List Itm) : Nat → List Row
  | 0 => []
  | k + 1 => ageRowsN ws ss bs st k ++ (match st[k]? with
    | some (some (x, b)) => [(.int ((k : Int) + 1), 1, ((if b then ss else ws).getD k 0) * bar0 bs x)]
    | _ => [])
def kindRows (ws : List Int) (bs : List Str) (ol : List (Str × Int)) : List Row := ol.map fun p => (.str p.1, p.2, (ws.getD (ws.length - 1) 0) * bar0 bs p.1)
def rawRows (ws ss : List Int) (sp : Nat) (l : List (Str × Int)) (st : List Itm) : List Row := ageRowsN ws ss (bars sp st) st st.length ++ kindRows ws (bars sp st) (olds l st)
def isS : Val → Bool
  | .str _ => true
  | _ => false
def eqAge : Val → Val → Bool
  | .int a, .int b => decide (a = b)
  | _, _ => false
def finRows (raw : List Row) : List Row := if raw.any (fun r => decide (0 < r.2.2)) = true then raw else match raw.getLast? with
  | some r => if isS r.1 = true then raw.map (fun q => (q.1, q.2.1, if isS q.1 = true then 1 else 0)) else raw.map (fun q => (q.1, q.2.1, if eqAge q.1 r.1 = true then 1 else 0))
  | none => raw
def plV (v : Val) : Prop := (∃ a : Int, v = .int a) ∨ ∃ x, nmOk x ∧ v = .str x
section
variable {σ : Loc} {h h1 : Hh} {QV : Val → Hh → Prop} {N : Loc → Hh → Prop} {R : Val → Hh → Prop}
variable {n d c m : Nat} {l : List (Str × Int)} {st : List Itm} {ws ss : List Int} {sp : Int} {K : Nat} {M : Int}
@[simp] theorem w_mt (T : String) (f : Fn) (a : ME) (mm : MA) : Wp (mMt T f a mm σ h) QV ↔ Wp (a σ h) fun x h1 => isT T x h1 = true ∧ Wp (mm σ h1) fun xs h2 => Wp (f (x :: xs) h2) QV := by
  unfold mMt
  simp only [wp_bind]
  refine iff_of_eq (congrArg _ (funext fun x => funext fun h3 => ?_))
  by_cases e : isT T x h3 = true <;> simp [e]
theorem isT_lst {n : Nat} {vs : List Val} (e : h[n]? = some (.lst vs)) : isT "list" (.ref n) h = true := by simp [isT, e]
theorem ageRowsN_len (bs : List Str) : ∀ k, (ageRowsN ws ss bs st k).length ≤ k
  | 0 => by simp [ageRowsN]
  | k + 1 => by
    have := ageRowsN_len bs k
    unfold ageRowsN
    rw [List.length_append]
    split <;> simp <;> omega
theorem ageRowsN_pl (bs : List Str) : ∀ k, ∀ r ∈ ageRowsN ws ss bs st k, ∃ (j : Nat) (p : Str × Bool), st[j]? = some (some p) ∧ r.1 = .int ((j : Int) + 1)
  | 0, r, hr => by cases hr
  | k + 1, r, hr => by
    unfold ageRowsN at hr
    rcases List.mem_append.mp hr with hr | hr
    · exact ageRowsN_pl bs k r hr
    · cases e : st[k]? with
      | none => rw [e] at hr; cases hr
      | some i =>
        cases i with
        | none => rw [e] at hr; cases hr
        | some p =>
          obtain ⟨x, b⟩ := p
          rw [e] at hr
          have hr' := List.mem_singleton.mp hr
          subst hr'
          exact ⟨k, (x, b), e, rfl⟩
theorem olds_mem {x : Str} {i : Int} (hp : (x, i) ∈ olds l st) : ∃ j, (x, j) ∈ l := by
  obtain ⟨p, hp, e⟩ := List.mem_filterMap.mp hp
  split at e
  · simp at e; exact ⟨p.2, by rw [← e.1]; exact hp⟩
  · cases e
theorem raw_pl {sp : Nat} (hn : nmsOk l) : ∀ r ∈ rawRows ws ss sp l st, plV r.1 := by
  intro r hr
  rcases List.mem_append.mp hr with hr | hr
  · obtain ⟨j, p, _, e⟩ := ageRowsN_pl _ _ r hr
    exact .inl ⟨_, e⟩
  · obtain ⟨p, hp, rfl⟩ := List.mem_map.mp hr
    obtain ⟨j, hj⟩ := olds_mem (x := p.1) (i := p.2) hp
    exact .inr ⟨p.1, hn (p.1, j) hj, rfl⟩
theorem olds_nodup (hnd : (l.map (·.1)).Nodup) : ((olds l st).map (·.1)).Nodup := by
  have : ((olds l st).map (·.1)).Sublist (l.map (·.1)) := by
    unfold olds
    induction l with
    | nil => exact List.Sublist.refl _
    | cons p l ih =>
      rw [List.filterMap_cons]
      have ih' := ih (List.nodup_cons.mp (by simpa using hnd)).2
      split
      · rename_i e; exact ih'.cons _
      · rename_i q e
        split at e
        · cases e; simp only [List.map_cons]; exact ih'.cons₂ _
        · cases e
  exact hnd.sublist this
theorem raw_ne {sp : Nat} (hp : 0 < (l.map (·.2)).sum) (hv : ∀ p ∈ l, 0 ≤ p.2) : rawRows ws ss sp l st ≠ [] := by
  intro z
  obtain ⟨z1, z2⟩ := List.append_eq_nil_iff.mp z
  have hall : ∀ (k : Nat) (bs : List Str), ageRowsN ws ss bs st k = [] → ∀ j, j < k → ∀ p, st[j]? ≠ some (some p) := by
    intro k bs
    induction k with
    | zero => intro _ j hj; omega
    | succ k ih =>
      intro e j hj p ep
      unfold ageRowsN at e
      obtain ⟨e1, e2⟩ := List.append_eq_nil_iff.mp e
      by_cases hjk : j = k
      · subst hjk; obtain ⟨x, b⟩ := p; rw [ep] at e2; simp at e2
      · exact ih e1 j (by omega) p ep
  have hc : ∀ x, cnt st x = 0 := fun x => by
    unfold cnt
    rw [List.countP_eq_zero]
    intro i hi e
    obtain ⟨j, hj, ej⟩ := List.getElem_of_mem hi
    cases i with
    | none => cases e
    | some p => exact hall _ _ z1 j hj p (by rw [List.getElem?_eq_getElem hj, ej])
  have ho : olds l st = [] := by
    unfold kindRows at z2
    exact List.map_eq_nil_iff.mp z2
  have : ∀ p ∈ l, p.2 = 0 := fun p hpl => by
    have := List.filterMap_eq_nil_iff.mp ho p hpl
    rw [hc] at this
    have hv' := hv p hpl
    by_cases z : 0 < p.2 - ((0 : Nat) : Int)
    · rw [if_pos z] at this; cases this
    · omega
  have hs : (l.map (·.2)).sum = 0 := by
    clear hp hv z z1 z2 hall hc ho
    induction l with
    | nil => rfl
    | cons p l ih => simp only [List.map_cons, List.sum_cons]; rw [this p (by simp), ih fun q hq => this q (by simp [hq])]; rfl
  omega
end
end U
namespace U
open PySem L2
section
variable {σ : Loc} {h h1 : Hh} {QV : Val → Hh → Prop} {N : Loc → Hh → Prop} {R : Val → Hh → Prop}
variable {n d c m : Nat} {l : List (Str × Int)} {st : List Itm} {ws ss : List Int} {sp : Int} {K : Nat} {M : Int}
theorem srt_lookup {l : List (Str × Int)} (hnd : (l.map (·.1)).Nodup) (x : Str) : (srt l).lookup x = l.lookup x := by
  cases e : l.lookup x with
  | some i => exact lookup_mem (srt_nodup hnd) ((srt_perm hnd).mem_iff.mpr (lookup_some_mem e))
  | none =>
    cases e2 : (srt l).lookup x with
    | none => rfl
    | some i =>
      have := lookup_mem hnd ((srt_perm hnd).mem_iff.mp (lookup_some_mem e2))
      rw [e] at this; cases this
theorem okSt.srt {k : Nat} (o : okSt l k st) (hnd : (l.map (·.1)).Nodup) : okSt (srt l) k st := ⟨o.len, fun k b hb => by rw [srt_lookup hnd]; exact o.kd k b hb, fun k i hi => o.le k i (by rw [← srt_lookup hnd]; exact hi)⟩
end
end U
namespace U
open PySem L2
section
variable {σ : Loc} {h h1 : Hh} {QV : Val → Hh → Prop} {N : Loc → Hh → Prop} {R : Val → Hh → Prop} {n d : Nat} {l : List (Str × Int)} {ws ss : List Int} {sp : Int} {st : List Itm}
theorem agesFrom_app : ∀ (a b : List Itm) (k : Nat), agesFrom k (a ++ b) = agesFrom k a ++ agesFrom (k + a.length) b
  | [], b, k => by simp [agesFrom]
  | none :: a, b, k => by
    rw [List.cons_append, agesFrom, agesFrom, agesFrom_app a b (k + 1), List.length_cons, show k + 1 + a.length = k + (a.length + 1) by omega]
  | some _ :: a, b, k => by
    rw [List.cons_append, agesFrom, agesFrom, agesFrom_app a b (k + 1), List.length_cons, show k + 1 + a.length = k + (a.length + 1) by omega, List.cons_append]
theorem ages_gt : ∀ (st : List Itm) (k : Nat), ∀ a ∈ agesFrom k st, (k : Int) < a := fun st k a ha => by
  obtain ⟨j, p, _, rfl⟩ := (mem_agesFrom st k a).mp ha
  omega
theorem ages_nodupF : ∀ (st : List Itm) (k : Nat), (agesFrom k st).Nodup
  | [], k => by simp [agesFrom]
  | none :: r, k => by rw [agesFrom]; exact ages_nodupF r (k + 1)
  | some _ :: r, k => by
    rw [agesFrom, List.nodup_cons]
    refine ⟨fun hm => ?_, ages_nodupF r (k + 1)⟩
    have := ages_gt r (k + 1) _ hm
    push_cast at this
    omega
def ageRow (ws ss : List Int) (bs : List Str) (st : List Itm) (a : Int) : Row := match st[(a - 1).toNat]? with
  | some (some (x, b)) => (.int a, 1, ((if b then ss else ws).getD (a - 1).toNat 0) * bar0 bs x)
  | _ => (.int a, 1, 0)
theorem ageRowsN_ages (bs : List Str) : ∀ k, k ≤ st.length → ageRowsN ws ss bs st k = (agesFrom 0 (st.take k)).map (ageRow ws ss bs st)
  | 0, _ => by simp [ageRowsN, agesFrom]
  | k + 1, hk => by
    have hk' : k < st.length := by omega
    rw [ageRowsN, ageRowsN_ages bs k (by omega), List.take_add_one, List.getElem?_eq_getElem hk', Option.toList_some, agesFrom_app, List.map_append, List.length_take, Nat.min_eq_left (by omega)]
    congr 1
    cases e : st[k] with
    | none => simp [agesFrom]
    | some p =>
      obtain ⟨x, b⟩ := p
      simp [agesFrom, ageRow, e, hk']
theorem ageRows_ages (bs : List Str) : ageRowsN ws ss bs st st.length = (ages st).map (ageRow ws ss bs st) := by
  rw [ageRowsN_ages bs st.length (Nat.le_refl _), List.take_length]; rfl
@[simp] theorem neg_int (i : Int) (h : Hh) : vNeg (.int i) h = .ok (.int (-i)) h := rfl
theorem olds_len (l : List (Str × Int)) (st : List Itm) : (olds l st).length ≤ l.length := List.length_filterMap_le _ _
structure okC (l : List (Str × Int)) (ws ss : List Int) (sp : Nat) (st : List Itm) : Prop where
  nm : nmsOk l
  nd : (l.map (·.1)).Nodup
  ll : l.length ≤ 200
  l1 : 1 ≤ ws.length
  l4 : ws.length ≤ 4
  ls : ss.length = ws.length - 1
  st : okSt l (ws.length - 1) st
  v : ∀ p ∈ l, 0 ≤ p.2 ∧ p.2 ≤ 1000000
  s0 : 0 < (l.map (·.2)).sum
  w : okW ws
  s : okW ss
theorem okC.l9 {s : Nat} (o : okC l ws ss s st) : l.length ≤ 900 := Nat.le_trans o.ll (by decide)
theorem okC.len {s : Nat} (o : okC l ws ss s st) : st.length = ws.length - 1 := o.st.len
theorem okC.it {s : Nat} (o : okC l ws ss s st) : ∀ i ∈ st, itOk i := o.st.it o.nm
end
end U
namespace U
open PySem L2
section
variable {σ : Loc} {h h1 : Hh} {QV : Val → Hh → Prop} {N : Loc → Hh → Prop} {R : Val → Hh → Prop} {n d : Nat} {l : List (Str × Int)} {ws ss : List Int} {sp : Int} {st : List Itm}
structure okRows (rs : List Row) : Prop where
  ne : rs ≠ []
  many : ∀ r ∈ rs, 0 < r.2.1 ∧ r.2.1 ≤ 1000000
  each : ∀ r ∈ rs, 0 ≤ r.2.2 ∧ r.2.2 ≤ 9
  pl : ∀ r ∈ rs, plV r.1
  key : (rs.map fun r => keyOf r.1).Nodup
  len : rs.length ≤ 240
theorem bar0_le (bs : List Str) (x : Str) (i : Int) (h : 0 ≤ i ∧ i ≤ 9) : 0 ≤ i * bar0 bs x ∧ i * bar0 bs x ≤ 9 := by
  unfold bar0; split <;> omega
theorem nodup_map {α β : Type} {f : α → β} (hf : ∀ a b, f a = f b → a = b) {xs : List α} (hn : xs.Nodup) : (xs.map f).Nodup := List.Pairwise.map f (fun a b hab e => hab (hf a b e)) hn
theorem okW.getD {ws : List Int} (o : okW ws) (i : Nat) : 0 ≤ ws.getD i 0 ∧ ws.getD i 0 ≤ 9 := by
  by_cases hi : i < ws.length
  · have : ws.getD i 0 = ws[i] := by simp [hi]
    rw [this]
    exact o _ (List.getElem_mem hi)
  · have : ws.getD i 0 = 0 := by simp [Nat.not_lt.mp hi]
    rw [this]; omega
theorem okC.rows {s : Nat} (o : okC l ws ss s st) : okRows (rawRows ws ss s l st) := by
  refine ⟨raw_ne o.s0 fun p hp => (o.v p hp).1, ?_, ?_, raw_pl o.nm, ?_, ?_⟩
  · intro r hr
    rcases List.mem_append.mp hr with hr | hr
    · rw [ageRows_ages] at hr
      obtain ⟨a, ha, rfl⟩ := List.mem_map.mp hr
      unfold ageRow; split <;> simp
    · obtain ⟨p, hp, rfl⟩ := List.mem_map.mp hr
      obtain ⟨z, hz, he⟩ := List.mem_filterMap.mp hp
      have := o.v z hz
      split at he
      · cases he; exact ⟨by assumption, by show z.2 - _ ≤ _; omega⟩
      · cases he
  · intro r hr
    rcases List.mem_append.mp hr with hr | hr
    · rw [ageRows_ages] at hr
      obtain ⟨a, ha, rfl⟩ := List.mem_map.mp hr
      unfold ageRow
      split
      · rename_i x b _
        refine bar0_le _ _ _ ?_
        cases b
        · exact o.w.getD _
        · exact o.s.getD _
      · simp
    · obtain ⟨p, hp, rfl⟩ := List.mem_map.mp hr
      exact bar0_le _ _ _ (o.w.getD _)
  · rw [rawRows, List.map_append, List.nodup_append]
    have h1 : (ageRowsN ws ss (bars s st) st st.length).map (fun r => keyOf r.1) = (ages st).map fun a => keyOf (.int a) := by
      rw [ageRows_ages, List.map_map]
      refine List.map_congr_left fun a _ => ?_
      show keyOf (ageRow ws ss (bars s st) st a).1 = _
      unfold ageRow; split <;> rfl
    have h2 : (kindRows ws (bars s st) (olds l st)).map (fun r => keyOf r.1) = ((olds l st).map (·.1)).map fun x => keyOf (.str x) := by
      simp [kindRows]
    rw [h1, h2]
    refine ⟨?_, ?_, ?_⟩
    · have hn := ages_nodupF st 0
      exact nodup_map (f := fun a : Int => keyOf (.int a)) (fun a b e => by simpa [keyOf] using e) hn
    · exact nodup_map (f := fun x : Str => keyOf (.str x)) (fun a b e => by simpa [keyOf] using e) (olds_nodup o.nd)
    · intro a ha b hb hab
      obtain ⟨i, _, rfl⟩ := List.mem_map.mp ha
      obtain ⟨x, _, rfl⟩ := List.mem_map.mp hb
      simp [keyOf] at hab
  · rw [rawRows, List.length_append]
    have h1 := ageRowsN_len (ws := ws) (ss := ss) (st := st) (bars s st) st.length
    have h2 := olds_len l st
    have := o.len
    have := o.l4
    have := o.ll
    simp only [kindRows, List.length_map]
    omega
@[simp] theorem int_bl (b : Bool) (h : Hh) : vInt [.bl b] h = .ok (.int (if b then 1 else 0)) h := by cases b <;> rfl
end
end U
namespace U
open PySem L2
def okI (st : List Itm) : Prop := ∀ k b, some (k, b) ∈ st → okName k
theorem okI.it {st : List Itm} (o : okI st) : ∀ i ∈ st, itOk i := fun i hi k b e => (o k b (e ▸ hi)).nm
theorem dz_str {x : Str} (o : okName x) : dz (.str x) ≤ 9 := by
  have h1 := o.nm
  unfold nmOk at h1
  simp only [dz, if_pos h1]
  have := o.l8
  show x.length + 1 ≤ 9
  omega
section
variable {σ : Loc} {h h1 : Hh} {QV : Val → Hh → Prop} {N : Loc → Hh → Prop} {R : Val → Hh → Prop}
variable {n d c m : Nat} {l : List (Str × Int)} {st : List Itm} {ws ss : List Int} {sp : Int} {K : Nat} {M : Int} {pv : Val} {a : Option Int} {k : Str}
end
end U
namespace U
open PySem L2
section
variable {κ α : Type} [DecidableEq κ]
structure Emb (kv : κ → Val) (kk : κ → NestedKey) : Prop where
  t : ∀ x, tkey (kv x) = some (kk x)
  i : ∀ x y, kk x = kk y → x = y
  r : ∀ x, keyOf (kv x) = none
variable {h : Hh} {n : Nat} {kv : κ → Val} {kk : κ → NestedKey} {vv : α → Val} {a : List (κ × α)} {k : κ}
@[simp] theorem w_getN {σ : Loc} {QV : Val → Hh → Prop} (a b c : ME) : Wp (mGetN a b c σ h) QV ↔ Wp (a σ h) fun x h1 => isDcn x h1 = true ∧ Wp (b σ h1) fun y h2 => Wp (c σ h2) fun z h3 => Wp (vGetN x y z h3) QV := by
  unfold mGetN
  rw [wp_bind]
  constructor <;> intro w <;> refine w.mono fun x g w => ?_
  · split at w
    · exact ⟨by assumption, by simpa using w⟩
    · cases w
  · rw [if_pos w.1]; simpa using w.2
def srtK (kd : κ → PyData) (xs : List κ) : List κ := xs.mergeSort (PySem.W.dataLe false kd)
theorem srtK_perm (kd : κ → PyData) (xs : List κ) : (srtK kd xs).Perm xs := List.mergeSort_perm xs _
theorem sortV_emb (kd : κ → PyData) (xs : List κ) : sortV (xs.map kv) (xs.map kd) = (srtK kd xs).map kv := by
  have hz : (xs.map kv).zip (xs.map kd) = xs.map fun x => (kv x, kd x) := by
    induction xs with
    | nil => rfl
    | cons x r ih => simp [ih]
  unfold sortV srtK
  rw [hz, ← List.map_mergeSort (r := PySem.W.dataLe false kd) (f := fun x => (kv x, kd x)), List.map_map]
  · rfl
  · intro x _ y _; rfl
end
end U
namespace U
open PySem L2
def ageOf : Val → Option Int
  | .int a => some a
  | _ => none
def kindAt (st : List Itm) : Val → Str
  | .str x => x
  | .int a => (match st[(a - 1).toNat]? with
    | some (some (k, _)) => k
    | _ => Str.ofString "")
  | _ => Str.ofString ""
def drw (st : List Itm) (pv : Val) (b : Bool) : List Itm := drawnS st (ageOf pv) (kindAt st pv) b
def seatB (cap : Nat) (kd : Str) (seat : Val) (it : Bool) : Val :=
  let age : Int := if it then 1 else (match seat with | .int a => a + 1 | _ => (cap : Int))
  if age < cap then .int age else .str kd
def ways (seat : Val) (r : Row) : List Bool := if keyOf r.1 = keyOf seat then (if r.2.1 = 1 then [true] else [false, true]) else [false]
def stepV (st : List Itm) (kd : Str) (cap : Nat) (seat : Val) (p : Val) (sk it : Bool) : Val := .tup [.tup [p, .bl sk, .bl it], .tup [stV (drw st p sk), seatB cap kd seat it]]
def stepL (st : List Itm) (kd : Str) (cap : Nat) (seat : Val) (r : Row) : List Val := if 0 < r.2.2 then [false, true].flatMap fun sk => (ways seat r).map fun it => stepV st kd cap seat r.1 sk it else []
def stepsL (st : List Itm) (kd : Str) (cap : Nat) (seat : Val) (rs : List Row) : List Val := rs.flatMap (stepL st kd cap seat)
def one (k : Str) (i : Itm) : Nat := if isK k i = true then 1 else 0
def nc (st : List Itm) (a : Option Int) (k : Str) (x : Str) : Nat := one x (some (k, true)) + cnt (blank a st) x
theorem PlAt.key {l : List (Str × Int)} {st : List Itm} {p q : Val} {a b : Option Int} {k k' : Str} (P : PlAt l st p a k) (Q : PlAt l st q b k') (h : keyOf p = keyOf q) : p = q := by
  cases P <;> cases Q <;> simp [keyOf] at h ⊢ <;> first | exact h | omega
section
variable {l : List (Str × Int)} {st : List Itm} {p seat : Val} {a : Option Int} {k kd : Str} {many e : Int} {n cap : Nat} {sk it : Bool}
end
end U
namespace U
open PySem L2
section
variable {σ : Loc} {h h1 : Hh} {QV : Val → Hh → Prop} {N : Loc → Hh → Prop} {R : Val → Hh → Prop} {n d r s : Nat} {l : List (Str × Int)} {ws ss : List Int} {sp : Int} {st : List Itm} {p seat : Val} {a : Option Int} {k kd : Str}
theorem PlAt.pl (P : PlAt l st p a k) : plV p := by
  cases P with
  | age _ => exact .inl ⟨_, rfl⟩
  | old _ nx => exact .inr ⟨_, nx, rfl⟩
end
end U
namespace U
open PySem L2
section
variable {σ : Loc} {h h1 : Hh} {QV : Val → Hh → Prop} {N : Loc → Hh → Prop} {R : Val → Hh → Prop} {n d r s c : Nat} {l : List (Str × Int)} {ws ss : List Int} {sp M : Int} {st : List Itm} {p seat : Val} {a : Option Int} {k kd : Str}
end
end U
namespace U
open PySem L2
section
variable {σ : Loc} {h h1 : Hh} {QV : Val → Hh → Prop} {N : Loc → Hh → Prop} {R : Val → Hh → Prop} {n d r s c : Nat} {l : List (Str × Int)} {ws ss : List Int} {sp M : Int} {st : List Itm} {p : Val} {a : Option Int} {k : Str}
end
end U
namespace U
open PySem L2
section
variable {σ : Loc} {h h1 : Hh} {QV : Val → Hh → Prop} {N : Loc → Hh → Prop} {R : Val → Hh → Prop} {n d r s c : Nat} {l : List (Str × Int)} {ws ss : List Int} {sp M : Int} {st : List Itm} {p : Val} {a : Option Int} {k : Str} {w : Row}
end
end U
namespace U
open PySem L2
end U
namespace U
open PySem L2
section
variable {κ α : Type} [DecidableEq κ] {h : Hh} {n : Nat} {kv : κ → Val} {kk : κ → NestedKey} {vv : α → Val} {a : List (κ × α)} {k : κ}
end
section
variable {σ : Loc} {h h1 : Hh} {QV : Val → Hh → Prop} {N : Loc → Hh → Prop} {R : Val → Hh → Prop} {n m c d r : Nat}
theorem app_lst4 {fo : Nat} {vs : List Val} {v : Val} (e : h[fo]? = some (.lst vs)) (hl : vs.length ≤ 4000) : vAppend [.ref fo, v] h = .ok .non (h.set fo (.lst (vs ++ [v]))) := by
  have : sizeLine = 16777216 := rfl
  simp only [vAppend, e]
  rw [if_pos (by omega)]
end
theorem Kp.back {S : List Nat} {h g : Hh} {m : Nat} {o : Ob} (e : h[m]? = some o) (K : Kp (m :: S) h g) : Kp S h (g.set m o) := ⟨by rw [List.length_set]; exact K.len, fun i o' ei hi => by
  by_cases him : i = m
  · subst him
    rw [e] at ei; cases ei
    exact List.getElem?_set_self (Nat.lt_of_lt_of_le (lt_of e) K.len)
  · rw [List.getElem?_set_ne (Ne.symm him)]
    exact K.at_ i o' ei (by simp; exact ⟨him, hi⟩)⟩
end U
namespace U
open PySem L2
section
variable {κ : Type} [DecidableEq κ] {nx : κ → List κ} {b : κ}
inductive Rch (nx : κ → List κ) (b : κ) : κ → Prop
  | refl : Rch nx b b
  | step {k k' : κ} : Rch nx b k → k' ∈ nx k → Rch nx b k'
structure WL (nx : κ → List κ) (b : κ) (keys line : List κ) : Prop where
  nd : keys.Nodup
  sub : ∀ k ∈ keys, Rch nx b k
  subl : ∀ k ∈ line, Rch nx b k
  beg : b ∈ keys ∨ b ∈ line
  cl : ∀ k ∈ keys, ∀ k' ∈ nx k, k' ∈ keys ∨ k' ∈ line
theorem WL.start : WL nx b [] [b] := ⟨List.nodup_nil, by simp, fun k hk => by simp at hk; subst hk; exact .refl, .inr (by simp), by simp⟩
theorem WL.done {keys : List κ} (W : WL nx b keys []) : ∀ k, k ∈ keys ↔ Rch nx b k := by
  intro k
  constructor
  · exact W.sub k
  · intro h
    induction h with
    | refl =>
      rcases W.beg with h | h
      · exact h
      · cases h
    | step _ hn ih =>
      rcases W.cl _ ih _ hn with h | h
      · exact h
      · cases h
end
end U
namespace U
open PySem L2
section
variable {κ : Type} [DecidableEq κ] (sw : κ → List (Bool × κ))
inductive Pl : Nat → κ → Prop
  | one {v w : κ} : (true, w) ∈ sw v → Pl 1 v
  | more {n : Nat} {b : Bool} {v w : κ} : (b, w) ∈ sw v → Pl n w → Pl (n + 1) v
def Srcs (K : κ → Prop) (s : κ) : Prop := ∃ v, K v ∧ (true, s) ∈ sw v
def GapIs (K : κ → Prop) : Option Nat → Prop
  | some n => (∃ s, Srcs sw K s ∧ Pl sw n s) ∧ ∀ m, m < n → ∀ s, Srcs sw K s → ¬ Pl sw m s
  | none => ∀ m s, Srcs sw K s → ¬ Pl sw m s
variable {sw}
theorem Pl.pos {n : Nat} {v : κ} (p : Pl sw n v) : 1 ≤ n := by cases p <;> omega
theorem GapIs.congr {K K' : κ → Prop} {r : Option Nat} (h : ∀ v, K v ↔ K' v) (g : GapIs sw K r) : GapIs sw K' r := by
  have e : K = K' := funext fun v => propext (h v)
  subst e
  exact g
structure SN (sw : κ → List (Bool × κ)) (K : List κ) (n : Nat) (a : List (κ × Nat)) : Prop where
  nd : (a.map (·.1)).Nodup
  sub : ∀ p ∈ a, p.1 ∈ K ∧ Pl sw p.2 p.1 ∧ p.2 ≤ n ∧ ∀ m, m < p.2 → ¬ Pl sw m p.1
  all : ∀ v ∈ K, ∀ m, m ≤ n → Pl sw m v → v ∈ a.map (·.1)
theorem SN.start {K : List κ} : SN sw K 0 [] := ⟨List.nodup_nil, by simp, fun v _ m hm p => by have := p.pos; omega⟩
theorem SN.next {K : List κ} {n : Nat} {a : List (κ × Nat)} (S : SN sw K n a) {F : List κ} (hF : ∀ v, v ∈ F ↔ v ∈ K ∧ v ∉ a.map (·.1) ∧ Pl sw (n + 1) v) (hd : F.Nodup) : SN sw K (n + 1) (a ++ F.map fun v => (v, n + 1)) := by
  refine ⟨?_, fun p hp => ?_, fun v hv m hm p => ?_⟩
  · rw [List.map_append, List.map_map]
    have e : F.map ((fun x : κ × Nat => x.1) ∘ fun v => (v, n + 1)) = F := by
      rw [show ((fun x : κ × Nat => x.1) ∘ fun v => (v, n + 1)) = (fun v => v) from rfl]; simp
    rw [e]
    exact List.nodup_append.mpr ⟨S.nd, hd, fun x hx y hy z => by subst z; exact ((hF x).mp hy).2.1 hx⟩
  · rcases List.mem_append.mp hp with hp | hp
    · obtain ⟨h1, h2, h3, h4⟩ := S.sub p hp
      exact ⟨h1, h2, by omega, h4⟩
    · obtain ⟨v, hv, rfl⟩ := List.mem_map.mp hp
      obtain ⟨h1, h2, h3⟩ := (hF v).mp hv
      exact ⟨h1, h3, Nat.le_refl _, fun m hm p => h2 (S.all v h1 m (by dsimp only at hm; omega) p)⟩
  · rw [List.map_append, List.mem_append]
    by_cases hk : v ∈ a.map (·.1)
    · exact .inl hk
    · right
      have : m = n + 1 := by
        rcases Nat.lt_or_ge m (n + 1) with z | z
        · exact absurd (S.all v hv m (by omega) p) hk
        · omega
      subst this
      exact List.mem_map.mpr ⟨(v, n + 1), List.mem_map.mpr ⟨v, (hF v).mpr ⟨hv, hk, p⟩, rfl⟩, rfl⟩
structure SoonA (sw : κ → List (Bool × κ)) (K : List κ) (a : List (κ × Nat)) : Prop where
  nd : (a.map (·.1)).Nodup
  sub : ∀ p ∈ a, p.1 ∈ K ∧ Pl sw p.2 p.1 ∧ ∀ m, m < p.2 → ¬ Pl sw m p.1
  all : ∀ v ∈ K, ∀ m, Pl sw m v → v ∈ a.map (·.1)
theorem SN.done {K : List κ} {n : Nat} {a : List (κ × Nat)} (S : SN sw K n a) (cl : ∀ v ∈ K, ∀ p ∈ sw v, p.2 ∈ K) (h0 : ∀ v ∈ K, v ∉ a.map (·.1) → ¬ Pl sw (n + 1) v) : SoonA sw K a := by
  refine ⟨S.nd, fun p hp => ?_, ?_⟩
  · obtain ⟨h1, h2, h3, h4⟩ := S.sub p hp
    exact ⟨h1, h2, h4⟩
  · have key : ∀ m v, Pl sw m v → v ∈ K → ∃ m', m' ≤ n ∧ Pl sw m' v := by
      intro m v p
      induction p with
      | @one v w hp =>
        intro hv
        rcases Nat.eq_zero_or_pos n with hn | hn
        · exfalso
          subst hn
          have ha : v ∉ a.map (·.1) := fun z => by
            obtain ⟨q, hq, _⟩ := List.mem_map.mp z
            obtain ⟨_, k1, k2, _⟩ := S.sub q hq
            have := k1.pos
            omega
          exact h0 v hv ha (.one hp)
        · exact ⟨1, hn, .one hp⟩
      | @more m b v w hp pw ih =>
        intro hv
        obtain ⟨m', h1, h2⟩ := ih (cl v hv _ hp)
        rcases Nat.lt_or_ge m' n with z | z
        · exact ⟨m' + 1, z, .more hp h2⟩
        · have : m' = n := by omega
          subst this
          by_cases ha : v ∈ a.map (·.1)
          · obtain ⟨q, hq, e⟩ := List.mem_map.mp ha
            obtain ⟨_, k1, k2, _⟩ := S.sub q hq
            rw [e] at k1
            exact ⟨q.2, k2, k1⟩
          · exact absurd (.more hp h2) (h0 v hv ha)
    intro v hv m p
    obtain ⟨m', h1, h2⟩ := key m v p hv
    exact S.all v hv m' h1 h2
structure LY (sw : κ → List (Bool × κ)) (K : List κ) (n : Nat) (layer met : List κ) : Prop where
  src : ∀ s, Srcs sw (· ∈ K) s → s ∈ met ∨ s ∈ layer
  cl : ∀ v ∈ met, ∀ p ∈ sw v, p.2 ∈ met ∨ p.2 ∈ layer
  np : ∀ v ∈ met, ∀ p ∈ sw v, p.1 = false
  lay : ∀ v ∈ layer, ∃ s, Srcs sw (· ∈ K) s ∧ ∀ j, Pl sw j v → Pl sw (j + n) s
  lo : ∀ m, m < n + 1 → ∀ s, Srcs sw (· ∈ K) s → ¬ Pl sw m s
  far : ∀ s, Srcs sw (· ∈ K) s → ∀ j, Pl sw (j + n) s → 1 ≤ j → ∃ v, (v ∈ met ∨ v ∈ layer) ∧ Pl sw j v
  ndm : met.Nodup
  ndl : layer.Nodup
  dj : ∀ v ∈ layer, v ∉ met
  km : ∀ v ∈ met, v ∈ K
  kl : ∀ v ∈ layer, v ∈ K
theorem LY.start {K layer : List κ} (cl : ∀ v ∈ K, ∀ p ∈ sw v, p.2 ∈ K) (h : ∀ s, s ∈ layer ↔ Srcs sw (· ∈ K) s) (hd : layer.Nodup) : LY sw K 0 layer [] := by
  refine ⟨fun s hs => .inr ((h s).mpr hs), by simp, by simp, fun v hv => ⟨v, (h v).mp hv, fun j p => p⟩, fun m hm s _ p => ?_, fun s hs j p _ => ⟨s, .inr ((h s).mpr hs), p⟩, List.nodup_nil, hd, by simp, by simp, fun v hv => ?_⟩
  · have := p.pos; omega
  · obtain ⟨u, hu, hp⟩ := (h v).mp hv
    exact cl u hu _ hp
theorem LY.play {K layer met : List κ} {n : Nat} (L : LY sw K n layer met) {v w : κ} (hv : v ∈ layer) (hp : (true, w) ∈ sw v) : GapIs sw (· ∈ K) (some (n + 1)) := by
  obtain ⟨s, h1, h2⟩ := L.lay v hv
  refine ⟨⟨s, h1, ?_⟩, L.lo⟩
  have := h2 1 (.one hp)
  rwa [Nat.add_comm] at this
theorem LY.none {K met : List κ} {n : Nat} (L : LY sw K n [] met) : GapIs sw (· ∈ K) none := by
  have key : ∀ m v, Pl sw m v → v ∉ met := by
    intro m v p
    induction p with
    | one hp =>
      intro hm
      have := L.np _ hm _ hp
      cases this
    | more hp _ ih =>
      intro hm
      rcases L.cl _ hm _ hp with z | z
      · exact ih z
      · cases z
  intro m s hs p
  rcases L.src s hs with z | z
  · exact key m s p z
  · cases z
theorem LY.next {K layer met layer' met' : List κ} {n : Nat} (kcl : ∀ v ∈ K, ∀ p ∈ sw v, p.2 ∈ K) (L : LY sw K n layer met) (hn : ∀ v ∈ layer, ∀ p ∈ sw v, p.1 = false) (hm : ∀ x, x ∈ met' ↔ x ∈ met ∨ x ∈ layer) (hl : ∀ x, x ∈ layer' ↔ (∃ v ∈ layer, ∃ p ∈ sw v, p.2 = x) ∧ x ∉ met') (hd : met'.Nodup) (hd' : layer'.Nodup) : LY sw K (n + 1) layer' met' := by
  have np' : ∀ v ∈ met', ∀ p ∈ sw v, p.1 = false := fun v hv p hp => by
    rcases (hm v).mp hv with h | h
    · exact L.np v h p hp
    · exact hn v h p hp
  have cl' : ∀ v ∈ met', ∀ p ∈ sw v, p.2 ∈ met' ∨ p.2 ∈ layer' := fun v hv p hp => by
    rcases (hm v).mp hv with h | h
    · rcases L.cl v h p hp with z | z
      · exact .inl ((hm _).mpr (.inl z))
      · exact .inl ((hm _).mpr (.inr z))
    · by_cases z : p.2 ∈ met'
      · exact .inl z
      · exact .inr ((hl _).mpr ⟨⟨v, h, p, hp, rfl⟩, z⟩)
  have in' : ∀ v, v ∈ met ∨ v ∈ layer → v ∈ met' := fun v h => (hm v).mpr h
  refine ⟨fun s hs => .inl (in' s (L.src s hs)), cl', np', fun x hx => ?_, fun m hlt s hs p => ?_, fun s hs j p hj => ?_, hd, hd', fun v hv => ((hl v).mp hv).2, fun v hv => ?_, fun x hx => ?_⟩
  · obtain ⟨⟨v, hv, ⟨b, w⟩, hp, rfl⟩, _⟩ := (hl x).mp hx
    obtain ⟨s, h1, h2⟩ := L.lay v hv
    refine ⟨s, h1, fun j p => ?_⟩
    have := h2 (j + 1) (.more hp p)
    rwa [show j + 1 + n = j + (n + 1) by omega] at this
  · rcases Nat.lt_or_ge m (n + 1) with z | z
    · exact L.lo m z s hs p
    · have : m = 1 + n := by omega
      subst this
      obtain ⟨v, hv, pv⟩ := L.far s hs 1 p (Nat.le_refl _)
      generalize h1 : 1 = one at pv
      cases pv with
      | one hp =>
        have := np' v (in' v hv) _ hp
        cases this
      | more _ pw =>
        have := pw.pos
        omega
  · rw [show j + (n + 1) = j + 1 + n by omega] at p
    obtain ⟨v, hv, pv⟩ := L.far s hs (j + 1) p (by omega)
    generalize hj1 : j + 1 = j1 at pv
    cases pv with
    | one _ => omega
    | @more j' b _ w hp pw =>
      have : j' = j := by omega
      subst this
      exact ⟨w, cl' v (in' v hv) _ hp, pw⟩
  · rcases (hm v).mp hv with h | h
    · exact L.km v h
    · exact L.kl v h
  · obtain ⟨⟨v, hv, p, hp, rfl⟩, _⟩ := (hl x).mp hx
    exact kcl v (L.kl v hv) p hp
end
end U
namespace U
open PySem L2
end U
namespace U
open PySem L2
abbrev Vw := List Itm × Option Int
def seatO (kd : Str) : Option Int → Val
  | none => .str kd
  | some a => .int a
end U
namespace U
open PySem L2
end U
namespace U
open PySem L2
section
variable {l : List (Str × Int)} {ws ss : List Int} {s : Nat} {kd : Str}
end
section
variable {κ α : Type} [DecidableEq κ] {h : Hh} {n : Nat} {kv : κ → Val} {kk : κ → NestedKey} {vv : α → Val} {a : List (κ × α)} {k : κ}
end
end U
namespace U
open PySem L2
section
variable {σ : Loc} {h h1 : Hh} {QV : Val → Hh → Prop} {N : Loc → Hh → Prop} {R : Val → Hh → Prop} {n m : Nat}
end
end U
namespace U
open PySem L2
section
variable {σ : Loc} {h h1 : Hh} {QV : Val → Hh → Prop} {N : Loc → Hh → Prop} {R : Val → Hh → Prop} {n d m r : Nat} {l : List (Str × Int)} {ws ss : List Int} {s : Nat} {kd : Str}
def stV4 (l : List (Str × Int)) (ws ss : List Int) (s : Nat) (kd : Str) (v : Vw) : List Val := stepsL v.1 kd ws.length (seatO kd v.2) (finRows (rawRows ws ss s l v.1))
end
end U
namespace U
open PySem L2
section
variable {l : List (Str × Int)}
end
end U
namespace U
open PySem L2
section
variable {l : List (Str × Int)} {ws ss : List Int} {s : Nat} {kd : Str}
end
end U
namespace U
open PySem L2
section
variable {σ : Loc} {h h1 : Hh} {QV : Val → Hh → Prop} {N : Loc → Hh → Prop} {R : Val → Hh → Prop} {n d m r : Nat} {l : List (Str × Int)} {ws ss : List Int} {s : Nat} {kd : Str}
end
end U
namespace U
open PySem L2
section
variable {κ α : Type} [DecidableEq κ] {h : Hh} {n : Nat} {kv : κ → Val} {kk : κ → NestedKey} {vv : α → Val} {a : List (κ × α)} {k : κ}
end
section
variable {σ : Loc} {h h1 : Hh} {QV : Val → Hh → Prop} {N : Loc → Hh → Prop} {R : Val → Hh → Prop} {n d m r : Nat} {l : List (Str × Int)} {ws ss : List Int} {s : Nat} {kd : Str}
end
end U
namespace U
open PySem L2
section
variable {σ : Loc} {h h1 : Hh} {QV : Val → Hh → Prop} {N : Loc → Hh → Prop} {R : Val → Hh → Prop} {n d r s c : Nat} {l : List (Str × Int)} {ws ss : List Int} {sp M : Int} {st : List Itm} {p seat : Val} {a : Option Int} {k kd : Str}
end
end U
namespace U
open PySem L2
def plD : Val → PyData
  | .int a => .int a
  | .str x => .str x
  | _ => .none
def plS (v : Val) : Prop := (∃ a : Int, v = .int a ∧ a.natAbs < 1000) ∨ ∃ x, okName x ∧ v = .str x
theorem plS.d {v : Val} (p : plS v) : (∀ k h, toD (k + 1) h v = some (plD v)) ∧ dz (plD v) ≤ 140 := by
  rcases p with ⟨a, rfl, ha⟩ | ⟨x, hx, rfl⟩
  · refine ⟨fun k h => by simp [plD], ?_⟩
    simp only [plD, dz]
    rw [if_pos (by omega)]
    exact Nat.le_refl _
  · refine ⟨fun k h => by simp [plD], ?_⟩
    have := dz_str hx
    simp only [plD]; omega
theorem plS.pl {v : Val} (p : plS v) : plV v := by
  rcases p with ⟨a, rfl, ha⟩ | ⟨x, hx, rfl⟩
  · exact .inl ⟨_, rfl⟩
  · exact .inr ⟨_, hx.nm, rfl⟩
section
variable {h : Hh} {l : List (Str × Int)} {ws ss : List Int} {st : List Itm} {p seat : Val} {a : Option Int} {k kd : Str} {s : Nat}
end
end U
namespace U
open PySem L2
section
variable {σ : Loc} {h h1 : Hh} {QV : Val → Hh → Prop} {N : Loc → Hh → Prop} {R : Val → Hh → Prop} {n c d m r : Nat} {l : List (Str × Int)} {ws ss : List Int} {s : Nat} {sp M : Int} {kd : Str}
end
end U
namespace U
open PySem L2
section
variable {σ : Loc} {h h1 : Hh} {QV : Val → Hh → Prop} {N : Loc → Hh → Prop} {R : Val → Hh → Prop}
end
end U
namespace U
open PySem L2
section
variable {σ : Loc} {h h1 : Hh} {QV : Val → Hh → Prop} {N : Loc → Hh → Prop} {R : Val → Hh → Prop} {n c d m r : Nat} {l : List (Str × Int)} {ws ss : List Int} {s : Nat} {sp M : Int} {kd : Str}
theorem Case.put (C : Case c n ws ss sp l h) (ws' ss' : List Int) (sp' : Int) : Case c n ws' ss' sp' l (h.set c (.dct (caseD ws' ss' sp' n))) := ⟨C.c4, C.n4, C.ne, set_self C.ec, set_at C.en (Ne.symm C.ne)⟩
end
end U
namespace U
open PySem L2
section
variable {σ : Loc} {h h1 : Hh} {QV : Val → Hh → Prop} {N : Loc → Hh → Prop} {R : Val → Hh → Prop} {n c d m r : Nat} {l : List (Str × Int)} {ws ss : List Int} {s : Nat} {sp M : Int} {kd : Str}
end
end U
namespace U
open PySem L2
section
variable {l : List (Str × Int)} {ws ss : List Int} {s : Nat} {kd : Str} {v w : Vw}
end
section
variable {σ : Loc} {h h1 : Hh} {QV : Val → Hh → Prop} {N : Loc → Hh → Prop} {R : Val → Hh → Prop} {n m c d r : Nat} {l : List (Str × Int)} {ws ss : List Int} {s : Nat} {kd : Str}
theorem lc_map {ι : Type} {mi : MI} {vs : List Nat} {tg : Tg} {c : MT} {e : ME} {src : Hh → Prop} {xs : List ι} (f : ι → Val) (G : ι → Option Val) (hm : mi σ h = .ok ⟨xs.map f, src, none⟩ h1) (hz : xs.length ≤ sizeLine) (hs : ∀ g, Kp [] h1 g → src g)
    (hb : ∀ x ∈ xs, ∀ g, Kp [] h1 g → Wp (lcB vs tg c e σ (f x) g) fun o g2 => Kp [] g g2 ∧ o = G x)
    (q : ∀ g, Kp [] h1 g → g[h1.length]? = some (.lst (xs.filterMap G)) → QV (.ref h1.length) g) : Wp (mLc mi vs tg c e σ h) QV := by
  refine w_lc (fun _ _ k acc g => acc = (xs.take k).filterMap G ∧ Kp [] h1 g) ?_
  rw [hm]
  refine .ok ⟨by rw [List.length_map]; exact hz, ⟨by simp, (Kp.refl _ _).app _⟩, fun k acc g ⟨_, k4⟩ => hs g k4, fun k v acc g ev ⟨k1, k4⟩ hn => ?_, fun acc g ⟨k1, k4⟩ hn => ?_⟩
  · have ev : (xs.map f)[k]? = some v := ev
    rw [List.getElem?_map] at ev
    cases ex : xs[k]? with
    | none => rw [ex] at ev; cases ev
    | some x =>
      rw [ex] at ev
      have ev : f x = v := by simpa using ev
      subst ev
      refine (hb x (List.mem_of_getElem? ex) g k4).mono fun o g2 ⟨a2, a3⟩ => ?_
      have hn2 := a2.at_ _ _ hn (by simp)
      have ht : xs.take (k + 1) = xs.take k ++ [x] := by rw [List.take_add_one, ex]; rfl
      subst a3
      refine ⟨hn2, ?_⟩
      cases e : G x with
      | none => exact ⟨by rw [ht, List.filterMap_append, k1]; simp [e], k4.trans a2⟩
      | some y => exact ⟨by rw [ht, List.filterMap_append, k1]; simp [e], (k4.trans a2).set' (Nat.le_refl _)⟩
  · refine ⟨g, rfl, q g k4 ?_⟩
    rw [List.length_map] at k1
    rw [hn, k1, List.take_length]
def intN (n : Nat) : Val := .int (n : Nat)
def GrH (l : List (Str × Int)) (ws ss : List Int) (s : Nat) (kd : Str) (A : List (Vw × Nat)) (g : Hh) : Prop := ∀ p ∈ A, g[p.2]? = some (.lst (stV4 l ws ss s kd p.1))
theorem GrH.k {A : List (Vw × Nat)} {g g' : Hh} (G : GrH l ws ss s kd A g) (K : Kp [] g g') : GrH l ws ss s kd A g' := fun p hp => K.k (G p hp)
theorem GrH.set {A : List (Vw × Nat)} {g : Hh} (G : GrH l ws ss s kd A g) {x : Nat} {ob o : Ob} (e : g[x]? = some o) (hn : ∀ vs, o ≠ .lst vs) : GrH l ws ss s kd A (g.set x ob) := fun p hp => by
  have hx : p.2 ≠ x := fun z => by
    have := G p hp
    rw [z, e] at this
    exact hn _ (Option.some.inj this)
  rw [List.getElem?_set_ne (Ne.symm hx)]
  exact G p hp
end
end U
namespace U
open PySem L2
section
variable {σ : Loc} {h h1 : Hh} {QV : Val → Hh → Prop} {N : Loc → Hh → Prop} {R : Val → Hh → Prop} {n m c d r : Nat} {l : List (Str × Int)} {ws ss : List Int} {s : Nat} {kd : Str}
end
end U
namespace U
open PySem L2
theorem set_last (H : Hh) (o o' : Ob) : (H ++ [o]).set H.length o' = H ++ [o'] := by
  rw [List.set_append_right _ _ (by simp)]
  simp
theorem lcV_pure {ι : Type} {src : Hh → Prop} {body : Val → Hh → Res (Option Val)} {H : Hh} (f : ι → Val) (G : ι → Option Val) (hs : ∀ acc, src (H ++ [.lst acc])) : ∀ (xs : List ι) (acc : List Val), (∀ x ∈ xs, ∀ acc, body (f x) (H ++ [.lst acc]) = .ok (G x) (H ++ [.lst acc])) → acc.length + xs.length ≤ 16000000 →
    lcV src H.length body (xs.map f) (H ++ [.lst acc]) = .ok () (H ++ [.lst (acc ++ xs.filterMap G)])
  | [], acc, _, _ => by
    rw [List.map_nil, lcV, if_pos (hs acc)]
    simp
  | x :: xs, acc, hb, hz => by
    have hsz : sizeLine = 16777216 := rfl
    simp only [List.length_cons] at hz
    rw [List.map_cons, lcV, if_pos (hs acc), hb x (by simp) acc]
    cases e : G x with
    | none =>
      dsimp only
      rw [lcV_pure f G hs xs acc (fun y hy => hb y (List.mem_cons_of_mem _ hy)) (by omega), List.filterMap_cons_none e]
    | some y =>
      have e1 : (H ++ [Ob.lst acc])[H.length]? = some (.lst acc) := by simp
      have hp : push1 H.length y (H ++ [.lst acc]) = some (H ++ [.lst (acc ++ [y])]) := by
        unfold push1
        rw [e1]
        dsimp only
        rw [if_pos (by omega), set_last]
      dsimp only
      rw [hp]
      dsimp only
      rw [lcV_pure f G hs xs (acc ++ [y]) (fun y hy => hb y (List.mem_cons_of_mem _ hy)) (by simp; omega), List.filterMap_cons_some e]
      simp
theorem lc2V_pure {ι : Type} {src : Hh → Prop} {body : Val → Hh → Res Unit} {H : Hh} (f : ι → Val) (G : ι → List Val) (hs : ∀ acc, src (H ++ [.lst acc])) (hG : ∀ x, (G x).length ≤ 960) : ∀ (xs : List ι) (acc : List Val), (∀ x ∈ xs, ∀ acc : List Val, acc.length ≤ 1500000 → body (f x) (H ++ [.lst acc]) = .ok () (H ++ [.lst (acc ++ G x)])) → acc.length + 960 * xs.length ≤ 1500000 →
    lc2V src body (xs.map f) (H ++ [.lst acc]) = .ok () (H ++ [.lst (acc ++ xs.flatMap G)])
  | [], acc, _, _ => by
    rw [List.map_nil, lc2V, if_pos (hs acc)]
    simp
  | x :: xs, acc, hb, hz => by
    simp only [List.length_cons] at hz
    have := hG x
    rw [List.map_cons, lc2V, if_pos (hs acc), hb x (by simp) acc (by omega)]
    dsimp only
    rw [lc2V_pure f G hs hG xs (acc ++ G x) (fun y hy => hb y (List.mem_cons_of_mem _ hy)) (by rw [List.length_append]; omega), List.flatMap_cons]
    simp
theorem intsOf_nat (xs : List Nat) : intsOf (xs.map intN) = some (xs.map fun n : Nat => (n : Int)) := by
  have : xs.map intN = (xs.map fun n : Nat => (n : Int)).map Val.int := by rw [List.map_map]; rfl
  rw [this, intsOf_map]
section
variable {σ : Loc} {h h1 : Hh} {QV : Val → Hh → Prop} {N : Loc → Hh → Prop} {R : Val → Hh → Prop} {n m c d r : Nat} {l : List (Str × Int)} {ws ss : List Int} {s : Nat} {kd : Str}
@[simp] theorem w_minD (mm mk : MA) : Wp (mMinD mm mk σ h) QV ↔ Wp (mm σ h) fun vs h1 => Wp (mk σ h1) fun zs h2 => Wp (vMinD vs zs h2) QV := by simp [mMinD]
end
end U
namespace U
open PySem L2
def nrV (r : List Nat) : Val := .tup (r.map intN)
def nrD (r : List Nat) : PyData := .tuple (r.map fun x : Nat => PyData.int (x : Int))
def numR : Nat → Nat → List (List Nat)
  | 0, _ => [[]]
  | m + 1, t => (numR m t).flatMap fun r => (List.range (t + 1)).map fun x => r ++ [x]
def srV (r : List Nat) : Val := .tup [.int ((r.sum : Nat) : Int), nrV r]
def srD (r : List Nat) : PyData := .tuple [.int ((r.sum : Nat) : Int), nrD r]
theorem numR_len : ∀ (m t : Nat), (numR m t).length = (t + 1) ^ m
  | 0, t => by simp [numR]
  | m + 1, t => by
    have ih := numR_len m t
    have key : ∀ rs : List (List Nat), (rs.flatMap fun r => (List.range (t + 1)).map fun x => r ++ [x]).length = rs.length * (t + 1) := by
      intro rs
      induction rs with
      | nil => simp
      | cons r rs ih => rw [List.flatMap_cons, List.length_append, ih, List.length_map, List.length_range, List.length_cons, Nat.add_mul]; omega
    rw [numR, key, ih, Nat.pow_succ]
theorem mem_numR : ∀ {m t : Nat} {r : List Nat}, r ∈ numR m t ↔ r.length = m ∧ ∀ x ∈ r, x ≤ t
  | 0, t, r => by
    simp only [numR, List.mem_singleton]
    constructor
    · rintro rfl; simp
    · rintro ⟨h, _⟩; exact List.eq_nil_of_length_eq_zero h
  | m + 1, t, r => by
    rw [numR, List.mem_flatMap]
    constructor
    · rintro ⟨r', h1, h2⟩
      obtain ⟨x, hx, rfl⟩ := List.mem_map.mp h2
      obtain ⟨k1, k2⟩ := mem_numR.mp h1
      have hx := List.mem_range.mp hx
      refine ⟨by simp [k1], fun y hy => ?_⟩
      rcases List.mem_append.mp hy with hy | hy
      · exact k2 y hy
      · simp at hy; omega
    · rintro ⟨h1, h2⟩
      have hne : r ≠ [] := fun z => by subst z; simp at h1
      refine ⟨r.dropLast, mem_numR.mpr ⟨by rw [List.length_dropLast]; omega, fun x hx => h2 x ((List.dropLast_sublist r).subset hx)⟩, List.mem_map.mpr ⟨r.getLast hne, List.mem_range.mpr (by have := h2 _ (List.getLast_mem hne); omega), List.dropLast_concat_getLast hne⟩⟩
theorem ints_toks_inj : ∀ {xs ys : List Nat} {r r' : List (Int ⊕ List Nat)}, PySem.W.keyToksAll (xs.map fun x : Nat => PyData.int (x : Int)) ++ r = PySem.W.keyToksAll (ys.map fun x : Nat => PyData.int (x : Int)) ++ r' → xs = ys ∧ r = r'
  | [], [], r, r', e => by simpa [PySem.W.keyToksAll] using e
  | [], y :: ys, r, r', e => by simp [PySem.W.keyToksAll] at e
  | x :: xs, [], r, r', e => by simp [PySem.W.keyToksAll] at e
  | x :: xs, y :: ys, r, r', e => by
    simp only [List.map_cons, PySem.W.keyToksAll, PySem.W.keyToks, List.cons_append, List.nil_append, List.cons.injEq, true_and, List.append_assoc, Sum.inl.injEq] at e
    obtain ⟨e1, e2⟩ := ints_toks_inj e.2
    exact ⟨by rw [e1, show x = y by omega], e2⟩
theorem sr_inj {p q : List Nat} (e : PySem.W.keyToks (srD p) = PySem.W.keyToks (srD q)) : p = q := by
  simp only [srD, nrD, PySem.W.keyToks, PySem.W.keyToksAll, List.cons_append, List.nil_append, List.cons.injEq, true_and, List.append_assoc] at e
  exact (ints_toks_inj e.2).1
def srR (many most : Nat) : List (List Nat) := srtK srD ((numR many most).filter fun r => decide (0 < r.sum))
theorem alike_nrs : ∀ xs ys : List Nat, PySem.W.alikeAll (xs.map fun x : Nat => PyData.int (x : Int)) (ys.map fun x : Nat => PyData.int (x : Int)) = true
  | [], [] => by simp [PySem.W.alikeAll]
  | [], y :: ys => by simp [PySem.W.alikeAll]
  | x :: xs, [] => by simp [PySem.W.alikeAll]
  | x :: xs, y :: ys => by simp [PySem.W.alikeAll, PySem.W.alike, alike_nrs xs ys]
theorem dD_nrs : ∀ xs : List Nat, PyData.depthAll (xs.map fun x : Nat => PyData.int (x : Int)) ≤ 1
  | [] => by simp [PyData.depthAll]
  | x :: xs => by
    have := dD_nrs xs
    simp only [List.map_cons, PyData.depthAll, PyData.depth]; omega
theorem okSort_sr {xs : List (List Nat)} (hz : xs.length ≤ 4096) : okSort (xs.map srD) = true := by
  have h1 : alikeB (xs.map srD) = true := by
    simp only [alikeB, List.all_eq_true, List.mem_map]
    rintro _ ⟨a, _, rfl⟩ _ ⟨b, _, rfl⟩
    simp only [srD, nrD, PySem.W.alike, PySem.W.alikeAll, Bool.and_true, Bool.true_and]
    exact alike_nrs _ _
  have h2 : (xs.map srD).all tupB = true := by
    simp only [List.all_eq_true, List.mem_map]
    rintro _ ⟨a, _, rfl⟩
    rfl
  have h3 : (xs.map srD).all (fun d => decide (d.depth ≤ 8)) = true := by
    simp only [List.all_eq_true, List.mem_map, decide_eq_true_eq]
    rintro _ ⟨a, _, rfl⟩
    have := dD_nrs a
    simp only [srD, nrD, PyData.depth, PyData.depthAll]
    omega
  unfold okSort
  rw [h1, h2, h3]
  simpa using hz
theorem toDs_nrs (k : Nat) (h : Hh) : ∀ r : List Nat, toDs (k + 1) h (r.map intN) = some (r.map fun x : Nat => PyData.int (x : Int))
  | [] => by simp [toDs]
  | x :: r => by
    rw [List.map_cons, List.map_cons]
    exact toDs_cons (by simp [intN]) (toDs_nrs k h r)
theorem toDs_sr (k : Nat) (h : Hh) : ∀ xs : List (List Nat), toDs (k + 3) h (xs.map srV) = some (xs.map srD)
  | [] => by simp [toDs]
  | x :: xs => by
    rw [List.map_cons, List.map_cons]
    exact toDs_cons (toD_tup (toDs_cons (by simp) (toDs_cons (toD_tup (toDs_nrs k h x)) toDs_nil))) (toDs_sr k h xs)
theorem sort_sr {h : Hh} {n : Nat} {xs : List (List Nat)} (e : h[n]? = some (.lst (xs.map srV))) (hz : xs.length ≤ 4096) (hne : xs ≠ []) : vSortD [.ref n] h = .ok (.ref h.length) (h ++ [.lst ((srtK srD xs).map srV)]) := by
  have hs : sortSrc [.ref n] h = some (xs.map srV) := by
    have : strsOf' (xs.map srV) = none := by
      cases xs with
      | nil => exact absurd rfl hne
      | cons x xs => simp [strsOf', srV]
    simp only [sortSrc, e, this]
  simp only [vSortD, hs, toDs_sr 5 h xs, okSort_sr hz, if_true]
  rw [sortV_emb]
theorem srt_filter {xs : List (List Nat)} (p : List Nat → Bool) : (srtK srD xs).filter p = srtK srD (xs.filter p) := by
  have anti : ∀ p q, PySem.W.dataLe false srD p q = true → PySem.W.dataLe false srD q p = true → p = q := fun p q h1 h2 => by
    have h1' : (!PyProof.Rows.lexLt PyProof.Rows.itemOrd (PySem.W.keyToks (srD q)) (PySem.W.keyToks (srD p))) = true := h1
    have h2' : (!PyProof.Rows.lexLt PyProof.Rows.itemOrd (PySem.W.keyToks (srD p)) (PySem.W.keyToks (srD q))) = true := h2
    rw [Bool.not_eq_true'] at h1' h2'
    exact sr_inj (PyProof.Rows.lex_total _ _ h2' h1')
  have T := PySem.W.sortLe_total (PyProof.Rows.listOrd PyProof.Rows.itemOrd) false fun x : List Nat => PySem.W.keyToks (srD x)
  have tr : ∀ x y z : List Nat, PySem.W.dataLe false srD x y = true → PySem.W.dataLe false srD y z = true → PySem.W.dataLe false srD x z = true := T.trans
  have to : ∀ x y : List Nat, (PySem.W.dataLe false srD x y || PySem.W.dataLe false srD y x) = true := fun x y => by
    rw [Bool.or_eq_true]; exact T.total x y
  refine List.Perm.eq_of_pairwise (le := fun x y => PySem.W.dataLe false srD x y = true) (fun x y _ _ => anti x y) (List.Pairwise.filter _ (List.pairwise_mergeSort tr to xs)) (List.pairwise_mergeSort tr to _) ?_
  exact ((List.mergeSort_perm xs _).filter p).trans (List.mergeSort_perm _ _).symm
end U
namespace U
open PySem L2
section
variable {σ : Loc} {h h1 : Hh} {QV : Val → Hh → Prop} {N : Loc → Hh → Prop} {R : Val → Hh → Prop} {n d r s c sn sd : Nat} {l : List (Str × Int)} {ws ss : List Int} {sp M : Int} {st : List Itm} {p : Val} {a : Option Int} {k : Str} {w : Row}
end
end U
namespace U
open PySem L2
section
variable {σ : Loc} {h h1 : Hh} {QV : Val → Hh → Prop} {N : Loc → Hh → Prop} {R : Val → Hh → Prop} {n d r s c sn : Nat} {l : List (Str × Int)} {ws ss : List Int} {sp M : Int} {st : List Itm} {p : Val} {a : Option Int} {k x : Str} {w : Row} {v : Int}
end
end U
namespace U
open PySem L2
def KsV (v : Val) (ks : List Str) (h : Hh) : Prop := v = .tup (ks.map .str) ∨ ∃ n, v = .ref n ∧ h[n]? = some (.lst (ks.map .str))
structure okKs (ks : List Str) : Prop where
  l1 : 1 ≤ ks.length
  l2 : ks.length ≤ 2
  nd : ks.Nodup
  nm : ∀ k ∈ ks, okName k
section
variable {σ : Loc} {h h1 : Hh} {QV : Val → Hh → Prop} {N : Loc → Hh → Prop} {R : Val → Hh → Prop}
variable {n d c m r s : Nat} {l : List (Str × Int)} {st : List Itm} {ws ss : List Int} {sp : Int} {ks : List Str} {kv : Val} {w : Row}
theorem KsV.k {g : Hh} (H : KsV kv ks h) (K : Kp [] h g) : KsV kv ks g := by
  rcases H with H | ⟨n, e, H⟩
  · exact .inl H
  · exact .inr ⟨n, e, K.k H⟩
theorem ks_mi {mm : ME} (H : KsV kv ks h1) (e : mm σ h = .ok kv h1) : ∃ src, miVal mm σ h = .ok ⟨ks.map .str, src, none⟩ h1 ∧ ∀ g, KsV kv ks g → src g := by
  rcases H with rfl | ⟨n, rfl, ht⟩
  · exact ⟨fun _ => True, val_tup e, fun _ _ => trivial⟩
  · refine ⟨_, val_lst e ht, fun g hg => ?_⟩
    rcases hg with hg | ⟨n', e', hg⟩
    · cases hg
    · cases e'; exact hg
theorem kb_ll' : kitB "list" "list" = some true := by kernel_rfl
theorem kb_lt' : kitB "list" "tuple" = some false := by kernel_rfl
theorem kb_tl' : kitB "tuple" "list" = some false := by kernel_rfl
theorem kb_tt' : kitB "tuple" "tuple" = some true := by kernel_rfl
theorem isl_ok (H : KsV kv ks h) : f_is_list [kv] h = .ok (.bl true) h := by
  rcases H with rfl | ⟨n, rfl, e⟩
  · have : vIsi kCs kTys [.tup (ks.map .str), .tup [.ty "list", .ty "tuple"]] h = .ok (.bl true) h := by
      simp [vIsi, tyNm, isa1, isaN, tyIn, kb_tl', kb_tt']
    simp [f_is_list, b_is_list, mkFn, msRet, mApp, maCons, maNil, mC, vTup, this]
  · have : vIsi kCs kTys [.ref n, .tup [.ty "list", .ty "tuple"]] h = .ok (.bl true) h := by
      have t : tyNm (.ref n) h = some (.inl "list") := by simp [tyNm, e]
      simp [vIsi, t, isa1, isaN, tyIn, kb_ll', kb_lt']
    simp [f_is_list, b_is_list, mkFn, msRet, mApp, maCons, maNil, mC, vTup, this]
theorem dd_same (o : okKs ks) : (dd ks).length = ks.length := by
  have h1 := o.l1
  have h2 := o.l2
  have nd := o.nd
  match ks, h1, h2, nd with
  | [a], _, _, _ => rfl
  | [a, b], _, _, nd =>
    have : ¬ b = a := fun z => by simp [z] at nd
    simp [dd, this]
theorem need_kinds_ok (o : okKs ks) (H : KsV kv ks h) (q : ∀ m g, g[m]? = some (.lst ((sSort ks).map Val.str)) → h.length ≤ m → Kp [] h g → QV (.ref m) g) : Wp (f_need_kinds [kv] h) QV := by
  have l1 := o.l1
  have l2 := o.l2
  unfold f_need_kinds b_need_kinds
  rw [w_fn]
  show WpF (msSeq _ _ [some kv, none] h) _ _
  have hlen : ∀ g, KsV kv ks g → vLen [kv] g = .ok (.int (ks.length : Nat)) g := fun g hg => by
    rcases hg with rfl | ⟨n, rfl, e⟩
    · simp [vLen]
    · simp [vLen, e]
  have c1 : decide ((1 : Int) ≤ (ks.length : Int)) = true := decide_eq_true (by omega)
  have c2 : decide ((ks.length : Int) ≤ 2) = true := decide_eq_true (by omega)
  (try simp only [f_seq, f_asg, f_name, f_tup, f_gcons, f_gnil, f_ret, f_retN, f_expr, f_if, f_nil, f_par, f_par3, f_fld, f_sub, w_op, w_un, w_app, w_acons, w_anil, w_C, w_var0, w_varS, w_callF, w_and, w_or, w_not, w_if, w_tval, w_tand, w_tor, w_tnot, w_tbl, w_ttrue, w_chain, w_prop, w_meth, w_methK, w_mkK', w_kw, w_sl, w_mpE, w_mpNo, w_vals, wp_ok, wp_bind, wp_nr, List.set, List.length_cons, List.length_nil, Nat.zero_add, Nat.reduceAdd, add_int, sub_int, le_int, lt_int, ge_int, gt_int, eqD_int, eqD_str, sl_tup, len_tup, truth, true_and, and_true, Bool.not_true, Bool.not_false, Bool.false_eq_true, if_false, if_true, List.cons_append, List.nil_append, List.append_nil, decide_true, decide_false, isl_ok H, hlen h H, c1, c2])
  obtain ⟨src, em, hs⟩ := ks_mi (σ := [some kv, none]) (h := h) (mm := mVar 0) H rfl
  refine lc_det (fun _ => some (.bl true)) em rfl (szl (by simp; omega)) (fun g K => hs g (H.k K)) (fun u hu g K => ?_) fun g K eg => ?_
  · obtain ⟨x, hx, rfl⟩ := List.mem_map.mp (show u ∈ ks.map Val.str from hu)
    unfold lcB
    (try simp only [f_seq, f_asg, f_name, f_tup, f_gcons, f_gnil, f_ret, f_retN, f_expr, f_if, f_nil, f_par, f_par3, f_fld, f_sub, w_op, w_un, w_app, w_acons, w_anil, w_C, w_var0, w_varS, w_callF, w_and, w_or, w_not, w_if, w_tval, w_tand, w_tor, w_tnot, w_tbl, w_ttrue, w_chain, w_prop, w_meth, w_methK, w_mkK', w_kw, w_sl, w_mpE, w_mpNo, w_vals, wp_ok, wp_bind, wp_nr, List.set, List.length_cons, List.length_nil, Nat.zero_add, Nat.reduceAdd, add_int, sub_int, le_int, lt_int, ge_int, gt_int, eqD_int, eqD_str, sl_tup, len_tup, truth, true_and, and_true, Bool.not_true, Bool.not_false, Bool.false_eq_true, if_false, if_true, List.cons_append, List.nil_append, List.append_nil, decide_true, decide_false, Tg.bd, wipeL])
    exact is_name_ok (o.nm x hx) fun g2 k2 => ⟨k2, rfl⟩
  · have eg' : g[h.length]? = some (.lst (List.replicate ks.length (.bl true))) := by
      rw [eg]
      congr 2
      show (ks.map Val.str).filterMap _ = _
      rw [List.filterMap_eq_map', List.map_const', List.length_map]
    rw [all_true eg']
    (try simp only [f_seq, f_asg, f_name, f_tup, f_gcons, f_gnil, f_ret, f_retN, f_expr, f_if, f_nil, f_par, f_par3, f_fld, f_sub, w_op, w_un, w_app, w_acons, w_anil, w_C, w_var0, w_varS, w_callF, w_and, w_or, w_not, w_if, w_tval, w_tand, w_tor, w_tnot, w_tbl, w_ttrue, w_chain, w_prop, w_meth, w_methK, w_mkK', w_kw, w_sl, w_mpE, w_mpNo, w_vals, wp_ok, wp_bind, wp_nr, List.set, List.length_cons, List.length_nil, Nat.zero_add, Nat.reduceAdd, add_int, sub_int, le_int, lt_int, ge_int, gt_int, eqD_int, eqD_str, sl_tup, len_tup, truth, true_and, and_true, Bool.not_true, Bool.not_false, Bool.false_eq_true, if_false, if_true, List.cons_append, List.nil_append, List.append_nil, decide_true, decide_false])
    have H2 := H.k K
    have hset : vLenSet kv g = .ok (.int (ks.length : Nat)) g := by
      rcases H2 with rfl | ⟨n, rfl, e⟩
      · simp only [vLenSet, strsOf'_map]; rw [if_pos (by omega), dd_same o]
      · simp only [vLenSet, e, strsOf'_map]; rw [if_pos (by omega), dd_same o]
    unfold b_need_kinds_2
    have c3 : decide ((ks.length : Int) < (ks.length : Int)) = false := decide_eq_false (by omega)
    (try simp only [f_seq, f_asg, f_name, f_tup, f_gcons, f_gnil, f_ret, f_retN, f_expr, f_if, f_nil, f_par, f_par3, f_fld, f_sub, w_op, w_un, w_app, w_acons, w_anil, w_C, w_var0, w_varS, w_callF, w_and, w_or, w_not, w_if, w_tval, w_tand, w_tor, w_tnot, w_tbl, w_ttrue, w_chain, w_prop, w_meth, w_methK, w_mkK', w_kw, w_sl, w_mpE, w_mpNo, w_vals, wp_ok, wp_bind, wp_nr, List.set, List.length_cons, List.length_nil, Nat.zero_add, Nat.reduceAdd, add_int, sub_int, le_int, lt_int, ge_int, gt_int, eqD_int, eqD_str, sl_tup, len_tup, truth, true_and, and_true, Bool.not_true, Bool.not_false, Bool.false_eq_true, if_false, if_true, List.cons_append, List.nil_append, List.append_nil, decide_true, decide_false, hset, hlen g H2, c3])
    unfold b_need_kinds_1
    (try simp only [f_seq, f_asg, f_name, f_tup, f_gcons, f_gnil, f_ret, f_retN, f_expr, f_if, f_nil, f_par, f_par3, f_fld, f_sub, w_op, w_un, w_app, w_acons, w_anil, w_C, w_var0, w_varS, w_callF, w_and, w_or, w_not, w_if, w_tval, w_tand, w_tor, w_tnot, w_tbl, w_ttrue, w_chain, w_prop, w_meth, w_methK, w_mkK', w_kw, w_sl, w_mpE, w_mpNo, w_vals, wp_ok, wp_bind, wp_nr, List.set, List.length_cons, List.length_nil, Nat.zero_add, Nat.reduceAdd, add_int, sub_int, le_int, lt_int, ge_int, gt_int, eqD_int, eqD_str, sl_tup, len_tup, truth, true_and, and_true, Bool.not_true, Bool.not_false, Bool.false_eq_true, if_false, if_true, List.cons_append, List.nil_append, List.append_nil, decide_true, decide_false])
    have hsrt : vSortX [kv] g = .ok (.ref g.length) (g ++ [.lst ((sSort ks).map Val.str)]) := by
      rcases H2 with rfl | ⟨n, rfl, e⟩
      · simp only [vSortX, strsOf'_map]; rw [if_pos (by omega)]
      · simp only [vSortX, vSortS, e, strsOf'_map]; rw [if_pos (by omega)]
    rw [hsrt, wp_ok]
    exact q _ _ (app_new _ _) K.len (K.app _)
theorem zip_kv : ∀ (a : List Str) (b : List Int), zipKV (a.map Val.str) (b.map Val.int) = some (nd (a.zip b))
  | [], b => by cases b <;> rfl
  | x :: a, [] => rfl
  | x :: a, y :: b => by
    rw [List.map_cons, List.map_cons, zipKV, zip_kv a b, List.zip_cons_cons]
    simp [keyOf, nd]
end
end U
namespace U
open PySem L2
section
variable {σ : Loc} {h h1 : Hh} {QV : Val → Hh → Prop} {N : Loc → Hh → Prop} {R : Val → Hh → Prop} {n m c d r : Nat} {kd : Str}
theorem number_rows_ok {many most : Nat} (hmany : many ≤ 2) (ht : most ≤ 9) (q : ∀ n g, g[n]? = some (.lst ((numR many most).map nrV)) → h.length ≤ n → Kp [] h g → QV (.ref n) g) : Wp (f_number_rows [.int (many : Nat), .int (most : Nat)] h) QV := by
  have hsz : sizeLine = 16777216 := rfl
  unfold f_number_rows b_number_rows
  rw [w_fn]
  show WpF (msSeq _ _ [some (.int (many : Nat)), some (.int (most : Nat)), none, none, none, none] h) _ _
  (try simp only [f_seq, f_asg, f_name, f_tup, f_gcons, f_gnil, f_ret, f_retN, f_expr, f_if, f_nil, f_par, f_par3, f_fld, f_sub, w_op, w_un, w_app, w_acons, w_anil, w_C, w_var0, w_varS, w_callF, w_and, w_or, w_not, w_if, w_tval, w_tand, w_tor, w_tnot, w_tbl, w_ttrue, w_chain, w_prop, w_meth, w_methK, w_mkK', w_kw, w_sl, w_mpE, w_mpNo, w_vals, wp_ok, wp_bind, wp_nr, List.set, List.length_cons, List.length_nil, Nat.zero_add, Nat.reduceAdd, add_int, sub_int, le_int, lt_int, ge_int, gt_int, eqD_int, eqD_str, sl_tup, len_tup, truth, true_and, and_true, Bool.not_true, Bool.not_false, Bool.false_eq_true, if_false, if_true, List.cons_append, List.nil_append, List.append_nil, decide_true, decide_false, tup0])
  refine k_lst (by simp) fun n1 g1 e1 l1 k1 => ?_
  (try simp only [f_seq, f_asg, f_name, f_tup, f_gcons, f_gnil, f_ret, f_retN, f_expr, f_if, f_nil, f_par, f_par3, f_fld, f_sub, w_op, w_un, w_app, w_acons, w_anil, w_C, w_var0, w_varS, w_callF, w_and, w_or, w_not, w_if, w_tval, w_tand, w_tor, w_tnot, w_tbl, w_ttrue, w_chain, w_prop, w_meth, w_methK, w_mkK', w_kw, w_sl, w_mpE, w_mpNo, w_vals, wp_ok, wp_bind, wp_nr, List.set, List.length_cons, List.length_nil, Nat.zero_add, Nat.reduceAdd, add_int, sub_int, le_int, lt_int, ge_int, gt_int, eqD_int, eqD_str, sl_tup, len_tup, truth, true_and, and_true, Bool.not_true, Bool.not_false, Bool.false_eq_true, if_false, if_true, List.cons_append, List.nil_append, List.append_nil, decide_true, decide_false])
  unfold b_number_rows_2
  (try simp only [f_seq, f_asg, f_name, f_tup, f_gcons, f_gnil, f_ret, f_retN, f_expr, f_if, f_nil, f_par, f_par3, f_fld, f_sub, w_op, w_un, w_app, w_acons, w_anil, w_C, w_var0, w_varS, w_callF, w_and, w_or, w_not, w_if, w_tval, w_tand, w_tor, w_tnot, w_tbl, w_ttrue, w_chain, w_prop, w_meth, w_methK, w_mkK', w_kw, w_sl, w_mpE, w_mpNo, w_vals, wp_ok, wp_bind, wp_nr, List.set, List.length_cons, List.length_nil, Nat.zero_add, Nat.reduceAdd, add_int, sub_int, le_int, lt_int, ge_int, gt_int, eqD_int, eqD_str, sl_tup, len_tup, truth, true_and, and_true, Bool.not_true, Bool.not_false, Bool.false_eq_true, if_false, if_true, List.cons_append, List.nil_append, List.append_nil, decide_true, decide_false])
  refine f_forE (fun k σ g => ∃ x3 n, σ = [some (.int (many : Nat)), some (.int (most : Nat)), some (.ref n), x3, none, none] ∧ g[n]? = some (.lst ((numR k most).map nrV)) ∧ h.length ≤ n ∧ Kp [] h g) (val_rng (j := (many : Int)) (h1 := g1) rfl (by omega)) rfl ⟨_, _, rfl, e1, l1, k1⟩ (fun _ _ _ _ => trivial) ?_ ?_
  · rintro k v σ g ev ⟨x3, n, rfl, e, ln, K⟩
    have hk : k < many := by
      have := (List.getElem?_eq_some_iff.mp ev).1
      simpa using this
    simp only [f_name, List.set]
    (try simp only [f_seq, f_asg, f_name, f_tup, f_gcons, f_gnil, f_ret, f_retN, f_expr, f_if, f_nil, f_par, f_par3, f_fld, f_sub, w_op, w_un, w_app, w_acons, w_anil, w_C, w_var0, w_varS, w_callF, w_and, w_or, w_not, w_if, w_tval, w_tand, w_tor, w_tnot, w_tbl, w_ttrue, w_chain, w_prop, w_meth, w_methK, w_mkK', w_kw, w_sl, w_mpE, w_mpNo, w_vals, wp_ok, wp_bind, wp_nr, List.set, List.length_cons, List.length_nil, Nat.zero_add, Nat.reduceAdd, add_int, sub_int, le_int, lt_int, ge_int, gt_int, eqD_int, eqD_str, sl_tup, len_tup, truth, true_and, and_true, Bool.not_true, Bool.not_false, Bool.false_eq_true, if_false, if_true, List.cons_append, List.nil_append, List.append_nil, decide_true, decide_false])
    have hm : miVal (mVar 2) [some (.int (many : Nat)), some (.int (most : Nat)), some (.ref n), some v, none, none] g = .ok ⟨(numR k most).map nrV, fun g => g[n]? = some (.lst ((numR k most).map nrV)), none⟩ g := val_lst rfl e
    have eH : ∀ acc, (g ++ [Ob.lst acc])[n]? = some (.lst ((numR k most).map nrV)) := fun acc => app_at _ e
    have hlen : (numR k most).length ≤ 100 := by
      rw [numR_len]
      have : k ≤ 1 := by omega
      rcases Nat.lt_or_ge k 1 with z | z
      · have : k = 0 := by omega
        subst this; simp
      · have : k = 1 := by omega
        subst this; simp; omega
    have hlc : mLc2 (miVal (mVar 2)) [4, 5] (.one 4) tTrue (miRng1 (mOp vAdd (mVar 1) (mC (.int 1)))) [5] (.one 5) tTrue (mApp vTup (maStar (mVar 4) (maCons (mVar 5) maNil))) [some (.int (many : Nat)), some (.int (most : Nat)), some (.ref n), some v, none, none] g = .ok (.ref g.length) (g ++ [.lst ((numR (k + 1) most).map nrV)]) := by
      unfold mLc2
      rw [hm]
      simp only [bind_ok]
      have run := lc2V_pure (src := fun g => g[n]? = some (.lst ((numR k most).map nrV))) (body := lc2B (lc2I g.length [5] (.one 5) tTrue (mApp vTup (maStar (mVar 4) (maCons (mVar 5) maNil))) (miRng1 (mOp vAdd (mVar 1) (mC (.int 1))))) [4, 5] (.one 4) tTrue [some (.int (many : Nat)), some (.int (most : Nat)), some (.ref n), some v, none, none]) (H := g) nrV (fun r => (List.range (most + 1)).map fun x => nrV (r ++ [x])) eH (fun r => by rw [List.length_map, List.length_range]; omega) (numR k most) [] (fun r hr acc hacc => by
        have hmi : miRng1 (mOp vAdd (mVar 1) (mC (.int 1))) [some (.int (many : Nat)), some (.int (most : Nat)), some (.ref n), some v, some (nrV r), none] (g ++ [Ob.lst acc]) = .ok ⟨(List.range (most + 1)).map intN, fun _ => True, none⟩ (g ++ [Ob.lst acc]) := by
          have := val_rng (σ := [some (.int (many : Nat)), some (.int (most : Nat)), some (.ref n), some v, some (nrV r), none]) (h := g ++ [Ob.lst acc]) (h1 := g ++ [Ob.lst acc]) (m := mOp vAdd (mVar 1) (mC (.int 1))) (j := (most : Int) + 1) rfl (by omega)
          rw [this, show ((most : Int) + 1).toNat = most + 1 by omega]
          rfl
        have hin := lcV_pure (src := fun _ => True) (body := lcB [5] (.one 5) tTrue (mApp vTup (maStar (mVar 4) (maCons (mVar 5) maNil))) [some (.int (many : Nat)), some (.int (most : Nat)), some (.ref n), some v, some (nrV r), none]) (H := g) intN (fun x => some (nrV (r ++ [x]))) (fun _ => trivial) (List.range (most + 1)) acc (fun x hx acc => by
          have hrl : r.length ≤ 2 := by have := (mem_numR.mp hr).1; omega
          have hz : (r.map intN ++ [intN x]).length ≤ sizeLine := by simp; omega
          have ht := tup_v (g ++ [Ob.lst acc]) hz
          simp only [nrV, List.map_append, List.map_cons, List.map_nil] at ht ⊢
          simp [lcB, Tg.bd, wipeL, tTrue, mApp, maStar, maCons, maNil, mVar, ht]) (by rw [List.length_range]; omega)
        have hfm : (List.range (most + 1)).filterMap (fun x => some (nrV (r ++ [x]))) = (List.range (most + 1)).map fun x => nrV (r ++ [x]) := congrFun List.filterMap_eq_map' _
        rw [hfm] at hin
        have hb : (Tg.one 4).bd (nrV r) (wipeL [some (.int (many : Nat)), some (.int (most : Nat)), some (.ref n), some v, none, none] [4, 5]) = some [some (.int (many : Nat)), some (.int (most : Nat)), some (.ref n), some v, some (nrV r), none] := rfl
        unfold lc2B
        rw [hb]
        dsimp only
        rw [show ∀ (σ : Loc) (h : Hh), tTrue σ h = .ok true h from fun _ _ => rfl, nr_ok, bind_ok, if_pos rfl]
        unfold lc2I
        rw [hmi, nr_ok, bind_ok, if_pos rfl]
        exact hin) (by simp; omega)
      rw [run, List.nil_append]
      simp only [bind_ok, unlH]
      congr 4
      rw [numR, List.map_flatMap]
      congr 1
      funext r
      rw [List.map_map]
      rfl
    rw [hlc]
    (try simp only [f_seq, f_asg, f_name, f_tup, f_gcons, f_gnil, f_ret, f_retN, f_expr, f_if, f_nil, f_par, f_par3, f_fld, f_sub, w_op, w_un, w_app, w_acons, w_anil, w_C, w_var0, w_varS, w_callF, w_and, w_or, w_not, w_if, w_tval, w_tand, w_tor, w_tnot, w_tbl, w_ttrue, w_chain, w_prop, w_meth, w_methK, w_mkK', w_kw, w_sl, w_mpE, w_mpNo, w_vals, wp_ok, wp_bind, wp_nr, List.set, List.length_cons, List.length_nil, Nat.zero_add, Nat.reduceAdd, add_int, sub_int, le_int, lt_int, ge_int, gt_int, eqD_int, eqD_str, sl_tup, len_tup, truth, true_and, and_true, Bool.not_true, Bool.not_false, Bool.false_eq_true, if_false, if_true, List.cons_append, List.nil_append, List.append_nil, decide_true, decide_false])
    exact ⟨_, g.length, rfl, app_new _ _, by have := K.len; omega, K.app _⟩
  · rintro σ g ⟨x3, n, rfl, e, ln, K⟩
    have hl : (⟨(List.range (many : Int).toNat).map fun i => .int ((i : Nat) : Int), fun _ => True, none⟩ : Itb).items.length = many := by simp
    rw [hl] at e
    unfold b_number_rows_1
    (try simp only [f_seq, f_asg, f_name, f_tup, f_gcons, f_gnil, f_ret, f_retN, f_expr, f_if, f_nil, f_par, f_par3, f_fld, f_sub, w_op, w_un, w_app, w_acons, w_anil, w_C, w_var0, w_varS, w_callF, w_and, w_or, w_not, w_if, w_tval, w_tand, w_tor, w_tnot, w_tbl, w_ttrue, w_chain, w_prop, w_meth, w_methK, w_mkK', w_kw, w_sl, w_mpE, w_mpNo, w_vals, wp_ok, wp_bind, wp_nr, List.set, List.length_cons, List.length_nil, Nat.zero_add, Nat.reduceAdd, add_int, sub_int, le_int, lt_int, ge_int, gt_int, eqD_int, eqD_str, sl_tup, len_tup, truth, true_and, and_true, Bool.not_true, Bool.not_false, Bool.false_eq_true, if_false, if_true, List.cons_append, List.nil_append, List.append_nil, decide_true, decide_false])
    exact q n g e ln K
theorem sumX_nr (r : List Nat) (h : Hh) : vSumX [nrV r] h = .ok (.int ((r.sum : Nat) : Int)) h := by
  have hs : ∀ r : List Nat, (r.map fun n : Nat => (n : Int)).sum = ((r.sum : Nat) : Int) := by
    intro r
    induction r with
    | nil => rfl
    | cons x r ih => rw [List.map_cons, List.sum_cons, List.sum_cons, ih]; push_cast; rfl
  simp only [vSumX, nrV, intsOf_nat, hs]
theorem songs_by_t {M : Int} {a : Nat} {xs : List Str} {r : List Nat} (ea : h[a]? = some (.lst (xs.map .str))) (ok : okNum (xs.zip (r.map fun n : Nat => (n : Int))) 3 M)
    (q : ∀ m d g, SongsAt m d (srt (xs.zip (r.map fun n : Nat => (n : Int)))) g → h.length ≤ m → h.length ≤ d → Kp [] h g → QV (.ref m) g) : Wp (f_songs_by [.ref a, nrV r] h) QV := by
  unfold f_songs_by b_songs_by
  rw [w_fn]
  show WpF (msRet _ [some (.ref a), some (nrV r)] h) _ _
  have hr : r.map intN = (r.map fun n : Nat => (n : Int)).map Val.int := by rw [List.map_map]; rfl
  have hz : vDictZ [.ref a, nrV r] h = .ok (.ref h.length) (h ++ [.dct (nd (xs.zip (r.map fun n : Nat => (n : Int))))]) := by
    simp only [vDictZ, nrV, hr, seqV, ea, zip_kv]
    have := merge_sd0 (l := (xs.zip (r.map fun n : Nat => (n : Int))).map fun p => (p.1, Val.int p.2)) (by rw [List.map_map]; exact ok.nd)
    rw [nd_sd, this]
  (try simp only [f_seq, f_asg, f_name, f_tup, f_gcons, f_gnil, f_ret, f_retN, f_expr, f_if, f_nil, f_par, f_par3, f_fld, f_sub, w_op, w_un, w_app, w_acons, w_anil, w_C, w_var0, w_varS, w_callF, w_and, w_or, w_not, w_if, w_tval, w_tand, w_tor, w_tnot, w_tbl, w_ttrue, w_chain, w_prop, w_meth, w_methK, w_mkK', w_kw, w_sl, w_mpE, w_mpNo, w_vals, wp_ok, wp_bind, wp_nr, List.set, List.length_cons, List.length_nil, Nat.zero_add, Nat.reduceAdd, add_int, sub_int, le_int, lt_int, ge_int, gt_int, eqD_int, eqD_str, sl_tup, len_tup, truth, true_and, and_true, Bool.not_true, Bool.not_false, Bool.false_eq_true, if_false, if_true, List.cons_append, List.nil_append, List.append_nil, decide_true, decide_false, hz])
  have K : Kp [] h (h ++ [.dct (nd (xs.zip (r.map fun n : Nat => (n : Int))))]) := (Kp.refl [] h).app _
  exact k_songs ok (app_new h _) fun m d g S lm ld k => q m d g S (by have := K.len; omega) (by have := K.len; omega) (K.trans k)
end
end U
namespace U
open PySem L2
def zipN (ks : List Str) (r : List Nat) : List (Str × Int) := ks.zip (r.map fun n : Nat => (n : Int))
theorem zipN_keys : ∀ {ks : List Str} {r : List Nat}, r.length = ks.length → (zipN ks r).map (·.1) = ks
  | [], [], _ => rfl
  | [], _ :: _, h => by simp at h
  | _ :: _, [], h => by simp at h
  | k :: ks, x :: r, h => by
    have ih := zipN_keys (ks := ks) (r := r) (by simpa using h)
    unfold zipN at ih ⊢
    rw [List.map_cons, List.zip_cons_cons, List.map_cons, ih]
theorem zipN_vals : ∀ {ks : List Str} {r : List Nat}, r.length = ks.length → (zipN ks r).map (·.2) = r.map fun n : Nat => (n : Int)
  | [], [], _ => rfl
  | [], _ :: _, h => by simp at h
  | _ :: _, [], h => by simp at h
  | k :: ks, x :: r, h => by
    have ih := zipN_vals (ks := ks) (r := r) (by simpa using h)
    unfold zipN at ih ⊢
    rw [List.map_cons, List.zip_cons_cons, List.map_cons, ih]
theorem sum_nat : ∀ r : List Nat, (r.map fun n : Nat => (n : Int)).sum = ((r.sum : Nat) : Int)
  | [] => rfl
  | x :: r => by rw [List.map_cons, List.sum_cons, List.sum_cons, sum_nat r]; push_cast; rfl
theorem zipN_ok {ks : List Str} {r : List Nat} {most : Nat} (o : okKs ks) (hr : r.length = ks.length) (hx : ∀ x ∈ r, x ≤ most) (hs : 0 < r.sum) : okNum (zipN ks r) 3 (most : Nat) := by
  have hl : (zipN ks r).length = ks.length := by have := congrArg List.length (zipN_keys hr); simpa using this
  refine ⟨by rw [hl]; exact o.l1, by rw [hl]; have := o.l2; omega, by rw [zipN_keys hr]; exact o.nd, fun p hp => ?_, fun p hp => ?_, ?_⟩
  · have : p.1 ∈ (zipN ks r).map (·.1) := List.mem_map.mpr ⟨p, hp, rfl⟩
    rw [zipN_keys hr] at this
    exact o.nm _ this
  · have : p.2 ∈ (zipN ks r).map (·.2) := List.mem_map.mpr ⟨p, hp, rfl⟩
    rw [zipN_vals hr] at this
    obtain ⟨x, h1, h2⟩ := List.mem_map.mp this
    have := hx x h1
    rw [← h2]
    omega
  · rw [zipN_vals hr, sum_nat]; omega
theorem mem_srR {many most : Nat} {r : List Nat} : r ∈ srR many most ↔ (r.length = many ∧ ∀ x ∈ r, x ≤ most) ∧ 0 < r.sum := by
  unfold srR
  rw [(srtK_perm srD _).mem_iff, List.mem_filter, mem_numR]
  simp
section
variable {σ : Loc} {h h1 : Hh} {QV : Val → Hh → Prop} {N : Loc → Hh → Prop} {R : Val → Hh → Prop} {n m c d r : Nat} {kd : Str}
theorem lc_allY {mi : MI} {vs : List Nat} {tg : Tg} {c : MT} {e : ME} {it : Itb} {S : List Nat} (P : Nat → Val → Hh → Prop) (I : Hh → Prop) (hm : mi σ h = .ok it h1) (hl : it.lk = none) (hz : it.items.length ≤ sizeLine) (hS : ∀ i ∈ S, i < h1.length)
    (i0 : I h1) (hI : ∀ g g', I g → Kp [h1.length] g g' → I g') (hP : ∀ k y g g', P k y g → Kp (h1.length :: S) g g' → P k y g') (hs : ∀ g, Kp S h1 g → it.src g)
    (hb : ∀ k v g, it.items[k]? = some v → I g → Kp S h1 g → h1.length < g.length → Wp (lcB vs tg c e σ v g) fun o g2 => I g2 ∧ Kp S g g2 ∧ ∃ y, o = some y ∧ P k y g2)
    (q : ∀ ys g, ys.length = it.items.length → (∀ k y, ys[k]? = some y → P k y g) → I g → Kp S h1 g → h1.length < g.length → g[h1.length]? = some (.lst ys) → QV (.ref h1.length) g) : Wp (mLc mi vs tg c e σ h) QV := by
  refine w_lc (fun _ _ k acc g => acc.length = k ∧ (∀ j y, acc[j]? = some y → P j y g) ∧ I g ∧ Kp S h1 g ∧ h1.length < g.length) ?_
  rw [hm]
  refine .ok ⟨hz, ⟨rfl, by simp, hI _ _ i0 ((Kp.refl _ _).app _), (Kp.refl _ _).app _, by simp⟩, fun k acc g ⟨_, _, _, k4, _⟩ => hs g k4, fun k v acc g ev ⟨k1, k2, k3, k4, k5⟩ hn => ?_, fun acc g ⟨k1, k2, k3, k4, k5⟩ hn => ?_⟩
  · refine (hb k v g ev k3 k4 k5).mono fun o g2 ⟨a1, a2, y, a3, a4⟩ => ?_
    have hn2 := a2.at_ _ _ hn (fun z => Nat.lt_irrefl _ (hS _ z))
    subst a3
    have Kw : Kp (h1.length :: S) g (g2.set h1.length (.lst (acc ++ [y]))) := (a2.weak (fun i hi => .inl (by simp [hi]))).set _ _ (.inl (by simp))
    have Kv : Kp (h1.length :: S) g2 (g2.set h1.length (.lst (acc ++ [y]))) := (Kp.refl _ _).set _ _ (.inl (by simp))
    refine ⟨hn2, by rw [List.length_append, k1]; rfl, fun j z ez => ?_, hI _ _ a1 ((Kp.refl _ _).set _ _ (.inl (by simp))), (k4.trans a2).set' (Nat.le_refl _), by rw [List.length_set]; exact Nat.lt_of_lt_of_le k5 a2.len⟩
    by_cases hj : j < acc.length
    · rw [List.getElem?_append_left hj] at ez; exact hP _ _ _ _ (k2 j z ez) Kw
    · have hj2 := (List.getElem?_eq_some_iff.mp ez).1
      rw [List.length_append, List.length_singleton] at hj2
      have : j = k := by omega
      subst this
      rw [List.getElem?_append_right (by omega), k1, Nat.sub_self] at ez
      simp at ez
      subst ez
      exact hP _ _ _ _ a4 Kv
  · exact ⟨g, by rw [hl]; rfl, q acc g (by rw [k1]) k2 k3 k4 (List.getElem?_eq_some_iff.mp hn).1 hn⟩
theorem lists_of_ok {a : Nat} {ks : List Str} {most : Nat} (ea : h[a]? = some (.lst (ks.map .str))) (o : okKs ks) (h1 : 1 ≤ most) (ht : most ≤ 9)
    (q : ∀ n (ys : List Val) g, ys.length = (srR ks.length most).length → (∀ (k : Nat) (y : Val), ys[k]? = some y → ∃ (r : List Nat) (m d : Nat), (srR ks.length most)[k]? = some r ∧ y = Val.ref m ∧ SongsAt m d (srt (zipN ks r)) g) → g[n]? = some (.lst ys) → h.length ≤ n → Kp [] h g → QV (.ref n) g) : Wp (f_lists_of [.ref a, .int (most : Nat)] h) QV := by
  have hk1 := o.l1
  have hk2 := o.l2
  have hsz : sizeLine = 16777216 := rfl
  have hnl : (numR ks.length most).length ≤ 100 := by
    rw [numR_len]
    have h10 : most + 1 ≤ 10 := by omega
    exact Nat.le_trans (Nat.pow_le_pow_right (by omega) hk2) (Nat.le_trans (Nat.pow_le_pow_left h10 2) (by omega))
  unfold f_lists_of b_lists_of
  rw [w_fn]
  show WpF (msSeq _ _ [some (.ref a), some (.int (most : Nat)), none, none, none] h) _ _
  (try simp only [f_seq, f_asg, f_name, f_tup, f_gcons, f_gnil, f_ret, f_retN, f_expr, f_if, f_nil, f_par, f_par3, f_fld, f_sub, w_op, w_un, w_app, w_acons, w_anil, w_C, w_var0, w_varS, w_callF, w_and, w_or, w_not, w_if, w_tval, w_tand, w_tor, w_tnot, w_tbl, w_ttrue, w_chain, w_prop, w_meth, w_methK, w_mkK', w_kw, w_sl, w_mpE, w_mpNo, w_vals, wp_ok, wp_bind, wp_nr, List.set, List.length_cons, List.length_nil, Nat.zero_add, Nat.reduceAdd, add_int, sub_int, le_int, lt_int, ge_int, gt_int, eqD_int, eqD_str, sl_tup, len_tup, truth, true_and, and_true, Bool.not_true, Bool.not_false, Bool.false_eq_true, if_false, if_true, List.cons_append, List.nil_append, List.append_nil, decide_true, decide_false])
  have hv : vLen [.ref a] h = .ok (.int (ks.length : Nat)) h := by rw [len_lst ea, List.length_map]
  have hmW : Wp (miVal (mApp (callF 2 f_number_rows) (maCons (mApp vLen (maCons (mVar 0) maNil)) (maCons (mVar 1) maNil))) [some (.ref a), some (.int (most : Nat)), none, none, none] h) fun it (g : Hh) => ∃ n : Nat, it = ⟨(numR ks.length most).map nrV, fun g : Hh => g[n]? = some (Ob.lst ((numR ks.length most).map nrV)), none⟩ ∧ g[n]? = some (Ob.lst ((numR ks.length most).map nrV)) ∧ Kp [] h g := by
    unfold miVal
    rw [wp_bind]
    (try simp only [f_seq, f_asg, f_name, f_tup, f_gcons, f_gnil, f_ret, f_retN, f_expr, f_if, f_nil, f_par, f_par3, f_fld, f_sub, w_op, w_un, w_app, w_acons, w_anil, w_C, w_var0, w_varS, w_callF, w_and, w_or, w_not, w_if, w_tval, w_tand, w_tor, w_tnot, w_tbl, w_ttrue, w_chain, w_prop, w_meth, w_methK, w_mkK', w_kw, w_sl, w_mpE, w_mpNo, w_vals, wp_ok, wp_bind, wp_nr, List.set, List.length_cons, List.length_nil, Nat.zero_add, Nat.reduceAdd, add_int, sub_int, le_int, lt_int, ge_int, gt_int, eqD_int, eqD_str, sl_tup, len_tup, truth, true_and, and_true, Bool.not_true, Bool.not_false, Bool.false_eq_true, if_false, if_true, List.cons_append, List.nil_append, List.append_nil, decide_true, decide_false, hv])
    refine number_rows_ok hk2 ht fun n g e l k => ?_
    dsimp only
    rw [e]
    exact .ok ⟨n, rfl, e, k⟩
  obtain ⟨it, g1, hm, n1, rfl, e1, k1⟩ := hmW.ex
  have ht2 : ∀ g (r : List Nat), vTup [.int ((r.sum : Nat) : Int), nrV r] g = .ok (srV r) g := fun g r => tup_v g (by simp)
  refine lc_map nrV (fun r => if 0 < r.sum then some (srV r) else none) hm (szl (by omega)) (fun g K => K.k e1) (fun r hr g K => ?_) fun g2 k2 e2 => ?_
  · unfold lcB
    by_cases hs : 0 < r.sum
    · have : decide (((r.sum : Nat) : Int) > 0) = true := decide_eq_true (by omega)
      rw [if_pos hs]
      (try simp only [f_seq, f_asg, f_name, f_tup, f_gcons, f_gnil, f_ret, f_retN, f_expr, f_if, f_nil, f_par, f_par3, f_fld, f_sub, w_op, w_un, w_app, w_acons, w_anil, w_C, w_var0, w_varS, w_callF, w_and, w_or, w_not, w_if, w_tval, w_tand, w_tor, w_tnot, w_tbl, w_ttrue, w_chain, w_prop, w_meth, w_methK, w_mkK', w_kw, w_sl, w_mpE, w_mpNo, w_vals, wp_ok, wp_bind, wp_nr, List.set, List.length_cons, List.length_nil, Nat.zero_add, Nat.reduceAdd, add_int, sub_int, le_int, lt_int, ge_int, gt_int, eqD_int, eqD_str, sl_tup, len_tup, truth, true_and, and_true, Bool.not_true, Bool.not_false, Bool.false_eq_true, if_false, if_true, List.cons_append, List.nil_append, List.append_nil, decide_true, decide_false, Tg.bd, wipeL, sumX_nr, this, ht2])
      exact Kp.refl _ _
    · have : decide (((r.sum : Nat) : Int) > 0) = false := decide_eq_false (by omega)
      rw [if_neg hs]
      (try simp only [f_seq, f_asg, f_name, f_tup, f_gcons, f_gnil, f_ret, f_retN, f_expr, f_if, f_nil, f_par, f_par3, f_fld, f_sub, w_op, w_un, w_app, w_acons, w_anil, w_C, w_var0, w_varS, w_callF, w_and, w_or, w_not, w_if, w_tval, w_tand, w_tor, w_tnot, w_tbl, w_ttrue, w_chain, w_prop, w_meth, w_methK, w_mkK', w_kw, w_sl, w_mpE, w_mpNo, w_vals, wp_ok, wp_bind, wp_nr, List.set, List.length_cons, List.length_nil, Nat.zero_add, Nat.reduceAdd, add_int, sub_int, le_int, lt_int, ge_int, gt_int, eqD_int, eqD_str, sl_tup, len_tup, truth, true_and, and_true, Bool.not_true, Bool.not_false, Bool.false_eq_true, if_false, if_true, List.cons_append, List.nil_append, List.append_nil, decide_true, decide_false, Tg.bd, wipeL, sumX_nr, this])
      exact Kp.refl _ _
  · have hfm : ∀ rs : List (List Nat), rs.filterMap (fun r => if 0 < r.sum then some (srV r) else none) = (rs.filter fun r => decide (0 < r.sum)).map srV := by
      intro rs
      induction rs with
      | nil => rfl
      | cons r rs ih =>
        by_cases hs : 0 < r.sum
        · rw [List.filterMap_cons, if_pos hs, List.filter_cons_of_pos (by simpa using hs), List.map_cons, ih]
        · rw [List.filterMap_cons, if_neg hs, List.filter_cons_of_neg (by simpa using hs), ih]
    rw [hfm] at e2
    have hne : ((numR ks.length most).filter fun r => decide (0 < r.sum)) ≠ [] := by
      have hmem : List.replicate ks.length 1 ∈ (numR ks.length most).filter fun r => decide (0 < r.sum) := by
        rw [List.mem_filter, mem_numR]
        refine ⟨⟨by simp, fun x hx => by rw [List.eq_of_mem_replicate hx]; exact h1⟩, ?_⟩
        rw [decide_eq_true_eq, List.sum_replicate_nat]
        omega
      exact fun z => by rw [z] at hmem; cases hmem
    have hfl : ((numR ks.length most).filter fun r => decide (0 < r.sum)).length ≤ 100 := Nat.le_trans (List.length_filter_le _ _) hnl
    (try simp only [f_seq, f_asg, f_name, f_tup, f_gcons, f_gnil, f_ret, f_retN, f_expr, f_if, f_nil, f_par, f_par3, f_fld, f_sub, w_op, w_un, w_app, w_acons, w_anil, w_C, w_var0, w_varS, w_callF, w_and, w_or, w_not, w_if, w_tval, w_tand, w_tor, w_tnot, w_tbl, w_ttrue, w_chain, w_prop, w_meth, w_methK, w_mkK', w_kw, w_sl, w_mpE, w_mpNo, w_vals, wp_ok, wp_bind, wp_nr, List.set, List.length_cons, List.length_nil, Nat.zero_add, Nat.reduceAdd, add_int, sub_int, le_int, lt_int, ge_int, gt_int, eqD_int, eqD_str, sl_tup, len_tup, truth, true_and, and_true, Bool.not_true, Bool.not_false, Bool.false_eq_true, if_false, if_true, List.cons_append, List.nil_append, List.append_nil, decide_true, decide_false])
    unfold b_lists_of_1
    have hsort := sort_sr e2 (by omega) hne
    have hsr : srtK srD ((numR ks.length most).filter fun r => decide (0 < r.sum)) = srR ks.length most := rfl
    rw [hsr] at hsort
    have e3 := app_new g2 (.lst ((srR ks.length most).map srV))
    have k3 : Kp [] g2 (g2 ++ [.lst ((srR ks.length most).map srV)]) := (Kp.refl _ _).app _
    have hm2 : miVal (mApp vSortD (maCons (mVar 2) maNil)) [some (.ref a), some (.int (most : Nat)), some (.ref g1.length), none, none] g2 = .ok ⟨(srR ks.length most).map srV, fun g => g[g2.length]? = some (.lst ((srR ks.length most).map srV)), none⟩ (g2 ++ [.lst ((srR ks.length most).map srV)]) := val_lst (n := g2.length) (by simp [mApp, maCons, maNil, mVar, hsort]) e3
    have K3 : Kp [] h (g2 ++ [.lst ((srR ks.length most).map srV)]) := (k1.trans k2).trans k3
    have hl3 : (g2 ++ [Ob.lst ((srR ks.length most).map srV)]).length = g2.length + 1 := by simp
    generalize g2 ++ [Ob.lst ((srR ks.length most).map srV)] = g3 at e3 hm2 K3 hl3
    have hsl : (srR ks.length most).length ≤ 100 := by
      rw [← hsr, (srtK_perm srD _).length_eq]; exact hfl
    have ea3 := K3.k ea
    (try simp only [f_seq, f_asg, f_name, f_tup, f_gcons, f_gnil, f_ret, f_retN, f_expr, f_if, f_nil, f_par, f_par3, f_fld, f_sub, w_op, w_un, w_app, w_acons, w_anil, w_C, w_var0, w_varS, w_callF, w_and, w_or, w_not, w_if, w_tval, w_tand, w_tor, w_tnot, w_tbl, w_ttrue, w_chain, w_prop, w_meth, w_methK, w_mkK', w_kw, w_sl, w_mpE, w_mpNo, w_vals, wp_ok, wp_bind, wp_nr, List.set, List.length_cons, List.length_nil, Nat.zero_add, Nat.reduceAdd, add_int, sub_int, le_int, lt_int, ge_int, gt_int, eqD_int, eqD_str, sl_tup, len_tup, truth, true_and, and_true, Bool.not_true, Bool.not_false, Bool.false_eq_true, if_false, if_true, List.cons_append, List.nil_append, List.append_nil, decide_true, decide_false])
    refine lc_allY (S := []) (fun k y g => ∃ r m d, (srR ks.length most)[k]? = some r ∧ y = Val.ref m ∧ SongsAt m d (srt (zipN ks r)) g ∧ g3.length < m ∧ g3.length < d) (fun _ => True) hm2 rfl (szl (by rw [List.length_map]; omega)) (by simp) trivial (fun _ _ _ _ => trivial) (fun k y g g' ⟨r, m, d, p1, p2, p3, p4, p5⟩ K => ⟨r, m, d, p1, p2, ⟨K.at_ _ _ p3.e (by simp; omega), K.at_ _ _ p3.ed (by simp; omega)⟩, p4, p5⟩) (fun g K => K.k e3) (fun k v g ev _ K hlt => ?_) fun ys g hl hP _ K hlt e => ?_
    · have ev : ((srR ks.length most).map srV)[k]? = some v := ev
      rw [List.getElem?_map] at ev
      obtain ⟨r, hr, rfl⟩ : ∃ r, (srR ks.length most)[k]? = some r ∧ v = srV r := by
        cases e : (srR ks.length most)[k]? with
        | none => rw [e] at ev; cases ev
        | some p => rw [e] at ev; exact ⟨p, rfl, by simpa using ev.symm⟩
      obtain ⟨⟨m1, m2⟩, m3⟩ := mem_srR.mp (List.mem_of_getElem? hr)
      unfold lcB srV
      (try simp only [f_seq, f_asg, f_name, f_tup, f_gcons, f_gnil, f_ret, f_retN, f_expr, f_if, f_nil, f_par, f_par3, f_fld, f_sub, w_op, w_un, w_app, w_acons, w_anil, w_C, w_var0, w_varS, w_callF, w_and, w_or, w_not, w_if, w_tval, w_tand, w_tor, w_tnot, w_tbl, w_ttrue, w_chain, w_prop, w_meth, w_methK, w_mkK', w_kw, w_sl, w_mpE, w_mpNo, w_vals, wp_ok, wp_bind, wp_nr, List.set, List.length_cons, List.length_nil, Nat.zero_add, Nat.reduceAdd, add_int, sub_int, le_int, lt_int, ge_int, gt_int, eqD_int, eqD_str, sl_tup, len_tup, truth, true_and, and_true, Bool.not_true, Bool.not_false, Bool.false_eq_true, if_false, if_true, List.cons_append, List.nil_append, List.append_nil, decide_true, decide_false, Tg.bd, wipeL, setAll])
      refine songs_by_t (K.k ea3) (zipN_ok o m1 m2 m3) fun m d g5 S lm ld k5 => ?_
      (try simp only [f_seq, f_asg, f_name, f_tup, f_gcons, f_gnil, f_ret, f_retN, f_expr, f_if, f_nil, f_par, f_par3, f_fld, f_sub, w_op, w_un, w_app, w_acons, w_anil, w_C, w_var0, w_varS, w_callF, w_and, w_or, w_not, w_if, w_tval, w_tand, w_tor, w_tnot, w_tbl, w_ttrue, w_chain, w_prop, w_meth, w_methK, w_mkK', w_kw, w_sl, w_mpE, w_mpNo, w_vals, wp_ok, wp_bind, wp_nr, List.set, List.length_cons, List.length_nil, Nat.zero_add, Nat.reduceAdd, add_int, sub_int, le_int, lt_int, ge_int, gt_int, eqD_int, eqD_str, sl_tup, len_tup, truth, true_and, and_true, Bool.not_true, Bool.not_false, Bool.false_eq_true, if_false, if_true, List.cons_append, List.nil_append, List.append_nil, decide_true, decide_false])
      exact ⟨k5, Val.ref m, rfl, r, m, d, hr, rfl, S, by omega, by omega⟩
    · refine q g3.length ys g (by rw [hl]; simp) (fun k y hy => ?_) e (by have := K3.len; omega) (K3.trans K)
      obtain ⟨r, m, d, p1, p2, p3, _⟩ := hP k y hy
      exact ⟨r, m, d, p1, p2, p3⟩
end
end U
namespace U
open PySem L2
section
variable {σ : Loc} {h h1 : Hh} {QV : Val → Hh → Prop} {N : Loc → Hh → Prop} {R : Val → Hh → Prop} {n m c d r : Nat} {kd : Str}
end
end U
namespace U
open PySem L2
section
variable {σ : Loc} {h h1 : Hh} {QV : Val → Hh → Prop} {N : Loc → Hh → Prop} {R : Val → Hh → Prop} {n m c d r1 r2 : Nat} {kd : Str} {ws1 ss1 ws2 ss2 : List Int} {sp1 sp2 : Int} {kv : Val}
end
end U
namespace U
open PySem L2
section
variable {σ : Loc} {h h1 : Hh} {QV : Val → Hh → Prop} {N : Loc → Hh → Prop} {R : Val → Hh → Prop} {n m c d r1 r2 s1 s2 : Nat} {kd : Str} {ws1 ss1 ws2 ss2 : List Int} {kv : Val}
end
end U
namespace U
open PySem L2
section
variable {σ : Loc} {h h1 : Hh} {QV : Val → Hh → Prop} {N : Loc → Hh → Prop} {R : Val → Hh → Prop} {n m c d : Nat} {kd : Str}
theorem srt_srP {a b : List (List Nat)} (p : a.Perm b) : srtK srD a = srtK srD b := by
  have anti : ∀ p q, PySem.W.dataLe false srD p q = true → PySem.W.dataLe false srD q p = true → p = q := fun p q h1 h2 => by
    have h1' : (!PyProof.Rows.lexLt PyProof.Rows.itemOrd (PySem.W.keyToks (srD q)) (PySem.W.keyToks (srD p))) = true := h1
    have h2' : (!PyProof.Rows.lexLt PyProof.Rows.itemOrd (PySem.W.keyToks (srD p)) (PySem.W.keyToks (srD q))) = true := h2
    rw [Bool.not_eq_true'] at h1' h2'
    exact sr_inj (PyProof.Rows.lex_total _ _ h2' h1')
  have T := PySem.W.sortLe_total (PyProof.Rows.listOrd PyProof.Rows.itemOrd) false fun x : List Nat => PySem.W.keyToks (srD x)
  have tr : ∀ x y z : List Nat, PySem.W.dataLe false srD x y = true → PySem.W.dataLe false srD y z = true → PySem.W.dataLe false srD x z = true := T.trans
  have to : ∀ x y : List Nat, (PySem.W.dataLe false srD x y || PySem.W.dataLe false srD y x) = true := fun x y => by
    rw [Bool.or_eq_true]; exact T.total x y
  refine List.Perm.eq_of_pairwise (le := fun x y => PySem.W.dataLe false srD x y = true) (fun x y _ _ => anti x y) (List.pairwise_mergeSort tr to a) (List.pairwise_mergeSort tr to b) ?_
  exact (List.mergeSort_perm a _).trans (p.trans (List.mergeSort_perm b _).symm)
theorem law_rows_end {many most : Nat} {x3 x4 x5 : Option Val} (h1 : 1 ≤ most) (ht : most ≤ 9) (hm : 1 ≤ many) (hm2 : many ≤ 2) {rs : List (List Nat)} (hp : rs.Perm (numR many most)) (e : h[n]? = some (.lst (rs.map nrV)))
    (q : ∀ n g, g[n]? = some (.lst ((srR many most).map nrV)) → h.length ≤ n → Kp [] h g → QV (.ref n) g) : WpF (b__law_number_rows_1 [some (.int (many : Nat)), some (.int (most : Nat)), some (.ref n), x3, x4, x5, none, none] h) (fun _ h' => QV .non h') QV := by
  have hsz : sizeLine = 16777216 := rfl
  have hnl : (numR many most).length ≤ 100 := by
    rw [numR_len]
    have h10 : most + 1 ≤ 10 := by omega
    exact Nat.le_trans (Nat.pow_le_pow_right (by omega) hm2) (Nat.le_trans (Nat.pow_le_pow_left h10 2) (by omega))
  have hrl := hp.length_eq
  have ht2 : ∀ g (r : List Nat), vTup [.int ((r.sum : Nat) : Int), nrV r] g = .ok (srV r) g := fun g r => tup_v g (by simp)
  unfold b__law_number_rows_1
  have hmW : Wp (miVal (mApp vSortD (maCons (mLc (miVal (mVar 2)) [7] (.one 7) tTrue (mApp vTup (maCons (mApp vSumX (maCons (mVar 7) maNil)) (maCons (mVar 7) maNil)))) maNil)) [some (.int (many : Nat)), some (.int (most : Nat)), some (.ref n), x3, x4, x5, none, none] h) fun it (g : Hh) => ∃ k : Nat, it = ⟨(srtK srD rs).map srV, fun g : Hh => g[k]? = some (Ob.lst ((srtK srD rs).map srV)), none⟩ ∧ g[k]? = some (Ob.lst ((srtK srD rs).map srV)) ∧ Kp [] h g := by
    unfold miVal
    rw [wp_bind]
    (try simp only [f_seq, f_asg, f_name, f_tup, f_gcons, f_gnil, f_ret, f_retN, f_expr, f_if, f_nil, f_par, f_par3, f_fld, f_sub, w_op, w_un, w_app, w_acons, w_anil, w_C, w_var0, w_varS, w_callF, w_and, w_or, w_not, w_if, w_tval, w_tand, w_tor, w_tnot, w_tbl, w_ttrue, w_chain, w_prop, w_meth, w_methK, w_mkK', w_kw, w_sl, w_mpE, w_mpNo, w_vals, wp_ok, wp_bind, wp_nr, List.set, List.length_cons, List.length_nil, Nat.zero_add, Nat.reduceAdd, add_int, sub_int, le_int, lt_int, ge_int, gt_int, eqD_int, eqD_str, sl_tup, len_tup, truth, true_and, and_true, Bool.not_true, Bool.not_false, Bool.false_eq_true, if_false, if_true, List.cons_append, List.nil_append, List.append_nil, decide_true, decide_false])
    refine lc_map nrV (fun r => some (srV r)) (val_lst (n := n) rfl e) (szl (by omega)) (fun g K => K.k e) (fun r hr g K => ?_) fun g K e2 => ?_
    · unfold lcB
      (try simp only [f_seq, f_asg, f_name, f_tup, f_gcons, f_gnil, f_ret, f_retN, f_expr, f_if, f_nil, f_par, f_par3, f_fld, f_sub, w_op, w_un, w_app, w_acons, w_anil, w_C, w_var0, w_varS, w_callF, w_and, w_or, w_not, w_if, w_tval, w_tand, w_tor, w_tnot, w_tbl, w_ttrue, w_chain, w_prop, w_meth, w_methK, w_mkK', w_kw, w_sl, w_mpE, w_mpNo, w_vals, wp_ok, wp_bind, wp_nr, List.set, List.length_cons, List.length_nil, Nat.zero_add, Nat.reduceAdd, add_int, sub_int, le_int, lt_int, ge_int, gt_int, eqD_int, eqD_str, sl_tup, len_tup, truth, true_and, and_true, Bool.not_true, Bool.not_false, Bool.false_eq_true, if_false, if_true, List.cons_append, List.nil_append, List.append_nil, decide_true, decide_false, Tg.bd, wipeL, sumX_nr, ht2])
      exact Kp.refl _ _
    · rw [show rs.filterMap (fun r => some (srV r)) = rs.map srV from congrFun List.filterMap_eq_map' _] at e2
      have hne : rs ≠ [] := fun z => by
        have h0 := hrl
        rw [z, numR_len] at h0
        have h9 : 1 ^ many ≤ (most + 1) ^ many := Nat.pow_le_pow_left (by omega) many
        rw [Nat.one_pow] at h9
        simp only [List.length_nil] at h0
        omega
      rw [sort_sr e2 (by omega) hne]
      have e3 := app_new g (.lst ((srtK srD rs).map srV))
      (try simp only [f_seq, f_asg, f_name, f_tup, f_gcons, f_gnil, f_ret, f_retN, f_expr, f_if, f_nil, f_par, f_par3, f_fld, f_sub, w_op, w_un, w_app, w_acons, w_anil, w_C, w_var0, w_varS, w_callF, w_and, w_or, w_not, w_if, w_tval, w_tand, w_tor, w_tnot, w_tbl, w_ttrue, w_chain, w_prop, w_meth, w_methK, w_mkK', w_kw, w_sl, w_mpE, w_mpNo, w_vals, wp_ok, wp_bind, wp_nr, List.set, List.length_cons, List.length_nil, Nat.zero_add, Nat.reduceAdd, add_int, sub_int, le_int, lt_int, ge_int, gt_int, eqD_int, eqD_str, sl_tup, len_tup, truth, true_and, and_true, Bool.not_true, Bool.not_false, Bool.false_eq_true, if_false, if_true, List.cons_append, List.nil_append, List.append_nil, decide_true, decide_false])
      rw [e3]
      exact .ok ⟨g.length, rfl, e3, K.app _⟩
  obtain ⟨it, g1, hmm, k, rfl, e1, k1⟩ := hmW.ex
  have hsl : (srtK srD rs).length ≤ 100 := by rw [(srtK_perm srD _).length_eq]; omega
  (try simp only [f_seq, f_asg, f_name, f_tup, f_gcons, f_gnil, f_ret, f_retN, f_expr, f_if, f_nil, f_par, f_par3, f_fld, f_sub, w_op, w_un, w_app, w_acons, w_anil, w_C, w_var0, w_varS, w_callF, w_and, w_or, w_not, w_if, w_tval, w_tand, w_tor, w_tnot, w_tbl, w_ttrue, w_chain, w_prop, w_meth, w_methK, w_mkK', w_kw, w_sl, w_mpE, w_mpNo, w_vals, wp_ok, wp_bind, wp_nr, List.set, List.length_cons, List.length_nil, Nat.zero_add, Nat.reduceAdd, add_int, sub_int, le_int, lt_int, ge_int, gt_int, eqD_int, eqD_str, sl_tup, len_tup, truth, true_and, and_true, Bool.not_true, Bool.not_false, Bool.false_eq_true, if_false, if_true, List.cons_append, List.nil_append, List.append_nil, decide_true, decide_false])
  refine lc_map srV (fun r => if 0 < r.sum then some (nrV r) else none) hmm (szl (by omega)) (fun g K => K.k e1) (fun r hr g K => ?_) fun g K e2 => ?_
  · unfold lcB srV
    by_cases hs : 0 < r.sum
    · rw [if_pos hs]
      (try simp only [f_seq, f_asg, f_name, f_tup, f_gcons, f_gnil, f_ret, f_retN, f_expr, f_if, f_nil, f_par, f_par3, f_fld, f_sub, w_op, w_un, w_app, w_acons, w_anil, w_C, w_var0, w_varS, w_callF, w_and, w_or, w_not, w_if, w_tval, w_tand, w_tor, w_tnot, w_tbl, w_ttrue, w_chain, w_prop, w_meth, w_methK, w_mkK', w_kw, w_sl, w_mpE, w_mpNo, w_vals, wp_ok, wp_bind, wp_nr, List.set, List.length_cons, List.length_nil, Nat.zero_add, Nat.reduceAdd, add_int, sub_int, le_int, lt_int, ge_int, gt_int, eqD_int, eqD_str, sl_tup, len_tup, truth, true_and, and_true, Bool.not_true, Bool.not_false, Bool.false_eq_true, if_false, if_true, List.cons_append, List.nil_append, List.append_nil, decide_true, decide_false, Tg.bd, wipeL, setAll, decide_eq_true (show ((r.sum : Nat) : Int) > 0 by omega)])
      exact Kp.refl _ _
    · rw [if_neg hs]
      (try simp only [f_seq, f_asg, f_name, f_tup, f_gcons, f_gnil, f_ret, f_retN, f_expr, f_if, f_nil, f_par, f_par3, f_fld, f_sub, w_op, w_un, w_app, w_acons, w_anil, w_C, w_var0, w_varS, w_callF, w_and, w_or, w_not, w_if, w_tval, w_tand, w_tor, w_tnot, w_tbl, w_ttrue, w_chain, w_prop, w_meth, w_methK, w_mkK', w_kw, w_sl, w_mpE, w_mpNo, w_vals, wp_ok, wp_bind, wp_nr, List.set, List.length_cons, List.length_nil, Nat.zero_add, Nat.reduceAdd, add_int, sub_int, le_int, lt_int, ge_int, gt_int, eqD_int, eqD_str, sl_tup, len_tup, truth, true_and, and_true, Bool.not_true, Bool.not_false, Bool.false_eq_true, if_false, if_true, List.cons_append, List.nil_append, List.append_nil, decide_true, decide_false, Tg.bd, wipeL, setAll, decide_eq_false (show ¬ ((r.sum : Nat) : Int) > 0 by omega)])
      exact Kp.refl _ _
  · have hf : ∀ us : List (List Nat), us.filterMap (fun r => if 0 < r.sum then some (nrV r) else none) = (us.filter fun r => decide (0 < r.sum)).map nrV := by
      intro us
      induction us with
      | nil => rfl
      | cons t us ih =>
        by_cases hs : 0 < t.sum
        · rw [List.filterMap_cons, if_pos hs, List.filter_cons_of_pos (by simpa using hs), List.map_cons, ih]
        · rw [List.filterMap_cons, if_neg hs, List.filter_cons_of_neg (by simpa using hs), ih]
    rw [hf, srt_filter, srt_srP (hp.filter _)] at e2
    exact q _ g e2 (by have := k1.len; omega) (k1.trans K)
end
end U
namespace U
open PySem L2
section
variable {σ : Loc} {h h1 : Hh} {QV : Val → Hh → Prop} {N : Loc → Hh → Prop} {R : Val → Hh → Prop} {n m c d : Nat} {kd : Str}
theorem numR_one (t : Nat) : numR 1 t = (List.range (t + 1)).map fun x => [x] := by simp [numR]
theorem numR_nodup : ∀ (m t : Nat), (numR m t).Nodup
  | 0, t => by simp [numR]
  | m + 1, t => by
    have ih := numR_nodup m t
    unfold numR
    refine List.pairwise_flatMap.mpr ⟨fun r hr => List.Pairwise.map _ (fun a b hab e => hab (by simpa using e)) List.nodup_range, ih.imp fun {a b} hab x hx y hy e => hab ?_⟩
    obtain ⟨i, _, rfl⟩ := List.mem_map.mp hx
    obtain ⟨j, _, rfl⟩ := List.mem_map.mp hy
    exact (List.append_inj' e rfl).1
theorem rows2_perm (t : Nat) : ((List.range ((t + 1) * (t + 1))).map fun i => [i / (t + 1), i % (t + 1)]).Perm (numR 2 t) := by
  have hp : 0 < t + 1 := by omega
  have hinj : ∀ i j : Nat, [i / (t + 1), i % (t + 1)] = [j / (t + 1), j % (t + 1)] → i = j := fun i j e => by
    simp only [List.cons.injEq, and_true] at e
    have h1 := Nat.div_add_mod i (t + 1)
    have h2 := Nat.div_add_mod j (t + 1)
    rw [e.1, e.2] at h1
    omega
  have nd1 : ((List.range ((t + 1) * (t + 1))).map fun i => [i / (t + 1), i % (t + 1)]).Nodup := by
    refine List.Pairwise.map _ (fun a b hab e => hab (hinj a b e)) List.nodup_range
  have hsub : ∀ r ∈ (List.range ((t + 1) * (t + 1))).map (fun i => [i / (t + 1), i % (t + 1)]), r ∈ numR 2 t := fun r hr => by
    obtain ⟨i, hi, rfl⟩ := List.mem_map.mp hr
    have hi := List.mem_range.mp hi
    have h1 : i / (t + 1) < t + 1 := Nat.div_lt_of_lt_mul hi
    have h2 : i % (t + 1) < t + 1 := Nat.mod_lt _ hp
    refine mem_numR.mpr ⟨rfl, fun x hx => ?_⟩
    simp only [List.mem_cons, List.not_mem_nil, or_false] at hx
    rcases hx with rfl | rfl <;> omega
  refine (List.perm_ext_iff_of_nodup nd1 (numR_nodup 2 t)).mpr fun r => ⟨hsub r, fun hr => ?_⟩
  obtain ⟨k1, k2⟩ := mem_numR.mp hr
  match r, k1 with
  | [a, b], _ =>
    have ha := k2 a (by simp)
    have hb := k2 b (by simp)
    have h1 : (a * (t + 1) + b) / (t + 1) = a := by
      rw [Nat.mul_comm, Nat.mul_add_div hp, Nat.div_eq_of_lt (by omega)]; omega
    have h2 : (a * (t + 1) + b) % (t + 1) = b := by
      rw [Nat.mul_comm, Nat.mul_add_mod, Nat.mod_eq_of_lt (by omega)]
    have hle : a * (t + 1) ≤ t * (t + 1) := Nat.mul_le_mul_right _ ha
    have he : (t + 1) * (t + 1) = t * (t + 1) + (t + 1) := Nat.succ_mul t (t + 1)
    exact List.mem_map.mpr ⟨a * (t + 1) + b, List.mem_range.mpr (by rw [he]; omega), by rw [h1, h2]⟩
theorem op_okU {f : Val → Val → Hh → Res Val} {a b : ME} {x y : Val} (ha : a σ h = .ok x h) (hb : b σ h = .ok y h) : mOp f a b σ h = f x y h := by
  unfold mOp
  rw [ha, bind_ok, hb, bind_ok]
theorem rng2_mi {most : Nat} (ht : most ≤ 9) (hA : mOp vAdd (mVar 1) (mC (.int 1)) σ h = .ok (.int ((most : Int) + 1)) h) : miRng1 (mOp vMulA (mOp vAdd (mVar 1) (mC (.int 1))) (mOp vAdd (mVar 1) (mC (.int 1)))) σ h = .ok ⟨(List.range ((most + 1) * (most + 1))).map intN, fun _ => True, none⟩ h := by
  have hT : ((most : Int) + 1) * ((most : Int) + 1) = (((most + 1) * (most + 1) : Nat) : Int) := by push_cast; rfl
  have h100 : (most + 1) * (most + 1) ≤ 100 := Nat.le_trans (Nat.mul_le_mul (show most + 1 ≤ 10 by omega) (show most + 1 ≤ 10 by omega)) (by omega)
  have hM : mOp vMulA (mOp vAdd (mVar 1) (mC (.int 1))) (mOp vAdd (mVar 1) (mC (.int 1))) σ h = .ok (.int (((most + 1) * (most + 1) : Nat) : Int)) h := by
    rw [op_okU hA hA, mul_int h (by omega), hT]
  generalize (most + 1) * (most + 1) = t at hM h100 ⊢
  rw [val_rng hM (by omega), Int.toNat_natCast]
  rfl
theorem dm_row {most : Nat} (ht : most ≤ 9) (i : Nat) : vDm [intN i, .int ((most : Int) + 1)] h = .ok (nrV [i / (most + 1), i % (most + 1)]) h := by
  have e1 : ((i : Nat) : Int) / ((most : Int) + 1) = ((i / (most + 1) : Nat) : Int) := by push_cast; rfl
  have e2 : ((i : Nat) : Int) % ((most : Int) + 1) = ((i % (most + 1) : Nat) : Int) := by push_cast; rfl
  simp only [vDm, intN]
  rw [if_pos (by omega), e1, e2]
  rfl
theorem fm_mapU {α : Type} (f : α → Val) (us : List α) : us.filterMap (fun r => some (f r)) = us.map f := congrFun List.filterMap_eq_map' _
theorem rows2_W {most : Nat} (ht : most ≤ 9) {x0 x2 x3 x4 x5 x6 x7 : Option Val} : Wp (miVal (mLc (miRng1 (mOp vMulA (mOp vAdd (mVar 1) (mC (.int 1))) (mOp vAdd (mVar 1) (mC (.int 1))))) [5] (.one 5) tTrue (mApp vDm (maCons (mVar 5) (maCons (mOp vAdd (mVar 1) (mC (.int 1))) maNil)))) [x0, some (.int (most : Nat)), x2, x3, x4, x5, x6, x7] h) fun it (g : Hh) => ∃ k : Nat, it = ⟨((List.range ((most + 1) * (most + 1))).map fun i => [i / (most + 1), i % (most + 1)]).map nrV, fun g : Hh => g[k]? = some (Ob.lst (((List.range ((most + 1) * (most + 1))).map fun i => [i / (most + 1), i % (most + 1)]).map nrV)), none⟩ ∧ g[k]? = some (Ob.lst (((List.range ((most + 1) * (most + 1))).map fun i => [i / (most + 1), i % (most + 1)]).map nrV)) ∧ Kp [] h g := by
  have h100 : (most + 1) * (most + 1) ≤ 100 := Nat.le_trans (Nat.mul_le_mul (show most + 1 ≤ 10 by omega) (show most + 1 ≤ 10 by omega)) (by omega)
  unfold miVal
  rw [wp_bind]
  refine lc_map intN (fun i => some (nrV [i / (most + 1), i % (most + 1)])) (rng2_mi ht rfl) (szl (by rw [List.length_range]; omega)) (fun _ _ => trivial) (fun i hi g K => ?_) fun g K e => ?_
  · unfold lcB
    (try simp only [f_seq, f_asg, f_name, f_tup, f_gcons, f_gnil, f_ret, f_retN, f_expr, f_if, f_nil, f_par, f_par3, f_fld, f_sub, w_op, w_un, w_app, w_acons, w_anil, w_C, w_var0, w_varS, w_callF, w_and, w_or, w_not, w_if, w_tval, w_tand, w_tor, w_tnot, w_tbl, w_ttrue, w_chain, w_prop, w_meth, w_methK, w_mkK', w_kw, w_sl, w_mpE, w_mpNo, w_vals, wp_ok, wp_bind, wp_nr, List.set, List.length_cons, List.length_nil, Nat.zero_add, Nat.reduceAdd, add_int, sub_int, le_int, lt_int, ge_int, gt_int, eqD_int, eqD_str, sl_tup, len_tup, truth, true_and, and_true, Bool.not_true, Bool.not_false, Bool.false_eq_true, if_false, if_true, List.cons_append, List.nil_append, List.append_nil, decide_true, decide_false, Tg.bd, wipeL, dm_row ht])
    exact Kp.refl _ _
  · rw [fm_mapU] at e
    have e' : g[h.length]? = some (.lst (((List.range ((most + 1) * (most + 1))).map fun i => [i / (most + 1), i % (most + 1)]).map nrV)) := by rw [List.map_map]; exact e
    dsimp only
    rw [e']
    exact .ok ⟨_, rfl, e', K⟩
theorem law_number_rows_ok {many most : Nat} (h1 : 1 ≤ most) (ht : most ≤ 9) (hm : 1 ≤ many) (hm2 : many ≤ 2)
    (q : ∀ n g, g[n]? = some (.lst ((srR many most).map nrV)) → h.length ≤ n → Kp [] h g → QV (.ref n) g) : Wp (f__law_number_rows [.int (many : Nat), .int (most : Nat)] h) QV := by
  have ht1 : ∀ g (x : Nat), vTup [intN x] g = .ok (nrV [x]) g := fun g x => tup_v g (by simp)
  unfold f__law_number_rows b__law_number_rows
  rw [w_fn]
  show WpF (msSeq _ _ [some (.int (many : Nat)), some (.int (most : Nat)), none, none, none, none, none, none] h) _ _
  (try simp only [f_seq, f_asg, f_name, f_tup, f_gcons, f_gnil, f_ret, f_retN, f_expr, f_if, f_nil, f_par, f_par3, f_fld, f_sub, w_op, w_un, w_app, w_acons, w_anil, w_C, w_var0, w_varS, w_callF, w_and, w_or, w_not, w_if, w_tval, w_tand, w_tor, w_tnot, w_tbl, w_ttrue, w_chain, w_prop, w_meth, w_methK, w_mkK', w_kw, w_sl, w_mpE, w_mpNo, w_vals, wp_ok, wp_bind, wp_nr, List.set, List.length_cons, List.length_nil, Nat.zero_add, Nat.reduceAdd, add_int, sub_int, le_int, lt_int, ge_int, gt_int, eqD_int, eqD_str, sl_tup, len_tup, truth, true_and, and_true, Bool.not_true, Bool.not_false, Bool.false_eq_true, if_false, if_true, List.cons_append, List.nil_append, List.append_nil, decide_true, decide_false])
  have hm0 : miRng1 (mOp vAdd (mVar 1) (mC (.int 1))) [some (.int (many : Nat)), some (.int (most : Nat)), none, none, none, none, none, none] h = .ok ⟨(List.range (most + 1)).map intN, fun _ => True, none⟩ h := by
    have := val_rng (σ := [some (.int (many : Nat)), some (.int (most : Nat)), none, none, none, none, none, none]) (h := h) (h1 := h) (m := mOp vAdd (mVar 1) (mC (.int 1))) (j := (most : Int) + 1) rfl (by omega)
    rw [this, show ((most : Int) + 1).toNat = most + 1 by omega]
    rfl
  refine lc_map intN (fun x => some (nrV [x])) hm0 (szl (by rw [List.length_range]; omega)) (fun _ _ => trivial) (fun x hx g K => ?_) fun g1 k1 e1 => ?_
  · unfold lcB
    (try simp only [f_seq, f_asg, f_name, f_tup, f_gcons, f_gnil, f_ret, f_retN, f_expr, f_if, f_nil, f_par, f_par3, f_fld, f_sub, w_op, w_un, w_app, w_acons, w_anil, w_C, w_var0, w_varS, w_callF, w_and, w_or, w_not, w_if, w_tval, w_tand, w_tor, w_tnot, w_tbl, w_ttrue, w_chain, w_prop, w_meth, w_methK, w_mkK', w_kw, w_sl, w_mpE, w_mpNo, w_vals, wp_ok, wp_bind, wp_nr, List.set, List.length_cons, List.length_nil, Nat.zero_add, Nat.reduceAdd, add_int, sub_int, le_int, lt_int, ge_int, gt_int, eqD_int, eqD_str, sl_tup, len_tup, truth, true_and, and_true, Bool.not_true, Bool.not_false, Bool.false_eq_true, if_false, if_true, List.cons_append, List.nil_append, List.append_nil, decide_true, decide_false, Tg.bd, wipeL, ht1])
    exact Kp.refl _ _
  · rw [show (List.range (most + 1)).filterMap (fun x => some (nrV [x])) = (List.range (most + 1)).map fun x => nrV [x] from congrFun List.filterMap_eq_map' _] at e1
    unfold b__law_number_rows_2
    rcases Nat.lt_or_ge many 2 with z | z
    · have hmm : many = 1 := by omega
      subst hmm
      (try simp only [f_seq, f_asg, f_name, f_tup, f_gcons, f_gnil, f_ret, f_retN, f_expr, f_if, f_nil, f_par, f_par3, f_fld, f_sub, w_op, w_un, w_app, w_acons, w_anil, w_C, w_var0, w_varS, w_callF, w_and, w_or, w_not, w_if, w_tval, w_tand, w_tor, w_tnot, w_tbl, w_ttrue, w_chain, w_prop, w_meth, w_methK, w_mkK', w_kw, w_sl, w_mpE, w_mpNo, w_vals, wp_ok, wp_bind, wp_nr, List.set, List.length_cons, List.length_nil, Nat.zero_add, Nat.reduceAdd, add_int, sub_int, le_int, lt_int, ge_int, gt_int, eqD_int, eqD_str, sl_tup, len_tup, truth, true_and, and_true, Bool.not_true, Bool.not_false, Bool.false_eq_true, if_false, if_true, List.cons_append, List.nil_append, List.append_nil, decide_true, decide_false, show decide (((1 : Nat) : Int) = 2) = false from rfl])
      refine law_rows_end (rs := (List.range (most + 1)).map fun x => [x]) h1 ht (by omega) (by omega) (by rw [numR_one]) (by rw [e1, List.map_map]; rfl) fun n g e l k => q n g e (by have := k1.len; omega) (k1.trans k)
    · have hmm : many = 2 := by omega
      subst hmm
      (try simp only [f_seq, f_asg, f_name, f_tup, f_gcons, f_gnil, f_ret, f_retN, f_expr, f_if, f_nil, f_par, f_par3, f_fld, f_sub, w_op, w_un, w_app, w_acons, w_anil, w_C, w_var0, w_varS, w_callF, w_and, w_or, w_not, w_if, w_tval, w_tand, w_tor, w_tnot, w_tbl, w_ttrue, w_chain, w_prop, w_meth, w_methK, w_mkK', w_kw, w_sl, w_mpE, w_mpNo, w_vals, wp_ok, wp_bind, wp_nr, List.set, List.length_cons, List.length_nil, Nat.zero_add, Nat.reduceAdd, add_int, sub_int, le_int, lt_int, ge_int, gt_int, eqD_int, eqD_str, sl_tup, len_tup, truth, true_and, and_true, Bool.not_true, Bool.not_false, Bool.false_eq_true, if_false, if_true, List.cons_append, List.nil_append, List.append_nil, decide_true, decide_false, show decide (((2 : Nat) : Int) = 2) = true from rfl])
      have hT : ((most : Int) + 1) * ((most : Int) + 1) = (((most + 1) * (most + 1) : Nat) : Int) := by push_cast; rfl
      have h100 : (most + 1) * (most + 1) ≤ 100 := Nat.le_trans (Nat.mul_le_mul (show most + 1 ≤ 10 by omega) (show most + 1 ≤ 10 by omega)) (by omega)
      obtain ⟨it, g2, hm2, k, rfl, e2, k2⟩ := (rows2_W (h := g1) (x0 := some (.int ((2 : Nat) : Int))) (x2 := some (.ref h.length)) (x3 := none) (x4 := none) (x5 := none) (x6 := none) (x7 := none) ht).ex
      refine lc_map nrV (fun r => some (nrV r)) hm2 (szl (by simp; omega)) (fun g K => K.k e2) (fun r hr g K => ?_) fun g3 k3 e3 => ?_
      · obtain ⟨i, _, rfl⟩ := List.mem_map.mp hr
        have ht2 : ∀ g, vTup [intN (i / (most + 1)), intN (i % (most + 1))] g = .ok (nrV [i / (most + 1), i % (most + 1)]) g := fun g => tup_v g (by simp)
        unfold lcB nrV
        (try simp only [f_seq, f_asg, f_name, f_tup, f_gcons, f_gnil, f_ret, f_retN, f_expr, f_if, f_nil, f_par, f_par3, f_fld, f_sub, w_op, w_un, w_app, w_acons, w_anil, w_C, w_var0, w_varS, w_callF, w_and, w_or, w_not, w_if, w_tval, w_tand, w_tor, w_tnot, w_tbl, w_ttrue, w_chain, w_prop, w_meth, w_methK, w_mkK', w_kw, w_sl, w_mpE, w_mpNo, w_vals, wp_ok, wp_bind, wp_nr, List.set, List.length_cons, List.length_nil, Nat.zero_add, Nat.reduceAdd, add_int, sub_int, le_int, lt_int, ge_int, gt_int, eqD_int, eqD_str, sl_tup, len_tup, truth, true_and, and_true, Bool.not_true, Bool.not_false, Bool.false_eq_true, if_false, if_true, List.cons_append, List.nil_append, List.append_nil, decide_true, decide_false, Tg.bd, wipeL, setAll, List.map_cons, List.map_nil, ht2])
        exact ⟨Kp.refl _ _, rfl⟩
      · rw [fm_mapU] at e3
        (try simp only [f_seq, f_asg, f_name, f_tup, f_gcons, f_gnil, f_ret, f_retN, f_expr, f_if, f_nil, f_par, f_par3, f_fld, f_sub, w_op, w_un, w_app, w_acons, w_anil, w_C, w_var0, w_varS, w_callF, w_and, w_or, w_not, w_if, w_tval, w_tand, w_tor, w_tnot, w_tbl, w_ttrue, w_chain, w_prop, w_meth, w_methK, w_mkK', w_kw, w_sl, w_mpE, w_mpNo, w_vals, wp_ok, wp_bind, wp_nr, List.set, List.length_cons, List.length_nil, Nat.zero_add, Nat.reduceAdd, add_int, sub_int, le_int, lt_int, ge_int, gt_int, eqD_int, eqD_str, sl_tup, len_tup, truth, true_and, and_true, Bool.not_true, Bool.not_false, Bool.false_eq_true, if_false, if_true, List.cons_append, List.nil_append, List.append_nil, decide_true, decide_false])
        exact law_rows_end h1 ht (by omega) (by omega) (rows2_perm most) e3 fun n g e l k => q n g e (by have := k1.len; have := k2.len; have := k3.len; omega) (((k1.trans k2).trans k3).trans k)
end
end U
namespace U
open PySem L2
section
variable {σ : Loc} {h h1 : Hh} {QV : Val → Hh → Prop} {N : Loc → Hh → Prop} {R : Val → Hh → Prop} {n m c d a : Nat} {kd : Str} {l : List (Str × Int)} {ws ss : List Int} {sp : Int} {ks : List Str} {r : List Nat}
theorem zipV_kr : ∀ (ks : List Str) (r : List Nat), zipV (ks.map Val.str) (r.map intN) = ((zipN ks r).map fun p => (p.1, Val.int p.2)).map fun p => Val.tup [.str p.1, p.2]
  | [], r => by cases r <;> rfl
  | x :: ks, [] => rfl
  | x :: ks, y :: r => by
    have ih := zipV_kr ks r
    unfold zipN at ih ⊢
    rw [List.map_cons, List.map_cons, zipV, ih]
    rfl
theorem zip_dict (ea : h[a]? = some (.lst (ks.map .str))) (hn : ks.Nodup) (hr : r.length = ks.length) {Q : Val → Hh → Prop} (q : ∀ m g, g[m]? = some (.dct (nd (zipN ks r))) → h.length ≤ m → Kp [] h g → Q (.ref m) g) : Wp (vZipX [.ref a, nrV r] h) fun v g => Wp (vDict [v] g) Q := by
  have hz : vZipX [.ref a, nrV r] h = .ok (.ref h.length) (h ++ [.lst (((zipN ks r).map fun p => (p.1, Val.int p.2)).map fun p => Val.tup [.str p.1, p.2])]) := by
    simp only [vZipX, nrV, seqV, ea, zipV_kr]
  rw [hz, wp_ok]
  have e1 := app_new h (.lst (((zipN ks r).map fun p => (p.1, Val.int p.2)).map fun p => Val.tup [.str p.1, p.2]))
  have hn2 : (((zipN ks r).map fun p => (p.1, Val.int p.2)).map (·.1)).Nodup := by
    rw [List.map_map]
    show ((zipN ks r).map (·.1)).Nodup
    rw [zipN_keys hr]; exact hn
  rw [dict_lst e1 hn2, ← nd_sd, wp_ok]
  exact q _ _ (app_new _ _) (by simp) (((Kp.refl [] h).app _).app _)
theorem law_with0_ok {c0 : Nat} (e0 : h[c0]? = some (.dct [])) (h4 : 4 ≤ h.length) (ea : h[a]? = some (.lst (ks.map .str))) (hn : ks.Nodup) (hr : r.length = ks.length)
    (q : ∀ c' n' g, g[c']? = some (.dct [(.str "numbers", .ref n')]) → g[n']? = some (.dct (nd (zipN ks r))) → h.length ≤ c' → Kp [] h g → QV (.ref c') g) : Wp (f__law_with [.ref c0, .ref a, nrV r] h) QV := by
  unfold f__law_with b__law_with
  rw [w_fn]
  show WpF (msSeq _ _ [some (.ref c0), some (.ref a), some (nrV r), none] h) _ _
  have hi : vItems (.ref c0) h = .ok (.ref h.length) (h ++ [.lst []]) := by simp only [vItems, e0]; rfl
  (try simp only [f_seq, f_asg, f_name, f_tup, f_gcons, f_gnil, f_ret, f_retN, f_expr, f_if, f_nil, f_par, f_par3, f_fld, f_sub, w_op, w_un, w_app, w_acons, w_anil, w_C, w_var0, w_varS, w_callF, w_and, w_or, w_not, w_if, w_tval, w_tand, w_tor, w_tnot, w_tbl, w_ttrue, w_chain, w_prop, w_meth, w_methK, w_mkK', w_kw, w_sl, w_mpE, w_mpNo, w_vals, wp_ok, wp_bind, wp_nr, List.set, List.length_cons, List.length_nil, Nat.zero_add, Nat.reduceAdd, add_int, sub_int, le_int, lt_int, ge_int, gt_int, eqD_int, eqD_str, sl_tup, len_tup, truth, true_and, and_true, Bool.not_true, Bool.not_false, Bool.false_eq_true, if_false, if_true, List.cons_append, List.nil_append, List.append_nil, decide_true, decide_false, w_items, hi])
  have e1 := app_new h (.lst [])
  have e1' : (h ++ [Ob.lst []])[h.length]? = some (.lst (([] : List (Str × Val)).map fun p => .tup [.str p.1, p.2])) := e1
  rw [dict_lst e1' (by simp)]
  have k1 : Kp [] h (h ++ [Ob.lst []] ++ [.dct (sd [])]) := ((Kp.refl [] h).app _).app _
  have e2 := app_new (h ++ [Ob.lst []]) (.dct (sd []))
  have hl2 : (h ++ [Ob.lst []]).length = h.length + 1 := by simp
  generalize hc2 : (h ++ [Ob.lst []]).length = c2 at e2 hl2 ⊢
  generalize h ++ [Ob.lst []] ++ [Ob.dct (sd [])] = g1 at e2 k1 ⊢
  (try simp only [f_seq, f_asg, f_name, f_tup, f_gcons, f_gnil, f_ret, f_retN, f_expr, f_if, f_nil, f_par, f_par3, f_fld, f_sub, w_op, w_un, w_app, w_acons, w_anil, w_C, w_var0, w_varS, w_callF, w_and, w_or, w_not, w_if, w_tval, w_tand, w_tor, w_tnot, w_tbl, w_ttrue, w_chain, w_prop, w_meth, w_methK, w_mkK', w_kw, w_sl, w_mpE, w_mpNo, w_vals, wp_ok, wp_bind, wp_nr, List.set, List.length_cons, List.length_nil, Nat.zero_add, Nat.reduceAdd, add_int, sub_int, le_int, lt_int, ge_int, gt_int, eqD_int, eqD_str, sl_tup, len_tup, truth, true_and, and_true, Bool.not_true, Bool.not_false, Bool.false_eq_true, if_false, if_true, List.cons_append, List.nil_append, List.append_nil, decide_true, decide_false])
  unfold b__law_with_2
  (try simp only [f_seq, f_asg, f_name, f_tup, f_gcons, f_gnil, f_ret, f_retN, f_expr, f_if, f_nil, f_par, f_par3, f_fld, f_sub, w_op, w_un, w_app, w_acons, w_anil, w_C, w_var0, w_varS, w_callF, w_and, w_or, w_not, w_if, w_tval, w_tand, w_tor, w_tnot, w_tbl, w_ttrue, w_chain, w_prop, w_meth, w_methK, w_mkK', w_kw, w_sl, w_mpE, w_mpNo, w_vals, wp_ok, wp_bind, wp_nr, List.set, List.length_cons, List.length_nil, Nat.zero_add, Nat.reduceAdd, add_int, sub_int, le_int, lt_int, ge_int, gt_int, eqD_int, eqD_str, sl_tup, len_tup, truth, true_and, and_true, Bool.not_true, Bool.not_false, Bool.false_eq_true, if_false, if_true, List.cons_append, List.nil_append, List.append_nil, decide_true, decide_false])
  refine zip_dict (k1.k ea) hn hr fun nn g2 e3 l3 k2 => ?_
  have e2' := k2.k e2
  have hs : vSet (.ref c2) (.str "numbers") (.ref nn) g2 = some (g2.set c2 (.dct [(.str "numbers", .ref nn)])) := by
    have hs : (0 : Nat) < sizeLine := by decide
    simp [vSet, e2', keyOf, sd, dPut, hs]
  (try simp only [f_seq, f_asg, f_name, f_tup, f_gcons, f_gnil, f_ret, f_retN, f_expr, f_if, f_nil, f_par, f_par3, f_fld, f_sub, w_op, w_un, w_app, w_acons, w_anil, w_C, w_var0, w_varS, w_callF, w_and, w_or, w_not, w_if, w_tval, w_tand, w_tor, w_tnot, w_tbl, w_ttrue, w_chain, w_prop, w_meth, w_methK, w_mkK', w_kw, w_sl, w_mpE, w_mpNo, w_vals, wp_ok, wp_bind, wp_nr, List.set, List.length_cons, List.length_nil, Nat.zero_add, Nat.reduceAdd, add_int, sub_int, le_int, lt_int, ge_int, gt_int, eqD_int, eqD_str, sl_tup, len_tup, truth, true_and, and_true, Bool.not_true, Bool.not_false, Bool.false_eq_true, if_false, if_true, List.cons_append, List.nil_append, List.append_nil, decide_true, decide_false, hs])
  unfold b__law_with_1
  (try simp only [f_seq, f_asg, f_name, f_tup, f_gcons, f_gnil, f_ret, f_retN, f_expr, f_if, f_nil, f_par, f_par3, f_fld, f_sub, w_op, w_un, w_app, w_acons, w_anil, w_C, w_var0, w_varS, w_callF, w_and, w_or, w_not, w_if, w_tval, w_tand, w_tor, w_tnot, w_tbl, w_ttrue, w_chain, w_prop, w_meth, w_methK, w_mkK', w_kw, w_sl, w_mpE, w_mpNo, w_vals, wp_ok, wp_bind, wp_nr, List.set, List.length_cons, List.length_nil, Nat.zero_add, Nat.reduceAdd, add_int, sub_int, le_int, lt_int, ge_int, gt_int, eqD_int, eqD_str, sl_tup, len_tup, truth, true_and, and_true, Bool.not_true, Bool.not_false, Bool.false_eq_true, if_false, if_true, List.cons_append, List.nil_append, List.append_nil, decide_true, decide_false])
  have hcl := lt_of e2
  exact q c2 nn _ (set_self e2') (set_at e3 (by omega)) (by omega) ((k1.trans k2).set' (by omega))
theorem songs_in0_ok {M : Int} (ec : h[c]? = some (.dct [(.str "numbers", .ref n)])) (en : h[n]? = some (.dct (nd l))) (ok : okNum l 3 M) (q : ∀ n d g, SongsAt n d (srt l) g → h.length ≤ n → h.length ≤ d → Kp [] h g → QV (.ref n) g) : Wp (f__law_songs [.ref c] h) QV := by
  unfold f__law_songs b__law_songs
  rw [w_fn]
  show WpF (msRet _ [some (.ref c)] h) _ _
  have hx : vIx (.ref c) (.str "numbers") h = .ok (.ref n) h := by simp [vIx, ec, keyOf, dGet]
  simp only [f_seq, f_asg, f_name, f_tup, f_gcons, f_gnil, f_ret, f_retN, f_expr, f_if, f_nil, f_par, f_par3, f_fld, f_sub, w_op, w_un, w_app, w_acons, w_anil, w_C, w_var0, w_varS, w_callF, w_and, w_or, w_not, w_if, w_tval, w_tand, w_tor, w_tnot, w_tbl, w_ttrue, w_chain, w_prop, w_meth, w_methK, w_mkK', w_kw, w_sl, w_mpE, w_mpNo, w_vals, wp_ok, wp_bind, wp_nr, List.set, List.length_cons, List.length_nil, Nat.zero_add, Nat.reduceAdd, add_int, sub_int, le_int, lt_int, ge_int, gt_int, eqD_int, eqD_str, sl_tup, len_tup, truth, true_and, and_true, Bool.not_true, Bool.not_false, Bool.false_eq_true, if_false, if_true, List.cons_append, List.nil_append, List.append_nil, decide_true, decide_false, w_items, hx]
  refine copy_nd en ok.nd fun m g1 e1 l1 k1 => ?_
  exact k_songs ok e1 fun n' d' g2 S l2 l3 k2 => q n' d' g2 S (by have := k1.len; omega) (by have := k1.len; omega) (k1.trans k2)
def stDU (ks : List Str) : List PyData := ks.map PyData.str
theorem toDs_strsU (k : Nat) (h : Hh) : ∀ ks : List Str, toDs (k + 1) h (ks.map Val.str) = some (stDU ks)
  | [] => by simp [toDs, stDU]
  | x :: ks => by
    rw [List.map_cons]
    exact toDs_cons (by simp [toD]) (toDs_strsU k h ks)
theorem dzs_strs : ∀ ks : List Str, (∀ k ∈ ks, okName k) → dzs (stDU ks) ≤ 10 * ks.length
  | [], _ => by simp [stDU, dzs]
  | x :: ks, o => by
    have ih := dzs_strs ks fun k hk => o k (List.mem_cons_of_mem _ hk)
    have := dz_str (o x List.mem_cons_self)
    have e : stDU (x :: ks) = PyData.str x :: stDU ks := rfl
    rw [e, dzs, List.length_cons]
    omega
theorem rep_strs (o : ∀ k ∈ ks, okName k) (hl : ks.length ≤ 900) (ea : h[a]? = some (.lst (ks.map .str))) : vRepr [.ref a] h = .ok (.str (PyData.list (stDU ks)).shown) h :=
  repr_ok (toD_lst ea (toDs_strsU 28 h ks)) (by have := dzs_strs ks o; unfold dz; omega)
theorem hits_sameU : ∀ (l l' : List (Str × Int)), (∀ p ∈ l', l.lookup p.1 = some p.2) → eqHits (nd l) (nd l') = some true
  | _, [], _ => rfl
  | l, p :: l', hl => by
    have ih := hits_sameU l l' fun q hq => hl q (List.mem_cons_of_mem _ hq)
    have h1 := hl p List.mem_cons_self
    show eqHits (nd l) ((.str p.1, .int p.2) :: nd l') = some true
    have hg : dGet (nd l) (.str p.1) = some (.int p.2) := by
      rw [lookup_nd, h1]; rfl
    simp only [eqHits, keyOf, hg, ih, Option.map_some, decide_true, Bool.and_self]
end
end U
namespace U
open PySem L2
section
variable {σ : Loc} {h h1 : Hh} {QV : Val → Hh → Prop} {N : Loc → Hh → Prop} {R : Val → Hh → Prop} {n m c d a : Nat} {kd : Str} {ks : List Str} {l : List (Str × Int)}
theorem sSort_sameV {a b : List Str} (p : a.Perm b) : sSort a = sSort b := by
  refine List.Perm.eq_of_pairwise (le := fun a b => strLe a b = true) (fun a b _ _ => strLe_anti a b) (List.pairwise_mergeSort strLe_trans strLe_total a) (List.pairwise_mergeSort strLe_trans strLe_total b) ?_
  exact (List.mergeSort_perm a strLe).trans (p.trans (List.mergeSort_perm b strLe).symm)
theorem okKs.permV {a b : List Str} (o : okKs a) (p : b.Perm a) : okKs b := ⟨by rw [p.length_eq]; exact o.l1, by rw [p.length_eq]; exact o.l2, p.nodup_iff.mpr o.nd, fun k hk => o.nm k (p.mem_iff.mp hk)⟩
theorem k_revV {m : Nat} {xs : List Val} (e : h[m]? = some (.lst xs)) (q : ∀ n g, g[n]? = some (.lst xs.reverse) → h.length ≤ n → Kp [] h g → QV (.ref n) g) : Wp (vRev (.ref m) h) QV := by
  simp only [vRev, e]
  exact .ok (q _ _ (app_new h _) (Nat.le_refl _) ((Kp.refl _ _).app _))
theorem own_songsF {d d' : Nat} (hn : (l.map (·.1)).Nodup) (S : SongsAt n d l h) (S' : SongsAt m d' l h) : vOwn "Songs" kCs 2 f_Songs_eq false (.ref n) (.ref m) h = .ok (.bl true) h := by
  have t : tyNm (.ref m) h = some (.inr "Songs") := by simp [tyNm, S'.e]
  have i1 : vIsi kCs kTys [.ref m, .gl "Songs"] h = .ok (.bl true) h := by rw [isi_o t ⟨songs_in, songs_in⟩]; simp
  have f1 := fld_of S'.e songs_in gf_n
  have f2 := fld_of S.e songs_in gf_n
  have e1 : vEqI (.ref d') (.ref d) h = .ok (.bl true) h := by
    have := hits_sameU l l fun p hp => lookup_mem hn hp
    simp only [vEqI, S.ed, S'.ed, this, beq_self_eq_true, Bool.and_self]
  have e2 : f_Songs_eq [.ref n, .ref m] h = .ok (.bl true) h := by
    simp [f_Songs_eq, b_Songs_eq, mkFn, msRet, mAnd, mOp, mUn, mApp, maCons, maNil, mC, i1, truth, f1, f2, e1]
  simp [vOwn, isIn_of S.e, t, songs_in, callF, e2]
def Lay (ks : List Str) (rs : List (List Nat)) (ys : List Val) (g : Hh) : Prop := ys.length = rs.length ∧ ∀ (k : Nat) (y : Val), ys[k]? = some y → ∃ (r : List Nat) (m d : Nat), rs[k]? = some r ∧ y = Val.ref m ∧ SongsAt m d (srt (zipN ks r)) g ∧ ((srt (zipN ks r)).map (·.1)).Nodup
theorem Lay.k {rs : List (List Nat)} {ys : List Val} {g : Hh} (L : Lay ks rs ys h) (K : Kp [] h g) : Lay ks rs ys g := ⟨L.1, fun k y e => by
  obtain ⟨r, m, d, e1, e2, S, hn⟩ := L.2 k y e
  exact ⟨r, m, d, e1, e2, S.k K, hn⟩⟩
theorem eqFrom_lay {rs : List (List Nat)} {ys zs : List Val} (en : h[n]? = some (.lst ys)) (em : h[m]? = some (.lst zs)) (L : Lay ks rs ys h) (M : Lay ks rs zs h) : ∀ d k : Nat, k + d = rs.length → eqFrom (vEqB (vOwn "Songs" kCs 2 f_Songs_eq false)) n m true d k h = .ok (.bl false) h
  | 0, k, hk => by
    unfold eqFrom
    have l1 := L.1
    have l2 := M.1
    simp only [en, em]
    rw [if_pos (by omega)]
    rfl
  | d + 1, k, hk => by
    have ih := eqFrom_lay en em L M d (k + 1) (by omega)
    have l1 := L.1
    have l2 := M.1
    unfold eqFrom
    simp only [en, em]
    have hy : ys[k]? = some ys[k] := List.getElem?_eq_getElem (by omega)
    have hz : zs[k]? = some zs[k] := List.getElem?_eq_getElem (by omega)
    obtain ⟨r, a, b, e1, e2, S, hn⟩ := L.2 k _ hy
    obtain ⟨r', a', b', e1', e2', S', _⟩ := M.2 k _ hz
    rw [e1] at e1'
    cases e1'
    rw [hy, hz, e2, e2']
    have hf : vEqB (vOwn "Songs" kCs 2 f_Songs_eq false) (.ref a) (.ref a') h = .ok (.bl true) h := by
      unfold vEqB
      dsimp only
      by_cases haa : a = a'
      · rw [if_pos haa]
      · rw [if_neg haa]
        exact own_songsF hn S S'
    dsimp only
    rw [hf]
    exact ih
theorem eqLO_lay {rs : List (List Nat)} {ys zs : List Val} (en : h[n]? = some (.lst ys)) (em : h[m]? = some (.lst zs)) (L : Lay ks rs ys h) (M : Lay ks rs zs h) : vEqLO (vEqB (vOwn "Songs" kCs 2 f_Songs_eq false)) true (.ref n) (.ref m) h = .ok (.bl false) h := by
  have l1 := L.1
  have l2 := M.1
  unfold vEqLO
  simp only [en, em]
  rw [if_pos (by omega)]
  exact eqFrom_lay en em L M ys.length 0 (by omega)
def ndP (l : List (Str × Int)) : List (PyData × PyData) := l.map fun p => (PyData.str p.1, PyData.int p.2)
theorem toDk_nd (k : Nat) (h : Hh) : ∀ l : List (Str × Int), toDk (k + 1) h (nd l) = some (ndP l)
  | [] => by simp [toDk, ndP, nd]
  | p :: l => by
    have ih := toDk_nd k h l
    show toDk (k + 1) h ((.str p.1, .int p.2) :: nd l) = _
    simp only [toDk, toD, ih]
    rfl
theorem dz_nd {M : Int} (hM : M ≤ 1000000) : ∀ {l : List (Str × Int)}, (∀ p ∈ l, okName p.1) → (∀ p ∈ l, 0 ≤ p.2 ∧ p.2 ≤ M) → dzk (ndP l) ≤ 200 * l.length
  | [], _, _ => by simp [ndP, dzk]
  | p :: l, o, v => by
    have ih := dz_nd hM (l := l) (fun q hq => o q (List.mem_cons_of_mem _ hq)) fun q hq => v q (List.mem_cons_of_mem _ hq)
    have e1 := dz_str (o p List.mem_cons_self)
    have hv := v p List.mem_cons_self
    have e2 : dz (.int p.2) ≤ 141 := by
      have h4 : p.2.natAbs < 10 ^ 40 := by omega
      simp only [dz, if_pos h4]
      omega
    simp only [ndP, List.map_cons, dzk, List.length_cons] at ih ⊢
    omega
theorem rep_nd {M : Int} (hM : M ≤ 1000000) (o : okNum l 3 M) (e : h[n]? = some (.dct (nd l))) : vRepr [.ref n] h = .ok (.str (PyData.dict (ndP l)).shown) h := by
  have t : toD 30 h (.ref n) = some (.dict (ndP l)) := by simp only [toD, e, toDk_nd 28 h l]; rfl
  refine repr_ok t ?_
  have := dz_nd hM o.nm o.vl
  have := o.lK
  unfold dz
  omega
theorem lists_up_to_ok {kv : Val} {most : Nat} (o : okKs ks) (oS : okKs (sSort ks)) (H : KsV kv ks h) (h1 : 1 ≤ most) (ht : most ≤ 9)
    (q : ∀ n ys g, Lay (sSort ks) (srR (sSort ks).length most) ys g → g[n]? = some (.lst ys) → h.length ≤ n → Kp [] h g → QV (.ref n) g) : Wp (f_lists_up_to [kv, .int (most : Nat)] h) QV := by
  unfold f_lists_up_to b_lists_up_to
  rw [w_fn]
  show WpF (msSeq _ _ [some kv, some (.int (most : Nat)), none] h) _ _
  (try simp only [f_seq, f_asg, f_name, f_tup, f_gcons, f_gnil, f_ret, f_retN, f_expr, f_if, f_nil, f_par, f_par3, f_fld, f_sub, w_op, w_un, w_app, w_acons, w_anil, w_C, w_var0, w_varS, w_callF, w_and, w_or, w_not, w_if, w_tval, w_tand, w_tor, w_tnot, w_tbl, w_ttrue, w_chain, w_prop, w_meth, w_methK, w_mkK', w_kw, w_sl, w_mpE, w_mpNo, w_vals, wp_ok, wp_bind, wp_nr, List.set, List.length_cons, List.length_nil, Nat.zero_add, Nat.reduceAdd, add_int, sub_int, le_int, lt_int, ge_int, gt_int, eqD_int, eqD_str, sl_tup, len_tup, truth, true_and, and_true, Bool.not_true, Bool.not_false, Bool.false_eq_true, if_false, if_true, List.cons_append, List.nil_append, List.append_nil, decide_true, decide_false])
  refine need_kinds_ok o H fun a g1 e1 l1 k1 => ?_
  (try simp only [f_seq, f_asg, f_name, f_tup, f_gcons, f_gnil, f_ret, f_retN, f_expr, f_if, f_nil, f_par, f_par3, f_fld, f_sub, w_op, w_un, w_app, w_acons, w_anil, w_C, w_var0, w_varS, w_callF, w_and, w_or, w_not, w_if, w_tval, w_tand, w_tor, w_tnot, w_tbl, w_ttrue, w_chain, w_prop, w_meth, w_methK, w_mkK', w_kw, w_sl, w_mpE, w_mpNo, w_vals, wp_ok, wp_bind, wp_nr, List.set, List.length_cons, List.length_nil, Nat.zero_add, Nat.reduceAdd, add_int, sub_int, le_int, lt_int, ge_int, gt_int, eqD_int, eqD_str, sl_tup, len_tup, truth, true_and, and_true, Bool.not_true, Bool.not_false, Bool.false_eq_true, if_false, if_true, List.cons_append, List.nil_append, List.append_nil, decide_true, decide_false])
  unfold b_lists_up_to_2
  (try simp only [f_seq, f_asg, f_name, f_tup, f_gcons, f_gnil, f_ret, f_retN, f_expr, f_if, f_nil, f_par, f_par3, f_fld, f_sub, w_op, w_un, w_app, w_acons, w_anil, w_C, w_var0, w_varS, w_callF, w_and, w_or, w_not, w_if, w_tval, w_tand, w_tor, w_tnot, w_tbl, w_ttrue, w_chain, w_prop, w_meth, w_methK, w_mkK', w_kw, w_sl, w_mpE, w_mpNo, w_vals, wp_ok, wp_bind, wp_nr, List.set, List.length_cons, List.length_nil, Nat.zero_add, Nat.reduceAdd, add_int, sub_int, le_int, lt_int, ge_int, gt_int, eqD_int, eqD_str, sl_tup, len_tup, truth, true_and, and_true, Bool.not_true, Bool.not_false, Bool.false_eq_true, if_false, if_true, List.cons_append, List.nil_append, List.append_nil, decide_true, decide_false, is_integer_int, show decide ((1 : Int) ≤ (most : Nat)) = true from decide_eq_true (by omega), show decide (((most : Nat) : Int) ≤ 9) = true from decide_eq_true (by omega)])
  unfold b_lists_up_to_1
  (try simp only [f_seq, f_asg, f_name, f_tup, f_gcons, f_gnil, f_ret, f_retN, f_expr, f_if, f_nil, f_par, f_par3, f_fld, f_sub, w_op, w_un, w_app, w_acons, w_anil, w_C, w_var0, w_varS, w_callF, w_and, w_or, w_not, w_if, w_tval, w_tand, w_tor, w_tnot, w_tbl, w_ttrue, w_chain, w_prop, w_meth, w_methK, w_mkK', w_kw, w_sl, w_mpE, w_mpNo, w_vals, wp_ok, wp_bind, wp_nr, List.set, List.length_cons, List.length_nil, Nat.zero_add, Nat.reduceAdd, add_int, sub_int, le_int, lt_int, ge_int, gt_int, eqD_int, eqD_str, sl_tup, len_tup, truth, true_and, and_true, Bool.not_true, Bool.not_false, Bool.false_eq_true, if_false, if_true, List.cons_append, List.nil_append, List.append_nil, decide_true, decide_false])
  refine lists_of_ok e1 oS h1 ht fun n ys g hl hP e l k => q n ys g ⟨hl, fun j y hy => ?_⟩ e (by have := k1.len; omega) (k1.trans k)
  obtain ⟨r, m, d, p1, p2, p3⟩ := hP j y hy
  obtain ⟨⟨m1, m2⟩, m3⟩ := mem_srR.mp (List.mem_of_getElem? p1)
  exact ⟨r, m, d, p1, p2, p3, (srt_okN (zipN_ok oS m1 m2 m3)).nd⟩
def RZ32 : Val → Hh → Prop := fun v _ => v = .bl true
theorem srR_ne {many most : Nat} (hm : 1 ≤ many) (h1 : 1 ≤ most) : 1 ≤ (srR many most).length := by
  have : List.replicate many 1 ∈ srR many most := mem_srR.mpr ⟨⟨by simp, fun x hx => by rw [List.eq_of_mem_replicate hx]; exact h1⟩, by rw [List.sum_replicate_nat]; omega⟩
  exact List.length_pos_of_mem this
theorem srR_le {many most : Nat} (h2 : many ≤ 2) (ht : most ≤ 9) : (srR many most).length ≤ 100 := by
  unfold srR
  rw [(srtK_perm srD _).length_eq]
  refine Nat.le_trans (List.length_filter_le _ _) ?_
  rw [numR_len]
  have h10 : most + 1 ≤ 10 := by omega
  exact Nat.le_trans (Nat.pow_le_pow_right (by omega) h2) (Nat.le_trans (Nat.pow_le_pow_left h10 2) (by omega))
theorem k32_lap {x2 x5 x6 x7 x8 x9 : Option Val} {nx most : Nat} (D : Dw h) (o : okKs ks) (h1 : 1 ≤ most) (ht : most ≤ 9) (em : h[nx]? = some (.lst (ks.map .str))) (h4 : 4 ≤ nx)
    (q : ∀ x5 x6 x7 x8 x9 g, Dw g → N [some (.ref 0), some (.ref 2), x2, some (.ref nx), some (.int (most : Nat)), x5, x6, x7, x8, x9] g) :
    WpF (b_law_7 [some (.ref 0), some (.ref 2), x2, some (.ref nx), some (.int (most : Nat)), x5, x6, x7, x8, x9] h) N RZ32 := by
  have oS : okKs (sSort ks) := o.permV (sSort_perm ks)
  have orv : okKs ks.reverse := o.permV (List.reverse_perm ks)
  have hrs : sSort ks.reverse = sSort ks := sSort_sameV (List.reverse_perm ks)
  have hsl : (sSort ks).length = ks.length := (sSort_perm ks).length_eq
  have kl1 := o.l1
  have kl2 := o.l2
  have hD := D.len
  have hlen := srR_le (many := ks.length) kl2 ht
  have hne := srR_ne (many := ks.length) kl1 h1
  unfold b_law_7
  have hvl : vLen [.ref nx] h = .ok (.int (ks.length : Nat)) h := by rw [len_lst em, List.length_map]
  have hmW : Wp (miVal (mApp (callF 2 f__law_number_rows) (maCons (mApp vLen (maCons (mVar 3) maNil)) (maCons (mVar 4) maNil))) [some (.ref 0), some (.ref 2), x2, some (.ref nx), some (.int (most : Nat)), x5, x6, x7, x8, x9] h) fun it (g : Hh) => ∃ n : Nat, it = ⟨(srR ks.length most).map nrV, fun g : Hh => g[n]? = some (Ob.lst ((srR ks.length most).map nrV)), none⟩ ∧ g[n]? = some (Ob.lst ((srR ks.length most).map nrV)) ∧ Kp [] h g := by
    unfold miVal
    rw [wp_bind]
    (try simp only [f_seq, f_asg, f_name, f_tup, f_gcons, f_gnil, f_ret, f_retN, f_expr, f_if, f_nil, f_par, f_par3, f_fld, f_sub, w_op, w_un, w_app, w_acons, w_anil, w_C, w_var0, w_varS, w_callF, w_and, w_or, w_not, w_if, w_tval, w_tand, w_tor, w_tnot, w_tbl, w_ttrue, w_chain, w_prop, w_meth, w_methK, w_mkK', w_kw, w_sl, w_mpE, w_mpNo, w_vals, wp_ok, wp_bind, wp_nr, List.set, List.length_cons, List.length_nil, Nat.zero_add, Nat.reduceAdd, add_int, sub_int, le_int, lt_int, ge_int, gt_int, eqD_int, eqD_str, sl_tup, len_tup, truth, true_and, and_true, Bool.not_true, Bool.not_false, Bool.false_eq_true, if_false, if_true, List.cons_append, List.nil_append, List.append_nil, decide_true, decide_false, hvl])
    refine law_number_rows_ok h1 ht kl1 kl2 fun n g e l k => ?_
    dsimp only
    rw [e]
    exact .ok ⟨n, rfl, e, k⟩
  obtain ⟨it, g1, hm, rn, rfl, e1, k1⟩ := hmW.ex
  (try simp only [f_seq, f_asg, f_name, f_tup, f_gcons, f_gnil, f_ret, f_retN, f_expr, f_if, f_nil, f_par, f_par3, f_fld, f_sub, w_op, w_un, w_app, w_acons, w_anil, w_C, w_var0, w_varS, w_callF, w_and, w_or, w_not, w_if, w_tval, w_tand, w_tor, w_tnot, w_tbl, w_ttrue, w_chain, w_prop, w_meth, w_methK, w_mkK', w_kw, w_sl, w_mpE, w_mpNo, w_vals, wp_ok, wp_bind, wp_nr, List.set, List.length_cons, List.length_nil, Nat.zero_add, Nat.reduceAdd, add_int, sub_int, le_int, lt_int, ge_int, gt_int, eqD_int, eqD_str, sl_tup, len_tup, truth, true_and, and_true, Bool.not_true, Bool.not_false, Bool.false_eq_true, if_false, if_true, List.cons_append, List.nil_append, List.append_nil, decide_true, decide_false])
  refine lc_allY (S := []) (fun k y g => ∃ r m d, (srR ks.length most)[k]? = some r ∧ y = Val.ref m ∧ SongsAt m d (srt (zipN (sSort ks) r)) g ∧ g1.length < m ∧ g1.length < d) (fun _ => True) hm rfl (szl (by rw [List.length_map]; omega)) (by simp) trivial (fun _ _ _ _ => trivial) (fun k y g g' ⟨r, m, d, p1, p2, p3, p4, p5⟩ K => ⟨r, m, d, p1, p2, ⟨K.at_ _ _ p3.e (by simp; omega), K.at_ _ _ p3.ed (by simp; omega)⟩, p4, p5⟩) (fun g K => K.k e1) (fun k v g ev _ K hlt => ?_) fun ys g2 hl hP _ K2 hlt e2 => ?_
  · have ev : ((srR ks.length most).map nrV)[k]? = some v := ev
    rw [List.getElem?_map] at ev
    obtain ⟨r, hr, rfl⟩ : ∃ r, (srR ks.length most)[k]? = some r ∧ v = nrV r := by
      cases e : (srR ks.length most)[k]? with
      | none => rw [e] at ev; cases ev
      | some p => rw [e] at ev; exact ⟨p, rfl, by simpa using ev.symm⟩
    obtain ⟨⟨m1, m2⟩, m3⟩ := mem_srR.mp (List.mem_of_getElem? hr)
    have hz := zipN_ok oS (r := r) (by rw [hsl]; exact m1) m2 m3
    have emg := (k1.trans K).k em
    unfold lcB
    (try simp only [f_seq, f_asg, f_name, f_tup, f_gcons, f_gnil, f_ret, f_retN, f_expr, f_if, f_nil, f_par, f_par3, f_fld, f_sub, w_op, w_un, w_app, w_acons, w_anil, w_C, w_var0, w_varS, w_callF, w_and, w_or, w_not, w_if, w_tval, w_tand, w_tor, w_tnot, w_tbl, w_ttrue, w_chain, w_prop, w_meth, w_methK, w_mkK', w_kw, w_sl, w_mpE, w_mpNo, w_vals, wp_ok, wp_bind, wp_nr, List.set, List.length_cons, List.length_nil, Nat.zero_add, Nat.reduceAdd, add_int, sub_int, le_int, lt_int, ge_int, gt_int, eqD_int, eqD_str, sl_tup, len_tup, truth, true_and, and_true, Bool.not_true, Bool.not_false, Bool.false_eq_true, if_false, if_true, List.cons_append, List.nil_append, List.append_nil, decide_true, decide_false, Tg.bd, wipeL, setAll])
    refine k_newD fun e0 g3 ee le k3 => ?_
    (try simp only [f_seq, f_asg, f_name, f_tup, f_gcons, f_gnil, f_ret, f_retN, f_expr, f_if, f_nil, f_par, f_par3, f_fld, f_sub, w_op, w_un, w_app, w_acons, w_anil, w_C, w_var0, w_varS, w_callF, w_and, w_or, w_not, w_if, w_tval, w_tand, w_tor, w_tnot, w_tbl, w_ttrue, w_chain, w_prop, w_meth, w_methK, w_mkK', w_kw, w_sl, w_mpE, w_mpNo, w_vals, wp_ok, wp_bind, wp_nr, List.set, List.length_cons, List.length_nil, Nat.zero_add, Nat.reduceAdd, add_int, sub_int, le_int, lt_int, ge_int, gt_int, eqD_int, eqD_str, sl_tup, len_tup, truth, true_and, and_true, Bool.not_true, Bool.not_false, Bool.false_eq_true, if_false, if_true, List.cons_append, List.nil_append, List.append_nil, decide_true, decide_false])
    have em3 := k3.k emg
    have hsrt : vSortS [.ref nx] g3 = .ok (.ref g3.length) (g3 ++ [.lst ((sSort ks).map Val.str)]) := by
      simp only [vSortS, em3, strsOf'_map]; rw [if_pos (by omega)]
    rw [hsrt]
    have ea := app_new g3 (.lst ((sSort ks).map Val.str))
    have k4 : Kp [] g3 (g3 ++ [.lst ((sSort ks).map Val.str)]) := (Kp.refl _ _).app _
    generalize g3.length = an at ea
    generalize g3 ++ [Ob.lst ((sSort ks).map Val.str)] = g4 at ea k4
    (try simp only [f_seq, f_asg, f_name, f_tup, f_gcons, f_gnil, f_ret, f_retN, f_expr, f_if, f_nil, f_par, f_par3, f_fld, f_sub, w_op, w_un, w_app, w_acons, w_anil, w_C, w_var0, w_varS, w_callF, w_and, w_or, w_not, w_if, w_tval, w_tand, w_tor, w_tnot, w_tbl, w_ttrue, w_chain, w_prop, w_meth, w_methK, w_mkK', w_kw, w_sl, w_mpE, w_mpNo, w_vals, wp_ok, wp_bind, wp_nr, List.set, List.length_cons, List.length_nil, Nat.zero_add, Nat.reduceAdd, add_int, sub_int, le_int, lt_int, ge_int, gt_int, eqD_int, eqD_str, sl_tup, len_tup, truth, true_and, and_true, Bool.not_true, Bool.not_false, Bool.false_eq_true, if_false, if_true, List.cons_append, List.nil_append, List.append_nil, decide_true, decide_false])
    have hk1 := k1.len
    have hK := K.len
    have hk3 := k3.len
    have hk4 := k4.len
    refine law_with0_ok (k4.k ee) (by omega) ea oS.nd (by rw [hsl]; exact m1) fun c' n' g5 ec en lc k5 => ?_
    (try simp only [f_seq, f_asg, f_name, f_tup, f_gcons, f_gnil, f_ret, f_retN, f_expr, f_if, f_nil, f_par, f_par3, f_fld, f_sub, w_op, w_un, w_app, w_acons, w_anil, w_C, w_var0, w_varS, w_callF, w_and, w_or, w_not, w_if, w_tval, w_tand, w_tor, w_tnot, w_tbl, w_ttrue, w_chain, w_prop, w_meth, w_methK, w_mkK', w_kw, w_sl, w_mpE, w_mpNo, w_vals, wp_ok, wp_bind, wp_nr, List.set, List.length_cons, List.length_nil, Nat.zero_add, Nat.reduceAdd, add_int, sub_int, le_int, lt_int, ge_int, gt_int, eqD_int, eqD_str, sl_tup, len_tup, truth, true_and, and_true, Bool.not_true, Bool.not_false, Bool.false_eq_true, if_false, if_true, List.cons_append, List.nil_append, List.append_nil, decide_true, decide_false])
    refine songs_in0_ok ec en hz fun m d g6 S lm ld k6 => ?_
    (try simp only [f_seq, f_asg, f_name, f_tup, f_gcons, f_gnil, f_ret, f_retN, f_expr, f_if, f_nil, f_par, f_par3, f_fld, f_sub, w_op, w_un, w_app, w_acons, w_anil, w_C, w_var0, w_varS, w_callF, w_and, w_or, w_not, w_if, w_tval, w_tand, w_tor, w_tnot, w_tbl, w_ttrue, w_chain, w_prop, w_meth, w_methK, w_mkK', w_kw, w_sl, w_mpE, w_mpNo, w_vals, wp_ok, wp_bind, wp_nr, List.set, List.length_cons, List.length_nil, Nat.zero_add, Nat.reduceAdd, add_int, sub_int, le_int, lt_int, ge_int, gt_int, eqD_int, eqD_str, sl_tup, len_tup, truth, true_and, and_true, Bool.not_true, Bool.not_false, Bool.false_eq_true, if_false, if_true, List.cons_append, List.nil_append, List.append_nil, decide_true, decide_false])
    have hk5 := k5.len
    exact ⟨((k3.trans k4).trans k5).trans k6, Val.ref m, rfl, r, m, d, hr, rfl, S, by omega, by omega⟩
  have hl : ys.length = (srR ks.length most).length := by rw [hl]; exact List.length_map ..
  have L2' : Lay (sSort ks) (srR (sSort ks).length most) ys g2 := by
    refine ⟨by rw [hsl]; exact hl, fun j y hy => ?_⟩
    obtain ⟨r, m, d, p1, p2, p3, _, _⟩ := hP j y hy
    obtain ⟨⟨m1, m2⟩, m3⟩ := mem_srR.mp (List.mem_of_getElem? p1)
    exact ⟨r, m, d, by rw [hsl]; exact p1, p2, p3, (srt_okN (zipN_ok oS (by rw [hsl]; exact m1) m2 m3)).nd⟩
  generalize hdn : g1.length = dn at e2
  have K12 := k1.trans K2
  have em2 := K12.k em
  have hk12 := K12.len
  have h4d : h.length ≤ dn := by have := k1.len; omega
  have D2 := D.k K12
  (try simp only [f_seq, f_asg, f_name, f_tup, f_gcons, f_gnil, f_ret, f_retN, f_expr, f_if, f_nil, f_par, f_par3, f_fld, f_sub, w_op, w_un, w_app, w_acons, w_anil, w_C, w_var0, w_varS, w_callF, w_and, w_or, w_not, w_if, w_tval, w_tand, w_tor, w_tnot, w_tbl, w_ttrue, w_chain, w_prop, w_meth, w_methK, w_mkK', w_kw, w_sl, w_mpE, w_mpNo, w_vals, wp_ok, wp_bind, wp_nr, List.set, List.length_cons, List.length_nil, Nat.zero_add, Nat.reduceAdd, add_int, sub_int, le_int, lt_int, ge_int, gt_int, eqD_int, eqD_str, sl_tup, len_tup, truth, true_and, and_true, Bool.not_true, Bool.not_false, Bool.false_eq_true, if_false, if_true, List.cons_append, List.nil_append, List.append_nil, decide_true, decide_false])
  unfold b_law_6
  (try simp only [f_seq, f_asg, f_name, f_tup, f_gcons, f_gnil, f_ret, f_retN, f_expr, f_if, f_nil, f_par, f_par3, f_fld, f_sub, w_op, w_un, w_app, w_acons, w_anil, w_C, w_var0, w_varS, w_callF, w_and, w_or, w_not, w_if, w_tval, w_tand, w_tor, w_tnot, w_tbl, w_ttrue, w_chain, w_prop, w_meth, w_methK, w_mkK', w_kw, w_sl, w_mpE, w_mpNo, w_vals, wp_ok, wp_bind, wp_nr, List.set, List.length_cons, List.length_nil, Nat.zero_add, Nat.reduceAdd, add_int, sub_int, le_int, lt_int, ge_int, gt_int, eqD_int, eqD_str, sl_tup, len_tup, truth, true_and, and_true, Bool.not_true, Bool.not_false, Bool.false_eq_true, if_false, if_true, List.cons_append, List.nil_append, List.append_nil, decide_true, decide_false])
  refine lists_up_to_ok o oS (.inr ⟨nx, rfl, em2⟩) h1 ht fun fm zs g3 L3 e3 l3 k3 => ?_
  have em3 := k3.k em2
  have e23 := k3.k e2
  (try simp only [f_seq, f_asg, f_name, f_tup, f_gcons, f_gnil, f_ret, f_retN, f_expr, f_if, f_nil, f_par, f_par3, f_fld, f_sub, w_op, w_un, w_app, w_acons, w_anil, w_C, w_var0, w_varS, w_callF, w_and, w_or, w_not, w_if, w_tval, w_tand, w_tor, w_tnot, w_tbl, w_ttrue, w_chain, w_prop, w_meth, w_methK, w_mkK', w_kw, w_sl, w_mpE, w_mpNo, w_vals, wp_ok, wp_bind, wp_nr, List.set, List.length_cons, List.length_nil, Nat.zero_add, Nat.reduceAdd, add_int, sub_int, le_int, lt_int, ge_int, gt_int, eqD_int, eqD_str, sl_tup, len_tup, truth, true_and, and_true, Bool.not_true, Bool.not_false, Bool.false_eq_true, if_false, if_true, List.cons_append, List.nil_append, List.append_nil, decide_true, decide_false, rep_strs o.nm (by omega) em3])
  unfold b_law_5
  have hil : vIsi kCs kTys [.ref fm, .ty "list"] g3 = .ok (.bl true) g3 := isi_b (by simp [tyNm, e3]) kb_ll'
  (try simp only [f_seq, f_asg, f_name, f_tup, f_gcons, f_gnil, f_ret, f_retN, f_expr, f_if, f_nil, f_par, f_par3, f_fld, f_sub, w_op, w_un, w_app, w_acons, w_anil, w_C, w_var0, w_varS, w_callF, w_and, w_or, w_not, w_if, w_tval, w_tand, w_tor, w_tnot, w_tbl, w_ttrue, w_chain, w_prop, w_meth, w_methK, w_mkK', w_kw, w_sl, w_mpE, w_mpNo, w_vals, wp_ok, wp_bind, wp_nr, List.set, List.length_cons, List.length_nil, Nat.zero_add, Nat.reduceAdd, add_int, sub_int, le_int, lt_int, ge_int, gt_int, eqD_int, eqD_str, sl_tup, len_tup, truth, true_and, and_true, Bool.not_true, Bool.not_false, Bool.false_eq_true, if_false, if_true, List.cons_append, List.nil_append, List.append_nil, decide_true, decide_false, hil, eqLO_lay e3 e23 L3 (L2'.k k3), rep_strs o.nm (by omega) em3, show decide ((PyData.list (stDU ks)).shown = (PyData.list (stDU ks)).shown) = true from decide_eq_true rfl])
  unfold b_law_4
  have hzl : zs.length ≤ 4000 := by have := L3.1; rw [hsl] at this; omega
  (try simp only [f_seq, f_asg, f_name, f_tup, f_gcons, f_gnil, f_ret, f_retN, f_expr, f_if, f_nil, f_par, f_par3, f_fld, f_sub, w_op, w_un, w_app, w_acons, w_anil, w_C, w_var0, w_varS, w_callF, w_and, w_or, w_not, w_if, w_tval, w_tand, w_tor, w_tnot, w_tbl, w_ttrue, w_chain, w_prop, w_meth, w_methK, w_mkK', w_kw, w_sl, w_mpE, w_mpNo, w_vals, wp_ok, wp_bind, wp_nr, List.set, List.length_cons, List.length_nil, Nat.zero_add, Nat.reduceAdd, add_int, sub_int, le_int, lt_int, ge_int, gt_int, eqD_int, eqD_str, sl_tup, len_tup, truth, true_and, and_true, Bool.not_true, Bool.not_false, Bool.false_eq_true, if_false, if_true, List.cons_append, List.nil_append, List.append_nil, decide_true, decide_false, w_mt, isT_lst e3, app_lst4 e3 hzl])
  have hdlt := lt_of e2
  have k4 : Kp [] g2 (g3.set fm (.lst (zs ++ [.non]))) := k3.set' l3
  have e24 := k4.k e2
  generalize g3.set fm (.lst (zs ++ [.non])) = g4 at k4 e24
  have em4 := k4.k em2
  unfold b_law_3
  (try simp only [f_seq, f_asg, f_name, f_tup, f_gcons, f_gnil, f_ret, f_retN, f_expr, f_if, f_nil, f_par, f_par3, f_fld, f_sub, w_op, w_un, w_app, w_acons, w_anil, w_C, w_var0, w_varS, w_callF, w_and, w_or, w_not, w_if, w_tval, w_tand, w_tor, w_tnot, w_tbl, w_ttrue, w_chain, w_prop, w_meth, w_methK, w_mkK', w_kw, w_sl, w_mpE, w_mpNo, w_vals, wp_ok, wp_bind, wp_nr, List.set, List.length_cons, List.length_nil, Nat.zero_add, Nat.reduceAdd, add_int, sub_int, le_int, lt_int, ge_int, gt_int, eqD_int, eqD_str, sl_tup, len_tup, truth, true_and, and_true, Bool.not_true, Bool.not_false, Bool.false_eq_true, if_false, if_true, List.cons_append, List.nil_append, List.append_nil, decide_true, decide_false])
  refine k_revV em4 fun rv g5 e5 l5 k5 => ?_
  have htup : vTuple [.ref rv] g5 = .ok (.tup (ks.reverse.map .str)) g5 := by rw [tuple_lst e5, List.map_reverse]
  (try simp only [f_seq, f_asg, f_name, f_tup, f_gcons, f_gnil, f_ret, f_retN, f_expr, f_if, f_nil, f_par, f_par3, f_fld, f_sub, w_op, w_un, w_app, w_acons, w_anil, w_C, w_var0, w_varS, w_callF, w_and, w_or, w_not, w_if, w_tval, w_tand, w_tor, w_tnot, w_tbl, w_ttrue, w_chain, w_prop, w_meth, w_methK, w_mkK', w_kw, w_sl, w_mpE, w_mpNo, w_vals, wp_ok, wp_bind, wp_nr, List.set, List.length_cons, List.length_nil, Nat.zero_add, Nat.reduceAdd, add_int, sub_int, le_int, lt_int, ge_int, gt_int, eqD_int, eqD_str, sl_tup, len_tup, truth, true_and, and_true, Bool.not_true, Bool.not_false, Bool.false_eq_true, if_false, if_true, List.cons_append, List.nil_append, List.append_nil, decide_true, decide_false, htup])
  refine w_kwF rfl rfl rfl rfl ?_
  refine lists_up_to_ok orv (by rw [hrs]; exact oS) (.inl rfl) h1 ht fun fm2 zs2 g6 L6 e6 l6 k6 => ?_
  rw [hrs] at L6
  have K46 := k5.trans k6
  have e26 := K46.k e24
  (try simp only [f_seq, f_asg, f_name, f_tup, f_gcons, f_gnil, f_ret, f_retN, f_expr, f_if, f_nil, f_par, f_par3, f_fld, f_sub, w_op, w_un, w_app, w_acons, w_anil, w_C, w_var0, w_varS, w_callF, w_and, w_or, w_not, w_if, w_tval, w_tand, w_tor, w_tnot, w_tbl, w_ttrue, w_chain, w_prop, w_meth, w_methK, w_mkK', w_kw, w_sl, w_mpE, w_mpNo, w_vals, wp_ok, wp_bind, wp_nr, List.set, List.length_cons, List.length_nil, Nat.zero_add, Nat.reduceAdd, add_int, sub_int, le_int, lt_int, ge_int, gt_int, eqD_int, eqD_str, sl_tup, len_tup, truth, true_and, and_true, Bool.not_true, Bool.not_false, Bool.false_eq_true, if_false, if_true, List.cons_append, List.nil_append, List.append_nil, decide_true, decide_false, eqLO_lay e6 e26 L6 (L2'.k (k4.trans K46))])
  unfold b_law_2
  have D6 := D2.k (k4.trans K46)
  have hvd : vLen [.ref dn] g6 = .ok (.int (ys.length : Nat)) g6 := len_lst e26
  (try simp only [f_seq, f_asg, f_name, f_tup, f_gcons, f_gnil, f_ret, f_retN, f_expr, f_if, f_nil, f_par, f_par3, f_fld, f_sub, w_op, w_un, w_app, w_acons, w_anil, w_C, w_var0, w_varS, w_callF, w_and, w_or, w_not, w_if, w_tval, w_tand, w_tor, w_tnot, w_tbl, w_ttrue, w_chain, w_prop, w_meth, w_methK, w_mkK', w_kw, w_sl, w_mpE, w_mpNo, w_vals, wp_ok, wp_bind, wp_nr, List.set, List.length_cons, List.length_nil, Nat.zero_add, Nat.reduceAdd, add_int, sub_int, le_int, lt_int, ge_int, gt_int, eqD_int, eqD_str, sl_tup, len_tup, truth, true_and, and_true, Bool.not_true, Bool.not_false, Bool.false_eq_true, if_false, if_true, List.cons_append, List.nil_append, List.append_nil, decide_true, decide_false, hvd])
  refine take_d D6 (by omega) (by omega) fun at' g7 a0 a1 D7 K7 => ?_
  obtain ⟨at', rfl⟩ : ∃ z : Nat, at' = z := ⟨at'.toNat, by omega⟩
  unfold b_law_1
  have e27 := K7.d e26 (by omega)
  have hat : at' < ys.length := by omega
  have hy : ys[at']? = some ys[at'] := List.getElem?_eq_getElem hat
  obtain ⟨r, m, d, p1, p2, p3, p4, p5⟩ := hP at' _ hy
  rw [p2] at hy
  have hg1 := k1.len
  have S7 : SongsAt m d (srt (zipN (sSort ks) r)) g7 := (p3.k (k4.trans K46)).d K7 (by omega) (by omega)
  obtain ⟨⟨m1, m2⟩, m3⟩ := mem_srR.mp (List.mem_of_getElem? p1)
  have hz := srt_okN (zipN_ok oS (r := r) (by rw [hsl]; exact m1) m2 m3)
  have hM : ((most : Nat) : Int) ≤ 1000000 := by omega
  have hix : vIx (.ref dn) (.int (at' : Nat)) g7 = .ok (.ref m) g7 := ix_lst e27 (by rw [L2.atI_nat]; exact hy)
  (try simp only [f_seq, f_asg, f_name, f_tup, f_gcons, f_gnil, f_ret, f_retN, f_expr, f_if, f_nil, f_par, f_par3, f_fld, f_sub, w_op, w_un, w_app, w_acons, w_anil, w_C, w_var0, w_varS, w_callF, w_and, w_or, w_not, w_if, w_tval, w_tand, w_tor, w_tnot, w_tbl, w_ttrue, w_chain, w_prop, w_meth, w_methK, w_mkK', w_kw, w_sl, w_mpE, w_mpNo, w_vals, wp_ok, wp_bind, wp_nr, List.set, List.length_cons, List.length_nil, Nat.zero_add, Nat.reduceAdd, add_int, sub_int, le_int, lt_int, ge_int, gt_int, eqD_int, eqD_str, sl_tup, len_tup, truth, true_and, and_true, Bool.not_true, Bool.not_false, Bool.false_eq_true, if_false, if_true, List.cons_append, List.nil_append, List.append_nil, decide_true, decide_false, hix, isIn_of S7.e, numbers_ok S7])
  have e8 := app_new g7 (.dct (nd (srt (zipN (sSort ks) r))))
  have k8 : Kp [] g7 (g7 ++ [.dct (nd (srt (zipN (sSort ks) r)))]) := (Kp.refl _ _).app _
  generalize g7.length = n8 at e8
  generalize g7 ++ [Ob.dct (nd (srt (zipN (sSort ks) r)))] = g8 at e8 k8
  have K78 : Kd g2 g8 := ((k4.trans K46).kd.trans K7).trans k8.kd
  (try simp only [f_seq, f_asg, f_name, f_tup, f_gcons, f_gnil, f_ret, f_retN, f_expr, f_if, f_nil, f_par, f_par3, f_fld, f_sub, w_op, w_un, w_app, w_acons, w_anil, w_C, w_var0, w_varS, w_callF, w_and, w_or, w_not, w_if, w_tval, w_tand, w_tor, w_tnot, w_tbl, w_ttrue, w_chain, w_prop, w_meth, w_methK, w_mkK', w_kw, w_sl, w_mpE, w_mpNo, w_vals, wp_ok, wp_bind, wp_nr, List.set, List.length_cons, List.length_nil, Nat.zero_add, Nat.reduceAdd, add_int, sub_int, le_int, lt_int, ge_int, gt_int, eqD_int, eqD_str, sl_tup, len_tup, truth, true_and, and_true, Bool.not_true, Bool.not_false, Bool.false_eq_true, if_false, if_true, List.cons_append, List.nil_append, List.append_nil, decide_true, decide_false, rep_nd hM hz e8])
  refine lists_up_to_ok o oS (.inr ⟨nx, rfl, K78.d em2 h4⟩) h1 ht fun fm3 zs3 g9 L9 e9 l9 k9 => ?_
  have hl9 := L9.1
  rw [hsl] at hl9
  have hz9 : zs3[at']? = some zs3[at'] := List.getElem?_eq_getElem (by omega)
  obtain ⟨r9, m9, d9, q1, q2, S9, _⟩ := L9.2 at' _ hz9
  rw [hsl, p1] at q1
  cases q1
  rw [q2] at hz9
  have hix9 : vIx (.ref fm3) (.int (at' : Nat)) g9 = .ok (.ref m9) g9 := ix_lst e9 (by rw [L2.atI_nat]; exact hz9)
  (try simp only [f_seq, f_asg, f_name, f_tup, f_gcons, f_gnil, f_ret, f_retN, f_expr, f_if, f_nil, f_par, f_par3, f_fld, f_sub, w_op, w_un, w_app, w_acons, w_anil, w_C, w_var0, w_varS, w_callF, w_and, w_or, w_not, w_if, w_tval, w_tand, w_tor, w_tnot, w_tbl, w_ttrue, w_chain, w_prop, w_meth, w_methK, w_mkK', w_kw, w_sl, w_mpE, w_mpNo, w_vals, wp_ok, wp_bind, wp_nr, List.set, List.length_cons, List.length_nil, Nat.zero_add, Nat.reduceAdd, add_int, sub_int, le_int, lt_int, ge_int, gt_int, eqD_int, eqD_str, sl_tup, len_tup, truth, true_and, and_true, Bool.not_true, Bool.not_false, Bool.false_eq_true, if_false, if_true, List.cons_append, List.nil_append, List.append_nil, decide_true, decide_false, hix9, isIn_of S9.e, numbers_ok S9])
  have e10 := app_new g9 (.dct (nd (srt (zipN (sSort ks) r))))
  have k10 : Kp [] g9 (g9 ++ [.dct (nd (srt (zipN (sSort ks) r)))]) := (Kp.refl _ _).app _
  generalize g9.length = n10 at e10
  generalize g9 ++ [Ob.dct (nd (srt (zipN (sSort ks) r)))] = g10 at e10 k10
  (try simp only [f_seq, f_asg, f_name, f_tup, f_gcons, f_gnil, f_ret, f_retN, f_expr, f_if, f_nil, f_par, f_par3, f_fld, f_sub, w_op, w_un, w_app, w_acons, w_anil, w_C, w_var0, w_varS, w_callF, w_and, w_or, w_not, w_if, w_tval, w_tand, w_tor, w_tnot, w_tbl, w_ttrue, w_chain, w_prop, w_meth, w_methK, w_mkK', w_kw, w_sl, w_mpE, w_mpNo, w_vals, wp_ok, wp_bind, wp_nr, List.set, List.length_cons, List.length_nil, Nat.zero_add, Nat.reduceAdd, add_int, sub_int, le_int, lt_int, ge_int, gt_int, eqD_int, eqD_str, sl_tup, len_tup, truth, true_and, and_true, Bool.not_true, Bool.not_false, Bool.false_eq_true, if_false, if_true, List.cons_append, List.nil_append, List.append_nil, decide_true, decide_false, rep_nd hM hz e10, show decide ((PyData.dict (ndP (srt (zipN (sSort ks) r)))).shown = (PyData.dict (ndP (srt (zipN (sSort ks) r)))).shown) = true from decide_eq_true rfl])
  exact q _ _ _ _ _ g10 (((D7.k k8).k k9).k k10)
theorem law_true (ns : List Int) (hl : ns.length ≤ 63) (hb : ∀ z ∈ ns, PySem.Builtin.Int.intBits z ≤ 1048576) : ∃ h', f_law [.ref 0] [.fro (ns.map Val.int)] = .ok (.bl true) h' := by
  suffices w : Wp (f_law [.ref 0] [.fro (ns.map Val.int)]) RZ32 by
    obtain ⟨v, g, e, rfl⟩ := w.ex
    exact ⟨g, e⟩
  unfold f_law b_law
  rw [w_fn]
  show WpF (msSeq _ _ [some (.ref 0), none, none, none, none, none, none, none, none, none] [.fro (ns.map Val.int)]) _ _
  simp only [f_seq, f_asg, f_name, f_tup, f_gcons, f_gnil, f_ret, f_retN, f_expr, f_if, f_nil, f_par, f_par3, f_fld, f_sub, w_op, w_un, w_app, w_acons, w_anil, w_C, w_var0, w_varS, w_callF, w_and, w_or, w_not, w_if, w_tval, w_tand, w_tor, w_tnot, w_tbl, w_ttrue, w_chain, w_prop, w_meth, w_methK, w_mkK', w_kw, w_sl, w_mpE, w_mpNo, w_vals, wp_ok, wp_bind, wp_nr, List.set, List.length_cons, List.length_nil, Nat.zero_add, Nat.reduceAdd, add_int, sub_int, le_int, lt_int, ge_int, gt_int, eqD_int, eqD_str, sl_tup, len_tup, truth, true_and, and_true, Bool.not_true, Bool.not_false, Bool.false_eq_true, if_false, if_true, List.cons_append, List.nil_append, List.append_nil, decide_true, decide_false]
  refine begin_ok (s := 0) (ns := ns) rfl hl fun g D K lg => ?_
  have D : Dw g := D
  have e0 : g[0]? = some (.fro (ns.map Val.int)) := K.k rfl
  unfold b_law_9
  simp only [f_seq, f_asg, f_name, f_tup, f_gcons, f_gnil, f_ret, f_retN, f_expr, f_if, f_nil, f_par, f_par3, f_fld, f_sub, w_op, w_un, w_app, w_acons, w_anil, w_C, w_var0, w_varS, w_callF, w_and, w_or, w_not, w_if, w_tval, w_tand, w_tor, w_tnot, w_tbl, w_ttrue, w_chain, w_prop, w_meth, w_methK, w_mkK', w_kw, w_sl, w_mpE, w_mpNo, w_vals, wp_ok, wp_bind, wp_nr, List.set, List.length_cons, List.length_nil, Nat.zero_add, Nat.reduceAdd, add_int, sub_int, le_int, lt_int, ge_int, gt_int, eqD_int, eqD_str, sl_tup, len_tup, truth, true_and, and_true, Bool.not_true, Bool.not_false, Bool.false_eq_true, if_false, if_true, List.cons_append, List.nil_append, List.append_nil, decide_true, decide_false]
  have hm : ∃ t : Nat, miRng1 (mOp vAdd (mC (.int 3)) (mApp vMin (maCons (mApp vLen (maCons (mVar 0) maNil)) (maCons (mC (.int 8)) maNil)))) [some (.ref 0), some (.ref 2), none, none, none, none, none, none, none, none] g = .ok ⟨(List.range t).map fun i => .int ((i : Nat) : Int), fun _ => True, none⟩ g := by
    refine ⟨3 + min ns.length 8, ?_⟩
    have hv : mOp vAdd (mC (.int 3)) (mApp vMin (maCons (mApp vLen (maCons (mVar 0) maNil)) (maCons (mC (.int 8)) maNil))) [some (.ref 0), some (.ref 2), none, none, none, none, none, none, none, none] g = .ok (.int ((3 + min ns.length 8 : Nat) : Int)) g := by
      have : vLen [.ref 0] g = .ok (.int (ns.length : Nat)) g := by simp [vLen, e0]
      simp [mOp, mApp, maCons, maNil, mC, this, vMin]
      split <;> omega
    rw [val_rng hv (by omega), Int.toNat_natCast]
  obtain ⟨t, hm⟩ := hm
  refine f_forE (fun _ σ g => ∃ x2 x3 x4 x5 x6 x7 x8 x9, σ = [some (.ref 0), some (.ref 2), x2, x3, x4, x5, x6, x7, x8, x9] ∧ Dw g) hm rfl ⟨_, _, _, _, _, _, _, _, rfl, D⟩ (fun _ _ _ _ => trivial) ?_ ?_
  · rintro k v σ g ev ⟨x2, x3, x4, x5, x6, x7, x8, x9, rfl, D⟩
    simp only [f_name, List.set]
    have hD := D.len
    (try simp only [f_seq, f_asg, f_name, f_tup, f_gcons, f_gnil, f_ret, f_retN, f_expr, f_if, f_nil, f_par, f_par3, f_fld, f_sub, w_op, w_un, w_app, w_acons, w_anil, w_C, w_var0, w_varS, w_callF, w_and, w_or, w_not, w_if, w_tval, w_tand, w_tor, w_tnot, w_tbl, w_ttrue, w_chain, w_prop, w_meth, w_methK, w_mkK', w_kw, w_sl, w_mpE, w_mpNo, w_vals, wp_ok, wp_bind, wp_nr, List.set, List.length_cons, List.length_nil, Nat.zero_add, Nat.reduceAdd, add_int, sub_int, le_int, lt_int, ge_int, gt_int, eqD_int, eqD_str, sl_tup, len_tup, truth, true_and, and_true, Bool.not_true, Bool.not_false, Bool.false_eq_true, if_false, if_true, List.cons_append, List.nil_append, List.append_nil, decide_true, decide_false])
    refine take_d D (by omega) (by omega) fun u g1 u0 u1 D1 K1 => ?_
    obtain ⟨u, rfl⟩ : ∃ t' : Nat, u = t' := ⟨u.toNat, by omega⟩
    have eu : (1 + (u : Int)) = ((1 + u : Nat) : Int) := by omega
    have hD1 := D1.len
    (try simp only [f_seq, f_asg, f_name, f_tup, f_gcons, f_gnil, f_ret, f_retN, f_expr, f_if, f_nil, f_par, f_par3, f_fld, f_sub, w_op, w_un, w_app, w_acons, w_anil, w_C, w_var0, w_varS, w_callF, w_and, w_or, w_not, w_if, w_tval, w_tand, w_tor, w_tnot, w_tbl, w_ttrue, w_chain, w_prop, w_meth, w_methK, w_mkK', w_kw, w_sl, w_mpE, w_mpNo, w_vals, wp_ok, wp_bind, wp_nr, List.set, List.length_cons, List.length_nil, Nat.zero_add, Nat.reduceAdd, add_int, sub_int, le_int, lt_int, ge_int, gt_int, eqD_int, eqD_str, sl_tup, len_tup, truth, true_and, and_true, Bool.not_true, Bool.not_false, Bool.false_eq_true, if_false, if_true, List.cons_append, List.nil_append, List.append_nil, decide_true, decide_false])
    rw [eu]
    refine some_names_ok D1 (by omega) fun xs nx g2 lx nx2 ox ex hx D2 K2 => ?_
    (try simp only [f_seq, f_asg, f_name, f_tup, f_gcons, f_gnil, f_ret, f_retN, f_expr, f_if, f_nil, f_par, f_par3, f_fld, f_sub, w_op, w_un, w_app, w_acons, w_anil, w_C, w_var0, w_varS, w_callF, w_and, w_or, w_not, w_if, w_tval, w_tand, w_tor, w_tnot, w_tbl, w_ttrue, w_chain, w_prop, w_meth, w_methK, w_mkK', w_kw, w_sl, w_mpE, w_mpNo, w_vals, wp_ok, wp_bind, wp_nr, List.set, List.length_cons, List.length_nil, Nat.zero_add, Nat.reduceAdd, add_int, sub_int, le_int, lt_int, ge_int, gt_int, eqD_int, eqD_str, sl_tup, len_tup, truth, true_and, and_true, Bool.not_true, Bool.not_false, Bool.false_eq_true, if_false, if_true, List.cons_append, List.nil_append, List.append_nil, decide_true, decide_false])
    refine take_d D2 (by omega) (by omega) fun w g3 w0 w1 D3 K3 => ?_
    obtain ⟨w, rfl⟩ : ∃ t' : Nat, w = t' := ⟨w.toNat, by omega⟩
    have ew : (1 + (w : Int)) = ((1 + w : Nat) : Int) := by omega
    (try simp only [f_seq, f_asg, f_name, f_tup, f_gcons, f_gnil, f_ret, f_retN, f_expr, f_if, f_nil, f_par, f_par3, f_fld, f_sub, w_op, w_un, w_app, w_acons, w_anil, w_C, w_var0, w_varS, w_callF, w_and, w_or, w_not, w_if, w_tval, w_tand, w_tor, w_tnot, w_tbl, w_ttrue, w_chain, w_prop, w_meth, w_methK, w_mkK', w_kw, w_sl, w_mpE, w_mpNo, w_vals, wp_ok, wp_bind, wp_nr, List.set, List.length_cons, List.length_nil, Nat.zero_add, Nat.reduceAdd, add_int, sub_int, le_int, lt_int, ge_int, gt_int, eqD_int, eqD_str, sl_tup, len_tup, truth, true_and, and_true, Bool.not_true, Bool.not_false, Bool.false_eq_true, if_false, if_true, List.cons_append, List.nil_append, List.append_nil, decide_true, decide_false])
    rw [ew]
    refine k_tup (by simp) ?_
    (try simp only [f_seq, f_asg, f_name, f_tup, f_gcons, f_gnil, f_ret, f_retN, f_expr, f_if, f_nil, f_par, f_par3, f_fld, f_sub, w_op, w_un, w_app, w_acons, w_anil, w_C, w_var0, w_varS, w_callF, w_and, w_or, w_not, w_if, w_tval, w_tand, w_tor, w_tnot, w_tbl, w_ttrue, w_chain, w_prop, w_meth, w_methK, w_mkK', w_kw, w_sl, w_mpE, w_mpNo, w_vals, wp_ok, wp_bind, wp_nr, List.set, List.length_cons, List.length_nil, Nat.zero_add, Nat.reduceAdd, add_int, sub_int, le_int, lt_int, ge_int, gt_int, eqD_int, eqD_str, sl_tup, len_tup, truth, true_and, and_true, Bool.not_true, Bool.not_false, Bool.false_eq_true, if_false, if_true, List.cons_append, List.nil_append, List.append_nil, decide_true, decide_false])
    refine k32_lap D3 ⟨by omega, by omega, nx2, ox⟩ (by omega) (by omega) (K3.d ex (by omega)) (by omega) fun x5 x6 x7 x8 x9 g' D' => ?_
    exact ⟨_, _, _, _, _, _, _, _, rfl, D'⟩
  · rintro σ g ⟨x2, x3, x4, x5, x6, x7, x8, x9, rfl, D⟩
    unfold b_law_8
    (try simp only [f_seq, f_asg, f_name, f_tup, f_gcons, f_gnil, f_ret, f_retN, f_expr, f_if, f_nil, f_par, f_par3, f_fld, f_sub, w_op, w_un, w_app, w_acons, w_anil, w_C, w_var0, w_varS, w_callF, w_and, w_or, w_not, w_if, w_tval, w_tand, w_tor, w_tnot, w_tbl, w_ttrue, w_chain, w_prop, w_meth, w_methK, w_mkK', w_kw, w_sl, w_mpE, w_mpNo, w_vals, wp_ok, wp_bind, wp_nr, List.set, List.length_cons, List.length_nil, Nat.zero_add, Nat.reduceAdd, add_int, sub_int, le_int, lt_int, ge_int, gt_int, eqD_int, eqD_str, sl_tup, len_tup, truth, true_and, and_true, Bool.not_true, Bool.not_false, Bool.false_eq_true, if_false, if_true, List.cons_append, List.nil_append, List.append_nil, decide_true, decide_false])
    rfl
end
end U
open PySem PySem.W PyProof.Rows
set_option maxRecDepth 100000 in
set_option maxHeartbeats 0 in
theorem PySem.Challenge.cw_unheard_k32_lists_in_order_holds : PySem.Challenge.rw_unheard_k32_lists_in_order.Holds := by
  w_on; o_law; k_head; (case hw => w_witness2)
  k_fill
  refine U.walk_fk (l := PySem.Challenge.rw_unheard_k32_lists_in_order) (n := 63) (k := 8) (x := "_law_script") (G := U.f_law) rfl (by decide) rfl ⟨rfl, by decide, by decide⟩ (by decide +kernel) (fun p => by kernel_rfl) (fun p => by kernel_rfl) (fun w h Y => PySem.W.kIn_of Y) ?F U.law_true
  case F =>
    intro w mg fa h KX G hmg
    refine' U.all_mk KX G hmg ?g_Songs ?pg_Songs ?hd_Songs ?po_Songs ?sa_Songs ?ha_Songs ?hm_Songs ?bt_Songs_NoneType ?bt_Songs_bool ?bt_Songs_int ?bt_Songs_str ?bt_Songs_tuple ?bt_Songs_list ?bt_Songs_dict ?ty_Songs_bool ?ty_Songs_dict ?ty_Songs_int ?ty_Songs_list ?ty_Songs_str ?ty_Songs_tuple ?kk_Songs_Songs ?na_Songs_s_numbers ?hn0 ?htk0 ?nf_Songs_Songs ?nn_Songs ?so_Songs ?z_abs ?z_all ?z_bool ?z_dict ?z_divmod ?z_int ?z_isinstance ?z_len ?z_list ?z_min ?z_range ?z_repr ?z_set ?z_sorted ?z_str ?z_sum ?z_tuple ?z_zip ?k_LETTERS ?k_LONGEST_NAME ?k_MOST_KINDS_lists ?k_MOST_KINDS_songs ?k_MOST_LISTED ?f_a__law_begin ?l__law_begin ?cd_ok__law_begin ?kp__law_begin ?f_a__law_take ?l__law_take ?cd_ok__law_take ?kp__law_take ?f_a__law_pick ?l__law_pick ?cd_ok__law_pick ?kp__law_pick ?f_a__law_names ?l__law_names ?cd_ok__law_names ?kp__law_names ?f_a__law_number_rows ?l__law_number_rows ?cd_ok__law_number_rows ?kp__law_number_rows ?f_a_is_name ?l_is_name ?cd_ok_is_name ?kp_is_name ?f_a_is_integer ?l_is_integer ?cd_ok_is_integer ?kp_is_integer ?f_a_is_number ?l_is_number ?cd_ok_is_number ?kp_is_number ?f_a_Songs_init ?f_i_Songs_init ?f_m_Songs_init ?f_c_Songs_init ?l_Songs_init ?cd_ok_Songs_init ?kp_Songs_init ?f_a__law_songs ?l__law_songs ?cd_ok__law_songs ?kp__law_songs ?f_a__law_with ?l__law_with ?cd_ok__law_with ?kp__law_with ?f_a_is_list ?l_is_list ?cd_ok_is_list ?kp_is_list ?f_a_need_kinds ?l_need_kinds ?cd_ok_need_kinds ?kp_need_kinds ?f_a_number_rows ?l_number_rows ?cd_ok_number_rows ?kp_number_rows ?f_a_songs_by ?l_songs_by ?cd_ok_songs_by ?kp_songs_by ?f_a_lists_of ?l_lists_of ?cd_ok_lists_of ?kp_lists_of ?f_a_lists_up_to ?l_lists_up_to ?cd_ok_lists_up_to ?kp_lists_up_to ?f_a_Songs_eq ?f_i_Songs_eq ?l_Songs_eq ?cd_ok_Songs_eq ?kp_Songs_eq ?f_p_Songs_numbers ?f_g_Songs_numbers ?f_t_Songs_numbers ?f_r_Songs_numbers ?l_Songs_numbers ?cd_ok_Songs_numbers ?kp_Songs_numbers ?f_a_law ?l_law ?cd_ok_law ?kp_law
    (case g_Songs => k_is)
    (case pg_Songs => k_is)
    (case hd_Songs => k_is)
    (case po_Songs => k_is)
    (case sa_Songs => k_is)
    (case ha_Songs => k_is)
    (case hm_Songs => k_is)
    (case bt_Songs_NoneType => kernel_rfl)
    (case bt_Songs_bool => kernel_rfl)
    (case bt_Songs_int => kernel_rfl)
    (case bt_Songs_str => kernel_rfl)
    (case bt_Songs_tuple => kernel_rfl)
    (case bt_Songs_list => kernel_rfl)
    (case bt_Songs_dict => kernel_rfl)
    (case ty_Songs_bool => kernel_rfl)
    (case ty_Songs_dict => kernel_rfl)
    (case ty_Songs_int => kernel_rfl)
    (case ty_Songs_list => kernel_rfl)
    (case ty_Songs_str => kernel_rfl)
    (case ty_Songs_tuple => kernel_rfl)
    (case kk_Songs_Songs => kernel_rfl)
    (case na_Songs_s_numbers => k_is)
    (case hn0 => k_is)
    (case htk0 => k_is)
    (case nf_Songs_Songs => k_is)
    (case nn_Songs => k_is)
    (case so_Songs => k_is)
    (case z_abs => k_is)
    (case z_all => k_is)
    (case z_bool => k_is)
    (case z_dict => k_is)
    (case z_divmod => k_is)
    (case z_int => k_is)
    (case z_isinstance => k_is)
    (case z_len => k_is)
    (case z_list => k_is)
    (case z_min => k_is)
    (case z_range => k_is)
    (case z_repr => k_is)
    (case z_set => k_is)
    (case z_sorted => k_is)
    (case z_str => k_is)
    (case z_sum => k_is)
    (case z_tuple => k_is)
    (case z_zip => k_is)
    (case k_LETTERS => k_is)
    (case k_LONGEST_NAME => k_is)
    (case k_MOST_KINDS_lists => k_is)
    (case k_MOST_KINDS_songs => k_is)
    (case k_MOST_LISTED => k_is)
    (case f_a__law_begin => k_is)
    (case l__law_begin => k_is)
    (case cd_ok__law_begin => k_is)
    (case kp__law_begin => k_is)
    (case f_a__law_take => k_is)
    (case l__law_take => k_is)
    (case cd_ok__law_take => k_is)
    (case kp__law_take => k_is)
    (case f_a__law_pick => k_is)
    (case l__law_pick => k_is)
    (case cd_ok__law_pick => k_is)
    (case kp__law_pick => k_is)
    (case f_a__law_names => k_is)
    (case l__law_names => k_is)
    (case cd_ok__law_names => k_is)
    (case kp__law_names => k_is)
    (case f_a__law_number_rows => k_is)
    (case l__law_number_rows => k_is)
    (case cd_ok__law_number_rows => k_is)
    (case kp__law_number_rows => k_is)
    (case f_a_is_name => k_is)
    (case l_is_name => k_is)
    (case cd_ok_is_name => k_is)
    (case kp_is_name => k_is)
    (case f_a_is_integer => k_is)
    (case l_is_integer => k_is)
    (case cd_ok_is_integer => k_is)
    (case kp_is_integer => k_is)
    (case f_a_is_number => k_is)
    (case l_is_number => k_is)
    (case cd_ok_is_number => k_is)
    (case kp_is_number => k_is)
    (case f_a_Songs_init => k_is)
    (case f_i_Songs_init => k_is)
    (case f_m_Songs_init => k_is)
    (case f_c_Songs_init => k_is)
    (case l_Songs_init => k_is)
    (case cd_ok_Songs_init => k_is)
    (case kp_Songs_init => k_is)
    (case f_a__law_songs => k_is)
    (case l__law_songs => k_is)
    (case cd_ok__law_songs => k_is)
    (case kp__law_songs => k_is)
    (case f_a__law_with => k_is)
    (case l__law_with => k_is)
    (case cd_ok__law_with => k_is)
    (case kp__law_with => k_is)
    (case f_a_is_list => k_is)
    (case l_is_list => k_is)
    (case cd_ok_is_list => k_is)
    (case kp_is_list => k_is)
    (case f_a_need_kinds => k_is)
    (case l_need_kinds => k_is)
    (case cd_ok_need_kinds => k_is)
    (case kp_need_kinds => k_is)
    (case f_a_number_rows => k_is)
    (case l_number_rows => k_is)
    (case cd_ok_number_rows => k_is)
    (case kp_number_rows => k_is)
    (case f_a_songs_by => k_is)
    (case l_songs_by => k_is)
    (case cd_ok_songs_by => k_is)
    (case kp_songs_by => k_is)
    (case f_a_lists_of => k_is)
    (case l_lists_of => k_is)
    (case cd_ok_lists_of => k_is)
    (case kp_lists_of => k_is)
    (case f_a_lists_up_to => k_is)
    (case l_lists_up_to => k_is)
    (case cd_ok_lists_up_to => k_is)
    (case kp_lists_up_to => k_is)
    (case f_a_Songs_eq => k_is)
    (case f_i_Songs_eq => k_is)
    (case l_Songs_eq => k_is)
    (case cd_ok_Songs_eq => k_is)
    (case kp_Songs_eq => k_is)
    (case f_p_Songs_numbers => k_is)
    (case f_g_Songs_numbers => k_is)
    (case f_t_Songs_numbers => k_is)
    (case f_r_Songs_numbers => k_is)
    (case l_Songs_numbers => k_is)
    (case cd_ok_Songs_numbers => k_is)
    (case kp_Songs_numbers => k_is)
    (case f_a_law => k_is)
    (case l_law => k_is)
    (case cd_ok_law => k_is)
    (case kp_law => k_is)
