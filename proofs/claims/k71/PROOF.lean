import PyProof.Rows.All
import Wide.All
import OpenK.AllK
import Wide.FinOn
import PySem.Challenge.RW_keptinstep_k71_all_orders_of_one_memory
import HandS.ForMost
import HandS.IsInst
import HandS.TupAny
import HandS.TupMul
import HandS.Defaults
import HandS.Flow
import HandS.HeadHook3
import KE.KDictKeyed
import HandS.Zip
import HandS.Conv
import HandS.SortRule
import HandS.TupSets
import KE.KSortTup
import HandS.SortInts
import HandS.DictComp
import KE.GoesEnum
import HandS.More
import KE.DataFind
import HandS.Style
import HandS.Deep
import KE.KTupSum
import HandS.HeadEnd
import HandS.Head2
import KE.KStateDown
set_option maxHeartbeats 200000
set_option Elab.async false
set_option linter.all false
set_option maxRecDepth 100000
/-! DL1: data as trees (D), what stands for it in the abstract heap (Rep), slots (Sl), an environment (Env). -/
namespace DL
open PySem PySem.Spec PyProof.Rows L2

inductive D where
  | non | bl (b : Bool) | int (i : Int) | str (x : Str)
  | tup (xs : List D) | lst (xs : List D)
  /-- a tuple of the module's top -/
  | kt (xs : List D)
  /-- a tuple of the run whose object is known to have no dict -/
  | xt (xs : List D)
  | dk (kvs : List (Key × D))
  | dt (kvs : List (D × D))
  | ins (C : Addr) (fs : List (Str × D))
  | raw (v : V)
instance : Inhabited D := ⟨.non⟩

mutual
/-- data as a key of a dict -/
def D.nk : D → Option NestedKey
  | .non => some .none
  | .bl b => some (.num (if b then 1 else 0))
  | .int i => some (.num i)
  | .str x => some (.text x)
  | .tup ds => (nks ds).map .tup
  | .kt ds => (nks ds).map .tup
  | .xt ds => (nks ds).map .tup
  | _ => none
def nks : List D → Option (List NestedKey)
  | [] => some []
  | d :: ds => match D.nk d, nks ds with
    | some k, some ks => some (k :: ks)
    | _, _ => none
end

/-- a dict whose keys are tuples: its entries by address -/
def dtO (P : Program) (w : World) (a : Addr) (xs : List (NestedKey × Addr × Value)) : HO :=
  .ext fun h => xs.length ≤ sizeLine ∧ (a == sysModules) = false ∧ (∀ p ∈ xs, p.1.depth ≤ 8) ∧ ∃ o es ep, h.get? a = some o ∧ o.ExactDict ∧ o.data = .dict es ep ∧ es.toList = xs.map (entryOfKey (nestedKind P w)) ∧ (xs.map (·.1)).Nodup

structure Cn where
  P : Program
  w : World
  K : PySem.W.Frag

mutual
/-- v is the data d, as the (frozen) heap F has it -/
inductive Rep (c : Cn) (F : Hp) : V → D → Prop
  | non : Rep c F .non .non
  | bl (b : Bool) : Rep c F (.bl b) (.bl b)
  | int (i : Int) : Rep c F (.int i) (.int i)
  | str (x : Str) : Rep c F (.str x) (.str x)
  | tup {a : Addr} {vs : List V} {ds : List D} : F a = some (.tup vs) → RepAll c F vs ds → Rep c F (.ref a) (.tup ds)
  | lst {a : Addr} {vs : List V} {ds : List D} : SqL c.K F a vs → RepAll c F vs ds → Rep c F (.ref a) (.lst ds)
  | kt {a : Addr} {vs : List V} {ds : List D} : SqT c.K F a vs → RepAll c F vs ds → Rep c F (.ref a) (.kt ds)
  | xt {a : Addr} {ob : Obj} {vs : List V} {ds : List D} : F a = some (.frz ob (.tup vs)) → ob.dict = none → RepAll c F vs ds → Rep c F (.ref a) (.xt ds)
  | dk {a : Addr} {kw : List (Key × V)} {kvs : List (Key × D)} : F a = some (.dK kw) → RepK c F kw kvs → Rep c F (.ref a) (.dk kvs)
  | dt {a : Addr} {xs : List (NestedKey × Addr × Value)} {kvs : List (D × D)} : F a = some (dtO c.P c.w a xs) → RepT c F xs kvs → Rep c F (.ref a) (.dt kvs)
  | ins {a C dx : Addr} {fs : List (Str × V)} {gs : List (Str × D)} : F a = some (.ins C dx fs) → RepF c F fs gs → Rep c F (.ref a) (.ins C gs)
  | raw (v : V) : Rep c F v (.raw v)
inductive RepAll (c : Cn) (F : Hp) : List V → List D → Prop
  | nil : RepAll c F [] []
  | cons {v : V} {d : D} {vs : List V} {ds : List D} : Rep c F v d → RepAll c F vs ds → RepAll c F (v :: vs) (d :: ds)
inductive RepF (c : Cn) (F : Hp) : List (Str × V) → List (Str × D) → Prop
  | nil : RepF c F [] []
  | cons {n : Str} {v : V} {d : D} {fs : List (Str × V)} {gs : List (Str × D)} : Rep c F v d → RepF c F fs gs → RepF c F ((n, v) :: fs) ((n, d) :: gs)
inductive RepK (c : Cn) (F : Hp) : List (Key × V) → List (Key × D) → Prop
  | nil : RepK c F [] []
  | cons {k : Key} {v : V} {d : D} {kw : List (Key × V)} {kvs : List (Key × D)} : Rep c F v d → RepK c F kw kvs → RepK c F ((k, v) :: kw) ((k, d) :: kvs)
inductive RepT (c : Cn) (F : Hp) : List (NestedKey × Addr × Value) → List (D × D) → Prop
  | nil : RepT c F [] []
  | cons {k : NestedKey} {b : Addr} {u : Value} {v : V} {dk dv : D} {xs : List (NestedKey × Addr × Value)} {kvs : List (D × D)} : D.nk dk = some k → Rep c F (.ref b) dk → RelV v u → Rep c F v dv → RepT c F xs kvs → RepT c F ((k, b, u) :: xs) ((dk, dv) :: kvs)
end

section
variable {c : Cn} {F F' : Hp}
theorem rd_mono {a : Addr} {u : HO} (e : Same F F') (h : Rd F a u) : Rd F' a u := by
  rcases h with h | ⟨o, h⟩
  · exact .inl (e _ _ h)
  · exact .inr ⟨o, e _ _ h⟩
theorem sqT_mono {K : PySem.W.Frag} {a : Addr} {xs : List V} (e : Same F F') (h : SqT K F a xs) : SqT K F' a xs := by
  rcases h with (h | ⟨o, h⟩) | h
  · exact .inl (.inl (e _ _ h))
  · exact .inl (.inr ⟨o, e _ _ h⟩)
  · exact .inr h
mutual
theorem Rep.mono (e : Same F F') : ∀ {v : V} {d : D}, Rep c F v d → Rep c F' v d
  | _, _, .non => .non
  | _, _, .bl b => .bl b
  | _, _, .int i => .int i
  | _, _, .str x => .str x
  | _, _, .tup h r => .tup (e _ _ h) (RepAll.mono e r)
  | _, _, .lst h r => .lst (Same.seq e h) (RepAll.mono e r)
  | _, _, .kt h r => .kt (sqT_mono e h) (RepAll.mono e r)
  | _, _, .xt h n r => .xt (e _ _ h) n (RepAll.mono e r)
  | _, _, .dk h r => .dk (e _ _ h) (RepK.mono e r)
  | _, _, .dt h r => .dt (e _ _ h) (RepT.mono e r)
  | _, _, .ins h r => .ins (e _ _ h) (RepF.mono e r)
  | _, _, .raw v => .raw v
theorem RepAll.mono (e : Same F F') : ∀ {vs : List V} {ds : List D}, RepAll c F vs ds → RepAll c F' vs ds
  | _, _, .nil => .nil
  | _, _, .cons r t => .cons (Rep.mono e r) (RepAll.mono e t)
theorem RepF.mono (e : Same F F') : ∀ {fs : List (Str × V)} {gs : List (Str × D)}, RepF c F fs gs → RepF c F' fs gs
  | _, _, .nil => .nil
  | _, _, .cons r t => .cons (Rep.mono e r) (RepF.mono e t)
theorem RepK.mono (e : Same F F') : ∀ {kw : List (Key × V)} {kvs : List (Key × D)}, RepK c F kw kvs → RepK c F' kw kvs
  | _, _, .nil => .nil
  | _, _, .cons r t => .cons (Rep.mono e r) (RepK.mono e t)
theorem RepT.mono (e : Same F F') : ∀ {xs : List (NestedKey × Addr × Value)} {kvs : List (D × D)}, RepT c F xs kvs → RepT c F' xs kvs
  | _, _, .nil => .nil
  | _, _, .cons n k r v t => .cons n (Rep.mono e k) r (Rep.mono e v) (RepT.mono e t)
end

theorem RepAll.length : ∀ {vs : List V} {ds : List D}, RepAll c F vs ds → vs.length = ds.length
  | _, _, .nil => rfl
  | _, _, .cons _ t => by rw [List.length_cons, List.length_cons, RepAll.length t]
theorem RepAll.get : ∀ {vs : List V} {ds : List D} {i : Nat} {d : D}, RepAll c F vs ds → ds[i]? = some d → ∃ v, vs[i]? = some v ∧ Rep c F v d
  | _, _, _, _, .nil, e => by simp at e
  | _, _, 0, _, .cons r _, e => by simp at e; subst e; exact ⟨_, rfl, r⟩
  | _, _, i + 1, d, .cons _ t, e => by
    obtain ⟨v, h1, h2⟩ := RepAll.get (i := i) (d := d) t (by simpa using e)
    exact ⟨v, by simpa using h1, h2⟩
theorem RepAll.getV : ∀ {vs : List V} {ds : List D} {i : Nat} {v : V}, RepAll c F vs ds → vs[i]? = some v → ∃ d, ds[i]? = some d ∧ Rep c F v d
  | _, _, _, _, .nil, e => by simp at e
  | _, _, 0, _, .cons r _, e => by simp at e; subst e; exact ⟨_, rfl, r⟩
  | _, _, i + 1, d, .cons _ t, e => by
    obtain ⟨v, h1, h2⟩ := RepAll.getV (i := i) (v := d) t (by simpa using e)
    exact ⟨v, by simpa using h1, h2⟩
theorem RepAll.append : ∀ {vs ws : List V} {ds es : List D}, RepAll c F vs ds → RepAll c F ws es → RepAll c F (vs ++ ws) (ds ++ es)
  | _, _, _, _, .nil, s => s
  | _, _, _, _, .cons r t, s => .cons r (RepAll.append t s)
theorem RepAll.one {v : V} {d : D} (r : Rep c F v d) : RepAll c F [v] [d] := .cons r .nil
theorem RepAll.set {v : V} {d : D} (r : Rep c F v d) : ∀ {vs : List V} {ds : List D} (i : Nat), RepAll c F vs ds → RepAll c F (vs.set i v) (ds.set i d)
  | _, _, _, .nil => .nil
  | _, _, 0, .cons _ t => .cons r t
  | _, _, i + 1, .cons q t => .cons q (RepAll.set r i t)
theorem RepAll.take : ∀ {vs : List V} {ds : List D} (n : Nat), RepAll c F vs ds → RepAll c F (vs.take n) (ds.take n)
  | _, _, 0, _ => .nil
  | _, _, _ + 1, .nil => .nil
  | _, _, n + 1, .cons r t => .cons r (RepAll.take n t)
theorem RepAll.drop : ∀ {vs : List V} {ds : List D} (n : Nat), RepAll c F vs ds → RepAll c F (vs.drop n) (ds.drop n)
  | _, _, 0, r => r
  | _, _, _ + 1, .nil => .nil
  | _, _, n + 1, .cons _ t => RepAll.drop n t
theorem RepAll.reverse : ∀ {vs : List V} {ds : List D}, RepAll c F vs ds → RepAll c F vs.reverse ds.reverse
  | _, _, .nil => .nil
  | _, _, .cons r t => by
    rw [List.reverse_cons, List.reverse_cons]
    exact (RepAll.reverse t).append (.one r)
theorem RepAll.replicate {v : V} {d : D} (r : Rep c F v d) : ∀ n : Nat, RepAll c F (List.replicate n v) (List.replicate n d)
  | 0 => .nil
  | n + 1 => .cons r (RepAll.replicate r n)
theorem RepAll.nil_iff {vs : List V} {ds : List D} (r : RepAll c F vs ds) : vs = [] ↔ ds = [] := by
  cases r with
  | nil => exact ⟨fun _ => rfl, fun _ => rfl⟩
  | cons a b => exact ⟨(fun e => by cases e), (fun e => by cases e)⟩
theorem RepF.look : ∀ {fs : List (Str × V)} {gs : List (Str × D)} {f : Str} {d : D}, RepF c F fs gs → gs.lookup f = some d → ∃ v, fs.lookup f = some v ∧ Rep c F v d
  | _, _, _, _, .nil, e => by simp at e
  | (n, v) :: fs, (_, g) :: gs, f, d, .cons r t, e => by
    rw [List.lookup_cons] at e
    rw [List.lookup_cons]
    cases h : f == n with
    | true =>
      rw [h] at e
      cases e
      exact ⟨v, rfl, r⟩
    | false =>
      rw [h] at e
      exact RepF.look t e
theorem RepF.lookN : ∀ {fs : List (Str × V)} {gs : List (Str × D)} {f : Str}, RepF c F fs gs → gs.lookup f = none → fs.lookup f = none
  | _, _, _, .nil, e => rfl
  | (n, v) :: fs, (_, g) :: gs, f, .cons r t, e => by
    rw [List.lookup_cons] at e
    rw [List.lookup_cons]
    cases h : f == n with
    | true =>
      rw [h] at e
      cases e
    | false =>
      rw [h] at e
      exact RepF.lookN t e
theorem RepF.length : ∀ {fs : List (Str × V)} {gs : List (Str × D)}, RepF c F fs gs → fs.length = gs.length
  | _, _, .nil => rfl
  | _, _, .cons _ t => by rw [List.length_cons, List.length_cons, RepF.length t]
end
/-- a field stored -/
def putG (f : Str) (d : D) : List (Str × D) → List (Str × D)
  | [] => [(f, d)]
  | (g, x) :: r => if g = f then (g, d) :: r else (g, x) :: putG f d r
theorem RepF.put {c : Cn} {F : Hp} {f : Str} {v : V} {d : D} (r : Rep c F v d) : ∀ {fs : List (Str × V)} {gs : List (Str × D)}, RepF c F fs gs → RepF c F (putF f v fs) (putG f d gs)
  | _, _, .nil => .cons r .nil
  | _, _, .cons (n := n) (v := x) (d := g) (fs := fs) (gs := gs) q t => by
    unfold putF putG
    by_cases h : n = f
    · rw [if_pos h, if_pos h]
      exact .cons r t
    · rw [if_neg h, if_neg h]
      exact .cons q (RepF.put r t)

/-! ### slots -/
/-- what is known of a slot: nothing; frozen data; an own list, dict, object, list of own lists -/
inductive Sl where
  | un
  | d (x : D)
  | ol (xs : List D)
  | odk (kvs : List (Key × D))
  | odt (kvs : List (D × D))
  | oo (C : Addr) (gs : List (Str × D))
  | oll (xss : List (List D))
abbrev DE := List Sl
structure Bx where
  F0 : Hp
  H0 : Hp
  M : List Addr
  /-- what stands in the slot 0 throughout -/
  pin : Option V
  /-- the slots that may own what may change -/
  J : Nat → Addr → Prop
structure Grow (B : Bx) (F H : Hp) : Prop where
  sf : Same B.F0 F
  sh : ∀ a o, a ∉ B.M → B.H0 a = some o → H a = some o
  sd : ∀ a, B.H0 a ≠ none → H a ≠ none
  fr : ∀ a, B.H0 a ≠ none → F a = B.F0 a
  le : Same F H
def SlOk (c : Cn) (F H : Hp) (fp : List Addr) (o : Option (Option V)) : Sl → Prop
  | .un => fp = []
  | .d x => fp = [] ∧ ∃ v, o = some (some v) ∧ Rep c F v x
  | .ol xs => ∃ a vs, o = some (some (.ref a)) ∧ fp = [a] ∧ H a = some (.lst vs) ∧ RepAll c F vs xs
  | .odk kvs => ∃ a kw, o = some (some (.ref a)) ∧ fp = [a] ∧ H a = some (.dK kw) ∧ RepK c F kw kvs
  | .odt kvs => ∃ a xs, o = some (some (.ref a)) ∧ fp = [a] ∧ H a = some (dtO c.P c.w a xs) ∧ RepT c F xs kvs
  | .oo C gs => ∃ a dx fs, o = some (some (.ref a)) ∧ fp = [a] ∧ H a = some (.ins C dx fs) ∧ RepF c F fs gs
  | .oll xss => ∃ a bs, o = some (some (.ref a)) ∧ fp = a :: bs ∧ (a :: bs).Nodup ∧ H a = some (.lst (bs.map V.ref)) ∧ Paired (fun b xs => ∃ vs, H b = some (.lst vs) ∧ RepAll c F vs xs) bs xss
theorem paired_there {c : Cn} {F H : Hp} : ∀ {bs : List Addr} {xss : List (List D)}, Paired (fun b xs => ∃ vs, H b = some (.lst vs) ∧ RepAll c F vs xs) bs xss → ∀ b ∈ bs, H b ≠ none
  | _, _, .nil, _, hb => by cases hb
  | _, _, .cons r t, b, hb => by
    rcases List.mem_cons.mp hb with rfl | hb
    · obtain ⟨vs, e, _⟩ := r
      rw [e]; exact fun z => by cases z
    · exact paired_there t b hb
theorem SlOk.there {c : Cn} {F H : Hp} {fp : List Addr} {o : Option (Option V)} {s : Sl} (h : SlOk c F H fp o s) : ∀ a ∈ fp, H a ≠ none := by
  cases s with
  | un => intro a ha; rw [show fp = [] from h] at ha; cases ha
  | d x => intro a ha; rw [h.1] at ha; cases ha
  | ol xs =>
    obtain ⟨a, vs, _, rfl, e, _⟩ := h
    intro b hb
    rw [List.mem_singleton.mp hb, e]
    exact fun z => by cases z
  | odk xs =>
    obtain ⟨a, vs, _, rfl, e, _⟩ := h
    intro b hb
    rw [List.mem_singleton.mp hb, e]
    exact fun z => by cases z
  | odt xs =>
    obtain ⟨a, vs, _, rfl, e, _⟩ := h
    intro b hb
    rw [List.mem_singleton.mp hb, e]
    exact fun z => by cases z
  | oo C gs =>
    obtain ⟨a, dx, fs, _, rfl, e, _⟩ := h
    intro b hb
    rw [List.mem_singleton.mp hb, e]
    exact fun z => by cases z
  | oll xss =>
    obtain ⟨a, bs, _, rfl, _, e, p⟩ := h
    intro b hb
    rcases List.mem_cons.mp hb with rfl | hb
    · rw [e]; exact fun z => by cases z
    · exact paired_there p b hb
/-- it stays while its own objects stay -/
theorem SlOk.keep {c : Cn} {F F' H H' : Hp} {fp : List Addr} {o : Option (Option V)} {s : Sl} (h : SlOk c F H fp o s) (e : Same F F') (k : ∀ a ∈ fp, H' a = H a) : SlOk c F' H' fp o s := by
  cases s with
  | un => exact h
  | d x => obtain ⟨h1, v, h2, r⟩ := h; exact ⟨h1, v, h2, r.mono e⟩
  | ol xs =>
    obtain ⟨a, vs, h1, rfl, h2, r⟩ := h
    exact ⟨a, vs, h1, rfl, by rw [k a (List.mem_singleton.mpr rfl)]; exact h2, RepAll.mono e r⟩
  | odk xs =>
    obtain ⟨a, vs, h1, rfl, h2, r⟩ := h
    exact ⟨a, vs, h1, rfl, by rw [k a (List.mem_singleton.mpr rfl)]; exact h2, RepK.mono e r⟩
  | odt xs =>
    obtain ⟨a, vs, h1, rfl, h2, r⟩ := h
    exact ⟨a, vs, h1, rfl, by rw [k a (List.mem_singleton.mpr rfl)]; exact h2, RepT.mono e r⟩
  | oo C gs =>
    obtain ⟨a, dx, fs, h1, rfl, h2, r⟩ := h
    exact ⟨a, dx, fs, h1, rfl, by rw [k a (List.mem_singleton.mpr rfl)]; exact h2, RepF.mono e r⟩
  | oll xss =>
    obtain ⟨a, bs, h1, rfl, nd, h2, p⟩ := h
    refine ⟨a, bs, h1, rfl, nd, by rw [k a List.mem_cons_self]; exact h2, ?_⟩
    have k2 : ∀ b ∈ bs, H' b = H b := fun b hb => k b (List.mem_cons_of_mem _ hb)
    clear h2 k h1 nd
    induction p with
    | nil => exact .nil
    | cons r t ih =>
      obtain ⟨vs, q, r⟩ := r
      exact .cons ⟨vs, by rw [k2 _ List.mem_cons_self]; exact q, RepAll.mono e r⟩ (ih fun b hb => k2 b (List.mem_cons_of_mem _ hb))

/-- σ is δ, with the own objects fp of each slot -/
structure EnvP (c : Cn) (B : Bx) (F H : Hp) (σ : L2.St) (δ : DE) (fp : Nat → List Addr) : Prop where
  gr : Grow B F H
  len : σ.length = δ.length
  sl : ∀ (i : Nat) (s : Sl), δ[i]? = some s → SlOk c F H (fp i) σ[i]? s
  out : ∀ i, δ[i]? = none → fp i = []
  ap : ∀ i j a, a ∈ fp i → a ∈ fp j → i = j
  ff : ∀ i a, a ∈ fp i → F a = none
  fh : ∀ i a, a ∈ fp i → B.H0 a = none ∨ (a ∈ B.M ∧ B.J i a)
  pi : ∀ v, B.pin = some v → σ[0]? = some (some v)
def Env (c : Cn) (B : Bx) (F H : Hp) (σ : L2.St) (δ : DE) : Prop := ∃ fp, EnvP c B F H σ δ fp
section
variable {c : Cn} {B : Bx} {F F' H H' : Hp} {σ : L2.St} {δ : DE} {fp : Nat → List Addr}
theorem EnvP.there (E : EnvP c B F H σ δ fp) {i : Nat} {a : Addr} (h : a ∈ fp i) : H a ≠ none := by
  cases q : δ[i]? with
  | none => rw [E.out i q] at h; cases h
  | some s => exact (E.sl i s q).there a h
/-- both heaps move on, the own objects stay -/
theorem EnvP.step (E : EnvP c B F H σ δ fp) (g : Grow B F' H') (e : Same F F') (k : ∀ i a, a ∈ fp i → H' a = H a) (n : ∀ i a, a ∈ fp i → F' a = none) : EnvP c B F' H' σ δ fp :=
  ⟨g, E.len, fun i s h => (E.sl i s h).keep e (k i), E.out, E.ap, n, E.fh, E.pi⟩
/-- a callee, a new object: nothing that stood changes, what is frozen newly is new -/
structure Ret (F H F' H' : Hp) : Prop where
  sf : Same F F'
  sh : Same H H'
  le : Same F' H'
  fr : ∀ a, H a ≠ none → F' a = F a
theorem Ret.refl (h : Same F H) : Ret F H F H := ⟨Same.refl _, Same.refl _, h, fun _ _ => rfl⟩
theorem ne_none_of {o : HO} {a : Addr} (h : H a = some o) : H a ≠ none := by rw [h]; exact fun z => by cases z
theorem Same.dom (s : Same H H') {a : Addr} (h : H a ≠ none) : H' a ≠ none := by
  cases q : H a with
  | none => exact absurd q h
  | some o => rw [s a o q]; exact fun z => by cases z
theorem Ret.trans {F1 H1 F2 H2 : Hp} (r : Ret F H F1 H1) (q : Ret F1 H1 F2 H2) : Ret F H F2 H2 :=
  ⟨r.sf.trans q.sf, r.sh.trans q.sh, q.le, fun a h => (q.fr a (Same.dom r.sh h)).trans (r.fr a h)⟩
theorem Grow.ret (g : Grow B F H) (r : Ret F H F' H') : Grow B F' H' :=
  ⟨g.sf.trans r.sf, fun a o hm h => r.sh a o (g.sh a o hm h), fun a h => Same.dom r.sh (g.sd a h), fun a h => (r.fr a (g.sd a h)).trans (g.fr a h), r.le⟩
theorem EnvP.ret (E : EnvP c B F H σ δ fp) (r : Ret F H F' H') : EnvP c B F' H' σ δ fp :=
  E.step (E.gr.ret r) r.sf (fun i a h => by
    cases q : H a with
    | none => exact absurd q (E.there h)
    | some o => exact r.sh a o q) fun i a h => (r.fr a (E.there h)).trans (E.ff i a h)
theorem Env.ret (E : Env c B F H σ δ) (r : Ret F H F' H') : Env c B F' H' σ δ := let ⟨fp, E⟩ := E; ⟨fp, E.ret r⟩
theorem Env.le (E : Env c B F H σ δ) : Same F H := let ⟨_, E⟩ := E; E.gr.le
theorem same_none (s : Same F H) {p : Addr} (h : H p = none) : F p = none := s.free h
theorem same_upd {p : Addr} {o : HO} (h : H p = none) : Same H (upd H p o) := fun b x e => by
  rw [upd_ne (ne_of_none e h)]
  exact e
theorem upd_mono {p : Addr} {o : HO} (s : Same F H) : Same (upd F p o) (upd H p o) := fun b x e => by
  by_cases h : b = p
  · subst h; rw [upd_same] at e ⊢; exact e
  · rw [upd_ne h] at e ⊢; exact s b x e
/-- a new frozen object -/
theorem Ret.new {p : Addr} {o : HO} (s : Same F H) (h : H p = none) : Ret F H (upd F p o) (upd H p o) :=
  ⟨same_upd (same_none s h), same_upd h, upd_mono s, fun a ha => upd_ne fun z => by subst z; exact ha h⟩
/-- a new object that is not frozen -/
theorem Ret.newO {p : Addr} {o : HO} (s : Same F H) (h : H p = none) : Ret F H F (upd H p o) :=
  ⟨Same.refl _, same_upd h, s.trans (same_upd h), fun _ _ => rfl⟩
/-- an object that F does not know is frozen -/
theorem Grow.freeze {p : Addr} {o : HO} (g : Grow B F H) (h : H p = some o) (n : F p = none) (m : B.H0 p = none) : Grow B (upd F p o) H :=
  ⟨g.sf.trans (same_upd n), g.sh, g.sd, fun a ha => (upd_ne fun z => by subst z; exact ha m).trans (g.fr a ha), fun b x e => by
    by_cases hb : b = p
    · subst hb; rw [upd_same] at e; cases e; exact h
    · rw [upd_ne hb] at e; exact g.le b x e⟩
end
end DL
set_option maxHeartbeats 200000
set_option Elab.async false
set_option linter.all false
set_option maxRecDepth 100000
/-! DL2: what evaluates to what data, what runs to what environment: by the readings alone. -/
namespace DL
open PySem PySem.Spec PyProof.Rows L2
section
variable {c : Cn} {B : Bx} {F F' H H' : Hp} {σ : L2.St} {δ δ1 δ2 δ3 : DE} {fp : Nat → List Addr}

/-! ### an environment changes -/
def fpSet (fp : Nat → List Addr) (i : Nat) (l : List Addr) : Nat → List Addr := fun j => if j = i then l else fp j
theorem fpSet_self {fp : Nat → List Addr} {i : Nat} {l : List Addr} : fpSet fp i l i = l := if_pos rfl
theorem fpSet_ne {fp : Nat → List Addr} {i j : Nat} {l : List Addr} (h : j ≠ i) : fpSet fp i l j = fp j := if_neg h
theorem EnvP.setS (E : EnvP c B F H σ δ fp) {i : Nat} {v : V} {s : Sl} {fpv : List Addr} (hi : i < δ.length) (h : SlOk c F H fpv (some (some v)) s)
    (hf : ∀ a ∈ fpv, F a = none ∧ (B.H0 a = none ∨ (a ∈ B.M ∧ B.J i a)) ∧ ∀ j, j ≠ i → a ∉ fp j) (h0 : 0 < i) : EnvP c B F H (σ.set i (some v)) (δ.set i s) (fpSet fp i fpv) := by
  refine ⟨E.gr, by rw [List.length_set, List.length_set, E.len], fun j t hj => ?_, fun j hj => ?_, fun j k a ha hb => ?_, fun j a ha => ?_, fun j a ha => ?_, fun v hv => by rw [List.getElem?_set_ne (Nat.ne_of_gt h0)]; exact E.pi v hv⟩
  · by_cases hji : j = i
    · subst hji
      rw [List.getElem?_set_self hi] at hj
      cases hj
      rw [List.getElem?_set_self (by rw [E.len]; exact hi), fpSet_self]
      exact h
    · rw [List.getElem?_set_ne (Ne.symm hji)] at hj
      rw [List.getElem?_set_ne (Ne.symm hji), fpSet_ne hji]
      exact E.sl j t hj
  · have hji : j ≠ i := fun z => by
      subst z
      rw [List.getElem?_set_self hi] at hj
      cases hj
    rw [List.getElem?_set_ne (Ne.symm hji)] at hj
    rw [fpSet_ne hji]
    exact E.out j hj
  · by_cases h1 : j = i
    · by_cases h2 : k = i
      · rw [h1, h2]
      · subst h1
        rw [fpSet_self] at ha
        rw [fpSet_ne h2] at hb
        exact absurd hb ((hf a ha).2.2 k h2)
    · by_cases h2 : k = i
      · subst h2
        rw [fpSet_self] at hb
        rw [fpSet_ne h1] at ha
        exact absurd ha ((hf a hb).2.2 j h1)
      · rw [fpSet_ne h1] at ha
        rw [fpSet_ne h2] at hb
        exact E.ap j k a ha hb
  · by_cases h1 : j = i
    · subst h1
      rw [fpSet_self] at ha
      exact (hf a ha).1
    · rw [fpSet_ne h1] at ha
      exact E.ff j a ha
  · by_cases h1 : j = i
    · subst h1
      rw [fpSet_self] at ha
      exact (hf a ha).2.1
    · rw [fpSet_ne h1] at ha
      exact E.fh j a ha
theorem Env.setD (E : Env c B F H σ δ) {i : Nat} {v : V} {d : D} (hi : i < δ.length) (r : Rep c F v d) (h0 : 0 < i) : Env c B F H (σ.set i (some v)) (δ.set i (.d d)) :=
  let ⟨fp, E⟩ := E
  ⟨_, E.setS (fpv := []) hi ⟨rfl, v, rfl, r⟩ (fun _ h => nomatch h) h0⟩
/-- a slot is forgotten -/
theorem EnvP.setN (E : EnvP c B F H σ δ fp) {i : Nat} (o : Option V) (hi : i < δ.length) (h0 : 0 < i ∨ σ.set i o = σ) : EnvP c B F H (σ.set i o) (δ.set i .un) (fpSet fp i []) := by
  refine ⟨E.gr, by rw [List.length_set, List.length_set, E.len], fun j t hj => ?_, fun j hj => ?_, fun j k a ha hb => ?_, fun j a ha => ?_, fun j a ha => ?_, fun v hv => by
    rcases h0 with z | z
    · rw [List.getElem?_set_ne (Nat.ne_of_gt z)]; exact E.pi v hv
    · rw [z]; exact E.pi v hv⟩
  · by_cases hji : j = i
    · subst hji
      rw [List.getElem?_set_self hi] at hj
      cases hj
      rw [fpSet_self]
      rfl
    · rw [List.getElem?_set_ne (Ne.symm hji)] at hj
      rw [List.getElem?_set_ne (Ne.symm hji), fpSet_ne hji]
      exact E.sl j t hj
  · have hji : j ≠ i := fun z => by
      subst z
      rw [List.getElem?_set_self hi] at hj
      cases hj
    rw [List.getElem?_set_ne (Ne.symm hji)] at hj
    rw [fpSet_ne hji]
    exact E.out j hj
  · by_cases h1 : j = i
    · subst h1; rw [fpSet_self] at ha; cases ha
    · by_cases h2 : k = i
      · subst h2; rw [fpSet_self] at hb; cases hb
      · rw [fpSet_ne h1] at ha
        rw [fpSet_ne h2] at hb
        exact E.ap j k a ha hb
  · by_cases h1 : j = i
    · subst h1; rw [fpSet_self] at ha; cases ha
    · rw [fpSet_ne h1] at ha
      exact E.ff j a ha
  · by_cases h1 : j = i
    · subst h1; rw [fpSet_self] at ha; cases ha
    · rw [fpSet_ne h1] at ha
      exact E.fh j a ha
/-- the slot i is forgotten, σ as it is -/
theorem EnvP.drop (E : EnvP c B F H σ δ fp) {i : Nat} (hi : i < δ.length) : EnvP c B F H σ (δ.set i .un) (fpSet fp i []) := by
  obtain ⟨o, ho⟩ : ∃ o, σ[i]? = some o := ⟨_, List.getElem?_eq_getElem (by rw [E.len]; exact hi)⟩
  have e : σ.set i o = σ := by
    obtain ⟨h1, h2⟩ := List.getElem?_eq_some_iff.mp ho
    rw [← h2, List.set_getElem_self]
  have h := E.setN o hi (.inr e)
  rw [e] at h
  exact h
/-- the own object of slot i changes -/
theorem EnvP.mut (E : EnvP c B F H σ δ fp) {i : Nat} {s : Sl} {a : Addr} {o : HO} (hi : i < δ.length) (ha : a ∈ fp i) (h : SlOk c F (upd H a o) (fp i) σ[i]? s) : EnvP c B F (upd H a o) σ (δ.set i s) fp := by
  have hF := E.ff i a ha
  refine ⟨⟨E.gr.sf, fun b u hm e => ?_, fun b e => ?_, E.gr.fr, fun b u e => ?_⟩, by rw [List.length_set, E.len], fun j t hj => ?_, fun j hj => ?_, E.ap, E.ff, E.fh, E.pi⟩
  · rw [upd_ne]
    · exact E.gr.sh b u hm e
    · rintro rfl
      rcases E.fh i b ha with z | z
      · rw [z] at e; cases e
      · exact hm z.1
  · by_cases hb : b = a
    · subst hb; rw [upd_same]; exact fun z => by cases z
    · rw [upd_ne hb]; exact E.gr.sd b e
  · rw [upd_ne]
    · exact E.gr.le b u e
    · rintro rfl; rw [hF] at e; cases e
  · by_cases hji : j = i
    · subst hji
      rw [List.getElem?_set_self hi] at hj
      cases hj
      exact h
    · rw [List.getElem?_set_ne (Ne.symm hji)] at hj
      refine (E.sl j t hj).keep (Same.refl _) fun b hb => upd_ne ?_
      rintro rfl
      exact hji (E.ap j i b hb ha)
  · have hji : j ≠ i := fun z => by
      subst z
      rw [List.getElem?_set_self hi] at hj
      cases hj
    rw [List.getElem?_set_ne (Ne.symm hji)] at hj
    exact E.out j hj
/-- a new own object stands at p -/
theorem EnvP.newO (E : EnvP c B F H σ δ fp) {p : Addr} {o : HO} (h : H p = none) : EnvP c B F (upd H p o) σ δ fp ∧ F p = none ∧ B.H0 p = none ∧ ∀ i, p ∉ fp i :=
  ⟨E.ret (Ret.newO E.gr.le h), same_none E.gr.le h, (by
    cases q : B.H0 p with
    | none => rfl
    | some u => exact absurd h (E.gr.sd p (by rw [q]; exact fun z => by cases z))), fun i hp => E.there hp h⟩
/-- an object that belongs to nobody is frozen -/
theorem EnvP.frz (E : EnvP c B F H σ δ fp) {p : Addr} {o : HO} (h : H p = some o) (n : F p = none) (m : B.H0 p = none) (k : ∀ i, p ∉ fp i) : EnvP c B (upd F p o) H σ δ fp :=
  E.step (E.gr.freeze h n m) (same_upd n) (fun _ _ _ => rfl) fun i a ha => (upd_ne fun z => by subst z; exact k i ha).trans (E.ff i a ha)

/-! ### the judgements -/
def Ev (c : Cn) (te : TE) (δ : DE) (d : D) (δ' : DE) : Prop := ∀ (B : Bx) F H σ, Env c B F H σ δ → ∀ Q : VK, (∀ v F' H', Env c B F' H' σ δ' → Same F F' → Rep c F' v d → Q v H') → te σ H Q
def EvT (c : Cn) (tt : TT) (δ : DE) (b : Bool) (δ' : DE) : Prop := ∀ (B : Bx) F H σ, Env c B F H σ δ → ∀ Q : Bool → Hp → Prop, (∀ F' H', Env c B F' H' σ δ' → Same F F' → Q b H') → tt σ H Q
def EvA (c : Cn) (ta : TA) (δ : DE) (ds : List D) (δ' : DE) : Prop := ∀ (B : Bx) F H σ, Env c B F H σ δ → ∀ Q : List V → Hp → Prop, (∀ vs F' H', Env c B F' H' σ δ' → Same F F' → RepAll c F' vs ds → Q vs H') → ta σ H Q
def EvO (c : Cn) (to : TO) (δ : DE) (o : Option Int) (δ' : DE) : Prop := ∀ (B : Bx) F H σ, Env c B F H σ δ → ∀ Q : Option Int → Hp → Prop, (∀ F' H', Env c B F' H' σ δ' → Same F F' → Q o H') → to σ H Q
/-- the own objects fpv belong to nobody yet -/
def New (B : Bx) (F : Hp) (fp : Nat → List Addr) (fpv : List Addr) : Prop := ∀ a ∈ fpv, F a = none ∧ B.H0 a = none ∧ ∀ i, a ∉ fp i
/-- .. a new own object -/
def EvN (c : Cn) (te : TE) (δ : DE) (s : Sl) (δ' : DE) : Prop := ∀ (B : Bx) F H σ, Env c B F H σ δ → ∀ Q : VK, (∀ v F' H' fp fpv, EnvP c B F' H' σ δ' fp → Same F F' → SlOk c F' H' fpv (some (some v)) s → New B F' fp fpv → Q v H') → te σ H Q
inductive Out where
  | nx (δ : DE) | rt (s : Sl) (δ : DE) | bk (δ : DE) | ct (δ : DE)
def OutOk (c : Cn) (B : Bx) (F0 : Hp) (Dn : Ends) : Out → Prop
  | .nx δ => ∀ F H σ, Env c B F H σ δ → Same F0 F → Dn.nx σ H
  | .bk δ => ∀ F H σ, Env c B F H σ δ → Same F0 F → Dn.bk σ H
  | .ct δ => ∀ F H σ, Env c B F H σ δ → Same F0 F → Dn.ct σ H
  | .rt s δ => ∀ v F H σ fp fpv, EnvP c B F H σ δ fp → Same F0 F → SlOk c F H fpv (some (some v)) s → New B F fp fpv → Dn.rt v H
theorem OutOk.mono {F0 F1 : Hp} {Dn : Ends} {o : Out} (q : OutOk c B F0 Dn o) (e : Same F0 F1) : OutOk c B F1 Dn o := by
  cases o with
  | nx δ => exact fun F H σ E s => q F H σ E (e.trans s)
  | bk δ => exact fun F H σ E s => q F H σ E (e.trans s)
  | ct δ => exact fun F H σ E s => q F H σ E (e.trans s)
  | rt s δ => exact fun v F H σ fp fpv E s => q v F H σ fp fpv E (e.trans s)
def Run (c : Cn) (B : Bx) (t : TS) (δ : DE) (o : Out) : Prop := ∀ F H σ, Env c B F H σ δ → ∀ Dn : Ends, OutOk c B F Dn o → t Dn σ H

variable {ta tb te tc : TE} {tt tu : TT} {d e x y : D} {ds : List D} {t u : TS} {o : Out} {i j : Nat}
theorem Env.p (E : EnvP c B F H σ δ fp) : Env c B F H σ δ := ⟨fp, E⟩

/-! ### expressions -/
theorem ev_var (h : δ[i]? = some (.d d)) : Ev c (tVar i) δ d δ := fun B F H σ E Q q => by
  obtain ⟨fp, E⟩ := E
  obtain ⟨_, v, e, r⟩ := E.sl i _ h
  exact ⟨v, e, q v F H ⟨fp, E⟩ (Same.refl _) r⟩
theorem ev_non : Ev c (tC .non) δ .non δ := fun B F H σ E Q q => q _ F H E (Same.refl _) .non
theorem ev_bl {b : Bool} : Ev c (tC (.bl b)) δ (.bl b) δ := fun B F H σ E Q q => q _ F H E (Same.refl _) (.bl b)
theorem ev_int {n : Int} : Ev c (tC (.int n)) δ (.int n) δ := fun B F H σ E Q q => q _ F H E (Same.refl _) (.int n)
theorem ev_str {z : Str} : Ev c (tC (.str z)) δ (.str z) δ := fun B F H σ E Q q => q _ F H E (Same.refl _) (.str z)
/-- a constant of the module -/
theorem ev_con {v : V} (h : ∀ F, Rep c F v d) : Ev c (tC v) δ d δ := fun B F H σ E Q q => q _ F H E (Same.refl _) (h F)
theorem Rep.int_inv {c : Cn} {F : Hp} {v : V} {n : Int} (r : Rep c F v (.int n)) : v = .int n := by cases r; rfl
theorem Rep.bl_inv {c : Cn} {F : Hp} {v : V} {b : Bool} (r : Rep c F v (.bl b)) : v = .bl b := by cases r; rfl
theorem Rep.str_inv {c : Cn} {F : Hp} {v : V} {z : Str} (r : Rep c F v (.str z)) : v = .str z := by cases r; rfl
theorem Rep.tup_inv {c : Cn} {F : Hp} {v : V} {ds : List D} (r : Rep c F v (.tup ds)) : ∃ a vs, v = .ref a ∧ SqT c.K F a vs ∧ RepAll c F vs ds := by
  cases r with
  | tup h r => exact ⟨_, _, rfl, .inl (.inl h), r⟩
theorem Rep.lst_inv {c : Cn} {F : Hp} {v : V} {ds : List D} (r : Rep c F v (.lst ds)) : ∃ a vs, v = .ref a ∧ SqL c.K F a vs ∧ RepAll c F vs ds := by
  cases r with
  | lst h r => exact ⟨_, _, rfl, h, r⟩
theorem ev_is {d' : D} (h : Ev c te δ d δ1) (e : d = d') : Ev c te δ d' δ1 := e ▸ h
theorem evt_is {b b' : Bool} (h : EvT c tt δ b δ1) (e : b = b') : EvT c tt δ b' δ1 := e ▸ h
/-- a new own object that is frozen at once -/
theorem ev_lstN {xs : List D} (h : EvN c te δ (.ol xs) δ1) : Ev c te δ (.lst xs) δ1 := fun B F H σ E Q q => h _ F H σ E Q fun v F' H' fp fpv E' s ok nw => by
  obtain ⟨a, vs, e, rfl, hH, r⟩ := ok
  cases e
  obtain ⟨n1, n2, n3⟩ := nw a (List.mem_singleton.mpr rfl)
  exact q _ _ _ ⟨fp, E'.frz hH n1 n2 n3⟩ (s.trans (same_upd n1)) (.lst (.inl (.inl upd_same)) (r.mono (same_upd n1)))
theorem ev_dkN {kvs : List (Key × D)} (h : EvN c te δ (.odk kvs) δ1) : Ev c te δ (.dk kvs) δ1 := fun B F H σ E Q q => h _ F H σ E Q fun v F' H' fp fpv E' s ok nw => by
  obtain ⟨a, vs, e, rfl, hH, r⟩ := ok
  cases e
  obtain ⟨n1, n2, n3⟩ := nw a (List.mem_singleton.mpr rfl)
  exact q _ _ _ ⟨fp, E'.frz hH n1 n2 n3⟩ (s.trans (same_upd n1)) (.dk upd_same (r.mono (same_upd n1)))
theorem ev_dtN {kvs : List (D × D)} (h : EvN c te δ (.odt kvs) δ1) : Ev c te δ (.dt kvs) δ1 := fun B F H σ E Q q => h _ F H σ E Q fun v F' H' fp fpv E' s ok nw => by
  obtain ⟨a, vs, e, rfl, hH, r⟩ := ok
  cases e
  obtain ⟨n1, n2, n3⟩ := nw a (List.mem_singleton.mpr rfl)
  exact q _ _ _ ⟨fp, E'.frz hH n1 n2 n3⟩ (s.trans (same_upd n1)) (.dt upd_same (r.mono (same_upd n1)))
theorem ev_insN {C : Addr} {gs : List (Str × D)} (h : EvN c te δ (.oo C gs) δ1) : Ev c te δ (.ins C gs) δ1 := fun B F H σ E Q q => h _ F H σ E Q fun v F' H' fp fpv E' s ok nw => by
  obtain ⟨a, dx, fs, e, rfl, hH, r⟩ := ok
  cases e
  obtain ⟨n1, n2, n3⟩ := nw a (List.mem_singleton.mpr rfl)
  exact q _ _ _ ⟨fp, E'.frz hH n1 n2 n3⟩ (s.trans (same_upd n1)) (.ins upd_same (r.mono (same_upd n1)))

/-- two operands, then a rule by values -/
theorem ev_op2 {r : R2} {z : D} (ha : Ev c ta δ x δ1) (hb : Ev c tb δ1 y δ2)
    (hr : ∀ (B : Bx) F H σ v w, Env c B F H σ δ2 → Rep c F v x → Rep c F w y → ∀ Q : VK, (∀ v F' H', Env c B F' H' σ δ2 → Same F F' → Rep c F' v z → Q v H') → r v w H Q) : Ev c (tOp r ta tb) δ z δ2 :=
  fun B F H σ E Q q => ha _ F H σ E _ fun v F1 H1 E1 s1 r1 => hb _ F1 H1 σ E1 _ fun w F2 H2 E2 s2 r2 => hr _ F2 H2 σ v w E2 (r1.mono s2) r2 Q fun v F' H' E' s' r' => q v F' H' E' ((s1.trans s2).trans s') r'
theorem ev_op2N {r : R2} {s : Sl} (ha : Ev c ta δ x δ1) (hb : Ev c tb δ1 y δ2)
    (hr : ∀ (B : Bx) F H σ v w, Env c B F H σ δ2 → Rep c F v x → Rep c F w y → ∀ Q : VK, (∀ v F' H' fp fpv, EnvP c B F' H' σ δ2 fp → Same F F' → SlOk c F' H' fpv (some (some v)) s → New B F' fp fpv → Q v H') → r v w H Q) : EvN c (tOp r ta tb) δ s δ2 :=
  fun B F H σ E Q q => ha _ F H σ E _ fun v F1 H1 E1 s1 r1 => hb _ F1 H1 σ E1 _ fun w F2 H2 E2 s2 r2 => hr _ F2 H2 σ v w E2 (r1.mono s2) r2 Q fun v F' H' fp fpv E' s' r' n => q v F' H' fp fpv E' ((s1.trans s2).trans s') r' n
theorem ev_opI {g : Int → Int → V} {n m : Int} {z : D} (ha : Ev c ta δ (.int n) δ1) (hb : Ev c tb δ1 (.int m) δ2) (hz : ∀ c F, Rep c F (g n m) z) : Ev c (tOp (rI0 g) ta tb) δ z δ2 :=
  ev_op2 ha hb fun B F H σ v w E r1 r2 Q q => ⟨n, m, r1.int_inv, r2.int_inv, q _ F H E (Same.refl _) (hz _ _)⟩
theorem ev_opC {C : Int → Int → Prop} {g : Int → Int → V} {n m : Int} {z : D} (ha : Ev c ta δ (.int n) δ1) (hb : Ev c tb δ1 (.int m) δ2) (hc : C n m) (hz : ∀ c F, Rep c F (g n m) z) : Ev c (tOp (rI C g) ta tb) δ z δ2 :=
  ev_op2 ha hb fun B F H σ v w E r1 r2 Q q => ⟨n, m, r1.int_inv, r2.int_inv, hc, q _ F H E (Same.refl _) (hz _ _)⟩
section
variable {n m : Int}
theorem ev_add (ha : Ev c ta δ (.int n) δ1) (hb : Ev c tb δ1 (.int m) δ2) : Ev c (tOp (rI0 fun i j => .int (i + j)) ta tb) δ (.int (n + m)) δ2 := ev_opI ha hb fun _ _ => .int _
theorem ev_sub (ha : Ev c ta δ (.int n) δ1) (hb : Ev c tb δ1 (.int m) δ2) : Ev c (tOp (rI0 fun i j => .int (i - j)) ta tb) δ (.int (n - m)) δ2 := ev_opI ha hb fun _ _ => .int _
theorem ev_mul (ha : Ev c ta δ (.int n) δ1) (hb : Ev c tb δ1 (.int m) δ2) (hc : CMul n m) : Ev c (tOp (rI CMul fun i j => .int (i * j)) ta tb) δ (.int (n * m)) δ2 := ev_opC ha hb hc fun _ _ => .int _
theorem ev_fdiv (ha : Ev c ta δ (.int n) δ1) (hb : Ev c tb δ1 (.int m) δ2) (hc : CDiv n m) : Ev c (tOp (rI CDiv fun i j => .int (i / j)) ta tb) δ (.int (n / m)) δ2 := ev_opC ha hb hc fun _ _ => .int _
theorem ev_mod (ha : Ev c ta δ (.int n) δ1) (hb : Ev c tb δ1 (.int m) δ2) (hc : 0 < m) : Ev c (tOp (rI (fun _ j => 0 < j) fun i j => .int (i % j)) ta tb) δ (.int (n % m)) δ2 := ev_opC ha hb hc fun _ _ => .int _
theorem ev_pow (ha : Ev c ta δ (.int n) δ1) (hb : Ev c tb δ1 (.int m) δ2) (hc : CPow n m) : Ev c (tOp (rI CPow fun i j => .int (i ^ j.toNat)) ta tb) δ (.int (n ^ m.toNat)) δ2 := ev_opC ha hb hc fun _ _ => .int _
theorem ev_lt (ha : Ev c ta δ (.int n) δ1) (hb : Ev c tb δ1 (.int m) δ2) : Ev c (tOp (rI0 fun i j => .bl (decide (i < j))) ta tb) δ (.bl (decide (n < m))) δ2 := ev_opI ha hb fun _ _ => .bl _
theorem ev_le (ha : Ev c ta δ (.int n) δ1) (hb : Ev c tb δ1 (.int m) δ2) : Ev c (tOp (rI0 fun i j => .bl (decide (i ≤ j))) ta tb) δ (.bl (decide (n ≤ m))) δ2 := ev_opI ha hb fun _ _ => .bl _
theorem ev_gt (ha : Ev c ta δ (.int n) δ1) (hb : Ev c tb δ1 (.int m) δ2) : Ev c (tOp (rI0 fun i j => .bl (decide (j < i))) ta tb) δ (.bl (decide (m < n))) δ2 := ev_opI ha hb fun _ _ => .bl _
theorem ev_ge (ha : Ev c ta δ (.int n) δ1) (hb : Ev c tb δ1 (.int m) δ2) : Ev c (tOp (rI0 fun i j => .bl (decide (j ≤ i))) ta tb) δ (.bl (decide (m ≤ n))) δ2 := ev_opI ha hb fun _ _ => .bl _
theorem ev_neg (ha : Ev c ta δ (.int n) δ1) : Ev c (tUn (rU fun i => .int (-i)) ta) δ (.int (-n)) δ1 := fun B F H σ E Q q => ha _ F H σ E _ fun v F1 H1 E1 s1 r1 => ⟨n, r1.int_inv, q _ F1 H1 E1 s1 (.int _)⟩
end
/-- == of flat things of one kind -/
theorem ev_eqS {z w : Str} (ha : Ev c ta δ (.str z) δ1) (hb : Ev c tb δ1 (.str w) δ2) : Ev c (tOp rEq ta tb) δ (.bl (decide (z = w))) δ2 :=
  ev_op2 ha hb fun B F H σ v u E r1 r2 Q q => by
    rw [r1.str_inv, r2.str_inv]
    exact ⟨rfl, by rw [show decide (V.str z = V.str w) = decide (z = w) from decide_eq_decide.mpr ⟨V.str.inj, congrArg _⟩]; exact q _ F H E (Same.refl _) (.bl _)⟩
theorem ev_eqI {n m : Int} (ha : Ev c ta δ (.int n) δ1) (hb : Ev c tb δ1 (.int m) δ2) : Ev c (tOp rEq ta tb) δ (.bl (decide (n = m))) δ2 :=
  ev_op2 ha hb fun B F H σ v u E r1 r2 Q q => by
    rw [r1.int_inv, r2.int_inv]
    exact ⟨rfl, by rw [show decide (V.int n = V.int m) = decide (n = m) from decide_eq_decide.mpr ⟨V.int.inj, congrArg _⟩]; exact q _ F H E (Same.refl _) (.bl _)⟩
theorem ev_neI {n m : Int} (ha : Ev c ta δ (.int n) δ1) (hb : Ev c tb δ1 (.int m) δ2) : Ev c (tOp rNe ta tb) δ (.bl (!decide (n = m))) δ2 :=
  ev_op2 ha hb fun B F H σ v u E r1 r2 Q q => by
    rw [r1.int_inv, r2.int_inv]
    exact ⟨rfl, by rw [show decide (V.int n = V.int m) = decide (n = m) from decide_eq_decide.mpr ⟨V.int.inj, congrArg _⟩]; exact q _ F H E (Same.refl _) (.bl _)⟩
theorem ev_neS {z w : Str} (ha : Ev c ta δ (.str z) δ1) (hb : Ev c tb δ1 (.str w) δ2) : Ev c (tOp rNe ta tb) δ (.bl (!decide (z = w))) δ2 :=
  ev_op2 ha hb fun B F H σ v u E r1 r2 Q q => by
    rw [r1.str_inv, r2.str_inv]
    exact ⟨rfl, by rw [show decide (V.str z = V.str w) = decide (z = w) from decide_eq_decide.mpr ⟨V.str.inj, congrArg _⟩]; exact q _ F H E (Same.refl _) (.bl _)⟩
/-! tests -/
theorem evt_B {b : Bool} (h : Ev c te δ (.bl b) δ1) : EvT c (tB te) δ b δ1 := fun B F H σ E Q q => h _ F H σ E _ fun v F1 H1 E1 s1 r1 => ⟨b, r1.bl_inv, q F1 H1 E1 s1⟩
theorem evt_T {b : Bool} (h : Ev c te δ (.bl b) δ1) : EvT c (tTest te) δ b δ1 := fun B F H σ E Q q => h _ F H σ E _ fun v F1 H1 E1 s1 r1 => ⟨b, r1.bl_inv, q F1 H1 E1 s1⟩
theorem evt_not {b : Bool} (h : EvT c tt δ b δ1) : EvT c (tNot tt) δ (!b) δ1 := fun B F H σ E Q q => h _ F H σ E _ fun F1 H1 E1 s1 => q F1 H1 E1 s1
theorem evt_and {a b : Bool} (h1 : EvT c tt δ a δ) (h2 : a = true → EvT c tu δ b δ) : EvT c (tAnd tt tu) δ (a && b) δ := fun B F H σ E Q q => h1 _ F H σ E _ fun F1 H1 E1 s1 => by
  cases a with
  | true => exact h2 rfl _ F1 H1 σ E1 Q fun F2 H2 E2 s2 => q F2 H2 E2 (s1.trans s2)
  | false => exact q F1 H1 E1 s1
theorem evt_or {a b : Bool} (h1 : EvT c tt δ a δ) (h2 : a = false → EvT c tu δ b δ) : EvT c (tOr tt tu) δ (a || b) δ := fun B F H σ E Q q => h1 _ F H σ E _ fun F1 H1 E1 s1 => by
  cases a with
  | false => exact h2 rfl _ F1 H1 σ E1 Q fun F2 H2 E2 s2 => q F2 H2 E2 (s1.trans s2)
  | true => exact q F1 H1 E1 s1
theorem evt_yes : EvT c tYes δ true δ := fun B F H σ E Q q => q F H E (Same.refl _)
theorem ev_andV {a b : Bool} (h1 : Ev c ta δ (.bl a) δ) (h2 : a = true → Ev c tb δ (.bl b) δ) : Ev c (tAndV ta tb) δ (.bl (a && b)) δ := fun B F H σ E Q q => h1 _ F H σ E _ fun v F1 H1 E1 s1 r1 => ⟨a, r1.bl_inv, by
  cases a with
  | true => exact h2 rfl _ F1 H1 σ E1 Q fun v F2 H2 E2 s2 r2 => q v F2 H2 E2 (s1.trans s2) r2
  | false => exact q _ F1 H1 E1 s1 (.bl _)⟩
theorem ev_orV {a b : Bool} (h1 : Ev c ta δ (.bl a) δ) (h2 : a = false → Ev c tb δ (.bl b) δ) : Ev c (tOrV ta tb) δ (.bl (a || b)) δ := fun B F H σ E Q q => h1 _ F H σ E _ fun v F1 H1 E1 s1 r1 => ⟨a, r1.bl_inv, by
  cases a with
  | false => exact h2 rfl _ F1 H1 σ E1 Q fun v F2 H2 E2 s2 r2 => q v F2 H2 E2 (s1.trans s2) r2
  | true => exact q _ F1 H1 E1 s1 (.bl _)⟩
theorem ev_notV {a : Bool} (h1 : Ev c ta δ (.bl a) δ1) : Ev c (tNotV ta) δ (.bl (!a)) δ1 := fun B F H σ E Q q => h1 _ F H σ E _ fun v F1 H1 E1 s1 r1 => ⟨a, r1.bl_inv, q _ F1 H1 E1 s1 (.bl _)⟩
theorem ev_if {b : Bool} (h : EvT c tt δ b δ1) (h1 : b = true → Ev c ta δ1 d δ2) (h2 : b = false → Ev c tb δ1 d δ2) : Ev c (tIf tt ta tb) δ d δ2 := fun B F H σ E Q q => h _ F H σ E _ fun F1 H1 E1 s1 => by
  cases b with
  | true => exact h1 rfl _ F1 H1 σ E1 Q fun v F2 H2 E2 s2 r2 => q v F2 H2 E2 (s1.trans s2) r2
  | false => exact h2 rfl _ F1 H1 σ E1 Q fun v F2 H2 E2 s2 r2 => q v F2 H2 E2 (s1.trans s2) r2
/-- is None -/
def D.isNon : D → Bool
  | .non => true
  | _ => false
def D.noRaw : D → Bool
  | .raw _ => false
  | _ => true
theorem Rep.isNon {c : Cn} {v : V} (r : Rep c F v d) (h : d.noRaw = true) : decide (v = .non) = d.isNon := by
  cases r <;> first | rfl | cases h
theorem ev_isN (ha : Ev c ta δ d δ1) (h : d.noRaw = true := by rfl) : Ev c (tIsN ta) δ (.bl d.isNon) δ1 := fun B F H σ E Q q => ha _ F H σ E _ fun v F1 H1 E1 s1 r1 => q _ F1 H1 E1 s1 (by rw [r1.isNon h]; exact .bl _)
theorem ev_notN (ha : Ev c ta δ d δ1) (h : d.noRaw = true := by rfl) : Ev c (tNotN ta) δ (.bl (!d.isNon)) δ1 := fun B F H σ E Q q => ha _ F H σ E _ fun v F1 H1 E1 s1 r1 => q _ F1 H1 E1 s1 (by rw [r1.isNon h]; exact .bl _)
/-! lists of arguments, displays -/
theorem eva_nil : EvA c tNil δ [] δ := fun B F H σ E Q q => q _ F H E (Same.refl _) .nil
theorem eva_cons {tr : TA} (h : Ev c ta δ d δ1) (hr : EvA c tr δ1 ds δ2) : EvA c (tCons ta tr) δ (d :: ds) δ2 := fun B F H σ E Q q => h _ F H σ E _ fun v F1 H1 E1 s1 r1 => hr _ F1 H1 σ E1 _ fun vs F2 H2 E2 s2 r2 => q _ F2 H2 E2 (s1.trans s2) (.cons (r1.mono s2) r2)
theorem ev_tup {tl : TA} (h : EvA c tl δ ds δ1) (hz : ds.length ≤ 100000) : Ev c (tTup tl) δ (.tup ds) δ1 := fun B F H σ E Q q => h _ F H σ E _ fun vs F1 H1 E1 s1 r1 =>
  ⟨by rw [r1.length]; exact Nat.le_trans hz (by decide), fun p hp => by
    have R := Ret.new (o := .tup vs) E1.le hp
    exact q _ _ _ (E1.ret R) (s1.trans R.sf) (.tup upd_same (r1.mono R.sf))⟩
theorem evn_lst {tl : TA} (h : EvA c tl δ ds δ1) (hz : ds.length ≤ 100000) : EvN c (tLst tl) δ (.ol ds) δ1 := fun B F H σ E Q q => h _ F H σ E _ fun vs F1 H1 E1 s1 r1 =>
  ⟨by rw [r1.length]; exact Nat.le_trans hz (by decide), fun p hp => by
    obtain ⟨fp, E1⟩ := E1
    obtain ⟨E2, n1, n2, n3⟩ := E1.newO (o := .lst vs) hp
    exact q _ _ _ fp [p] E2 s1 ⟨p, vs, rfl, rfl, upd_same, r1⟩ fun a ha => by rw [List.mem_singleton.mp ha]; exact ⟨n1, n2, n3⟩⟩
/-! subscripts, slices, sizes -/
theorem atI_rep {c : Cn} {vs : List V} {n : Int} (r : RepAll c F vs ds) (h : atI ds n = some d) : ∃ v, atI vs n = some v ∧ Rep c F v d := by
  unfold atI at h ⊢
  rw [r.length]
  cases q : ixN ds.length n with
  | none => rw [q] at h; cases h
  | some j =>
    rw [q] at h
    obtain ⟨v, h1, h2⟩ := r.get (show ds[j]? = some d from h)
    exact ⟨v, h1, h2⟩
theorem ev_ixT {n : Int} (ha : Ev c ta δ (.tup ds) δ1) (hb : Ev c tb δ1 (.int n) δ2) (h : atI ds n = some d) : Ev c (tOp (rIxT c.K) ta tb) δ d δ2 :=
  ev_op2 ha hb fun B F H σ v w E r1 r2 Q q => by
    obtain ⟨a, vs, rfl, hs, r⟩ := r1.tup_inv
    obtain ⟨x, h1, h2⟩ := atI_rep r h
    exact ⟨a, vs, n, x, rfl, r2.int_inv, sqT_mono E.le hs, h1, q _ F H E (Same.refl _) h2⟩
theorem ev_ixL {n : Int} (ha : Ev c ta δ (.lst ds) δ1) (hb : Ev c tb δ1 (.int n) δ2) (h : atI ds n = some d) : Ev c (tOp (rIxL c.K) ta tb) δ d δ2 :=
  ev_op2 ha hb fun B F H σ v w E r1 r2 Q q => by
    obtain ⟨a, vs, rfl, hs, r⟩ := r1.lst_inv
    obtain ⟨x, h1, h2⟩ := atI_rep r h
    exact ⟨a, vs, n, x, rfl, r2.int_inv, E.le.seq hs, h1, q _ F H E (Same.refl _) h2⟩
theorem ev_ixOL {n : Int} (hi : δ[i]? = some (.ol ds)) (hb : Ev c tb δ (.int n) δ2) (h2' : δ2[i]? = some (.ol ds)) (h : atI ds n = some d) : Ev c (tOp (rIxL c.K) (tVar i) tb) δ d δ2 := fun B F H σ E Q q => by
  obtain ⟨fp, E⟩ := E
  obtain ⟨a, vs, e, ef, hH, r⟩ := E.sl i _ hi
  refine ⟨_, e, hb _ F H σ ⟨fp, E⟩ _ fun w F2 H2 E2 s2 r2 => ?_⟩
  obtain ⟨fp2, E2⟩ := E2
  obtain ⟨a', vs', e', ef', hH', r'⟩ := E2.sl i _ h2'
  rw [e] at e'; cases e'
  obtain ⟨x, h3, h4⟩ := atI_rep r' h
  exact ⟨a, vs', n, x, rfl, r2.int_inv, .inl (.inl hH'), h3, q _ _ _ ⟨fp2, E2⟩ s2 h4⟩
def cutD (xs : List D) (lo hi : Option Int) : List D := (xs.drop (HT.sIx xs.length 0 lo)).take (HT.sIx xs.length xs.length hi - HT.sIx xs.length 0 lo)
theorem rep_cut {c : Cn} {vs : List V} {lo hi : Option Int} (r : RepAll c F vs ds) : RepAll c F (cutV vs lo hi) (cutD ds lo hi) := by
  unfold cutV cutD
  rw [r.length]
  exact (r.drop _).take _
theorem evo_no : EvO c tNoPart δ none δ := fun B F H σ E Q q => q F H E (Same.refl _)
theorem evo_some {n : Int} (h : Ev c te δ (.int n) δ1) : EvO c (tPart te) δ (some n) δ1 := fun B F H σ E Q q => h _ F H σ E _ fun v F1 H1 E1 s1 r1 => ⟨n, r1.int_inv, q F1 H1 E1 s1⟩
theorem cut_whole {lo hi : Option Int} (h : HT.sIx ds.length 0 lo = 0 ∧ HT.sIx ds.length ds.length hi = ds.length) : cutD ds lo hi = ds := by
  unfold cutD
  rw [h.1, h.2]
  simp
theorem ev_slT {tl th : TO} {lo hi : Option Int} (ha : Ev c te δ (.tup ds) δ1) (hl : EvO c tl δ1 lo δ2) (hh : EvO c th δ2 hi δ3) : Ev c (tSl (rSlA c.K) te tl th) δ (.tup (cutD ds lo hi)) δ3 := fun B F H σ E Q q =>
  ha _ F H σ E _ fun v F1 H1 E1 s1 r1 => hl _ F1 H1 σ E1 _ fun F2 H2 E2 s2 => hh _ F2 H2 σ E2 _ fun F3 H3 E3 s3 => by
    obtain ⟨a, vs, rfl, hs, r⟩ := (r1.mono (s2.trans s3)).tup_inv
    refine ⟨a, vs, rfl, sqT_mono E3.le hs, fun w => ?_, fun _ p hp => ?_⟩
    · rw [r.length] at w
      exact q _ F3 H3 E3 ((s1.trans s2).trans s3) (by rw [cut_whole w]; exact r1.mono (s2.trans s3))
    · have R := Ret.new (o := .tup (cutV vs lo hi)) E3.le hp
      exact q _ _ _ (E3.ret R) (((s1.trans s2).trans s3).trans R.sf) (.tup upd_same (rep_cut (RepAll.mono R.sf r)))
theorem evn_slL {tl th : TO} {lo hi : Option Int} (ha : Ev c te δ (.lst ds) δ1) (hl : EvO c tl δ1 lo δ2) (hh : EvO c th δ2 hi δ3) : EvN c (tSl (rSlL c.K) te tl th) δ (.ol (cutD ds lo hi)) δ3 := fun B F H σ E Q q =>
  ha _ F H σ E _ fun v F1 H1 E1 s1 r1 => hl _ F1 H1 σ E1 _ fun F2 H2 E2 s2 => hh _ F2 H2 σ E2 _ fun F3 H3 E3 s3 => by
    obtain ⟨a, vs, rfl, hs, r⟩ := (r1.mono (s2.trans s3)).lst_inv
    refine ⟨a, vs, rfl, E3.le.seq hs, fun p hp => ?_⟩
    obtain ⟨fp, E3⟩ := E3
    obtain ⟨E4, n1, n2, n3⟩ := E3.newO (o := .lst (cutV vs lo hi)) hp
    exact q _ _ _ fp [p] E4 ((s1.trans s2).trans s3) ⟨p, _, rfl, rfl, upd_same, rep_cut r⟩ fun a ha => by rw [List.mem_singleton.mp ha]; exact ⟨n1, n2, n3⟩
end
end DL
set_option maxHeartbeats 200000
set_option Elab.async false
set_option linter.all false
set_option maxRecDepth 100000
/-! DL3: statements, loops, comprehensions, calls. -/
namespace DL
open PySem PySem.Spec PyProof.Rows L2
section
variable {c : Cn} {B : Bx} {F F' H H' : Hp} {σ : L2.St} {δ δ1 δ2 δ3 : DE} {fp : Nat → List Addr} {ta tb te tc : TE} {tt tu : TT} {d e x y : D} {ds : List D} {t u : TS} {o : Out} {i j : Nat} {s : Sl}

/-! ### statements -/
theorem run_seq (h : Run c B t δ (.nx δ1)) (k : Run c B u δ1 o) : Run c B (tSeq t u) δ o := fun F H σ E Dn q =>
  h F H σ E { Dn with nx := u Dn } fun F1 H1 σ1 E1 s1 => k F1 H1 σ1 E1 Dn (q.mono s1)
/-- what does not go on -/
theorem run_seqX (h : Run c B t δ o) (ho : ∀ δ', o ≠ .nx δ') : Run c B (tSeq t u) δ o := fun F H σ E Dn q =>
  h F H σ E { Dn with nx := u Dn } (by
    cases o with
    | nx δ' => exact absurd rfl (ho δ')
    | rt s δ' => exact q
    | bk δ' => exact q
    | ct δ' => exact q)
theorem run_seq_rt (h : Run c B t δ (.rt s δ1)) : Run c B (tSeq t u) δ (.rt s δ1) := run_seqX h fun _ z => by cases z
theorem run_seq_bk (h : Run c B t δ (.bk δ1)) : Run c B (tSeq t u) δ (.bk δ1) := run_seqX h fun _ z => by cases z
theorem run_seq_ct (h : Run c B t δ (.ct δ1)) : Run c B (tSeq t u) δ (.ct δ1) := run_seqX h fun _ z => by cases z
theorem run_next : Run c B tNext δ (.nx δ) := fun F H σ E Dn q => q F H σ E (Same.refl _)
theorem run_break : Run c B tBreak δ (.bk δ) := fun F H σ E Dn q => q F H σ E (Same.refl _)
theorem run_cont : Run c B tCont δ (.ct δ) := fun F H σ E Dn q => q F H σ E (Same.refl _)
theorem run_asg (h : Ev c te δ d δ1) (hi : i < δ1.length := by first | decide | simp) (h0 : 0 < i := by first | decide | omega) : Run c B (tAsg te (gName i)) δ (.nx (δ1.set i (.d d))) := fun F H σ E Dn q =>
  h _ F H σ E _ fun v F1 H1 E1 s1 r1 => q F1 H1 _ (E1.setD hi r1 h0) s1
theorem run_asgN (h : EvN c te δ s δ1) (hi : i < δ1.length := by first | decide | simp) (h0 : 0 < i := by first | decide | omega) : Run c B (tAsg te (gName i)) δ (.nx (δ1.set i s)) := fun F H σ E Dn q =>
  h _ F H σ E _ fun v F1 H1 fp fpv E1 s1 ok nw => q F1 H1 _ ⟨_, E1.setS hi ok (fun a ha => ⟨(nw a ha).1, .inl (nw a ha).2.1, fun j _ => (nw a ha).2.2 j⟩) h0⟩ s1
theorem run_aug {f : Int → Int → Int} {n m : Int} (hv : δ[i]? = some (.d (.int n))) (h : Ev c te δ (.int m) δ1) (hi : i < δ1.length := by first | decide | simp) (h0 : 0 < i := by first | decide | omega) : Run c B (tAug i te (ipI f)) δ (.nx (δ1.set i (.d (.int (f n m))))) := fun F H σ E Dn q => by
  obtain ⟨fp, E'⟩ := id E
  obtain ⟨_, v, e, r⟩ := E'.sl i _ hv
  exact ⟨v, e, h _ F H σ E _ fun w F1 H1 E1 s1 r1 => ⟨n, m, r.int_inv, r1.int_inv, q F1 H1 _ (E1.setD hi (.int _) h0) s1⟩⟩
theorem run_if {b : Bool} (h : EvT c tt δ b δ1) (h1 : b = true → Run c B t δ1 o) (h2 : b = false → Run c B u δ1 o) : Run c B (tIfS tt t u) δ o := fun F H σ E Dn q =>
  h _ F H σ E _ fun F1 H1 E1 s1 => by
    cases b with
    | true => exact h1 rfl F1 H1 σ E1 Dn (q.mono s1)
    | false => exact h2 rfl F1 H1 σ E1 Dn (q.mono s1)
theorem run_seq_if {b : Bool} {w : TS} (h : EvT c tt δ b δ1) (h1 : b = true → Run c B (tSeq t w) δ1 o) (h2 : b = false → Run c B (tSeq u w) δ1 o) : Run c B (tSeq (tIfS tt t u) w) δ o := fun F H σ E Dn q =>
  h _ F H σ E _ fun F1 H1 E1 s1 => by
    cases b with
    | true => exact h1 rfl F1 H1 σ E1 Dn (q.mono s1)
    | false => exact h2 rfl F1 H1 σ E1 Dn (q.mono s1)
theorem run_seq_next {w : TS} (h : Run c B w δ o) : Run c B (tSeq tNext w) δ o := h
theorem run_ret (h : Ev c te δ d δ1) : Run c B (tRet te) δ (.rt (.d d) δ1) := fun F H σ E Dn q =>
  h _ F H σ E _ fun v F1 H1 E1 s1 r1 => let ⟨fp, E1⟩ := E1; q v F1 H1 σ fp [] E1 s1 ⟨rfl, v, rfl, r1⟩ fun _ z => nomatch z
theorem run_retNew (h : EvN c te δ s δ1) : Run c B (tRet te) δ (.rt s δ1) := fun F H σ E Dn q =>
  h _ F H σ E _ fun v F1 H1 fp fpv E1 s1 ok nw => q v F1 H1 σ fp fpv E1 s1 ok nw
theorem run_retNone : Run c B tRetN δ (.rt (.d .non) δ) := fun F H σ E Dn q => let ⟨fp, E1⟩ := E; q .non F H σ fp [] E1 (Same.refl _) ⟨rfl, _, rfl, .non⟩ fun _ z => nomatch z
theorem run_drop (h : Ev c te δ d δ1) : Run c B (tDrop te) δ (.nx δ1) := fun F H σ E Dn q => h _ F H σ E _ fun v F1 H1 E1 s1 r1 => q F1 H1 σ E1 s1
theorem run_is {o' : Out} (h : Run c B t δ o) (e : o = o') : Run c B t δ o' := e ▸ h
def Sl.own : Sl → Bool
  | .un => false
  | .d _ => false
  | _ => true
/-- .. in an environment of this kind alone -/
def EvNB (c : Cn) (B : Bx) (te : TE) (δ : DE) (s : Sl) (δ' : DE) : Prop := ∀ F H σ, Env c B F H σ δ → ∀ Q : VK, (∀ v F' H' fp fpv, EnvP c B F' H' σ δ' fp → Same F F' → SlOk c F' H' fpv (some (some v)) s → New B F' fp fpv → Q v H') → te σ H Q
theorem EvN.at (h : EvN c te δ s δ1) : EvNB c B te δ s δ1 := h B
theorem run_asgM (h : EvNB c B te δ s δ1) (hi : i < δ1.length := by first | decide | simp) (h0 : 0 < i := by first | decide | omega) : Run c B (tAsg te (gName i)) δ (.nx (δ1.set i s)) := fun F H σ E Dn q =>
  h F H σ E _ fun v F1 H1 fp fpv E1 s1 ok nw => q F1 H1 _ ⟨_, E1.setS hi ok (fun a ha => ⟨(nw a ha).1, .inl (nw a ha).2.1, fun j _ => (nw a ha).2.2 j⟩) h0⟩ s1
theorem run_retM (h : EvNB c B te δ s δ1) : Run c B (tRet te) δ (.rt s δ1) := fun F H σ E Dn q =>
  h F H σ E _ fun v F1 H1 fp fpv E1 s1 ok nw => q v F1 H1 σ fp fpv E1 s1 ok nw
/-- an own object leaves its slot: it is handed on -/
theorem mine {a : Addr} (hM : B.M = [] ∨ ∀ a, ¬ B.J i a) (z : a ∈ B.M ∧ B.J i a) : False := by
  rcases hM with h | h
  · rw [h] at z; cases z.1
  · exact h a z.2
theorem evn_moveJ (hM : B.M = [] ∨ ∀ a, ¬ B.J i a) (h : δ[i]? = some s) (hs : s.own = true := by rfl) : EvNB c B (tVar i) δ s (δ.set i .un) := fun F H σ E Q q => by
  obtain ⟨fp, E⟩ := E
  have ok := E.sl i _ h
  have hi : i < δ.length := (List.getElem?_eq_some_iff.mp h).1
  have ex : ∃ v, σ[i]? = some (some v) := by
    cases s with
    | un => cases hs
    | d _ => cases hs
    | ol xs => obtain ⟨a, _, e, _⟩ := ok; exact ⟨_, e⟩
    | odk xs => obtain ⟨a, _, e, _⟩ := ok; exact ⟨_, e⟩
    | odt xs => obtain ⟨a, _, e, _⟩ := ok; exact ⟨_, e⟩
    | oo C gs => obtain ⟨a, _, _, e, _⟩ := ok; exact ⟨_, e⟩
    | oll xs => obtain ⟨a, _, e, _⟩ := ok; exact ⟨_, e⟩
  obtain ⟨v, e⟩ := ex
  rw [e] at ok
  refine ⟨v, e, q v F H (fpSet fp i []) (fp i) (E.drop hi) (Same.refl _) ok fun a ha => ⟨E.ff i a ha, ?_, fun j hj => ?_⟩⟩
  · rcases E.fh i a ha with z | z
    · exact z
    · exact (mine hM z).elim
  · by_cases hji : j = i
    · subst hji; rw [fpSet_self] at hj; cases hj
    · rw [fpSet_ne hji] at hj
      exact hji (E.ap j i a hj ha)
theorem evn_move (hM : B.M = []) (h : δ[i]? = some s) (hs : s.own = true := by rfl) : EvNB c B (tVar i) δ s (δ.set i .un) := evn_moveJ (.inl hM) h hs
/-- an own object of slot i is frozen from here on -/
def Sl.frz : Sl → D
  | .ol xs => .lst xs
  | .odk kvs => .dk kvs
  | .odt kvs => .dt kvs
  | .oo C gs => .ins C gs
  | .oll xss => .lst (xss.map .lst)
  | _ => .non
theorem paired_frz {c : Cn} {H : Hp} : ∀ {F : Hp} {bs : List Addr} {xss : List (List D)}, Paired (fun b xs => ∃ vs, H b = some (.lst vs) ∧ RepAll c F vs xs) bs xss → (∀ b ∈ bs, F b = none) → bs.Nodup → Same F H →
    ∃ F', Same F F' ∧ Same F' H ∧ RepAll c F' (bs.map V.ref) (xss.map .lst) ∧ ∀ a, a ∉ bs → F' a = F a
  | F, _, _, .nil, _, _, s => ⟨F, Same.refl _, s, .nil, fun _ _ => rfl⟩
  | F, b :: bs, xs :: xss, .cons r t, n, nd, s => by
    obtain ⟨vs, e, r⟩ := r
    have nb := n b List.mem_cons_self
    have ⟨nd1, nd2⟩ := List.nodup_cons.mp nd
    have s0 : Same F (upd F b (.lst vs)) := same_upd nb
    have s1 : Same (upd F b (.lst vs)) H := fun a o h => by
      by_cases ha : a = b
      · subst ha; rw [upd_same] at h; cases h; exact e
      · rw [upd_ne ha] at h; exact s a o h
    obtain ⟨F', f1, f2, f3, f4⟩ := paired_frz (F := upd F b (.lst vs)) (bs := bs) (xss := xss) (Paired.mapP t fun _ _ ⟨ws, q1, q2⟩ => ⟨ws, q1, RepAll.mono s0 q2⟩) (fun a ha => by
        rw [upd_ne (show a ≠ b from fun z => by subst z; exact nd1 ha)]
        exact n a (List.mem_cons_of_mem _ ha)) nd2 s1
    exact ⟨F', s0.trans f1, f2, .cons (.lst (.inl (.inl (f1 _ _ upd_same))) (RepAll.mono (s0.trans f1) r)) f3, fun a ha => by
      rw [f4 a fun z => ha (List.mem_cons_of_mem _ z), upd_ne (show a ≠ b from fun z => by subst z; exact ha List.mem_cons_self)]⟩
theorem EnvP.freeze (E : EnvP c B F H σ δ fp) (hM : B.M = [] ∨ ∀ a, ¬ B.J i a) (h : δ[i]? = some s) (hs : s.own = true) : ∃ F', Same F F' ∧ Env c B F' H σ (δ.set i (.d s.frz)) := by
  have ok := E.sl i _ h
  have hi : i < δ.length := (List.getElem?_eq_some_iff.mp h).1
  have m0 : ∀ a ∈ fp i, B.H0 a = none := fun a ha => by
    rcases E.fh i a ha with z | z
    · exact z
    · exact (mine hM z).elim
  have main : ∀ (F' : Hp) (v : V), Same F F' → Same F' H → (∀ a, a ∉ fp i → F' a = F a) → σ[i]? = some (some v) → Rep c F' v s.frz → Env c B F' H σ (δ.set i (.d s.frz)) := fun F' v s1 s2 k e r => by
    have g : Grow B F' H := ⟨E.gr.sf.trans s1, E.gr.sh, E.gr.sd, fun a ha => (k a fun z => ha (m0 a z)).trans (E.gr.fr a ha), s2⟩
    have n : ∀ j a, j ≠ i → a ∈ fp j → F' a = none := fun j a hj ha => (k a fun z => hj (E.ap j i a ha z)).trans (E.ff j a ha)
    refine ⟨fpSet fp i [], g, by rw [List.length_set, E.len], fun j t hj => ?_, fun j hj => ?_, fun j k a ha hb => ?_, fun j a ha => ?_, fun j a ha => ?_, E.pi⟩
    · by_cases hji : j = i
      · subst hji
        rw [List.getElem?_set_self hi] at hj
        cases hj
        rw [fpSet_self]
        exact ⟨rfl, v, e, r⟩
      · rw [List.getElem?_set_ne (Ne.symm hji)] at hj
        rw [fpSet_ne hji]
        exact (E.sl j t hj).keep s1 fun _ _ => rfl
    · have hji : j ≠ i := fun z => by
        subst z
        rw [List.getElem?_set_self hi] at hj
        cases hj
      rw [List.getElem?_set_ne (Ne.symm hji)] at hj
      rw [fpSet_ne hji]
      exact E.out j hj
    · by_cases h1 : j = i
      · subst h1; rw [fpSet_self] at ha; cases ha
      · by_cases h2 : k = i
        · subst h2; rw [fpSet_self] at hb; cases hb
        · rw [fpSet_ne h1] at ha
          rw [fpSet_ne h2] at hb
          exact E.ap j k a ha hb
    · by_cases h1 : j = i
      · subst h1; rw [fpSet_self] at ha; cases ha
      · rw [fpSet_ne h1] at ha
        exact n j a h1 ha
    · by_cases h1 : j = i
      · subst h1; rw [fpSet_self] at ha; cases ha
      · rw [fpSet_ne h1] at ha
        exact E.fh j a ha
  have one : ∀ (a : Addr) (o : HO), fp i = [a] → H a = some o → Same F (upd F a o) ∧ Same (upd F a o) H ∧ ∀ b, b ∉ fp i → upd F a o b = F b := fun a o hf ha => by
    have n := E.ff i a (by rw [hf]; exact List.mem_singleton.mpr rfl)
    refine ⟨same_upd n, fun b x e => ?_, fun b hb => upd_ne fun z => hb (by rw [hf, z]; exact List.mem_singleton.mpr rfl)⟩
    by_cases hb : b = a
    · subst hb; rw [upd_same] at e; cases e; exact ha
    · rw [upd_ne hb] at e; exact E.gr.le b x e
  cases s with
  | un => cases hs
  | d _ => cases hs
  | ol xs =>
    obtain ⟨a, vs, e, hf, ha, r⟩ := ok
    obtain ⟨s1, s2, k⟩ := one a _ hf ha
    exact ⟨_, s1, main _ _ s1 s2 k e (.lst (.inl (.inl upd_same)) (RepAll.mono s1 r))⟩
  | odk xs =>
    obtain ⟨a, vs, e, hf, ha, r⟩ := ok
    obtain ⟨s1, s2, k⟩ := one a _ hf ha
    exact ⟨_, s1, main _ _ s1 s2 k e (.dk upd_same (RepK.mono s1 r))⟩
  | odt xs =>
    obtain ⟨a, vs, e, hf, ha, r⟩ := ok
    obtain ⟨s1, s2, k⟩ := one a _ hf ha
    exact ⟨_, s1, main _ _ s1 s2 k e (.dt upd_same (RepT.mono s1 r))⟩
  | oo C gs =>
    obtain ⟨a, dx, fs, e, hf, ha, r⟩ := ok
    obtain ⟨s1, s2, k⟩ := one a _ hf ha
    exact ⟨_, s1, main _ _ s1 s2 k e (.ins upd_same (RepF.mono s1 r))⟩
  | oll xss =>
    obtain ⟨a, bs, e, hf, nd, ha, p⟩ := ok
    have ⟨nd1, nd2⟩ := List.nodup_cons.mp nd
    have ffi : ∀ b, b ∈ a :: bs → F b = none := fun b hb => E.ff i b (by rw [hf]; exact hb)
    obtain ⟨F1, f1, f2, f3, f4⟩ := paired_frz p (fun b hb => ffi b (List.mem_cons_of_mem _ hb)) nd2 E.gr.le
    have n1 : F1 a = none := by rw [f4 a nd1]; exact ffi a List.mem_cons_self
    have s1 : Same F1 (upd F1 a (.lst (bs.map V.ref))) := same_upd n1
    refine ⟨_, f1.trans s1, main _ _ (f1.trans s1) (fun b x e => ?_) (fun b hb => ?_) e (.lst (.inl (.inl upd_same)) (RepAll.mono s1 f3))⟩
    · by_cases hb : b = a
      · subst hb; rw [upd_same] at e; cases e; exact ha
      · rw [upd_ne hb] at e; exact f2 b x e
    · rw [hf] at hb
      rw [upd_ne (show b ≠ a from fun z => by subst z; exact hb List.mem_cons_self)]
      exact f4 b fun z => hb (List.mem_cons_of_mem _ z)
theorem run_freezeJ (i : Nat) (hM : B.M = [] ∨ ∀ a, ¬ B.J i a) (h : δ[i]? = some s) (k : Run c B t (δ.set i (.d s.frz)) o) (hs : s.own = true := by rfl) : Run c B t δ o := fun F H σ E Dn q => by
  obtain ⟨fp, E⟩ := E
  obtain ⟨F', s', E'⟩ := E.freeze hM h hs
  exact k F' H σ E' Dn (q.mono s')
theorem run_freeze (i : Nat) (hM : B.M = []) (h : δ[i]? = some s) (k : Run c B t (δ.set i (.d s.frz)) o) (hs : s.own = true := by rfl) : Run c B t δ o := run_freezeJ i (.inl hM) h k hs
/-- a slot is forgotten -/
theorem run_forget (i : Nat) (k : Run c B t (δ.set i .un) o) : Run c B t δ o := fun F H σ E Dn q => by
  obtain ⟨fp, E⟩ := E
  by_cases hi : i < δ.length
  · exact k F H σ ⟨_, E.drop hi⟩ Dn q
  · exact k F H σ ⟨fp, by rw [List.set_eq_of_length_le (Nat.le_of_not_lt hi)]; exact E⟩ Dn q

/-! ### what is walked -/
/-- the iterator J yields the data ds while F stands -/
def Yields (c : Cn) (J : It) (F : Hp) (ds : List D) : Prop := ∀ F1 H1, Same F F1 → Same F1 H1 →
  (∀ i, i < ds.length → J.go i H1) ∧ J.stop ds.length H1 ∧
  ∀ i (d : D), ds[i]? = some d → ∀ x H2, J.yld i H1 x H2 → ∃ F2, Ret F1 H1 F2 H2 ∧ Rep c F2 x d
def EvI (c : Cn) (wi : TI) (δ : DE) (ds : List D) (δ' : DE) : Prop := ∀ (B : Bx) F H σ, Env c B F H σ δ → ∀ R : It → Hp → Prop, (∀ J F' H', Env c B F' H' σ δ' → Same F F' → Yields c J F' ds → R J H') → wi σ H R
theorem evi_list (h : Ev c te δ (.lst ds) δ1) : EvI c (iList c.K te) δ ds δ1 := fun B F H σ E R q => h _ F H σ E _ fun v F1 H1 E1 s1 r1 => by
  obtain ⟨a, vs, rfl, hs, r⟩ := r1.lst_inv
  refine ⟨a, rfl, ⟨vs, E1.le.seq hs⟩, q _ F1 H1 E1 s1 fun F2 H2 k1 k2 => ⟨fun i hi => ?_, ⟨vs, (k1.trans k2).seq hs, by rw [r.length]; exact Nat.le_refl _⟩, fun i d hd x H3 hy => ?_⟩⟩
  · obtain ⟨x, hx, _⟩ := r.get (List.getElem?_eq_getElem hi)
    exact ⟨vs, x, (k1.trans k2).seq hs, hx⟩
  · obtain ⟨rfl, f⟩ := hy
    obtain ⟨w, hw, rw'⟩ := r.get hd
    have e : x = w := Option.some.inj ((f _ ((k1.trans k2).seq hs)).symm.trans hw)
    rw [e]
    exact ⟨F2, Ret.refl k2, rw'.mono k1⟩
theorem evi_tup (h : Ev c te δ (.tup ds) δ1) : EvI c (iTup c.K te) δ ds δ1 := fun B F H σ E R q => h _ F H σ E _ fun v F1 H1 E1 s1 r1 => by
  obtain ⟨a, vs, rfl, hs, r⟩ := r1.tup_inv
  refine ⟨a, rfl, ⟨vs, sqT_mono E1.le hs⟩, q _ F1 H1 E1 s1 fun F2 H2 k1 k2 => ⟨fun i hi => ?_, ⟨vs, sqT_mono (k1.trans k2) hs, by rw [r.length]; exact Nat.le_refl _⟩, fun i d hd x H3 hy => ?_⟩⟩
  · obtain ⟨x, hx, _⟩ := r.get (List.getElem?_eq_getElem hi)
    exact ⟨vs, x, sqT_mono (k1.trans k2) hs, hx⟩
  · obtain ⟨rfl, f⟩ := hy
    obtain ⟨w, hw, rw'⟩ := r.get hd
    have e : x = w := Option.some.inj ((f _ (sqT_mono (k1.trans k2) hs)).symm.trans hw)
    rw [e]
    exact ⟨F2, Ret.refl k2, rw'.mono k1⟩
theorem yields_range {lo : Int} {n : Nat} : Yields c (Itr lo n) F ((List.range n).map fun (k : Nat) => D.int (lo + (k : Int))) := fun F1 H1 _ k2 => by
  have hl : ((List.range n).map fun (k : Nat) => D.int (lo + (k : Int))).length = n := by rw [List.length_map, List.length_range]
  refine ⟨fun i hi => by rw [hl] at hi; exact hi, by rw [hl]; exact Nat.le_refl n, fun i d hd x H2 hy => ?_⟩
  obtain ⟨rfl, rfl⟩ := hy
  have hi : i < n := by
    have := (List.getElem?_eq_some_iff.mp hd).1
    rw [hl] at this; exact this
  rw [List.getElem?_map, List.getElem?_range hi] at hd
  cases hd
  exact ⟨F1, Ret.refl k2, .int _⟩
theorem evi_range1 {ts : TA} {n : Int} (h : EvA c ts δ [.int n] δ1) (hn : n ≤ 1000000) (hn0 : -1000000 ≤ n) : EvI c (iRng1 ts) δ ((List.range n.toNat).map fun (k : Nat) => D.int (k : Int)) δ1 := fun B F H σ E R q => h _ F H σ E _ fun vs F1 H1 E1 s1 r1 => by
  cases r1 with
  | cons r t => cases t with
    | nil => exact ⟨n, by rw [r.int_inv], by omega, by omega, q _ F1 H1 E1 s1 (by
        have := yields_range (c := c) (F := F1) (lo := 0) (n := n.toNat)
        simpa using this)⟩
theorem evi_range2 {ts : TA} {n m : Int} (h : EvA c ts δ [.int m, .int n] δ1) (hn : n ≤ 1000000) (hn0 : -1000000 ≤ n) (hm : m ≤ 1000000) (hm0 : -1000000 ≤ m) : EvI c (iRng2 ts) δ ((List.range (n - m).toNat).map fun (k : Nat) => D.int (m + (k : Int))) δ1 := fun B F H σ E R q => h _ F H σ E _ fun vs F1 H1 E1 s1 r1 => by
  cases r1 with
  | cons r t => cases t with
    | cons r' t => cases t with
      | nil => exact ⟨m, n, by rw [r.int_inv, r'.int_inv], ⟨by omega, by omega, by omega, by omega⟩, q _ F1 H1 E1 s1 yields_range⟩

/-! ### targets -/
def Tgt (c : Cn) (g : TG) (d : D) (δ δ' : DE) : Prop := ∀ (B : Bx) F H σ, Env c B F H σ δ → ∀ v, Rep c F v d → ∀ Q : L2.St → Hp → Prop, (∀ F' H' σ', Env c B F' H' σ' δ' → Same F F' → Q σ' H') → g v σ H Q
def Tgts (c : Cn) (g : TGs) (ds : List D) (δ δ' : DE) : Prop := ∀ (B : Bx) F H σ, Env c B F H σ δ → ∀ vs, RepAll c F vs ds → ∀ Q : L2.St → Hp → Prop, (∀ F' H' σ', Env c B F' H' σ' δ' → Same F F' → Q σ' H') → g vs σ H Q
theorem tgt_name (hi : i < δ.length := by first | decide | simp) (h0 : 0 < i := by first | decide | omega) : Tgt c (gName i) d δ (δ.set i (.d d)) := fun B F H σ E v r Q q => q F H _ (E.setD hi r h0) (Same.refl _)
theorem tgts_nil : Tgts c gNil [] δ δ := fun B F H σ E vs r Q q => by
  cases r
  exact ⟨rfl, q F H σ E (Same.refl _)⟩
/-- a target within a tuple -/
theorem tgts_cons {g0 : TG} {g : TGs} (h0 : Tgt c g0 d δ δ1) (h : Tgts c g ds δ1 δ2) : Tgts c (gCons g0 g) (d :: ds) δ δ2 := fun B F H σ E vs r Q q => by
  cases r with
  | cons r t => exact ⟨_, _, rfl, h0 _ F H σ E _ r _ fun F' H' σ' E' s' => h _ F' H' σ' E' _ (RepAll.mono s' t) Q fun F2 H2 σ2 E2 s2 => q F2 H2 σ2 E2 (s'.trans s2)⟩
theorem tgt_tup {g : TGs} {n : Nat} (h : Tgts c g ds δ δ1) (hn : ds.length = n := by rfl) : Tgt c (gTup c.K n g) (.tup ds) δ δ1 := fun B F H σ E v r Q q => by
  obtain ⟨a, vs, rfl, hs, r⟩ := r.tup_inv
  exact ⟨a, vs, rfl, sqT_mono E.le hs, by rw [r.length]; exact hn, h _ F H σ E vs r Q q⟩
theorem run_tgt {g : TG} (h : Ev c te δ d δ1) (hg : Tgt c g d δ1 δ2) : Run c B (tAsg te g) δ (.nx δ2) := fun F H σ E Dn q => h _ F H σ E _ fun v F1 H1 E1 s1 r1 => hg _ F1 H1 σ E1 v r1 _ fun F2 H2 σ2 E2 s2 => q F2 H2 σ2 E2 (s1.trans s2)

/-! ### for -/
inductive Loop (c : Cn) (B : Bx) (g : TG) (tb : TS) : DE → List D → Out → Prop
  | nil {δ : DE} : Loop c B g tb δ [] (.nx δ)
  | next {δ δ1 δ2 : DE} {d : D} {ds : List D} {o : Out} : Tgt c g d δ δ1 → Run c B tb δ1 (.nx δ2) → Loop c B g tb δ2 ds o → Loop c B g tb δ (d :: ds) o
  | cont {δ δ1 δ2 : DE} {d : D} {ds : List D} {o : Out} : Tgt c g d δ δ1 → Run c B tb δ1 (.ct δ2) → Loop c B g tb δ2 ds o → Loop c B g tb δ (d :: ds) o
  | brk {δ δ1 δ2 : DE} {d : D} {ds : List D} : Tgt c g d δ δ1 → Run c B tb δ1 (.bk δ2) → Loop c B g tb δ (d :: ds) (.nx δ2)
  | ret {δ δ1 δ2 : DE} {d : D} {ds : List D} {s : Sl} : Tgt c g d δ δ1 → Run c B tb δ1 (.rt s δ2) → Loop c B g tb δ (d :: ds) (.rt s δ2)
theorem drop_get {ds : List D} {k : Nat} {d : D} {r : List D} (h : ds.drop k = d :: r) : ds[k]? = some d ∧ ds.drop (k + 1) = r ∧ k < ds.length := by
  have hk : k < ds.length := by
    rcases Nat.lt_or_ge k ds.length with z | z
    · exact z
    · rw [List.drop_eq_nil_of_le z] at h; cases h
  rw [List.drop_eq_getElem_cons hk] at h
  injection h with h1 h2
  exact ⟨by rw [List.getElem?_eq_getElem hk, h1], h2, hk⟩
theorem run_for {wi : TI} {g : TG} {tb : TS} (hi : EvI c wi δ ds δ1) (hl : Loop c B g tb δ1 ds o) : Run c B (tFor wi g tb) δ o := fun F H σ E Dn q =>
  hi _ F H σ E _ fun J F1 H1 E1 s1 Y => by
    refine ⟨fun i m σ H => ∃ F' δ' ds', Same F1 F' ∧ Env c B F' H σ δ' ∧ Loop c B g tb δ' ds' o ∧ ds.drop i = ds' ∧ i ≤ ds.length ∧ m = ds.length - i, ⟨_, F1, δ1, ds, Same.refl _, E1, hl, rfl, Nat.zero_le _, rfl⟩, fun i m σ2 H2 w => ?_⟩
    obtain ⟨F2, δ2, ds', s2, E2, l, hd, hle, hm⟩ := w
    obtain ⟨y1, y2, y3⟩ := Y F2 H2 s2 E2.le
    cases l with
    | nil =>
      have hi : ds.length ≤ i := by
        rcases Nat.lt_or_ge i ds.length with z | z
        · rw [List.drop_eq_getElem_cons z] at hd; cases hd
        · exact z
      have e : i = ds.length := Nat.le_antisymm hle hi
      subst e
      exact .inl ⟨y2, q F2 H2 σ2 E2 (s1.trans s2)⟩
    | next ht hr hk =>
      obtain ⟨g1, g2, g3⟩ := drop_get hd
      refine .inr ⟨y1 i g3, fun σ' H' => ∃ F' δ' ds', Same F1 F' ∧ Env c B F' H' σ' δ' ∧ Loop c B g tb δ' ds' o ∧ ds.drop (i + 1) = ds' ∧ i + 1 ≤ ds.length, fun σ' H' ⟨F', δ', ds', a1, a2, a3, a4, a5⟩ => ⟨ds.length - (i + 1), by omega, F', δ', ds', a1, a2, a3, a4, a5, rfl⟩, fun x H3 hy => ?_⟩
      obtain ⟨F3, R, rx⟩ := y3 i _ g1 x H3 hy
      refine ht _ F3 H3 σ2 (E2.ret R) x rx _ fun F4 H4 σ4 E4 s4 => hr F4 H4 σ4 E4 _ fun F5 H5 σ5 E5 s5 => ⟨F5, _, _, s2.trans (R.sf.trans (s4.trans s5)), E5, hk, g2, g3⟩
    | cont ht hr hk =>
      obtain ⟨g1, g2, g3⟩ := drop_get hd
      refine .inr ⟨y1 i g3, fun σ' H' => ∃ F' δ' ds', Same F1 F' ∧ Env c B F' H' σ' δ' ∧ Loop c B g tb δ' ds' o ∧ ds.drop (i + 1) = ds' ∧ i + 1 ≤ ds.length, fun σ' H' ⟨F', δ', ds', a1, a2, a3, a4, a5⟩ => ⟨ds.length - (i + 1), by omega, F', δ', ds', a1, a2, a3, a4, a5, rfl⟩, fun x H3 hy => ?_⟩
      obtain ⟨F3, R, rx⟩ := y3 i _ g1 x H3 hy
      refine ht _ F3 H3 σ2 (E2.ret R) x rx _ fun F4 H4 σ4 E4 s4 => hr F4 H4 σ4 E4 _ fun F5 H5 σ5 E5 s5 => ⟨F5, _, _, s2.trans (R.sf.trans (s4.trans s5)), E5, hk, g2, g3⟩
    | brk ht hr =>
      obtain ⟨g1, g2, g3⟩ := drop_get hd
      refine .inr ⟨y1 i g3, fun _ _ => False, fun _ _ z => z.elim, fun x H3 hy => ?_⟩
      obtain ⟨F3, R, rx⟩ := y3 i _ g1 x H3 hy
      exact ht _ F3 H3 σ2 (E2.ret R) x rx _ fun F4 H4 σ4 E4 s4 => hr F4 H4 σ4 E4 _ fun F5 H5 σ5 E5 s5 => q F5 H5 σ5 E5 ((s1.trans s2).trans (R.sf.trans (s4.trans s5)))
    | ret ht hr =>
      obtain ⟨g1, g2, g3⟩ := drop_get hd
      refine .inr ⟨y1 i g3, fun _ _ => False, fun _ _ z => z.elim, fun x H3 hy => ?_⟩
      obtain ⟨F3, R, rx⟩ := y3 i _ g1 x H3 hy
      exact ht _ F3 H3 σ2 (E2.ret R) x rx _ fun F4 H4 σ4 E4 s4 => hr F4 H4 σ4 E4 _ fun v F5 H5 σ5 fp fpv E5 s5 => q v F5 H5 σ5 fp fpv E5 ((s1.trans s2).trans (R.sf.trans (s4.trans s5)))
/-- a loop that goes through: its environments one by one -/
theorem Loop.all {g : TG} {tb : TS} : ∀ {ds : List D} (δs : Nat → DE), (∀ i d, ds[i]? = some d → ∃ δ1, Tgt c g d (δs i) δ1 ∧ Run c B tb δ1 (.nx (δs (i + 1)))) → Loop c B g tb (δs 0) ds (.nx (δs ds.length))
  | [], δs, _ => .nil
  | d :: ds, δs, h => by
    obtain ⟨δ1, h1, h2⟩ := h 0 d rfl
    exact .next h1 h2 (Loop.all (fun i => δs (i + 1)) fun i e hi => h (i + 1) e (by simpa using hi))
/-- .. while its items turn out by their prefix -/
theorem run_forA {wi : TI} {g : TG} {tb : TS} (δs : Nat → DE) (hi : EvI c wi δ ds (δs 0)) (h : ∀ i d, ds[i]? = some d → ∃ δ1, Tgt c g d (δs i) δ1 ∧ Run c B tb δ1 (.nx (δs (i + 1)))) : Run c B (tFor wi g tb) δ (.nx (δs ds.length)) :=
  run_for hi (Loop.all δs h)

/-! ### while -/
inductive Whil (c : Cn) (B : Bx) (tc : TT) (tb : TS) : Nat → DE → Out → Prop
  | stop {n : Nat} {δ δ1 : DE} : EvT c tc δ false δ1 → Whil c B tc tb n δ (.nx δ1)
  | next {n : Nat} {δ δ1 δ2 : DE} {o : Out} : EvT c tc δ true δ1 → Run c B tb δ1 (.nx δ2) → Whil c B tc tb n δ2 o → Whil c B tc tb (n + 1) δ o
  | cont {n : Nat} {δ δ1 δ2 : DE} {o : Out} : EvT c tc δ true δ1 → Run c B tb δ1 (.ct δ2) → Whil c B tc tb n δ2 o → Whil c B tc tb (n + 1) δ o
  | brk {n : Nat} {δ δ1 δ2 : DE} : EvT c tc δ true δ1 → Run c B tb δ1 (.bk δ2) → Whil c B tc tb n δ (.nx δ2)
  | ret {n : Nat} {δ δ1 δ2 : DE} {s : Sl} : EvT c tc δ true δ1 → Run c B tb δ1 (.rt s δ2) → Whil c B tc tb n δ (.rt s δ2)
theorem run_while {tc : TT} {tb : TS} {n : Nat} (hl : Whil c B tc tb n δ o) : Run c B (tWhile tc tb) δ o := fun F H σ E Dn q => by
  refine ⟨fun m σ H => ∃ F' δ', Same F F' ∧ Env c B F' H σ δ' ∧ Whil c B tc tb m δ' o, ⟨n, F, δ, Same.refl _, E, hl⟩, fun m σ2 H2 w => ?_⟩
  obtain ⟨F2, δ2, s2, E2, l⟩ := w
  cases l with
  | stop hc => exact hc _ F2 H2 σ2 E2 _ fun F3 H3 E3 s3 => q F3 H3 σ2 E3 (s2.trans s3)
  | next hc hr hk => exact hc _ F2 H2 σ2 E2 _ fun F3 H3 E3 s3 => ⟨fun σ' H' => ∃ F' δ', Same F F' ∧ Env c B F' H' σ' δ' ∧ Whil c B tc tb _ δ' o, fun σ' H' w => ⟨_, Nat.lt_succ_self _, w⟩, hr F3 H3 σ2 E3 _ fun F4 H4 σ4 E4 s4 => ⟨F4, _, s2.trans (s3.trans s4), E4, hk⟩⟩
  | cont hc hr hk => exact hc _ F2 H2 σ2 E2 _ fun F3 H3 E3 s3 => ⟨fun σ' H' => ∃ F' δ', Same F F' ∧ Env c B F' H' σ' δ' ∧ Whil c B tc tb _ δ' o, fun σ' H' w => ⟨_, Nat.lt_succ_self _, w⟩, hr F3 H3 σ2 E3 _ fun F4 H4 σ4 E4 s4 => ⟨F4, _, s2.trans (s3.trans s4), E4, hk⟩⟩
  | brk hc hr => exact hc _ F2 H2 σ2 E2 _ fun F3 H3 E3 s3 => ⟨fun _ _ => False, fun _ _ z => z.elim, hr F3 H3 σ2 E3 _ fun F4 H4 σ4 E4 s4 => q F4 H4 σ4 E4 (s2.trans (s3.trans s4))⟩
  | ret hc hr => exact hc _ F2 H2 σ2 E2 _ fun F3 H3 E3 s3 => ⟨fun _ _ => False, fun _ _ z => z.elim, hr F3 H3 σ2 E3 _ fun v F4 H4 σ4 fp fpv E4 s4 => q v F4 H4 σ4 fp fpv E4 (s2.trans (s3.trans s4))⟩
end
end DL
set_option maxHeartbeats 200000
set_option Elab.async false
set_option linter.all false
set_option maxRecDepth 100000
/-! DL4: calls and promises, comprehensions, own objects changed, built-ins. -/
namespace DL
open PySem PySem.Spec PyProof.Rows L2
section
variable {c : Cn} {B : Bx} {F F' H H' : Hp} {σ : L2.St} {δ δ1 δ2 δ3 : DE} {fp : Nat → List Addr} {ta tb te tc : TE} {tt tu : TT} {d e x y : D} {ds : List D} {t u : TS} {o : Out} {i j : Nat} {s : Sl} {ts : TA}

/-! ### promises -/
/-- a callee that may change the objects at l -/
structure RetM (l : List Addr) (F H F' H' : Hp) : Prop where
  sf : Same F F'
  sh : ∀ a o, a ∉ l → H a = some o → H' a = some o
  sd : ∀ a, H a ≠ none → H' a ≠ none
  le : Same F' H'
  fr : ∀ a, H a ≠ none → F' a = F a
theorem RetM.ret (r : RetM [] F H F' H') : Ret F H F' H' := ⟨r.sf, fun a o h => r.sh a o (fun z => nomatch z) h, r.le, r.fr⟩
/-- args ds give r -/
def SpD (c : Cn) (R : List D → D → Prop) : Sp := fun vs H Q _ => ∃ F ds r, Same F H ∧ RepAll c F vs ds ∧ R ds r ∧ ∀ v F' H', Ret F H F' H' → Rep c F' v r → Q v H'
/-- .. a new own object -/
def SpN (c : Cn) (R : List D → Sl → Prop) : Sp := fun vs H Q _ => ∃ F ds s, Same F H ∧ RepAll c F vs ds ∧ R ds s ∧ ∀ v F' H' fpv, Ret F H F' H' → SlOk c F' H' fpv (some (some v)) s → (∀ a ∈ fpv, F' a = none ∧ H a = none) → Q v H'
/-- the first argument an own object that changes -/
def SpM (c : Cn) (R : Sl → List D → Sl → D → Prop) : Sp := fun vs H Q _ => ∃ F fp v0 ws s ds s' r, vs = v0 :: ws ∧ Same F H ∧ SlOk c F H fp (some (some v0)) s ∧ (∀ a ∈ fp, F a = none) ∧ RepAll c F ws ds ∧ R s ds s' r ∧
  ∀ v F' H' fp', RetM fp F H F' H' → SlOk c F' H' fp' (some (some v0)) s' → (∀ a ∈ fp', F' a = none ∧ (a ∈ fp ∨ H a = none)) → Rep c F' v r → Q v H'

/-! ### a def keeps its promise -/
def st0 (n : Nat) (ds : List D) : DE := ds.map .d ++ List.replicate (n - ds.length) .un
def RunsTo (c : Cn) (t : TS) (n : Nat) (ds : List D) (s : Sl) : Prop := ∀ B : Bx, B.M = [] → (∃ δ', Run c B t (st0 n ds) (.rt s δ')) ∨ (s = .d .non ∧ ∃ δ', Run c B t (st0 n ds) (.nx δ'))
theorem slots_of {vs : List V} {n i : Nat} {s : Sl} (r : RepAll c F vs ds) (h : (st0 n ds)[i]? = some s) : SlOk c F H [] ((vs.map some ++ List.replicate (n - vs.length) none)[i]?) s := by
  unfold st0 at h
  by_cases hi : i < ds.length
  · rw [List.getElem?_append_left (by rw [List.length_map]; exact hi), List.getElem?_map, List.getElem?_eq_getElem hi] at h
    cases h
    obtain ⟨v, h1, h2⟩ := r.get (List.getElem?_eq_getElem hi)
    have hv : i < vs.length := by rw [r.length]; exact hi
    rw [List.getElem?_append_left (by rw [List.length_map]; exact hv), List.getElem?_map, h1]
    exact ⟨rfl, v, rfl, h2⟩
  · rw [List.getElem?_append_right (by rw [List.length_map]; omega)] at h
    have := List.mem_of_getElem? h
    rw [List.mem_replicate] at this
    rw [this.2]
    exact rfl
theorem env_start {vs : List V} {N : List Str} (s : Same F H) (r : RepAll c F vs ds) (hl : vs.length ≤ N.length) : EnvP c ⟨F, H, [], none, fun _ _ => True⟩ F H (L2.start N vs) (st0 N.length ds) (fun _ => []) :=
  ⟨⟨Same.refl _, fun _ _ _ h => h, fun _ h => h, fun _ _ => rfl, s⟩, by unfold L2.start st0; rw [List.length_append, List.length_append, List.length_map, List.length_map, List.length_replicate, List.length_replicate, r.length],
    fun i s h => slots_of r h, fun _ _ => rfl, (fun _ _ _ h => nomatch h), (fun _ _ h => nomatch h), (fun _ _ h => nomatch h), (fun _ h => nomatch h)⟩
theorem Grow.toRet {F0 H0 : Hp} {p : Option V} {J : Nat → Addr → Prop} (g : Grow ⟨F0, H0, [], p, J⟩ F H) : Ret F0 H0 F H := ⟨g.sf, fun a o h => g.sh a o (fun z => nomatch z) h, g.le, g.fr⟩
theorem useD {R : List D → D → Prop} {N : List Str} (hN : ∀ ds r, R ds r → ds.length ≤ N.length) (h : ∀ ds r, R ds r → RunsTo c t N.length ds (.d r)) (vs : List V) (H : Hp) (Q : VK) (E : XK) (sp : SpD c R vs H Q E) :
    t { nx := fun _ H' => Q .non H', rt := Q } (L2.start N vs) H := by
  obtain ⟨F, ds, r, s, ra, hR, q⟩ := sp
  have E0 := env_start (N := N) s ra (by rw [ra.length]; exact hN ds r hR)
  rcases h ds r hR ⟨F, H, [], none, fun _ _ => True⟩ rfl with ⟨δ', hr⟩ | ⟨e, δ', hr⟩
  · refine hr F H _ ⟨_, E0⟩ _ fun v F' H' σ fp fpv E1 s1 ok nw => ?_
    obtain ⟨_, v', e, rv⟩ := ok
    cases e
    exact q v F' H' E1.gr.toRet rv
  · cases e
    refine hr F H _ ⟨_, E0⟩ _ fun F' H' σ E1 s1 => ?_
    obtain ⟨fp, E1⟩ := E1
    exact q .non F' H' E1.gr.toRet .non
theorem useN {R : List D → Sl → Prop} {N : List Str} (hN : ∀ ds r, R ds r → ds.length ≤ N.length) (h : ∀ ds r, R ds r → RunsTo c t N.length ds r) (vs : List V) (H : Hp) (Q : VK) (E : XK) (sp : SpN c R vs H Q E) :
    t { nx := fun _ H' => Q .non H', rt := Q } (L2.start N vs) H := by
  obtain ⟨F, ds, r, s, ra, hR, q⟩ := sp
  have E0 := env_start (N := N) s ra (by rw [ra.length]; exact hN ds r hR)
  rcases h ds r hR ⟨F, H, [], none, fun _ _ => True⟩ rfl with ⟨δ', hr⟩ | ⟨e, δ', hr⟩
  · refine hr F H _ ⟨_, E0⟩ _ fun v F' H' σ fp fpv E1 s1 ok nw => ?_
    exact q v F' H' fpv E1.gr.toRet ok fun a ha => ⟨(nw a ha).1, (nw a ha).2.1⟩
  · refine hr F H _ ⟨_, E0⟩ _ fun F' H' σ E1 s1 => ?_
    obtain ⟨fp, E1⟩ := E1
    subst e
    exact q .non F' H' [] E1.gr.toRet ⟨rfl, _, rfl, .non⟩ fun _ z => nomatch z
/-- a def whose first parameter is an own object -/
def RunsM (c : Cn) (t : TS) (n : Nat) (s : Sl) (ds : List D) (s' : Sl) (r : D) : Prop := ∀ B : Bx, (∀ i, 0 < i → ∀ a, ¬ B.J i a) → (∃ δ', δ'[0]? = some s' ∧ Run c B t (s :: st0 (n - 1) ds) (.rt (.d r) δ')) ∨ (r = .non ∧ ∃ δ', δ'[0]? = some s' ∧ Run c B t (s :: st0 (n - 1) ds) (.nx δ'))
theorem useM {R : Sl → List D → Sl → D → Prop} {N : List Str} (hN : ∀ s ds s' r, R s ds s' r → ds.length + 1 ≤ N.length) (h : ∀ s ds s' r, R s ds s' r → RunsM c t N.length s ds s' r)
    (vs : List V) (H : Hp) (Q : VK) (E : XK) (sp : SpM c R vs H Q E) : t { nx := fun _ H' => Q .non H', rt := Q } (L2.start N vs) H := by
  obtain ⟨F, fp, v0, ws, s, ds, s', r, rfl, le, ok, ffp, ra, hR, q⟩ := sp
  have hl := hN s ds s' r hR
  have E0 : EnvP c ⟨F, H, fp, some v0, fun i _ => i = 0⟩ F H (L2.start N (v0 :: ws)) (s :: st0 (N.length - 1) ds) (fun i => if i = 0 then fp else []) := by
    have es : L2.start N (v0 :: ws) = some v0 :: (ws.map some ++ List.replicate ((N.length - 1) - ws.length) none) := by
      unfold L2.start
      rw [List.map_cons, List.cons_append, List.length_cons, Nat.sub_sub, Nat.add_comm ws.length 1]
    refine ⟨⟨Same.refl _, fun _ _ _ h => h, fun _ h => h, fun _ _ => rfl, le⟩, ?_, fun i t hi => ?_, fun i hi => ?_, fun i j a h1 h2 => ?_, fun i a h => ?_, fun i a h => ?_, fun v hv => ?_⟩
    · rw [es, List.length_cons, List.length_cons]
      unfold st0
      rw [List.length_append, List.length_append, List.length_map, List.length_map, List.length_replicate, List.length_replicate, ra.length]
    · rw [es]
      cases i with
      | zero => cases hi; exact ok
      | succ i => exact slots_of ra hi
    · cases i with
      | zero => cases hi
      | succ i => rfl
    · by_cases e1 : i = 0
      · by_cases e2 : j = 0
        · rw [e1, e2]
        · rw [if_neg e2] at h2; cases h2
      · rw [if_neg e1] at h1; cases h1
    · by_cases e1 : i = 0
      · rw [if_pos e1] at h; exact ffp a h
      · rw [if_neg e1] at h; cases h
    · by_cases e1 : i = 0
      · rw [if_pos e1] at h; exact .inr ⟨h, e1⟩
      · rw [if_neg e1] at h; cases h
    · cases hv; rw [es]; rfl
  have fin : ∀ v F' H' σ fp1 δ', EnvP c ⟨F, H, fp, some v0, fun i _ => i = 0⟩ F' H' σ δ' fp1 → δ'[0]? = some s' → Rep c F' v r → Q v H' := fun v F' H' σ fp1 δ' E1 h0 rv => by
    have ok1 := E1.sl 0 s' h0
    rw [E1.pi v0 rfl] at ok1
    exact q v F' H' (fp1 0) ⟨E1.gr.sf, E1.gr.sh, E1.gr.sd, E1.gr.le, E1.gr.fr⟩ ok1 (fun a ha => ⟨E1.ff 0 a ha, (E1.fh 0 a ha).elim .inr fun z => .inl z.1⟩) rv
  rcases h s ds s' r hR ⟨F, H, fp, some v0, fun i _ => i = 0⟩ (fun i hi _ e => Nat.ne_of_gt hi e) with ⟨δ', h0, hr⟩ | ⟨e, δ', h0, hr⟩
  · refine hr F H _ ⟨_, E0⟩ _ fun v F' H' σ fp1 fpv E1 s1 okv nw => ?_
    obtain ⟨_, v', e, rv⟩ := okv
    cases e
    exact fin v F' H' σ fp1 δ' E1 h0 rv
  · refine hr F H _ ⟨_, E0⟩ _ fun F' H' σ E1 s1 => ?_
    obtain ⟨fp1, E1⟩ := E1
    exact fin .non F' H' σ fp1 δ' E1 h0 (by rw [e]; exact .non)

/-! ### calls -/
theorem ev_call {R : List D → D → Prop} {E0 : XK} {r : D} (ha : EvA c ts δ ds δ1) (h : R ds r) : Ev c (tCall (SpD c R) [] E0 ts) δ r δ1 := fun B F H σ E Q q => ha _ F H σ E _ fun vs F1 H1 E1 s1 r1 =>
  ⟨F1, ds, r, E1.le, by rw [List.append_nil]; exact r1, h, fun v F' H' R rv => q v F' H' (E1.ret R) (s1.trans R.sf) rv⟩
theorem ev_call0 {R : List D → D → Prop} {E0 : XK} {r : D} (h : R [] r) : Ev c (tCall (SpD c R) [] E0 tNil) δ r δ := ev_call eva_nil h
theorem evn_call {R : List D → Sl → Prop} {E0 : XK} (ha : EvA c ts δ ds δ1) (h : R ds s) : EvN c (tCall (SpN c R) [] E0 ts) δ s δ1 := fun B F H σ E Q q => ha _ F H σ E _ fun vs F1 H1 E1 s1 r1 =>
  ⟨F1, ds, s, E1.le, by rw [List.append_nil]; exact r1, h, fun v F' H' fpv R ok nw => by
    obtain ⟨fp, E1⟩ := E1
    refine q v F' H' fp fpv (E1.ret R) (s1.trans R.sf) ok fun a ha => ⟨(nw a ha).1, ?_, fun i hi => E1.there hi (nw a ha).2⟩
    cases z : B.H0 a with
    | none => rfl
    | some o => exact absurd (nw a ha).2 (E1.gr.sd a (ne_none_of z))⟩
theorem ev_meth {R : List D → D → Prop} {E0 : XK} {r : D} {C : Addr} {m : Str} {gs : List (Str × D)} (ho : Ev c ta δ (.ins C gs) δ1) (hm : gs.lookup m = none) (ha : EvA c ts δ1 ds δ2) (h : R (.ins C gs :: ds) r) : Ev c (tMeth C m (SpD c R) [] E0 ta ts) δ r δ2 := fun B F H σ E Q q =>
  ho _ F H σ E _ fun v F1 H1 E1 s1 r1 => by
    have r1' := r1
    cases r1 with
    | ins hF rf => exact ⟨_, _, _, rfl, E1.le _ _ hF, RepF.lookN rf hm, ha _ F1 H1 σ E1 _ fun vs F2 H2 E2 s2 r2 => ⟨F2, _, r, E2.le, by rw [List.append_nil]; exact .cons (r1'.mono s2) r2, h, fun v F' H' R rv => q v F' H' (E2.ret R) ((s1.trans s2).trans R.sf) rv⟩⟩
theorem evn_meth {R : List D → Sl → Prop} {E0 : XK} {C : Addr} {m : Str} {gs : List (Str × D)} (ho : Ev c ta δ (.ins C gs) δ1) (hm : gs.lookup m = none) (ha : EvA c ts δ1 ds δ2) (h : R (.ins C gs :: ds) s) : EvN c (tMeth C m (SpN c R) [] E0 ta ts) δ s δ2 := fun B F H σ E Q q =>
  ho _ F H σ E _ fun v F1 H1 E1 s1 r1 => by
    have r1' := r1
    cases r1 with
    | ins hF rf => exact ⟨_, _, _, rfl, E1.le _ _ hF, RepF.lookN rf hm, ha _ F1 H1 σ E1 _ fun vs F2 H2 E2 s2 r2 => ⟨F2, _, s, E2.le, by rw [List.append_nil]; exact .cons (r1'.mono s2) r2, h, fun v F' H' fpv R ok nw => by
        obtain ⟨fp, E2⟩ := E2
        refine q v F' H' fp fpv (E2.ret R) ((s1.trans s2).trans R.sf) ok fun a ha => ⟨(nw a ha).1, ?_, fun i hi => E2.there hi (nw a ha).2⟩
        cases z : B.H0 a with
        | none => rfl
        | some o => exact absurd (nw a ha).2 (E2.gr.sd a (ne_none_of z))⟩⟩
/-- the own object of slot i is handed to a def that changes it -/
theorem EnvP.retM (E : EnvP c B F H σ δ fp) {i : Nat} {fp' : List Addr} (r : RetM (fp i) F H F' H') (hi : i < δ.length) (ok : SlOk c F' H' fp' σ[i]? s) (nw : ∀ a ∈ fp', F' a = none ∧ (a ∈ fp i ∨ H a = none)) : EnvP c B F' H' σ (δ.set i s) (fpSet fp i fp') := by
  refine ⟨⟨E.gr.sf.trans r.sf, fun a o hm h => ?_, fun a h => r.sd a (E.gr.sd a h), fun a h => (r.fr a (E.gr.sd a h)).trans (E.gr.fr a h), r.le⟩, by rw [List.length_set, E.len], fun j t hj => ?_, fun j hj => ?_, fun j k a ha hb => ?_, fun j a ha => ?_, fun j a ha => ?_, E.pi⟩
  · refine r.sh a o (fun z => ?_) (E.gr.sh a o hm h)
    rcases E.fh i a z with w | w
    · rw [w] at h; cases h
    · exact hm w.1
  · by_cases hji : j = i
    · subst hji
      rw [List.getElem?_set_self hi] at hj
      cases hj
      rw [fpSet_self]
      exact ok
    · rw [List.getElem?_set_ne (Ne.symm hji)] at hj
      rw [fpSet_ne hji]
      refine (E.sl j t hj).keep r.sf fun b hb => ?_
      cases z : H b with
      | none => exact absurd z (E.there hb)
      | some o => exact r.sh b o (fun w => hji (E.ap j i b hb w)) z
  · have hji : j ≠ i := fun z => by
      subst z
      rw [List.getElem?_set_self hi] at hj
      cases hj
    rw [List.getElem?_set_ne (Ne.symm hji)] at hj
    rw [fpSet_ne hji]
    exact E.out j hj
  · have key : ∀ k, k ≠ i → ∀ a, a ∈ fp' → a ∉ fp k := fun k hk a ha hb => by
      rcases (nw a ha).2 with w | w
      · exact hk (E.ap k i a hb w)
      · exact E.there hb w
    by_cases h1 : j = i
    · by_cases h2 : k = i
      · rw [h1, h2]
      · subst h1
        rw [fpSet_self] at ha
        rw [fpSet_ne h2] at hb
        exact absurd hb (key k h2 a ha)
    · by_cases h2 : k = i
      · subst h2
        rw [fpSet_self] at hb
        rw [fpSet_ne h1] at ha
        exact absurd ha (key j h1 a hb)
      · rw [fpSet_ne h1] at ha
        rw [fpSet_ne h2] at hb
        exact E.ap j k a ha hb
  · by_cases h1 : j = i
    · subst h1
      rw [fpSet_self] at ha
      exact (nw a ha).1
    · rw [fpSet_ne h1] at ha
      exact (r.fr a (E.there ha)).trans (E.ff j a ha)
  · by_cases h1 : j = i
    · subst h1
      rw [fpSet_self] at ha
      rcases (nw a ha).2 with w | w
      · exact E.fh j a w
      · refine .inl ?_
        cases z : B.H0 a with
        | none => rfl
        | some o => exact absurd w (E.gr.sd a (ne_none_of z))
    · rw [fpSet_ne h1] at ha
      exact E.fh j a ha
theorem own_ref {l : List Addr} {o : Option (Option V)} (h : SlOk c F H l o s) (hs : s.own = true) : ∃ v, o = some (some v) := by
  cases s with
  | un => cases hs
  | d _ => cases hs
  | ol xs => obtain ⟨a, _, e, _⟩ := h; exact ⟨_, e⟩
  | odk xs => obtain ⟨a, _, e, _⟩ := h; exact ⟨_, e⟩
  | odt xs => obtain ⟨a, _, e, _⟩ := h; exact ⟨_, e⟩
  | oo C gs => obtain ⟨a, _, _, e, _⟩ := h; exact ⟨_, e⟩
  | oll xs => obtain ⟨a, _, e, _⟩ := h; exact ⟨_, e⟩
theorem ev_callM {R : Sl → List D → Sl → D → Prop} {E0 : XK} {r : D} {s' : Sl} (hi : δ[i]? = some s) (hs : s.own = true) (ha : EvA c ts δ ds δ) (h : R s ds s' r) : Ev c (tCall (SpM c R) [] E0 (tCons (tVar i) ts)) δ r (δ.set i s') := fun B F H σ E Q q => by
  obtain ⟨fp0, E0⟩ := id E
  obtain ⟨v0, e0⟩ := own_ref (E0.sl i s hi) hs
  refine ⟨v0, e0, ha _ F H σ E _ fun vs F1 H1 E1 s1 r1 => ?_⟩
  obtain ⟨fp, E1⟩ := E1
  have hl : i < δ.length := (List.getElem?_eq_some_iff.mp hi).1
  have ok := E1.sl i s hi
  rw [e0] at ok
  refine ⟨F1, fp i, v0, vs, s, ds, s', r, by rw [List.append_nil], E1.gr.le, ok, E1.ff i, r1, h, fun v F' H' fp' R ok' nw rv => q v F' H' ⟨_, E1.retM R hl (by rw [e0]; exact ok') nw⟩ (s1.trans R.sf) rv⟩
theorem ev_methM {R : Sl → List D → Sl → D → Prop} {E0 : XK} {r : D} {s' : Sl} {C : Addr} {m : Str} {gs : List (Str × D)} (hi : δ[i]? = some (.oo C gs)) (hm : gs.lookup m = none) (ha : EvA c ts δ ds δ) (h : R (.oo C gs) ds s' r) : Ev c (tMeth C m (SpM c R) [] E0 (tVar i) ts) δ r (δ.set i s') := fun B F H σ E Q q => by
  obtain ⟨fp0, E0⟩ := id E
  obtain ⟨a, dx, fs, e0, ef, hH, rf⟩ := E0.sl i _ hi
  refine ⟨_, e0, a, dx, fs, rfl, hH, RepF.lookN rf hm, ha _ F H σ E _ fun vs F1 H1 E1 s1 r1 => ?_⟩
  obtain ⟨fp, E1⟩ := E1
  have hl : i < δ.length := (List.getElem?_eq_some_iff.mp hi).1
  have ok := E1.sl i _ hi
  rw [e0] at ok
  refine ⟨F1, fp i, _, vs, _, ds, s', r, by rw [List.append_nil], E1.gr.le, ok, E1.ff i, r1, h, fun v F' H' fp' R ok' nw rv => q v F' H' ⟨_, E1.retM R hl (by rw [e0]; exact ok') nw⟩ (s1.trans R.sf) rv⟩
/-- C(..): a new object by its __init__ -/
theorem evn_make {R : Sl → List D → Sl → D → Prop} {E0 : XK} {C : Addr} {gs : List (Str × D)} (ha : EvA c ts δ ds δ1) (h : R (.oo C []) ds (.oo C gs) .non) : EvN c (tMake C (SpM c R) [] E0 ts) δ (.oo C gs) δ1 := fun B F H σ E Q q => ha _ F H σ E _ fun vs F1 H1 E1 s1 r1 x dx hx hdx ne => by
  obtain ⟨fp, E1⟩ := E1
  have R1 : Ret F1 H1 F1 (upd H1 dx (.own x)) := Ret.newO E1.gr.le hdx
  have hx' : upd H1 dx (.own x) x = none := by rw [upd_ne (Ne.symm ne)]; exact hx
  have R2 : Ret F1 (upd H1 dx (.own x)) F1 (upd (upd H1 dx (.own x)) x (.ins C dx [])) := Ret.newO R1.le hx'
  have R3 := R1.trans R2
  have fx : F1 x = none := same_none E1.gr.le hx
  refine ⟨F1, [x], .ref x, vs, .oo C [], ds, .oo C gs, .non, by rw [List.append_nil], R3.le, ⟨x, dx, [], rfl, rfl, upd_same, .nil⟩, fun a ha => by rw [List.mem_singleton.mp ha]; exact fx, r1, h, fun v F' H' fp' Rm ok nw rv => ?_⟩
  have ev : v = .non := by cases rv; rfl
  refine ⟨ev, ?_⟩
  obtain ⟨a, dx', fs, e, ef, hH, rf⟩ := ok
  cases e
  have E2 : EnvP c B F' H' σ δ1 fp := by
    have E3 := E1.ret R3
    refine E3.step ⟨E3.gr.sf.trans Rm.sf, fun a o hm h => Rm.sh a o (fun z => ?_) (E3.gr.sh a o hm h), fun a h => Rm.sd a (E3.gr.sd a h), fun a h => (Rm.fr a (E3.gr.sd a h)).trans (E3.gr.fr a h), Rm.le⟩ Rm.sf (fun i a hi => ?_) fun i a hi => (Rm.fr a (E3.there hi)).trans (E3.ff i a hi)
    · have za := List.mem_singleton.mp z
      subst za
      exact E1.gr.sd a (ne_none_of h) hx
    · cases z : upd (upd H1 dx (.own x)) x (.ins C dx []) a with
      | none => exact absurd z (E3.there hi)
      | some o => exact Rm.sh a o (fun w => by
          have za := List.mem_singleton.mp w
          subst za
          exact E1.there hi hx) z
  refine q _ F' H' fp [x] E2 (s1.trans Rm.sf) ⟨x, dx', fs, rfl, rfl, hH, rf⟩ fun a ha => ?_
  have za := List.mem_singleton.mp ha
  subst za
  refine ⟨(nw a (by rw [ef]; exact ha)).1, ?_, fun i hi => E1.there hi hx⟩
  cases z : B.H0 a with
  | none => rfl
  | some o => exact absurd hx (E1.gr.sd a (ne_none_of z))
end
end DL
set_option maxHeartbeats 200000
set_option Elab.async false
set_option linter.all false
set_option maxRecDepth 100000
/-! DL5: comprehensions, own objects changed, built-ins. -/
namespace DL
open PySem PySem.Spec PyProof.Rows L2
section
variable {c : Cn} {B : Bx} {F F' H H' : Hp} {σ : L2.St} {δ δ1 δ2 δ3 : DE} {fp : Nat → List Addr} {ta tb te tc : TE} {tt tu : TT} {d e x y : D} {ds : List D} {t u : TS} {o : Out} {i j : Nat} {s : Sl} {ts : TA}

/-! ### another base -/
def subB (F H : Hp) (fp : Nat → List Addr) (n : Nat) : Bx := ⟨F, H, (List.range n).flatMap fp, none, fun i a => a ∈ fp i⟩
theorem mem_sub {n i : Nat} {a : Addr} (h : a ∈ fp i) (hi : i < n) : a ∈ (List.range n).flatMap fp := List.mem_flatMap.mpr ⟨i, List.mem_range.mpr hi, h⟩
theorem EnvP.lt (E : EnvP c B F H σ δ fp) {a : Addr} (h : a ∈ fp i) : i < δ.length := by
  rcases Nat.lt_or_ge i δ.length with z | z
  · exact z
  · rw [E.out i (List.getElem?_eq_none z)] at h; cases h
theorem EnvP.sub (E : EnvP c B F H σ δ fp) : EnvP c (subB F H fp δ.length) F H σ δ fp :=
  ⟨⟨Same.refl _, fun _ _ _ h => h, fun _ h => h, fun _ _ => rfl, E.gr.le⟩, E.len, E.sl, E.out, E.ap, E.ff, fun i a h => .inr ⟨mem_sub h (E.lt h), h⟩, fun _ h => by cases h⟩
theorem Grow.back {n : Nat} (g : Grow B F H) (hf : ∀ i a, a ∈ fp i → B.H0 a = none ∨ (a ∈ B.M ∧ B.J i a)) (g' : Grow (subB F H fp n) F' H') : Grow B F' H' :=
  ⟨g.sf.trans g'.sf, fun a o hm h => g'.sh a o (fun z => by
    obtain ⟨i, _, hi⟩ := List.mem_flatMap.mp z
    rcases hf i a hi with w | w
    · rw [w] at h; cases h
    · exact hm w.1) (g.sh a o hm h), fun a h => g'.sd a (g.sd a h), fun a h => (g'.fr a (g.sd a h)).trans (g.fr a h), g'.le⟩

/-! ### comprehensions -/
def wipeD (δ : DE) : List Nat → DE
  | [] => δ
  | v :: vs => (wipeD δ vs).set v .un
theorem wipe_get (σ : L2.St) : ∀ (vs : List Nat) (j : Nat), (wipe σ vs)[j]? = if j ∈ vs then (σ[j]?).map (fun _ => none) else σ[j]?
  | [], j => by rw [if_neg (fun z => nomatch z)]; rfl
  | v :: vs, j => by
    show ((wipe σ vs).set v none)[j]? = _
    by_cases h : v = j
    · subst h
      rw [if_pos List.mem_cons_self, List.getElem?_set_self']
      have := wipe_get σ vs v
      rw [this]
      by_cases h2 : v ∈ vs
      · rw [if_pos h2]; cases σ[v]? <;> rfl
      · rw [if_neg h2]; cases σ[v]? <;> rfl
    · rw [List.getElem?_set_ne h, wipe_get σ vs j]
      by_cases h2 : j ∈ vs
      · rw [if_pos h2, if_pos (List.mem_cons_of_mem _ h2)]
      · rw [if_neg h2, if_neg (fun z => by rcases List.mem_cons.mp z with z | z; exact h z.symm; exact h2 z)]
theorem wipeD_get (δ : DE) : ∀ (vs : List Nat) (j : Nat), (wipeD δ vs)[j]? = if j ∈ vs then (δ[j]?).map (fun _ => .un) else δ[j]?
  | [], j => by rw [if_neg (fun z => nomatch z)]; rfl
  | v :: vs, j => by
    show ((wipeD δ vs).set v .un)[j]? = _
    by_cases h : v = j
    · subst h
      rw [if_pos List.mem_cons_self, List.getElem?_set_self']
      have := wipeD_get δ vs v
      rw [this]
      by_cases h2 : v ∈ vs
      · rw [if_pos h2]; cases δ[v]? <;> rfl
      · rw [if_neg h2]; cases δ[v]? <;> rfl
    · rw [List.getElem?_set_ne h, wipeD_get δ vs j]
      by_cases h2 : j ∈ vs
      · rw [if_pos h2, if_pos (List.mem_cons_of_mem _ h2)]
      · rw [if_neg h2, if_neg (fun z => by rcases List.mem_cons.mp z with z | z; exact h z.symm; exact h2 z)]
theorem wipe_len (σ : L2.St) : ∀ vs : List Nat, (wipe σ vs).length = σ.length
  | [] => rfl
  | v :: vs => by show ((wipe σ vs).set v none).length = _; rw [List.length_set, wipe_len σ vs]
theorem wipeD_len (δ : DE) : ∀ vs : List Nat, (wipeD δ vs).length = δ.length
  | [] => rfl
  | v :: vs => by show ((wipeD δ vs).set v .un).length = _; rw [List.length_set, wipeD_len δ vs]
theorem wipe_of {σ σ' : L2.St} {vs : List Nat} (hl : σ'.length = σ.length) (h : ∀ j, j ∉ vs → σ'[j]? = σ[j]?) : wipe σ' vs = wipe σ vs := by
  apply List.ext_getElem?
  intro j
  rw [wipe_get, wipe_get]
  by_cases hj : j ∈ vs
  · rw [if_pos hj, if_pos hj]
    by_cases h1 : j < σ.length
    · rw [List.getElem?_eq_getElem h1, List.getElem?_eq_getElem (by rw [hl]; exact h1)]; rfl
    · rw [List.getElem?_eq_none (by omega), List.getElem?_eq_none (by omega)]
  · rw [if_neg hj, if_neg hj]
    exact h j hj
theorem EnvP.wipe (E : EnvP c B F H σ δ fp) {vs : List Nat} (h0 : 0 ∉ vs) (hv : ∀ i ∈ vs, ∀ s, δ[i]? = some s → s.own = false) : EnvP c B F H (wipe σ vs) (wipeD δ vs) fp := by
  have nofp : ∀ i ∈ vs, fp i = [] := fun i hi => by
    cases q : δ[i]? with
    | none => exact E.out i q
    | some s =>
      have ok := E.sl i s q
      have := hv i hi s q
      cases s with
      | un => exact ok
      | d _ => exact ok.1
      | _ => cases this
  refine ⟨E.gr, by rw [wipe_len, wipeD_len, E.len], fun i s h => ?_, fun i h => ?_, E.ap, E.ff, E.fh, fun v hp => by rw [wipe_get, if_neg h0]; exact E.pi v hp⟩
  · rw [wipeD_get] at h
    rw [wipe_get]
    by_cases hi : i ∈ vs
    · rw [if_pos hi] at h ⊢
      cases q : δ[i]? with
      | none => rw [q] at h; cases h
      | some s0 => rw [q] at h; cases h; exact nofp i hi
    · rw [if_neg hi] at h ⊢
      exact E.sl i s h
  · rw [wipeD_get] at h
    by_cases hi : i ∈ vs
    · exact nofp i hi
    · rw [if_neg hi] at h; exact E.out i h
/-- a target of a comprehension: the slots vs alone change -/
def TgtW (c : Cn) (g : TG) (d : D) (vs : List Nat) (δ δ' : DE) : Prop := ∀ (B : Bx) F H σ, Env c B F H σ δ → ∀ v, Rep c F v d → ∀ Q : L2.St → Hp → Prop, (∀ F' H' σ', Env c B F' H' σ' δ' → Same F F' → σ'.length = σ.length → (∀ j, j ∉ vs → σ'[j]? = σ[j]?) → Q σ' H') → g v σ H Q
def TgtsW (c : Cn) (g : TGs) (ds : List D) (vs : List Nat) (δ δ' : DE) : Prop := ∀ (B : Bx) F H σ, Env c B F H σ δ → ∀ ws, RepAll c F ws ds → ∀ Q : L2.St → Hp → Prop, (∀ F' H' σ', Env c B F' H' σ' δ' → Same F F' → σ'.length = σ.length → (∀ j, j ∉ vs → σ'[j]? = σ[j]?) → Q σ' H') → g ws σ H Q
theorem tgtw_name {vs : List Nat} (hv : i ∈ vs) (hi : i < δ.length) (h0 : 0 < i) : TgtW c (gName i) d vs δ (δ.set i (.d d)) := fun B F H σ E v r Q q =>
  q F H _ (E.setD hi r h0) (Same.refl _) (by rw [List.length_set]) fun j hj => by rw [List.getElem?_set_ne (fun z => hj (by rw [← z]; exact hv))]
theorem tgtsw_nil {vs : List Nat} : TgtsW c gNil [] vs δ δ := fun B F H σ E ws r Q q => by
  cases r
  exact ⟨rfl, q F H σ E (Same.refl _) rfl fun _ _ => rfl⟩
theorem tgtsw_cons {g0 : TG} {g : TGs} {vs : List Nat} (h0 : TgtW c g0 d vs δ δ1) (h : TgtsW c g ds vs δ1 δ2) : TgtsW c (gCons g0 g) (d :: ds) vs δ δ2 := fun B F H σ E ws r Q q => by
  cases r with
  | cons r t => exact ⟨_, _, rfl, h0 _ F H σ E _ r _ fun F' H' σ' E' s' l' k' => h _ F' H' σ' E' _ (RepAll.mono s' t) Q fun F2 H2 σ2 E2 s2 l2 k2 => q F2 H2 σ2 E2 (s'.trans s2) (l2.trans l') fun j hj => (k2 j hj).trans (k' j hj)⟩
theorem tgtw_tup {g : TGs} {n : Nat} {vs : List Nat} (h : TgtsW c g ds vs δ δ1) (hn : ds.length = n := by rfl) : TgtW c (gTup c.K n g) (.tup ds) vs δ δ1 := fun B F H σ E v r Q q => by
  obtain ⟨a, ws, rfl, hs, r⟩ := r.tup_inv
  exact ⟨a, ws, rfl, sqT_mono E.le hs, by rw [r.length]; exact hn, h _ F H σ E ws r Q q⟩
/-- back from the block: the slots vs as they were -/
theorem EnvP.unwipe {σ2 : L2.St} {F2 H2 : Hp} {fp2 : Nat → List Addr} {vs : List Nat} {n : Nat} (E : EnvP c B F H σ δ fp) (hv : ∀ i ∈ vs, ∀ s, δ[i]? = some s → s.own = false) (E2 : EnvP c (subB F H fp n) F2 H2 σ2 δ2 fp2)
    (hσ : ∀ j, j ∉ vs → σ2[j]? = σ[j]?) (hδ : ∀ j, j ∉ vs → δ2[j]? = δ[j]?) : EnvP c B F2 H2 σ δ (fun i => if i ∈ vs then [] else fp2 i) := by
  have s2 : Same F F2 := E2.gr.sf
  have no : ∀ (i : Nat) (a : Addr), a ∈ (if i ∈ vs then ([] : List Addr) else fp2 i) → i ∉ vs ∧ a ∈ fp2 i := fun i a h => by
    by_cases hi : i ∈ vs
    · rw [if_pos hi] at h; cases h
    · rw [if_neg hi] at h; exact ⟨hi, h⟩
  refine ⟨E.gr.back E.fh E2.gr, E.len, fun i s h => ?_, fun i h => ?_, fun i j a h1 h2 => E2.ap i j a (no i a h1).2 (no j a h2).2, fun i a h => E2.ff i a (no i a h).2, fun i a h => ?_, E.pi⟩
  · by_cases hi : i ∈ vs
    · show SlOk c F2 H2 (if i ∈ vs then [] else fp2 i) _ s
      rw [if_pos hi]
      have := hv i hi s h
      have ok := E.sl i s h
      cases s with
      | un => rfl
      | d x => obtain ⟨_, v, e, r⟩ := ok; exact ⟨rfl, v, e, r.mono s2⟩
      | _ => cases this
    · show SlOk c F2 H2 (if i ∈ vs then [] else fp2 i) _ s
      rw [if_neg hi, ← hσ i hi]
      exact E2.sl i s (by rw [hδ i hi]; exact h)
  · show (if i ∈ vs then [] else fp2 i) = []
    by_cases hi : i ∈ vs
    · rw [if_pos hi]
    · rw [if_neg hi]
      exact E2.out i (by rw [hδ i hi]; exact h)
  · rcases E2.fh i a (no i a h).2 with w | w
    · left
      cases z : B.H0 a with
      | none => rfl
      | some o => exact absurd w (E.gr.sd a (ne_none_of z))
    · exact E.fh i a w.2
/-- an item of a comprehension: δ' is the environment within, f what is kept of it -/
structure Item (c : Cn) (g : TG) (tt : TT) (te : TE) (vs : List Nat) (δ : DE) (d : D) (r : Option D) : Prop where
  ex : ∃ δ', TgtW c g d vs (wipeD δ vs) δ' ∧ (∀ j, j ∉ vs → δ'[j]? = δ[j]?) ∧ ((r = none ∧ EvT c tt δ' false δ') ∨ ∃ y, r = some y ∧ EvT c tt δ' true δ' ∧ Ev c te δ' y δ')
theorem evn_lc {wi : TI} {g : TG} {vs : List Nat} (f : D → Option D) (hi : EvI c wi δ ds δ) (hz : ds.length ≤ 100000) (h0 : 0 ∉ vs) (hv : ∀ i ∈ vs, ∀ s, δ[i]? = some s → s.own = false)
    (h : ∀ d ∈ ds, Item c g tt te vs δ d (f d)) : EvN c (tLc wi g tt te vs) δ (.ol (ds.filterMap f)) δ := fun B F H σ E Q q => hi _ F H σ E _ fun J F1 H1 E1 s1 Y Dl hD => by
  refine ⟨fun i m H => m = ds.length - i ∧ i ≤ ds.length ∧ ∃ F' fp ws, EnvP c B F' H σ δ fp ∧ Same F1 F' ∧ F' Dl = none ∧ B.H0 Dl = none ∧ (∀ k, Dl ∉ fp k) ∧ H Dl = some (.lst ws) ∧ RepAll c F' ws ((ds.take i).filterMap f), ?_, ?_⟩
  · obtain ⟨fp, E1⟩ := E1
    obtain ⟨E2, n1, n2, n3⟩ := E1.newO (o := .lst []) hD
    exact ⟨ds.length, rfl, Nat.zero_le _, F1, fp, [], E2, Same.refl _, n1, n2, n3, upd_same, .nil⟩
  · rintro i m H2 ⟨rfl, hle, F2, fp, ws, E2, s2, n1, n2, n3, hDl, rw'⟩
    obtain ⟨y1, y2, y3⟩ := Y F2 H2 s2 E2.gr.le
    by_cases hlt : i < ds.length
    · have hd : ds[i]? = some ds[i] := List.getElem?_eq_getElem hlt
      obtain ⟨δ', hg, hδ, hr⟩ := (h ds[i] (List.getElem_mem hlt)).ex
      have htk : ds.take (i + 1) = ds.take i ++ [ds[i]] := by rw [List.take_add_one, hd]; rfl
      refine .inr ⟨y1 i hlt, fun H => i + 1 ≤ ds.length ∧ ∃ F' fp ws, EnvP c B F' H σ δ fp ∧ Same F1 F' ∧ F' Dl = none ∧ B.H0 Dl = none ∧ (∀ k, Dl ∉ fp k) ∧ H Dl = some (.lst ws) ∧ RepAll c F' ws ((ds.take (i + 1)).filterMap f), fun H' w => ⟨ds.length - (i + 1), by omega, rfl, w⟩, fun x H3 hy => ?_⟩
      obtain ⟨F3, R, rx⟩ := y3 i _ hd x H3 hy
      have E3 := E2.ret R
      have hD3 : H3 Dl = some (.lst ws) := R.sh _ _ hDl
      have nF3 : F3 Dl = none := (R.fr Dl (ne_none_of hDl)).trans n1
      have E4 := (E3.wipe h0 hv).sub
      -- what stays within the block
      have stay : ∀ (F5 H5 : Hp), Grow (subB F3 H3 fp (wipeD δ vs).length) F5 H5 → H5 Dl = some (.lst ws) ∧ F5 Dl = none := fun F5 H5 g5 => ⟨g5.sh Dl _ (fun z => by
        obtain ⟨k, _, hk⟩ := List.mem_flatMap.mp z
        exact n3 k hk) hD3, (g5.fr Dl (ne_none_of hD3)).trans nF3⟩
      refine hg _ F3 H3 _ ⟨fp, E4⟩ x rx _ fun F4 H4 σ4 E5 s4 l4 k4 => ⟨?_, ?_⟩
      · refine wipe_of (l4.trans (wipe_len σ vs)) fun j hj => ?_
        rw [k4 j hj, wipe_get, if_neg hj]
      · have hσ : ∀ j, j ∉ vs → σ4[j]? = σ[j]? := fun j hj => by rw [k4 j hj, wipe_get, if_neg hj]
        rcases hr with ⟨e, ht⟩ | ⟨y, e, ht, he⟩
        · refine ht _ F4 H4 σ4 E5 _ fun F5 H5 E6 s5 => ?_
          obtain ⟨fp6, E6⟩ := E6
          obtain ⟨a1, a2⟩ := stay F5 H5 E6.gr
          have E7 := E3.unwipe hv E6 hσ hδ
          refine ⟨hlt, F5, _, ws, E7, s2.trans (R.sf.trans E6.gr.sf), a2, n2, fun k hk => ?_, a1, ?_⟩
          · by_cases hkv : k ∈ vs
            · rw [if_pos hkv] at hk; cases hk
            · rw [if_neg hkv] at hk
              rcases E6.fh k Dl hk with w | w
              · exact (ne_none_of hD3) w
              · obtain ⟨k', _, hk'⟩ := List.mem_flatMap.mp w.1
                exact n3 k' hk'
          · rw [htk, List.filterMap_append, List.filterMap_cons, e, List.filterMap_nil, List.append_nil]
            exact RepAll.mono (R.sf.trans E6.gr.sf) rw'
        · refine ht _ F4 H4 σ4 E5 _ fun F5 H5 E6 s5 => ?_
          refine he _ F5 H5 σ4 E6 _ fun v F6 H6 E7 s6 r7 => ?_
          obtain ⟨fp7, E7⟩ := E7
          obtain ⟨a1, a2⟩ := stay F6 H6 E7.gr
          have E8 := E3.unwipe hv E7 hσ hδ
          have hw : RepAll c F6 ws ((ds.take i).filterMap f) := RepAll.mono (R.sf.trans E7.gr.sf) rw'
          have nk : ∀ k, Dl ∉ (fun i => if i ∈ vs then [] else fp7 i) k := fun k hk => by
            have hk : Dl ∈ (if k ∈ vs then ([] : List Addr) else fp7 k) := hk
            by_cases hkv : k ∈ vs
            · rw [if_pos hkv] at hk; cases hk
            · rw [if_neg hkv] at hk
              rcases E7.fh k Dl hk with w | w
              · exact (ne_none_of hD3) w
              · obtain ⟨k', _, hk'⟩ := List.mem_flatMap.mp w.1
                exact n3 k' hk'
          refine ⟨ws, a1, ?_, hlt, F6, _, ws ++ [v], ?_, s2.trans (R.sf.trans E7.gr.sf), a2, n2, nk, upd_same, ?_⟩
          · rw [hw.length]
            have := List.length_filterMap_le f (ds.take i)
            rw [List.length_take] at this
            exact Nat.lt_of_lt_of_le (show _ < 100001 by omega) (by decide)
          · have g8 : Grow B F6 (upd H6 Dl (.lst (ws ++ [v]))) := ⟨E8.gr.sf, fun a o hm h => by
              rw [upd_ne (fun z => by subst z; rw [n2] at h; cases h)]; exact E8.gr.sh a o hm h, fun a h => by
              rw [upd_ne (fun z => by subst z; exact h n2)]; exact E8.gr.sd a h, E8.gr.fr, fun a o h => by
              rw [upd_ne (fun z => by subst z; rw [a2] at h; cases h)]; exact E8.gr.le a o h⟩
            exact E8.step g8 (Same.refl _) (fun k a ha => upd_ne fun z => by subst z; exact nk k ha) E8.ff
          · rw [htk, List.filterMap_append, List.filterMap_cons, e, List.filterMap_nil]
            exact hw.append (.one r7)
    · have e : i = ds.length := Nat.le_antisymm hle (Nat.le_of_not_lt hlt)
      subst e
      refine .inl ⟨y2, q _ F2 H2 fp [Dl] E2 (s1.trans s2) ⟨Dl, ws, rfl, rfl, hDl, ?_⟩ fun a ha => ?_⟩
      · rw [List.take_length] at rw'; exact rw'
      · rw [List.mem_singleton.mp ha]; exact ⟨n1, n2, n3⟩
end
end DL
set_option maxHeartbeats 200000
set_option Elab.async false
set_option linter.all false
set_option maxRecDepth 100000
/-! DL6: own objects changed, built-ins. -/
namespace DL
open PySem PySem.Spec PyProof.Rows L2
section
variable {c : Cn} {B : Bx} {F F' H H' : Hp} {σ : L2.St} {δ δ1 δ2 δ3 : DE} {fp : Nat → List Addr} {ta tb te tc : TE} {tt tu : TT} {d e x y : D} {ds : List D} {t u : TS} {o : Out} {i j : Nat} {s : Sl} {ts : TA}
theorem lt_of_at {l : DE} (h : l[i]? = some s) : i < l.length := (List.getElem?_eq_some_iff.mp h).1
theorem sz5 {n : Nat} (h : n ≤ 100000) : n ≤ sizeLine := Nat.le_trans h (by decide)
theorem sz6 {n : Nat} (h : n ≤ 100000) : n < sizeLine := Nat.lt_of_le_of_lt h (by decide)

/-! ### own lists -/
/-- xs.append(e) -/
theorem run_app {xs ys : List D} (h0 : δ[i]? = some (.ol ys)) (h : Ev c te δ d δ1) (h1 : δ1[i]? = some (.ol xs)) (hz : xs.length ≤ 100000) : Run c B (tDrop (tBM c.K "list" rAppend (tVar i) (tCons te tNil))) δ (.nx (δ1.set i (.ol (xs ++ [d])))) := fun F H σ E Dn q => by
  obtain ⟨fp0, E0⟩ := id E
  obtain ⟨a, ws, e0, _, hH, _⟩ := E0.sl i _ h0
  refine ⟨_, e0, .inl ⟨rfl, ws, .inl (.inl hH)⟩, h _ F H σ E _ fun v F1 H1 E1 s1 r1 => ?_⟩
  obtain ⟨fp, E1⟩ := E1
  obtain ⟨a', vs, e1, ef, hH1, r⟩ := E1.sl i _ h1
  rw [e0] at e1; cases e1
  refine ⟨a, vs, v, rfl, rfl, hH1, by rw [r.length]; exact sz6 hz, q F1 _ σ ⟨fp, E1.mut (lt_of_at h1) (by rw [ef]; exact List.mem_singleton.mpr rfl) ?_⟩ s1⟩
  exact ⟨a, vs ++ [v], e0, ef, upd_same, r.append (.one r1)⟩
/-- xs[k] = e -/
theorem run_setL {xs : List D} {n : Int} {k : Nat} {tj : TE} (h : Ev c te δ d δ1) (h1 : δ1[i]? = some (.ol xs)) (hj : Ev c tj δ1 (.int n) δ1) (hk : ixN xs.length n = some k) : Run c B (tAsg te (gSub (tVar i) tj rSetL)) δ (.nx (δ1.set i (.ol (xs.set k d)))) := fun F H σ E Dn q =>
  h _ F H σ E _ fun v F1 H1 E1 s1 r1 => by
    obtain ⟨fp1, E1'⟩ := id E1
    obtain ⟨a, ws, e0, _, hH, _⟩ := E1'.sl i _ h1
    refine ⟨_, e0, hj _ F1 H1 σ E1 _ fun w F2 H2 E2 s2 r2 => ?_⟩
    obtain ⟨fp, E2⟩ := E2
    obtain ⟨a', vs, e1, ef, hH1, r⟩ := E2.sl i _ h1
    rw [e0] at e1; cases e1
    refine ⟨a, vs, n, k, rfl, r2.int_inv, hH1, by rw [r.length]; exact hk, q F2 _ σ ⟨fp, E2.mut (lt_of_at h1) (by rw [ef]; exact List.mem_singleton.mpr rfl) ?_⟩ (s1.trans s2)⟩
    exact ⟨a, vs.set k v, e0, ef, upd_same, RepAll.set (r1.mono s2) k r⟩
/-- xs[k] += n -/
theorem run_augL {xs : List D} {n m m2 : Int} {k : Nat} {tj : TE} {f : Int → Int → Int} (h1 : δ[i]? = some (.ol xs)) (hj : Ev c tj δ (.int n) δ) (hk : ixN xs.length n = some k) (hm : xs[k]? = some (.int m)) (h : Ev c te δ (.int m2) δ) :
    Run c B (tAugS (tVar i) tj te (rIxL c.K) (ipI f) rSetL) δ (.nx (δ.set i (.ol (xs.set k (.int (f m m2)))))) := fun F H σ E Dn q => by
  obtain ⟨fp1, E1'⟩ := id E
  obtain ⟨a, ws, e0, _, hH, _⟩ := E1'.sl i _ h1
  refine ⟨_, e0, hj _ F H σ E _ fun w F2 H2 E2 s2 r2 => ?_⟩
  obtain ⟨fp2, E2'⟩ := id E2
  obtain ⟨a', vs, e1, ef, hH1, r⟩ := E2'.sl i _ h1
  rw [e0] at e1; cases e1
  obtain ⟨v, hv, rv⟩ := r.get hm
  have ha : atI vs n = some v := by
    unfold atI
    rw [r.length, hk]
    exact hv
  refine ⟨a, vs, n, v, rfl, r2.int_inv, .inl (.inl hH1), ha, h _ F2 H2 σ E2 _ fun u F3 H3 E3 s3 r3 => ⟨m, m2, rv.int_inv, r3.int_inv, ?_⟩⟩
  obtain ⟨fp, E3⟩ := E3
  obtain ⟨a', us, e1, ef, hH2, r'⟩ := E3.sl i _ h1
  rw [e0] at e1; cases e1
  refine ⟨a, us, n, k, rfl, r2.int_inv, hH2, by rw [r'.length]; exact hk, q F3 _ σ ⟨fp, E3.mut (lt_of_at h1) (by rw [ef]; exact List.mem_singleton.mpr rfl) ?_⟩ (s2.trans s3)⟩
  exact ⟨a, us.set k (.int (f m m2)), e0, ef, upd_same, RepAll.set (.int _) k r'⟩
theorem get_ixL {X : Cx} : PGet X (rIxL X.K) := by
  intro pins s σ H x y v u Q I rx ry h
  obtain ⟨p, xs, i, z, rfl, rfl, hq, he, q⟩ := h
  cases rx
  obtain ⟨t, rfl⟩ := ry
  obtain ⟨its, r, pl, hz⟩ := I.list hq
  obtain ⟨j, h1, h2, h3, h4, h5⟩ := atI_get he
  obtain ⟨w, ew, rw'⟩ := r.get h2
  have hl := r.length
  have hn := line63
  have fin : EP X pins σ Q w s := ⟨z, H, I, rw', q⟩
  by_cases h0 : 0 ≤ i
  · have hj : i.toNat = j := by
      rw [seqIndex_of h0 h5] at h1
      exact Option.some.inj h1
    exact wpAny_getItem_list pl.isList h0 (by omega) (by rw [hj]; simpa using ew) fin
  · have hj : (i + (its.toArray.size : Int)).toNat = j := by
      rw [seqIndex_neg (by omega) h4] at h1
      rw [List.size_toArray, ← hl]
      exact Option.some.inj h1
    exact wpAny_getItem_list_neg (Q := fun r s' => EP X pins σ Q r s') pl.isList (by omega) (by rw [List.size_toArray] <;> omega) (by omega) (by rw [hj]; simpa using ew) fin
/-! ### own objects' fields -/
theorem run_fld {f : Str} {C : Addr} {gs : List (Str × D)} (h : Ev c te δ d δ1) (h1 : δ1[i]? = some (.oo C gs)) (hc : Cls c.K C) (hn : NoAttr c.K C f) (hz : gs.length ≤ 100) : Run c B (sFld c.K (tVar i) te f) δ (.nx (δ1.set i (.oo C (putG f d gs)))) := fun F H σ E Dn q =>
  h _ F H σ E _ fun v F1 H1 E1 s1 r1 => by
    obtain ⟨fp, E1⟩ := E1
    obtain ⟨a, dx, fs, e0, ef, hH, r⟩ := E1.sl i _ h1
    refine ⟨_, e0, a, C, dx, fs, rfl, hH, hc, hn, by rw [r.length]; omega, q F1 _ σ ⟨fp, E1.mut (lt_of_at h1) (by rw [ef]; exact List.mem_singleton.mpr rfl) ?_⟩ s1⟩
    exact ⟨a, dx, _, e0, ef, upd_same, RepF.put r1 r⟩
theorem ev_fldO {f : Str} {C : Addr} {gs : List (Str × D)} (h1 : δ[i]? = some (.oo C gs)) (hc : Cls c.K C) (hn : NoAttr c.K C f) (hl : gs.lookup f = some d) : Ev c (tFld c.K (tVar i) f) δ d δ := fun B F H σ E Q q => by
  obtain ⟨fp, E1⟩ := id E
  obtain ⟨a, dx, fs, e0, ef, hH, r⟩ := E1.sl i _ h1
  obtain ⟨v, hv, rv⟩ := r.look hl
  exact ⟨_, e0, a, C, dx, fs, v, rfl, hH, hc, hn, hv, q v F H E (Same.refl _) rv⟩
theorem ev_fld {f : Str} {C : Addr} {gs : List (Str × D)} (h : Ev c ta δ (.ins C gs) δ1) (hc : Cls c.K C) (hn : NoAttr c.K C f) (hl : gs.lookup f = some d) : Ev c (tFld c.K ta f) δ d δ1 := fun B F H σ E Q q => h _ F H σ E _ fun v F1 H1 E1 s1 r1 => by
  cases r1 with
  | ins hF rf =>
    obtain ⟨v, hv, rv⟩ := rf.look hl
    exact ⟨_, C, _, _, v, rfl, E1.le _ _ hF, hc, hn, hv, q v F1 H1 E1 s1 rv⟩

/-! ### built-ins -/
def D.len? : D → Option Nat
  | .tup ds => some ds.length
  | .lst ds => some ds.length
  | .str z => some z.length
  | _ => none
theorem ev_len {n : Nat} (h : EvA c ts δ [d] δ1) (hn : d.len? = some n) (hz : n ≤ 100000) : Ev c (tCB (fun xs H Q => ∃ x n, xs = [x] ∧ LenV c.K x H n ∧ Q (.int n) H) ts) δ (.int n) δ1 := fun B F H σ E Q q => h _ F H σ E _ fun vs F1 H1 E1 s1 r1 => by
  cases r1 with
  | cons r t => cases t with
    | nil =>
      refine ⟨_, n, rfl, ?_, q _ F1 H1 E1 s1 (.int _)⟩
      cases d with
      | tup ds =>
        cases hn
        obtain ⟨a, vs, rfl, hs, r⟩ := r.tup_inv
        exact .inr ⟨vs, sqT_mono E1.le hs, r.length.symm⟩
      | lst ds =>
        cases hn
        obtain ⟨a, vs, rfl, hs, r⟩ := r.lst_inv
        exact .inl ⟨vs, E1.le.seq hs, r.length.symm⟩
      | str z =>
        cases hn
        rw [r.str_inv]
        exact ⟨sz5 hz, rfl⟩
      | _ => cases hn
theorem ev_lenO {xs : List D} (h : δ[i]? = some (.ol xs)) : Ev c (tCB (fun xs H Q => ∃ x n, xs = [x] ∧ LenV c.K x H n ∧ Q (.int n) H) (tCons (tVar i) tNil)) δ (.int xs.length) δ := fun B F H σ E Q q => by
  obtain ⟨fp, E1⟩ := id E
  obtain ⟨a, vs, e0, ef, hH, r⟩ := E1.sl i _ h
  exact ⟨_, e0, _, xs.length, rfl, .inl ⟨vs, .inl (.inl hH), r.length.symm⟩, q _ F H E (Same.refl _) (.int _)⟩
theorem rep_ints {F : Hp} : ∀ {vs : List V} {ns : List Int}, RepAll c F vs (ns.map .int) → vs = ns.map V.int
  | _, [], .nil => rfl
  | _, n :: ns, .cons r t => by rw [r.int_inv, rep_ints t]; rfl
theorem rep_bls {F : Hp} : ∀ {vs : List V} {bs : List Bool}, RepAll c F vs (bs.map .bl) → vs = bs.map V.bl
  | _, [], .nil => rfl
  | _, n :: ns, .cons r t => by rw [r.bl_inv, rep_bls t]; rfl
theorem ev_sum {ns : List Int} (h : EvA c ts δ [.lst (ns.map .int)] δ1) : Ev c (tCB (rSum c.K) ts) δ (.int ns.sum) δ1 := fun B F H σ E Q q => h _ F H σ E _ fun vs F1 H1 E1 s1 r1 => by
  cases r1 with
  | cons r t => cases t with
    | nil =>
      obtain ⟨a, ws, rfl, hs, r⟩ := r.lst_inv
      rw [rep_ints r] at hs
      exact ⟨a, ns, rfl, E1.le.seq hs, q _ F1 H1 E1 s1 (.int _)⟩
theorem ev_all {bs : List Bool} (h : EvA c ts δ [.lst (bs.map .bl)] δ1) : Ev c (tCB (rAll c.K) ts) δ (.bl (bs.all id)) δ1 := fun B F H σ E Q q => h _ F H σ E _ fun vs F1 H1 E1 s1 r1 => by
  cases r1 with
  | cons r t => cases t with
    | nil =>
      obtain ⟨a, ws, rfl, hs, r⟩ := r.lst_inv
      rw [rep_bls r] at hs
      exact ⟨a, bs, rfl, E1.le.seq hs, q _ F1 H1 E1 s1 (.bl _)⟩
theorem ev_any {bs : List Bool} (h : EvA c ts δ [.lst (bs.map .bl)] δ1) : Ev c (tCB (rAny c.K) ts) δ (.bl (bs.any id)) δ1 := fun B F H σ E Q q => h _ F H σ E _ fun vs F1 H1 E1 s1 r1 => by
  cases r1 with
  | cons r t => cases t with
    | nil =>
      obtain ⟨a, ws, rfl, hs, r⟩ := r.lst_inv
      rw [rep_bls r] at hs
      exact ⟨a, bs, rfl, E1.le.seq hs, q _ F1 H1 E1 s1 (.bl _)⟩
/-- tuple(xs), xs a list -/
def rTupOf (K : PySem.W.Frag) : List V → Hp → VK → Prop := fun xs H Q => ∃ p ys, xs = [.ref p] ∧ ((SqL K H p ys ∧ ∀ l, H l = none → Q (.ref l) (upd H l (.tup ys))) ∨ (SqT K H p ys ∧ Q (.ref p) H))
theorem cr_tupOf {X : Cx} : CallR X (.type "tuple") (rTupOf X.K) := call_tuple_of
theorem ev_tupL (h : EvA c ts δ [.lst ds] δ1) : Ev c (tCB (rTupOf c.K) ts) δ (.tup ds) δ1 := fun B F H σ E Q q => h _ F H σ E _ fun vs F1 H1 E1 s1 r1 => by
  cases r1 with
  | cons r t => cases t with
    | nil =>
      obtain ⟨a, ws, rfl, hs, r⟩ := r.lst_inv
      refine ⟨a, ws, rfl, .inl ⟨E1.le.seq hs, fun p hp => ?_⟩⟩
      have R := Ret.new (o := .tup ws) E1.le hp
      exact q _ _ _ (E1.ret R) (s1.trans R.sf) (.tup upd_same (RepAll.mono R.sf r))
theorem ev_tupT (h : EvA c ts δ [.tup ds] δ1) : Ev c (tCB (rTupOf c.K) ts) δ (.tup ds) δ1 := fun B F H σ E Q q => h _ F H σ E _ fun vs F1 H1 E1 s1 r1 => by
  cases r1 with
  | cons r t => cases t with
    | nil =>
      obtain ⟨a, ws, e, hs, _⟩ := r.tup_inv
      subst e
      exact ⟨a, ws, rfl, .inr ⟨sqT_mono E1.le hs, q _ F1 H1 E1 s1 r⟩⟩
/-- tuple(xs), xs an own list of slot i -/
theorem ev_tupO {xs : List D} (h : δ[i]? = some (.ol xs)) : Ev c (tCB (rTupOf c.K) (tCons (tVar i) tNil)) δ (.tup xs) δ := fun B F H σ E Q q => by
  obtain ⟨fp, E1⟩ := id E
  obtain ⟨a, ws, e0, ef, hH, r⟩ := E1.sl i _ h
  refine ⟨_, e0, a, ws, rfl, .inl ⟨.inl (.inl hH), fun p hp => ?_⟩⟩
  have R := Ret.new (o := .tup ws) E1.gr.le hp
  exact q _ _ _ ⟨fp, E1.ret R⟩ R.sf (.tup upd_same (RepAll.mono R.sf r))
/-- list(xs) -/
def rListOf (K : PySem.W.Frag) : List V → Hp → VK → Prop := fun xs H Q => ∃ p ys, xs = [.ref p] ∧ (SqL K H p ys ∨ SqT K H p ys) ∧ ∀ l, H l = none → Q (.ref l) (upd H l (.lst ys))
theorem cr_listOf {X : Cx} : CallR X (.type "list") (rListOf X.K) := call_list_of
theorem evn_listT (h : EvA c ts δ [.tup ds] δ1) : EvN c (tCB (rListOf c.K) ts) δ (.ol ds) δ1 := fun B F H σ E Q q => h _ F H σ E _ fun vs F1 H1 E1 s1 r1 => by
  cases r1 with
  | cons r t => cases t with
    | nil =>
      obtain ⟨a, ws, rfl, hs, r⟩ := r.tup_inv
      refine ⟨a, ws, rfl, .inr (sqT_mono E1.le hs), fun p hp => ?_⟩
      obtain ⟨fp, E1⟩ := E1
      obtain ⟨E2, n1, n2, n3⟩ := E1.newO (o := .lst ws) hp
      exact q _ _ _ fp [p] E2 s1 ⟨p, ws, rfl, rfl, upd_same, r⟩ fun a ha => by rw [List.mem_singleton.mp ha]; exact ⟨n1, n2, n3⟩
theorem evn_listL (h : EvA c ts δ [.lst ds] δ1) : EvN c (tCB (rListOf c.K) ts) δ (.ol ds) δ1 := fun B F H σ E Q q => h _ F H σ E _ fun vs F1 H1 E1 s1 r1 => by
  cases r1 with
  | cons r t => cases t with
    | nil =>
      obtain ⟨a, ws, rfl, hs, r⟩ := r.lst_inv
      refine ⟨a, ws, rfl, .inl (E1.le.seq hs), fun p hp => ?_⟩
      obtain ⟨fp, E1⟩ := E1
      obtain ⟨E2, n1, n2, n3⟩ := E1.newO (o := .lst ws) hp
      exact q _ _ _ fp [p] E2 s1 ⟨p, ws, rfl, rfl, upd_same, r⟩ fun a ha => by rw [List.mem_singleton.mp ha]; exact ⟨n1, n2, n3⟩
/-- int(n) -/
def rInt1 : List V → Hp → VK → Prop := fun xs H Q => (∃ i, xs = [.int i] ∧ Q (.int i) H) ∨ ∃ k, xs = [.bl k] ∧ Q (.int (if k then 1 else 0)) H
theorem cr_int1 {X : Cx} : CallR X (.type "int") rInt1 := call_int1
theorem ev_int1 {n : Int} (h : EvA c ts δ [.int n] δ1) : Ev c (tCB rInt1 ts) δ (.int n) δ1 := fun B F H σ E Q q => h _ F H σ E _ fun vs F1 H1 E1 s1 r1 => by
  cases r1 with
  | cons r t => cases t with
    | nil => exact .inl ⟨n, by rw [r.int_inv], q _ F1 H1 E1 s1 (.int _)⟩
theorem ev_intB {b : Bool} (h : EvA c ts δ [.bl b] δ1) : Ev c (tCB rInt1 ts) δ (.int (if b then 1 else 0)) δ1 := fun B F H σ E Q q => h _ F H σ E _ fun vs F1 H1 E1 s1 r1 => by
  cases r1 with
  | cons r t => cases t with
    | nil => exact .inr ⟨b, by rw [r.bl_inv], q _ F1 H1 E1 s1 (.int _)⟩
/-- isinstance(x, T), T a built-in class: the class of the data -/
def D.cls : D → Option String
  | .non => some "NoneType"
  | .bl _ => some "bool"
  | .int _ => some "int"
  | .str _ => some "str"
  | .tup _ => some "tuple"
  | .lst _ => some "list"
  | .dk _ => some "dict"
  | _ => none
theorem rep_ty {n : String} {F H : Hp} {v : V} (l : Same F H) (r : Rep c F v d) (h : d.cls = some n) : TyX c.K H v (.type n) := by
  cases r with
  | non => cases h; exact .base .non
  | bl b => cases h; exact .base (.bl b)
  | int i => cases h; exact .base (.int i)
  | str x => cases h; exact .base (.str x)
  | tup hF _ => cases h; exact .base (.tup (l _ _ hF))
  | lst hF _ =>
    cases h
    rcases hF with (hF | ⟨o, hF⟩) | ⟨o, its, n, hF, hc, _⟩
    · exact .base (.lst (l _ _ hF))
    · exact .base (.frz (l _ _ hF))
    · exact .kList hF hc
  | dk hF _ => cases h; exact .base (.dK (l _ _ hF))
  | _ => cases h
theorem ev_isi {T n : String} {b : Bool} (h : Ev c ta δ d δ1) (hd : d.cls = some n := by rfl) (hk : kitB n T = some b := by decide +kernel) : Ev c (tCB (rIsi c.K) (tCons ta (tCons (tC (.ty T)) tNil))) δ (.bl b) δ1 := fun B F H σ E Q q => h _ F H σ E _ fun v F1 H1 E1 s1 r1 =>
  ⟨v, .ty T, .type n, .type T, b, rfl, .ty T, rep_ty E1.le r1 hd, kit_ty hk, q _ F1 H1 E1 s1 (.bl _)⟩
/-- a + b of tuples -/
theorem ev_catT {es : List D} (ha : Ev c ta δ (.tup ds) δ1) (hb : Ev c tb δ1 (.tup es) δ2) (hz : ds.length + es.length ≤ 100000) : Ev c (tOp (rCatA c.K) ta tb) δ (.tup (ds ++ es)) δ2 :=
  ev_op2 ha hb fun B F H σ v w E r1 r2 Q q => by
    have r1' := r1; have r2' := r2
    obtain ⟨a, vs, rfl, hs, r⟩ := r1.tup_inv
    obtain ⟨b, ws, rfl, hs', r'⟩ := r2.tup_inv
    refine ⟨a, b, vs, ws, rfl, rfl, sqT_mono E.le hs, sqT_mono E.le hs', by rw [r.length, r'.length]; exact sz5 hz, fun e => ?_, fun _ e => ?_, fun _ _ p hp => ?_⟩
    · have e' := r.nil_iff.mp e
      subst e'
      exact q _ F H E (Same.refl _) r2'
    · have e' := r'.nil_iff.mp e
      subst e'
      exact q _ F H E (Same.refl _) (by rw [List.append_nil]; exact r1')
    · have R := Ret.new (o := .tup (vs ++ ws)) E.le hp
      exact q _ _ _ (E.ret R) R.sf (.tup upd_same (RepAll.mono R.sf (r.append r')))
/-! ### zip -/
theorem evi_zipT {es : List D} (h : EvA c ts δ [.tup ds, .tup es] δ1) : EvI c (RZ.iZipA c.K ts) δ ((ds.zip es).map fun p => .tup [p.1, p.2]) δ1 := fun B F H σ E R q => h _ F H σ E _ fun vs F1 H1 E1 s1 r1 => by
  cases r1 with
  | cons r t => cases t with
    | cons r' t => cases t with
      | nil =>
        obtain ⟨a, vs, rfl, hs, r⟩ := r.tup_inv
        obtain ⟨b, ws, rfl, hs', r'⟩ := r'.tup_inv
        refine ⟨a, b, vs, ws, rfl, .inr ⟨sqT_mono E1.le hs, sqT_mono E1.le hs', q _ F1 H1 E1 s1 fun F2 H2 k1 k2 => ?_⟩⟩
        have hl : ((ds.zip es).map fun p => D.tup [p.1, p.2]).length = min vs.length ws.length := by rw [List.length_map, List.length_zip, r.length, r'.length]
        have t1 : SqT c.K H2 a vs := sqT_mono (k1.trans k2) hs
        have t2 : SqT c.K H2 b ws := sqT_mono (k1.trans k2) hs'
        refine ⟨fun i hi => ?_, ⟨vs, ws, t1, t2, by rw [hl]; omega⟩, fun i d hd x H3 hy => ?_⟩
        · rw [hl] at hi
          exact ⟨vs, ws, vs[i]'(by omega), ws[i]'(by omega), t1, t2, List.getElem?_eq_getElem (by omega), List.getElem?_eq_getElem (by omega)⟩
        · obtain ⟨T, x1, y1, rfl, nT, rfl, f1, f2⟩ := hy
          rw [List.getElem?_map] at hd
          obtain ⟨p, hp, rfl⟩ := Option.map_eq_some_iff.mp hd
          obtain ⟨p1, p2⟩ := List.getElem?_zip_eq_some.mp hp
          obtain ⟨w1, hw1, rw1⟩ := r.get p1
          obtain ⟨w2, hw2, rw2⟩ := r'.get p2
          have ex1 : x1 = w1 := Option.some.inj ((f1 _ t1).symm.trans hw1)
          have ex2 : y1 = w2 := Option.some.inj ((f2 _ t2).symm.trans hw2)
          subst ex1 ex2
          have R := Ret.new (o := .tup [x1, y1]) k2 nT
          exact ⟨_, R, .tup upd_same (.cons (rw1.mono (k1.trans R.sf)) (.cons (rw2.mono (k1.trans R.sf)) .nil))⟩
theorem evi_zipL {es : List D} (h : EvA c ts δ [.lst ds, .lst es] δ1) : EvI c (RZ.iZipA c.K ts) δ ((ds.zip es).map fun p => .tup [p.1, p.2]) δ1 := fun B F H σ E R q => h _ F H σ E _ fun vs F1 H1 E1 s1 r1 => by
  cases r1 with
  | cons r t => cases t with
    | cons r' t => cases t with
      | nil =>
        obtain ⟨a, vs, rfl, hs, r⟩ := r.lst_inv
        obtain ⟨b, ws, rfl, hs', r'⟩ := r'.lst_inv
        refine ⟨a, b, vs, ws, rfl, .inl ⟨E1.le.seq hs, E1.le.seq hs', q _ F1 H1 E1 s1 fun F2 H2 k1 k2 => ?_⟩⟩
        have hl : ((ds.zip es).map fun p => D.tup [p.1, p.2]).length = min vs.length ws.length := by rw [List.length_map, List.length_zip, r.length, r'.length]
        have t1 : SqL c.K H2 a vs := (k1.trans k2).seq hs
        have t2 : SqL c.K H2 b ws := (k1.trans k2).seq hs'
        refine ⟨fun i hi => ?_, ⟨vs, ws, t1, t2, by rw [hl]; omega⟩, fun i d hd x H3 hy => ?_⟩
        · rw [hl] at hi
          exact ⟨vs, ws, vs[i]'(by omega), ws[i]'(by omega), t1, t2, List.getElem?_eq_getElem (by omega), List.getElem?_eq_getElem (by omega)⟩
        · obtain ⟨T, x1, y1, rfl, nT, rfl, f1, f2⟩ := hy
          rw [List.getElem?_map] at hd
          obtain ⟨p, hp, rfl⟩ := Option.map_eq_some_iff.mp hd
          obtain ⟨p1, p2⟩ := List.getElem?_zip_eq_some.mp hp
          obtain ⟨w1, hw1, rw1⟩ := r.get p1
          obtain ⟨w2, hw2, rw2⟩ := r'.get p2
          have ex1 : x1 = w1 := Option.some.inj ((f1 _ t1).symm.trans hw1)
          have ex2 : y1 = w2 := Option.some.inj ((f2 _ t2).symm.trans hw2)
          subst ex1 ex2
          have R := Ret.new (o := .tup [x1, y1]) k2 nT
          exact ⟨_, R, .tup upd_same (.cons (rw1.mono (k1.trans R.sf)) (.cons (rw2.mono (k1.trans R.sf)) .nil))⟩
end
end DL
set_option maxHeartbeats 200000
set_option Elab.async false
set_option linter.all false
set_option maxRecDepth 100000
/-! DL7: sorted of ints, of tuples of ints, of rows of such, of any number. -/
namespace DL
open PySem PySem.Spec PyProof.Rows L2 SrtO

/-! ### the order of rows of ints, of rows of such rows -/
abbrev ltI : List Int → List Int → Bool := HT.lexLt
def ltR : List (List Int) → List (List Int) → Bool
  | [], [] => false
  | [], _ :: _ => true
  | _ :: _, [] => false
  | a :: as, b :: bs => if a = b then ltR as bs else ltI a b
theorem ltI_cons (a b : Int) (as bs : List Int) : ltI (a :: as) (b :: bs) = if a = b then ltI as bs else decide (a < b) := by
  show HT.lexLt (a :: as) (b :: bs) = _
  by_cases h : a = b
  · subst h; simp [HT.lexLt]
  · simp [HT.lexLt, h]
theorem ltI_irr : ∀ a : List Int, ltI a a = false
  | [] => rfl
  | a :: as => by rw [ltI_cons, if_pos rfl]; exact ltI_irr as
theorem ltI_tot : ∀ a b : List Int, ltI a b = false → ltI b a = false → a = b
  | [], [], _, _ => rfl
  | [], _ :: _, h, _ => by cases h
  | _ :: _, [], _, h => by cases h
  | a :: as, b :: bs, h, g => by
    rw [ltI_cons] at h g
    by_cases e : a = b
    · subst e
      rw [if_pos rfl] at h g
      rw [ltI_tot as bs h g]
    · rw [if_neg e, decide_eq_false_iff_not] at h
      rw [if_neg (Ne.symm e), decide_eq_false_iff_not] at g
      omega
theorem ltI_asym : ∀ a b : List Int, ltI a b = true → ltI b a = false
  | [], [], h => by cases h
  | [], _ :: _, _ => rfl
  | _ :: _, [], h => by cases h
  | a :: as, b :: bs, h => by
    rw [ltI_cons] at h ⊢
    by_cases e : a = b
    · subst e
      rw [if_pos rfl] at h ⊢
      exact ltI_asym as bs h
    · rw [if_neg e, decide_eq_true_eq] at h
      rw [if_neg (Ne.symm e), decide_eq_false_iff_not]
      omega
theorem ltI_trans : ∀ a b c : List Int, ltI a b = true → ltI b c = true → ltI a c = true
  | [], [], _, h, _ => by cases h
  | [], _ :: _, [], _, h => by cases h
  | [], _ :: _, _ :: _, _, _ => rfl
  | _ :: _, [], _, h, _ => by cases h
  | _ :: _, _ :: _, [], _, h => by cases h
  | a :: as, b :: bs, c :: cs, h, g => by
    rw [ltI_cons] at h g ⊢
    by_cases e : a = b
    · subst e
      rw [if_pos rfl] at h
      by_cases f : a = c
      · subst f
        rw [if_pos rfl] at g ⊢
        exact ltI_trans as bs cs h g
      · rw [if_neg f] at g ⊢
        exact g
    · rw [if_neg e, decide_eq_true_eq] at h
      by_cases f : b = c
      · subst f
        rw [if_neg e, decide_eq_true_eq]
        exact h
      · rw [if_neg f, decide_eq_true_eq] at g
        rw [if_neg (by omega), decide_eq_true_eq]
        omega
theorem ltR_cons (a b : List Int) (as bs : List (List Int)) : ltR (a :: as) (b :: bs) = if a = b then ltR as bs else ltI a b := rfl
theorem ltR_irr : ∀ a : List (List Int), ltR a a = false
  | [] => rfl
  | a :: as => by rw [ltR_cons, if_pos rfl]; exact ltR_irr as
theorem ltR_tot : ∀ a b : List (List Int), ltR a b = false → ltR b a = false → a = b
  | [], [], _, _ => rfl
  | [], _ :: _, h, _ => by cases h
  | _ :: _, [], _, h => by cases h
  | a :: as, b :: bs, h, g => by
    rw [ltR_cons] at h g
    by_cases e : a = b
    · subst e
      rw [if_pos rfl] at h g
      rw [ltR_tot as bs h g]
    · rw [if_neg e] at h
      rw [if_neg (Ne.symm e)] at g
      exact absurd (ltI_tot a b h g) e
theorem ltR_asym : ∀ a b : List (List Int), ltR a b = true → ltR b a = false
  | [], [], h => by cases h
  | [], _ :: _, _ => rfl
  | _ :: _, [], h => by cases h
  | a :: as, b :: bs, h => by
    rw [ltR_cons] at h ⊢
    by_cases e : a = b
    · subst e
      rw [if_pos rfl] at h ⊢
      exact ltR_asym as bs h
    · rw [if_neg e] at h
      rw [if_neg (Ne.symm e)]
      exact ltI_asym a b h
theorem ltR_trans : ∀ a b c : List (List Int), ltR a b = true → ltR b c = true → ltR a c = true
  | [], [], _, h, _ => by cases h
  | [], _ :: _, [], _, h => by cases h
  | [], _ :: _, _ :: _, _, _ => rfl
  | _ :: _, [], _, h, _ => by cases h
  | _ :: _, _ :: _, [], _, h => by cases h
  | a :: as, b :: bs, c :: cs, h, g => by
    rw [ltR_cons] at h g ⊢
    by_cases e : a = b
    · subst e
      rw [if_pos rfl] at h
      by_cases f : a = c
      · subst f
        rw [if_pos rfl] at g ⊢
        exact ltR_trans as bs cs h g
      · rw [if_neg f] at g ⊢
        exact g
    · rw [if_neg e] at h
      by_cases f : b = c
      · subst f
        rw [if_neg e]
        exact h
      · rw [if_neg f] at g
        have t := ltI_trans a b c h g
        rw [if_neg (fun z => by subst z; rw [ltI_irr] at t; cases t)]
        exact t
/-- a strict total order, by a key -/
structure Tot {α : Type} (lt : α → α → Bool) : Prop where
  tot : ∀ a b, lt a b = false → lt b a = false → a = b
  asym : ∀ a b, lt a b = true → lt b a = false
  trans : ∀ a b c, lt a b = true → lt b c = true → lt a c = true
theorem totI : Tot ltI := ⟨ltI_tot, ltI_asym, ltI_trans⟩
theorem totR : Tot ltR := ⟨ltR_tot, ltR_asym, ltR_trans⟩
theorem totN : Tot fun a b : Int => decide (a < b) := ⟨fun a b h g => by
  rw [decide_eq_false_iff_not] at h g; omega, fun a b h => by rw [decide_eq_true_eq] at h; rw [decide_eq_false_iff_not]; omega, fun a b c h g => by rw [decide_eq_true_eq] at h g ⊢; omega⟩
theorem Tot.swo {α β : Type} {lt : α → α → Bool} (T : Tot lt) (k : β → α) : Swo fun x y => lt (k x) (k y) := by
  refine ⟨fun x y h => T.asym _ _ h, fun x y z h1 h2 => ?_⟩
  cases h : lt (k z) (k x) with
  | false => rfl
  | true =>
    by_cases e : lt (k x) (k y) = true
    · have := T.trans _ _ _ h e
      rw [h2] at this
      cases this
    · have e' : k x = k y := T.tot _ _ (by simpa using e) h1
      rw [e'] at h
      rw [h2] at h
      cases h
/-- two sorted arrangements of the same are one -/
theorem Tot.uniq {α : Type} {lt : α → α → Bool} (T : Tot lt) : ∀ {a b : List α}, a.Perm b → a.Pairwise (fun x y => lt y x = false) → b.Pairwise (fun x y => lt y x = false) → a = b
  | [], b, p, _, _ => (List.nil_perm.mp p).symm
  | x :: a, [], p, _, _ => absurd p.length_eq (by simp)
  | x :: a, y :: b, p, h, g => by
    have ⟨h1, h2⟩ := List.pairwise_cons.mp h
    have ⟨g1, g2⟩ := List.pairwise_cons.mp g
    have e : x = y := by
      have mx : x ∈ y :: b := p.mem_iff.mp List.mem_cons_self
      have my : y ∈ x :: a := p.mem_iff.mpr List.mem_cons_self
      rcases List.mem_cons.mp mx with z | z
      · exact z
      · rcases List.mem_cons.mp my with w | w
        · exact w.symm
        · exact T.tot _ _ (g1 x z) (h1 y w)
    subst e
    rw [T.uniq (List.Perm.cons_inv p) h2 g2]

/-! ### what stands in the heap -/
def IsInts (h : Heap) (v : Value) (ns : List Int) : Prop := ∃ (b : Addr) (its : List Value), v = .ref b ∧ IsTup h b its.toArray ∧ IntsAre its ns
def IsRows (h : Heap) (v : Value) (rs : List (List Int)) : Prop := ∃ (b : Addr) (its : List Value), v = .ref b ∧ IsTup h b its.toArray ∧ Paired (IsInts h) its rs
theorem isTup_keeps {h h' : Heap} {b : Addr} {its : Array Value} (x : IsTup h b its) (k : ∀ c o, o.cls = .type "tuple" → h.get? c = some o → h'.get? c = some o) : IsTup h' b its := by
  obtain ⟨o, ho, hc, r⟩ := x
  exact ⟨o, k b o hc ho, hc, r⟩
theorem IsInts.keeps {h h' : Heap} {v : Value} {ns : List Int} (x : IsInts h v ns) (k : ∀ c o, o.cls = .type "tuple" → h.get? c = some o → h'.get? c = some o) : IsInts h' v ns := by
  obtain ⟨b, its, e, t, i⟩ := x
  exact ⟨b, its, e, isTup_keeps t k, i⟩
theorem IsRows.keeps {h h' : Heap} {v : Value} {rs : List (List Int)} (x : IsRows h v rs) (k : ∀ c o, o.cls = .type "tuple" → h.get? c = some o → h'.get? c = some o) : IsRows h' v rs := by
  obtain ⟨b, its, e, t, i⟩ := x
  exact ⟨b, its, e, isTup_keeps t k, Paired.mapP i fun _ _ z => z.keeps k⟩
theorem intsAre_inj : ∀ {us : List Value} {ns ms : List Int}, IntsAre us ns → IntsAre us ms → ns = ms
  | _, _, _, .nil, .nil => rfl
  | _, _, _, .cons n t h, .cons _ _ g => by rw [intsAre_inj h g]
theorem isTup_inj {h : Heap} {b : Addr} {xs ys : List Value} (x : IsTup h b xs.toArray) (y : IsTup h b ys.toArray) : xs = ys := by
  obtain ⟨o, ho, _, n, hd⟩ := x
  obtain ⟨o', ho', _, n', hd'⟩ := y
  rw [ho] at ho'
  cases ho'
  rw [hd] at hd'
  injection hd' with h1 _
  simpa using congrArg Array.toList h1
theorem IsInts.inj {h : Heap} {v : Value} {ns ms : List Int} (x : IsInts h v ns) (y : IsInts h v ms) : ns = ms := by
  obtain ⟨b, its, e, t, i⟩ := x
  obtain ⟨b', its', e', t', i'⟩ := y
  rw [e] at e'
  cases e'
  have := isTup_inj t t'
  subst this
  exact intsAre_inj i i'
theorem paired_inj {α β : Type} {R : α → β → Prop} (hR : ∀ a b b', R a b → R a b' → b = b') : ∀ {l : List α} {m n : List β}, Paired R l m → Paired R l n → m = n
  | _, _, _, .nil, .nil => rfl
  | _, _, _, .cons r t, .cons q u => by rw [hR _ _ _ r q, paired_inj hR t u]
theorem IsRows.inj {h : Heap} {v : Value} {ns ms : List (List Int)} (x : IsRows h v ns) (y : IsRows h v ms) : ns = ms := by
  obtain ⟨b, its, e, t, i⟩ := x
  obtain ⟨b', its', e', t', i'⟩ := y
  rw [e] at e'
  cases e'
  have := isTup_inj t t'
  subst this
  exact paired_inj (fun _ _ _ p q => p.inj q) i i'
section
variable {prog : Program} {w : World} {A : Around} {E : Value → Shared → Prop} {s : Shared}
theorem katI {b : Bool} {Q : Bool → Shared → Prop} : ∀ {xs ys : List Value} {ns ms : List Int} {i : Nat} {fin : Bool}, IntsAre xs ns → IntsAre ys ms → fin = decide (xs.length < ys.length) → Q (ltI ns ms) s →
    PySem.W.KatLex prog w A b fin Q (xs.zip ys) i s
  | _, _, _, _, i, fin, .nil, .nil, hf, q => by
    subst hf
    exact PySem.W.kat_nil q
  | _, _, _, _, i, fin, .nil, .cons m u g, hf, q => by
    subst hf
    exact PySem.W.kat_nil (by rw [show decide (([] : List Value).length < (Value.int m u :: _).length) = true by simp]; exact q)
  | _, _, _, _, i, fin, .cons n t h, .nil, hf, q => by
    subst hf
    exact PySem.W.kat_nil (by rw [show decide ((Value.int n t :: _).length < ([] : List Value).length) = false by simp]; exact q)
  | _, _, _, _, i, fin, .cons n t h (vs := vs) (ns := ns), .cons m u g (vs := us) (ns := ms), hf, q => by
    rw [List.zip_cons_cons]
    refine PySem.W.kat_cons (SeqAt.EqAt.int_int n t m u prog w _ _ ?_)
    rw [ltI_cons] at q
    refine PySem.W.kat_go (fun e1 => ?_) (fun e1 => ?_)
    · have ex : n = m := by simpa using e1
      rw [if_pos ex] at q
      exact PySem.W.kat_yes (katI h g (by rw [hf]; simp) q)
    · have ex : ¬ n = m := by simpa using e1
      rw [if_neg ex] at q
      refine PySem.W.kat_no ?_
      cases b && i == 0 with
      | true => exact oneLt_int q
      | false => exact PySem.W.kat_one _ _ (PyProof.Rows.lt_int q)
theorem nkeys_ints {h : Heap} : ∀ {us : List Value} {ns : List Int}, IntsAre us ns → NestedAll h (ns.map .num) us
  | _, _, .nil => .nil
  | _, _, .cons n t g => .cons (.int n t) (nkeys_ints g)
theorem nkey_ints {h : Heap} {b : Addr} {its : List Value} {ns : List Int} (t : IsTup h b its.toArray) (i : IntsAre its ns) : NestedIs h (.tup (ns.map .num)) (.ref b) := by
  obtain ⟨o, ho, hc, n, hd⟩ := t
  exact .tup ho hc hd (nkeys_ints i)
theorem beq_nums : ∀ ns ms : List Int, NestedKey.beqAll (ns.map .num) (ms.map .num) = decide (ns = ms)
  | [], [] => by rw [decide_eq_true rfl]; rfl
  | [], _ :: _ => by rw [decide_eq_false (fun z => by cases z)]; rfl
  | _ :: _, [] => by rw [decide_eq_false (fun z => by cases z)]; rfl
  | n :: ns, m :: ms => by
    show (NestedKey.beq (.num n) (.num m) && NestedKey.beqAll (ns.map .num) (ms.map .num)) = _
    rw [beq_nums ns ms]
    show (decide (n = m) && decide (ns = ms)) = _
    by_cases e : n = m
    · by_cases f : ns = ms
      · simp [e, f]
      · simp [e, f]
    · simp [e]
theorem depth_nums : ∀ ns : List Int, NestedKey.depthAll (ns.map .num) = 0
  | [] => rfl
  | n :: ns => by
    show max (NestedKey.depth (.num n)) (NestedKey.depthAll (ns.map .num)) = 0
    rw [depth_nums ns]
    rfl
theorem katR {Q : Bool → Shared → Prop} (hu : A.units + 2 < cLine) : ∀ {xs ys : List Value} {rs ts : List (List Int)} {i : Nat} {fin : Bool}, Paired (IsInts s.heap) xs rs → Paired (IsInts s.heap) ys ts → fin = decide (xs.length < ys.length) → Q (ltR rs ts) s →
    PySem.W.KatLex prog w A false fin Q (xs.zip ys) i s
  | _, _, _, _, i, fin, .nil, .nil, hf, q => by
    subst hf
    exact PySem.W.kat_nil q
  | _, _, _, _, i, fin, .nil, .cons g g', hf, q => by
    subst hf
    exact PySem.W.kat_nil q
  | _, _, _, _, i, fin, .cons h h', .nil, hf, q => by
    subst hf
    exact PySem.W.kat_nil q
  | _, _, _, _, i, fin, .cons (b := r) h h', .cons (b := t) g g', hf, q => by
    rw [List.zip_cons_cons]
    obtain ⟨b1, i1, rfl, t1, a1⟩ := h
    obtain ⟨b2, i2, rfl, t2, a2⟩ := g
    have eq := eqAt_key (.tup (r.map .num)) (.tup (t.map .num)) A s (.ref b1) (.ref b2) (nkey_ints t1 a1) (nkey_ints t2 a2) (by
      show A.units + min (NestedKey.depthAll (r.map .num) + 1) (NestedKey.depthAll (t.map .num) + 1) < cLine
      rw [depth_nums, depth_nums]
      have : min (0 + 1) (0 + 1) = 1 := rfl
      omega)
    refine PySem.W.kat_cons (eq prog w _ _ ?_)
    have e0 : NestedKey.beq (.tup (r.map .num)) (.tup (t.map .num)) = decide (r = t) := beq_nums r t
    rw [e0]
    rw [ltR_cons] at q
    refine PySem.W.kat_go (fun e1 => ?_) (fun e1 => ?_)
    · have ex : r = t := of_decide_eq_true e1
      rw [if_pos ex] at q
      exact PySem.W.kat_yes (katR hu h' g' (by rw [hf]; simp) q)
    · have ex : ¬ r = t := of_decide_eq_false e1
      rw [if_neg ex] at q
      exact PySem.W.kat_no (PySem.W.kat_one _ _ (HT.lt_tupInts t1 t2 a1 a2 (by omega) q))
/-- a kind of item that can be sorted -/
structure SK (prog : Program) (w : World) (α : Type) where
  is : Heap → Value → α → Prop
  lt : α → α → Bool
  κ : SortKind
  room : Around → Prop
  inj : ∀ {h v a b}, is h v a → is h v b → a = b
  keeps : ∀ {h h' : Heap} {v a}, is h v a → (∀ c o, o.cls = .type "tuple" → h.get? c = some o → h'.get? c = some o) → is h' v a
  kind : ∀ {A : Around} {s : Shared} {vs : List Value} (Q : SortKind → Shared → Prop) (E : Value → Shared → Prop), 0 < vs.length → (∀ v ∈ vs, ∃ a, is s.heap v a) → Q κ s → wpAny (model prog w) A (keyKind' vs.toArray) Q E s
  cmp : ∀ {A : Around} {s : Shared} {x y : Value} {a b : α}, room A → is s.heap x a → is s.heap y b → wpAny (model prog w) A (keyLt' κ x y) (fun r s' => s' = s ∧ r = lt a b) (fun _ _ => False) s
open Classical in
noncomputable def SK.key {α : Type} [Inhabited α] (S : SK prog w α) (h : Heap) (v : Value) : α := if x : ∃ a, S.is h v a then x.choose else default
theorem SK.key_eq {α : Type} [Inhabited α] (S : SK prog w α) {h : Heap} {v : Value} {a : α} (x : S.is h v a) : S.key h v = a := by
  unfold SK.key
  rw [dif_pos ⟨a, x⟩]
  exact S.inj (Exists.choose_spec (⟨a, x⟩ : ∃ a, S.is h v a)) x
theorem SK.sortable {α : Type} [Inhabited α] (S : SK prog w α) (hA : S.room A) {a : Addr} {vs : List Value} (h0 : 0 < vs.length) (k : Value → α) (hp : ∀ v ∈ vs, S.is s.heap v (k v)) (ha : ∀ o, s.heap.get? a = some o → o.cls ≠ .type "tuple") :
    SortableO prog w A s a vs fun v u => S.lt (k v) (k u) := by
  intro h' keep
  have hp' : ∀ v ∈ vs, S.is h' v (k v) := fun v hm => S.keeps (hp v hm) fun b o c e => keep b o (fun z => by subst z; exact ha o e c) e
  refine ⟨S.κ, fun Q E hq => S.kind Q E h0 (fun v hm => ⟨_, hp' v hm⟩) hq, fun p q h1 h2 => ?_⟩
  exact S.cmp (s := { s with heap := h' }) hA (hp' _ h1) (hp' _ h2)
/-- sorted(l) -/
theorem SK.sorted {α : Type} [Inhabited α] (S : SK prog w α) (T : Tot S.lt) (hA : S.room A.in1.in1) {l : Addr} {vs : List Value} {Q : Value → Shared → Prop} (hl : s.heap.IsList l vs.toArray) (hz : vs.length ≤ sizeLine) (k : Value → α) (hp : 2 ≤ vs.length → ∀ v ∈ vs, S.is s.heap v (k v))
    (h : ∀ (h' : Heap) (d : Addr) (out : List Value), out.Perm vs → (out.map k).Pairwise (fun x y => S.lt y x = false) → (∀ b o, s.heap.get? b = some o → h'.get? b = some o) → s.heap.objs.size ≤ d → (∃ n, h'.get? d = some (seqObj "list" out.toArray n)) → Q (.ref d) { s with heap := h' }) :
    wpAny (model prog w) A (call (.builtin "sorted") [.ref l]) Q E s := by
  refine sorted_ord (T.swo k) hl hz (fun h2 h₁ a ha kk => ?_) fun out hs hb => ?_
  · refine S.sortable (s := { s with heap := h₁ }) hA (by omega) k (fun v hm => S.keeps (hp (by omega) v hm) fun b o _ e => (kk b o e).2) fun o e => ?_
    have e' : some o = some (seqObj "list" vs.toArray 0) := e.symm.trans ha
    cases e'
    intro c
    exact absurd (Value.type.inj c) (by decide)
  · exact h _ _ out hb.perm (List.pairwise_map.mpr hs) (fun b o e => sortedAll_old e) (Nat.le_succ _) (sortedAll_at s.heap vs out.toArray)
/-- .. of a dict's keys, collected -/
theorem SK.sortedD {α : Type} [Inhabited α] (S : SK prog w α) (T : Tot S.lt) (hA : S.room A.in1.in1) {r d : Addr} {Ty : String} {n : Nat} {P : Nat → Value → Prop} {OK : Heap → Prop} {Q : Value → Shared → Prop} (D : PySem.W.KdlSrc prog w Ty r d n P OK) (hh : A.handled = none) (hok : OK s.heap) (hn : n ≤ sizeLine)
    (h : ∀ (h1 : Heap) (tk : Nat) (acc : List Value), (∀ b o, s.heap.get? b = some o → h1.get? b = some o) → ItemsOf P acc.toArray n → ∃ k : Value → α, (2 ≤ acc.length → ∀ v ∈ acc, S.is h1 v (k v)) ∧
      ∀ (h' : Heap) (d : Addr) (out : List Value), out.Perm acc → (out.map k).Pairwise (fun x y => S.lt y x = false) → (∀ b o, h1.get? b = some o → h'.get? b = some o) → h1.objs.size ≤ d → (∃ n, h'.get? d = some (seqObj "list" out.toArray n)) → Q (.ref d) { s with heap := h', toks := tk }) :
    wpAny (model prog w) A (call (.builtin "sorted") [.ref r]) Q E s := by
  refine Calls.call_function_entry kind_sorted plain_sorted entry_sorted (args_sorted1 _) ?_
  unfold Builtin.«sorted»
  refine wpAny_bind (m := checkCount "sorted" 1 1 _) (wpAny_pure ?_)
  refine wpAny_bind (PySem.W.kdu_collect (A := A.in1) D hh hok hn fun h1 tk acc hk hacc => ?_)
  obtain ⟨k, hp, q⟩ := h h1 tk acc.toList hk (by rw [Array.toArray_toList]; exact hacc)
  have hz : acc.toList.length ≤ sizeLine := by rw [Array.length_toList, hacc.1]; exact hn
  refine wpAny_bind (wpAny_newList ?_ hz)
  have hoL : (h1.push (seqObj "list" acc.toList.toArray 0)).get? h1.objs.size = some (seqObj "list" acc.toList.toArray 0) := Heap.get?_push_size _ rfl
  show wpAny _ _ _ _ _ { s with heap := h1.push (seqObj "list" acc.toList.toArray 0), toks := tk }
  refine wpAny_bind (wpAny_holding (wpAny_call_entry slot_list_sort ⟨_, hoL, rfl⟩ entry_list_sort (list_sort_ord (s := { s with heap := h1.push (seqObj "list" acc.toList.toArray 0), toks := tk }) (T.swo k) hoL hz (fun h2 => ?_) fun out hs hb => ⟨_, rfl, ?_⟩) (args_list_sort _)))
  · refine S.sortable (s := { s with heap := h1.push (seqObj "list" acc.toList.toArray 0), toks := tk }) hA (by omega) k (fun v hm => S.keeps (hp (by omega) v hm) fun b o _ e => Heap.get?_push_of_some _ e) fun o e => ?_
    have e' : some o = some (seqObj "list" acc.toList.toArray 0) := e.symm.trans hoL
    cases e'
    intro c
    exact absurd (Value.type.inj c) (by decide)
  · refine wpAny_pure ⟨_, rfl, q _ h1.objs.size out hb.perm (List.pairwise_map.mpr hs) (fun b u e => ?_) (Nat.le_refl _) (sortedHeap_at (vs := acc.toList) (out := out.toArray) hoL)⟩
    have hb' : b < h1.objs.size := Heap.lt_size e
    rw [sortedHeap_old (Nat.ne_of_lt hb') (by rw [size_push']; exact Nat.lt_succ_of_lt hb')]
    exact Heap.get?_push_of_some _ e
end
end DL
set_option maxHeartbeats 200000
set_option Elab.async false
set_option linter.all false
set_option maxRecDepth 100000
/-! DL8: sorted as a rule over data; dicts whose keys are tuples. -/
namespace DL
open PySem PySem.Spec PyProof.Rows L2 SrtO
section
variable {P : Program} {w : World}
theorem katTups_of {h : Heap} {F : Value → Prop} : ∀ {vs : List Value}, (∀ v ∈ vs, ∃ (b : Addr) (its : List Value) (f : Value), v = .ref b ∧ IsTup h b its.toArray ∧ its[0]? = some f ∧ F f) → ∃ fs, PySem.W.KatTups h vs fs ∧ fs.length = vs.length ∧ ∀ f ∈ fs, F f
  | [], _ => ⟨[], PySem.W.KatTups.nil, rfl, fun _ z => nomatch z⟩
  | v :: vs, hv => by
    obtain ⟨b, its, f, e, ⟨o, ho, hc, n, hd⟩, hf, hF⟩ := hv v List.mem_cons_self
    obtain ⟨fs, k1, k2, k3⟩ := katTups_of (vs := vs) fun u hu => hv u (List.mem_cons_of_mem _ hu)
    subst e
    refine ⟨f :: fs, PySem.W.KatTups.cons ho hc hd (by simpa using hf) k1, by rw [List.length_cons, List.length_cons, k2], fun g hg => ?_⟩
    rcases List.mem_cons.mp hg with z | z
    · rw [z]; exact hF
    · exact k3 g z
def skI (P : Program) (w : World) : SK P w (List Int) where
  is := fun h v ns => IsInts h v ns ∧ ns ≠ []
  lt := ltI
  κ := tuples' true
  room := fun _ => True
  inj := fun x y => x.1.inj y.1
  keeps := fun x k => ⟨x.1.keeps k, x.2⟩
  kind := fun {A s vs} Q E h0 hv hq => by
    obtain ⟨fs, k1, k2, k3⟩ := katTups_of (h := s.heap) (F := fun f => ∃ n t, f = Value.int n t) fun v hm => by
      obtain ⟨ns, ⟨b, its, e, t, i⟩, ne⟩ := hv v hm
      cases i with
      | nil => exact absurd rfl ne
      | cons n t' r => exact ⟨b, _, _, e, t, rfl, n, t', rfl⟩
    refine PySem.W.kat_kind (T := .type "int") k1 (by omega) (fun f hm => ?_) (by rfl) ?_
    · obtain ⟨x, t, rfl⟩ := k3 f hm
      exact PySem.W.Looks.now
    · have e : (Value.type "int" != Value.type "tuple") = true := by first | decide +kernel | rfl | decide
      rw [e]
      exact hq
  cmp := fun {A s x y a b} _ hx hy => by
    obtain ⟨⟨b1, i1, rfl, ⟨o1, h1, c1, n1, d1⟩, a1⟩, _⟩ := hx
    obtain ⟨⟨b2, i2, rfl, ⟨o2, h2, c2, n2, d2⟩, a2⟩, _⟩ := hy
    exact PySem.W.kat_lt h1 d1 h2 d2 (katI a1 a2 (by simp) ⟨rfl, rfl⟩)
def skR (P : Program) (w : World) : SK P w (List (List Int)) where
  is := fun h v rs => IsRows h v rs ∧ rs ≠ []
  lt := ltR
  κ := tuples' false
  room := fun A => A.units + 2 < cLine
  inj := fun x y => x.1.inj y.1
  keeps := fun x k => ⟨x.1.keeps k, x.2⟩
  kind := fun {A s vs} Q E h0 hv hq => by
    obtain ⟨fs, k1, k2, k3⟩ := katTups_of (h := s.heap) (F := fun f => ∃ (b : Addr) (its : Array Value), f = Value.ref b ∧ IsTup s.heap b its) fun v hm => by
      obtain ⟨ns, ⟨b, its, e, t, i⟩, ne⟩ := hv v hm
      cases i with
      | nil => exact absurd rfl ne
      | cons r r' => 
        obtain ⟨b', its', e', t', _⟩ := r
        exact ⟨b, _, _, e, t, rfl, b', _, e', t'⟩
    refine PySem.W.kat_kind (T := .type "tuple") k1 (by omega) (fun f hm => ?_) (by rfl) ?_
    · obtain ⟨b, its, rfl, o, ho, hc, _⟩ := k3 f hm
      exact fun A Q E s' k q => wpAny_typeOf_ref (k _ _ ho) (by rw [hc]; exact q)
    · have e : (Value.type "tuple" != Value.type "tuple") = false := by first | decide +kernel | rfl | decide
      rw [e]
      exact hq
  cmp := fun {A s x y a b} hu hx hy => by
    obtain ⟨⟨b1, i1, rfl, ⟨o1, h1, c1, n1, d1⟩, a1⟩, _⟩ := hx
    obtain ⟨⟨b2, i2, rfl, ⟨o2, h2, c2, n2, d2⟩, a2⟩, _⟩ := hy
    exact PySem.W.kat_lt h1 d1 h2 d2 (katR hu a1 a2 (by simp) ⟨rfl, rfl⟩)
end
/-- data that a kind of sort knows -/
structure SD (c : Cn) (α : Type) extends SK c.P c.w α where
  enc : α → D
  ok : α → Prop
  rep : ∀ {X : Cx} {pins : List (Addr × Obj)} {σ : L2.St} {H : Hp} {s : Shared} {v : V} {u : Value} {a : α}, c = ⟨X.prog, X.w, X.K⟩ → Inv X pins σ H s → Rep c H v (enc a) → RelV v u → ok a → is s.heap u a ∧ ∃ b, v = .ref b
  ref : ∀ {F : Hp} {v : V} {a : α}, Rep c F v (enc a) → ∃ b, v = .ref b
  tot : Tot lt
def dI (ns : List Int) : D := .tup (ns.map .int)
def dR (rs : List (List Int)) : D := .tup (rs.map dI)
theorem ints_of_rep {c : Cn} {H : Hp} : ∀ {vs : List V} {us : List Value} {ns : List Int}, RepAll c H vs (ns.map .int) → Vals vs us → IntsAre us ns
  | _, _, [], .nil, .nil => .nil
  | _, _, n :: ns, .cons r t, .cons q g => by
    rw [r.int_inv] at q
    obtain ⟨tk, rfl⟩ := q
    exact .cons n tk (ints_of_rep t g)
theorem isInts_of {c : Cn} {X : Cx} {pins : List (Addr × Obj)} {σ : L2.St} {H : Hp} {s : Shared} {v : V} {u : Value} {ns : List Int} (hc : c = ⟨X.prog, X.w, X.K⟩) (I : Inv X pins σ H s) (r : Rep c H v (dI ns)) (q : RelV v u) : IsInts s.heap u ns ∧ ∃ b, v = .ref b := by
  obtain ⟨a, vs, rfl, hs, r⟩ := r.tup_inv
  subst hc
  obtain ⟨its, rv, t, _⟩ := I.tuple hs
  cases q
  exact ⟨⟨a, its, rfl, t, ints_of_rep r rv⟩, a, rfl⟩
theorem rows_of_rep {c : Cn} {X : Cx} {pins : List (Addr × Obj)} {σ : L2.St} {H : Hp} {s : Shared} (hc : c = ⟨X.prog, X.w, X.K⟩) (I : Inv X pins σ H s) : ∀ {vs : List V} {us : List Value} {rs : List (List Int)}, RepAll c H vs (rs.map dI) → Vals vs us → Paired (IsInts s.heap) us rs
  | _, _, [], .nil, .nil => .nil
  | _, _, n :: ns, .cons r t, .cons q g => .cons (isInts_of hc I r q).1 (rows_of_rep hc I t g)
def sdI (c : Cn) : SD c (List Int) where
  toSK := skI c.P c.w
  enc := dI
  ok := fun ns => ns ≠ []
  rep := fun hc I r q ne => ⟨⟨(isInts_of hc I r q).1, ne⟩, (isInts_of hc I r q).2⟩
  ref := fun r => let ⟨b, _, e, _⟩ := r.tup_inv; ⟨b, e⟩
  tot := totI
def sdR (c : Cn) : SD c (List (List Int)) where
  toSK := skR c.P c.w
  enc := dR
  ok := fun rs => rs ≠ []
  rep := fun {X pins σ H s v u a} hc I r q ne => by
    obtain ⟨b, vs, rfl, hs, r⟩ := r.tup_inv
    obtain ⟨its, rv, t, _⟩ := I.tuple (show SqT X.K H b vs by rw [hc] at hs; exact hs)
    cases q
    exact ⟨⟨⟨b, its, rfl, t, rows_of_rep hc I r rv⟩, ne⟩, b, rfl⟩
  ref := fun r => let ⟨b, _, e, _⟩ := r.tup_inv; ⟨b, e⟩
  tot := totR
def bkR : Value → V
  | .ref a => .ref a
  | _ => .non
theorem repAll_mem {c : Cn} {F : Hp} : ∀ {vs : List V} {us : List Value} {α : Type} {ds : List α} {f : α → D}, RepAll c F vs (ds.map f) → Vals vs us → ∀ u ∈ us, ∃ v d, d ∈ ds ∧ RelV v u ∧ Rep c F v (f d)
  | _, _, _, [], f, .nil, .nil, u, hu => by cases hu
  | _, _, _, d :: ds, f, .cons r t, .cons q g, u, hu => by
    rcases List.mem_cons.mp hu with rfl | hu
    · exact ⟨_, d, List.mem_cons_self, q, r⟩
    · obtain ⟨v, d', h1, h2, h3⟩ := repAll_mem t g u hu
      exact ⟨v, d', List.mem_cons_of_mem _ h1, h2, h3⟩
theorem map_key {c : Cn} {F : Hp} {α : Type} {f : α → D} {k : Value → α} {G : Value → α → Prop} : ∀ {vs : List V} {us : List Value} {ds : List α}, RepAll c F vs (ds.map f) → Vals vs us → (∀ v u d, Rep c F v (f d) → RelV v u → d ∈ ds → k u = d) → us.map k = ds
  | _, _, [], .nil, .nil, _ => rfl
  | _, _, d :: ds, .cons r t, .cons q g, h => by
    rw [List.map_cons, h _ _ _ r q List.mem_cons_self, map_key (G := G) t g fun v u e a b m => h v u e a b (List.mem_cons_of_mem _ m)]
theorem SD.pick {X : Cx} {pins : List (Addr × Obj)} {σ : L2.St} {F H : Hp} {s : Shared} {c : Cn} (hc : c = ⟨X.prog, X.w, X.K⟩) {α : Type} [Inhabited α] (S : SD c α) (I : Inv X pins σ H s) (le : Same F H) {vs : List V} {us : List Value} {ds : List α} (rp : RepAll c F vs (ds.map S.enc)) (rv : Vals vs us)
    (hok : 2 ≤ ds.length → ∀ d ∈ ds, S.ok d) : ∃ k : Value → α, us.map k = ds ∧ (∀ u ∈ us, ∃ b, u = .ref b) ∧ (∀ u ∈ us, Rep c F (bkR u) (S.enc (k u))) ∧ (2 ≤ us.length → ∀ u ∈ us, S.is s.heap u (k u)) := by
  have hl : us.length = ds.length := by rw [← rv.length, rp.length, List.length_map]
  by_cases h2 : 2 ≤ ds.length
  · have his : ∀ u ∈ us, S.is s.heap u (S.toSK.key s.heap u) ∧ (∃ b, u = .ref b) ∧ Rep c F (bkR u) (S.enc (S.toSK.key s.heap u)) := fun u hu => by
      obtain ⟨v, d, h1, h2', h3⟩ := repAll_mem rp rv u hu
      obtain ⟨g1, b, g2⟩ := S.rep hc I (h3.mono le) h2' (hok h2 d h1)
      rw [S.toSK.key_eq g1]
      subst g2
      cases h2'
      exact ⟨g1, ⟨b, rfl⟩, h3⟩
    exact ⟨S.toSK.key s.heap, map_key (G := fun _ _ => True) rp rv fun v u d a b m => S.toSK.key_eq (S.rep hc I (a.mono le) b (hok h2 d m)).1, fun u hu => (his u hu).2.1, fun u hu => (his u hu).2.2, fun _ u hu => (his u hu).1⟩
  · have one : ∀ u ∈ us, ∃ d, ds = [d] ∧ us = [u] ∧ (∃ b, u = .ref b) ∧ Rep c F (bkR u) (S.enc d) := fun u hu => by
      obtain ⟨v, d, h1, h2', h3⟩ := repAll_mem rp rv u hu
      obtain ⟨b, rfl⟩ := S.ref h3
      cases h2'
      have e1 : ds = [d] := by
        match ds, h1, h2 with
        | [x], h1, _ => rw [List.mem_singleton.mp h1]
        | _ :: _ :: _, _, h2 => exact absurd (by simp) h2
      have e2 : us = [.ref b] := by
        rw [e1] at hl
        match us, hu, hl with
        | [x], hu, _ => rw [List.mem_singleton.mp hu]
      exact ⟨d, e1, e2, ⟨b, rfl⟩, h3⟩
    refine ⟨fun _ => ds.head?.getD default, ?_, fun u hu => ?_, fun u hu => ?_, fun z => absurd z (by omega)⟩
    · cases us with
      | nil => cases ds with
        | nil => rfl
        | cons d ds => exact absurd hl (by simp)
      | cons u us =>
        obtain ⟨d, e1, e2, _⟩ := one u List.mem_cons_self
        rw [e1, e2]
        rfl
    · obtain ⟨d, _, _, g, _⟩ := one u hu
      exact g
    · obtain ⟨d, e1, _, _, g⟩ := one u hu
      rw [e1]
      exact g
/-- sorted(xs), xs a list of such data; least a list that is an arrangement of it, rising -/
def rSortS {c : Cn} {α : Type} (S : SD c α) (K : PySem.W.Frag) : List V → Hp → VK → Prop := fun vs H Q => ∃ (F : Hp) (a : Addr) (ws : List V) (ds ys : List α), Same F H ∧ vs = [V.ref a] ∧ SqL K H a ws ∧ RepAll c F ws (ds.map S.enc) ∧ (2 ≤ ds.length → ∀ d ∈ ds, S.ok d) ∧ ys.Perm ds ∧ ys.Pairwise (fun x y => S.lt y x = false) ∧
  ∀ p ws', H p = none → RepAll c F ws' (ys.map S.enc) → Q (.ref p) (upd H p (.lst ws'))
theorem repAll_bk {c : Cn} {F : Hp} {α : Type} {f : α → D} {k : Value → α} : ∀ (us : List Value), (∀ u ∈ us, Rep c F (bkR u) (f (k u))) → RepAll c F (us.map bkR) ((us.map k).map f)
  | [], _ => .nil
  | u :: us, h => .cons (h u List.mem_cons_self) (repAll_bk us fun v hv => h v (List.mem_cons_of_mem _ hv))
theorem vals_bk : ∀ (us : List Value), (∀ u ∈ us, ∃ a, u = Value.ref a) → Vals (us.map bkR) us
  | [], _ => .nil
  | u :: us, h => by
    obtain ⟨a, e⟩ := h u List.mem_cons_self
    exact .cons (by rw [e]; rfl) (vals_bk us fun v hv => h v (List.mem_cons_of_mem _ hv))
theorem cr_sortS {X : Cx} {c : Cn} (hc : c = ⟨X.prog, X.w, X.K⟩) {α : Type} [Inhabited α] (S : SD c α) (hA : S.room X.A.in1.in1) : CallR X (.builtin "sorted") (rSortS S X.K) := by
  intro pins s σ H vs us Q I r h
  obtain ⟨F, a, ws, ds, ys, le, rfl, hs, rp, hok, hp, hl, q⟩ := h
  obtain ⟨its, rv, pl, hz⟩ := I.list hs
  rw [Vals.ref1 r]
  obtain ⟨k, hk, hr, hrep, his⟩ := S.pick hc I le rp rv hok
  subst hc
  refine S.toSK.sorted S.tot hA pl.isList (by rw [← rv.length]; exact hz) k his fun h' d out h1 h2 h3 h4 ⟨n, h5⟩ => ?_
  have e : out.map k = ys := by
    refine S.tot.uniq ?_ h2 hl
    have p1 := h1.map k
    rw [hk] at p1
    exact p1.trans hp.symm
  have ho : ∀ u ∈ out, u ∈ its := fun u hu => h1.mem_iff.mp hu
  have hlen : (out.map bkR).length ≤ sizeLine := by rw [List.length_map, h1.length_eq, ← rv.length]; exact hz
  have hw : RepAll ⟨X.prog, X.w, X.K⟩ F (out.map bkR) (ys.map S.enc) := by
    rw [← e]
    exact repAll_bk out fun u hu => hrep u (ho u hu)
  exact ⟨.ref d, upd H d (.lst (out.map bkR)), I.laid (t' := s.toks) h3 h4 ⟨hlen, out, n, vals_bk out fun u hu => hr u (ho u hu), h5⟩, rfl, q d _ (I.hok.fresh h4) hw⟩
section
variable {c : Cn} {B : Bx} {δ δ1 : DE} {ts : TA}
theorem evn_sortS {α : Type} {S : SD c α} {ds ys : List α} (h : EvA c ts δ [.lst (ds.map S.enc)] δ1) (hok : 2 ≤ ds.length → ∀ d ∈ ds, S.ok d) (hp : ys.Perm ds) (hl : ys.Pairwise (fun x y => S.lt y x = false)) : EvN c (tCB (rSortS S c.K) ts) δ (.ol (ys.map S.enc)) δ1 := fun B F H σ E Q q => h _ F H σ E _ fun vs F1 H1 E1 s1 r1 => by
  cases r1 with
  | cons r t => cases t with
    | nil =>
      obtain ⟨a, ws, rfl, hs, r⟩ := r.lst_inv
      refine ⟨F1, a, ws, ds, ys, E1.le, rfl, E1.le.seq hs, r, hok, hp, hl, fun p ws' hp' r' => ?_⟩
      obtain ⟨fp, E1⟩ := E1
      obtain ⟨E2, n1, n2, n3⟩ := E1.newO (o := .lst ws') hp'
      exact q _ _ _ fp [p] E2 s1 ⟨p, ws', rfl, rfl, upd_same, r'⟩ fun a ha => by rw [List.mem_singleton.mp ha]; exact ⟨n1, n2, n3⟩
/-- sorted(xs) of ints -/
theorem perm_map_inj {ns ms : List Int} (h : (ns.map V.int).Perm (ms.map V.int)) : ns.Perm ms := by
  have g : ∀ l : List Int, (l.map V.int).map (fun v => match v with | .int i => i | _ => 0) = l := fun l => by
    rw [List.map_map]
    conv => rhs; rw [← List.map_id l]
    rfl
  have := h.map (fun v => match v with | V.int i => i | _ => 0)
  rw [g, g] at this
  exact this
theorem evn_sortI {ns ms : List Int} (h : EvA c ts δ [.lst (ns.map .int)] δ1) (hp : ms.Perm ns) (hl : ms.Pairwise (· ≤ ·)) : EvN c (tCB (rSortedI c.K) ts) δ (.ol (ms.map .int)) δ1 := fun B F H σ E Q q => h _ F H σ E _ fun vs F1 H1 E1 s1 r1 => by
  cases r1 with
  | cons r t => cases t with
    | nil =>
      obtain ⟨a, ws, rfl, hs, r⟩ := r.lst_inv
      rw [rep_ints r] at hs
      refine ⟨a, ns, rfl, E1.le.seq hs, fun ns' p hp' hl' hpn => ?_⟩
      have e : ns' = ms := totN.uniq (hp'.trans hp.symm) (hl'.imp fun h => decide_eq_false (by omega)) (hl.imp fun h => decide_eq_false (by omega))
      subst e
      obtain ⟨fp, E1⟩ := E1
      obtain ⟨E2, n1, n2, n3⟩ := E1.newO (o := .lst (ns'.map V.int)) hpn
      refine q _ _ _ fp [p] E2 s1 ⟨p, _, rfl, rfl, upd_same, ?_⟩ fun a ha => by rw [List.mem_singleton.mp ha]; exact ⟨n1, n2, n3⟩
      have g : ∀ l : List Int, RepAll c F1 (l.map V.int) (l.map D.int) := fun l => by
        induction l with
        | nil => exact .nil
        | cons x l ih => exact .cons (.int x) ih
      exact g ns'
end
end DL
set_option maxHeartbeats 200000
set_option Elab.async false
set_option linter.all false
set_option maxRecDepth 100000
/-! DL9: dicts whose keys are tuples. -/
namespace DL
open PySem PySem.Spec PyProof.Rows L2
section
variable {X : Cx} {pins : List (Addr × Obj)} {σ : L2.St} {H : Hp} {s : Shared} {c : Cn}
mutual
theorem Rep.key (hc : c = ⟨X.prog, X.w, X.K⟩) (I : Inv X pins σ H s) : ∀ {v : V} {d : D} {u : Value} {k : NestedKey}, Rep c H v d → RelV v u → D.nk d = some k → NestedIs s.heap k u
  | _, _, _, _, .non, q, e => by cases e; cases q; exact .none
  | _, _, _, _, .bl b, q, e => by cases e; cases q; exact .bool rfl
  | _, _, _, _, .int i, q, e => by cases e; obtain ⟨t, rfl⟩ := q; exact .int i t
  | _, _, _, _, .str x, q, e => by cases e; obtain ⟨t, rfl⟩ := q; exact .text x t
  | _, _, _, _, .tup (ds := ds) h r, q, e => by
    cases q
    unfold D.nk at e
    obtain ⟨ks, hk, rfl⟩ := Option.map_eq_some_iff.mp e
    obtain ⟨its, rv, ⟨o, ho, hcl, n, hd⟩, _⟩ := I.tuple (show SqT X.K H _ _ from .inl (.inl h))
    exact .tup ho hcl hd (RepAll.keys hc I r rv hk)
  | _, _, _, _, .kt (ds := ds) h r, q, e => by
    cases q
    unfold D.nk at e
    obtain ⟨ks, hk, rfl⟩ := Option.map_eq_some_iff.mp e
    obtain ⟨its, rv, ⟨o, ho, hcl, n, hd⟩, _⟩ := I.tuple (show SqT X.K H _ _ by rw [hc] at h; exact h)
    exact .tup ho hcl hd (RepAll.keys hc I r rv hk)
  | _, _, _, _, .xt (ds := ds) h hn r, q, e => by
    cases q
    unfold D.nk at e
    obtain ⟨ks, hk, rfl⟩ := Option.map_eq_some_iff.mp e
    obtain ⟨its, rv, ⟨o, ho, hcl, n, hd⟩, _⟩ := I.tuple (show SqT X.K H _ _ from .inl (.inr ⟨_, h⟩))
    exact .tup ho hcl hd (RepAll.keys hc I r rv hk)
  | _, _, _, _, .lst _ _, _, e => by cases e
  | _, _, _, _, .dk _ _, _, e => by cases e
  | _, _, _, _, .dt _ _, _, e => by cases e
  | _, _, _, _, .ins _ _, _, e => by cases e
  | _, _, _, _, .raw _, _, e => by cases e
theorem RepAll.keys (hc : c = ⟨X.prog, X.w, X.K⟩) (I : Inv X pins σ H s) : ∀ {vs : List V} {ds : List D} {us : List Value} {ks : List NestedKey}, RepAll c H vs ds → Vals vs us → nks ds = some ks → NestedAll s.heap ks us
  | _, _, _, _, .nil, .nil, e => by cases e; exact .nil
  | _, d :: ds, _, _, .cons r t, .cons q g, e => by
    unfold nks at e
    cases h1 : D.nk d with
    | none => rw [h1] at e; cases e
    | some k =>
      cases h2 : nks ds with
      | none => rw [h1, h2] at e; cases e
      | some ks =>
        rw [h1, h2] at e
        cases e
        exact .cons (Rep.key hc I r q h1) (RepAll.keys hc I t g h2)
end
theorem RepT.is (hc : c = ⟨X.prog, X.w, X.K⟩) (I : Inv X pins σ H s) : ∀ {xs : List (NestedKey × Addr × Value)} {kvs : List (D × D)}, RepT c H xs kvs → ∀ x ∈ xs, NestedIs s.heap x.1 (.ref x.2.1)
  | _, _, .nil, _, h => by cases h
  | _, _, .cons n k r v t, x, h => by
    rcases List.mem_cons.mp h with rfl | h
    · exact Rep.key hc I k rfl n
    · exact RepT.is hc I t x h
theorem dt_at {P : Program} {w : World} {h : Heap} {a : Addr} {xs : List (NestedKey × Addr × Value)} (ok : ObjOk P w H h a (dtO P w a xs)) : xs.length ≤ sizeLine ∧ (a == sysModules) = false ∧ (∀ p ∈ xs, p.1.depth ≤ 8) ∧ ∃ o es ep, h.get? a = some o ∧ o.ExactDict ∧ o.data = .dict es ep ∧ es.toList = xs.map (entryOfKey (nestedKind P w)) ∧ (xs.map (·.1)).Nodup := ok.1
theorem dt_ok {P : Program} {w : World} {h : Heap} {a : Addr} {xs : List (NestedKey × Addr × Value)} (h1 : xs.length ≤ sizeLine) (h2 : (a == sysModules) = false) (h3 : ∀ p ∈ xs, p.1.depth ≤ 8)
    (h4 : ∃ o es ep, h.get? a = some o ∧ o.ExactDict ∧ o.data = .dict es ep ∧ es.toList = xs.map (entryOfKey (nestedKind P w)) ∧ (xs.map (·.1)).Nodup) : ObjOk P w H h a (dtO P w a xs) :=
  ⟨⟨h1, h2, h3, h4⟩, let ⟨o, _, _, ho, _⟩ := h4; ⟨o, ho⟩, fun g1 g2 ⟨a1, a2, a3, o, es, ep, ho, r⟩ k => ⟨a1, a2, a3, o, es, ep, k o ho, r⟩⟩
theorem dt_dict (hc : c = ⟨X.prog, X.w, X.K⟩) (I : Inv X pins σ H s) {a : Addr} {xs : List (NestedKey × Addr × Value)} {kvs : List (D × D)} (h : H a = some (dtO c.P c.w a xs)) (r : RepT c H xs kvs) :
    xs.length ≤ sizeLine ∧ (a == sysModules) = false ∧ s.heap.DictOfH (nestedKind X.prog X.w) a xs := by
  subst hc
  obtain ⟨h1, h2, h3, o, es, ep, ho, hx, hd, he, hn⟩ := dt_at (I.hok a _ h)
  exact ⟨h1, h2, o, es, ep, ho, hx, hd, he, fun x hx => ⟨RepT.is rfl I r x hx, h3 x hx⟩, hn⟩
/-- {} -/
def tDNewN (c : Cn) : TE := fun _ H Q => ∀ p, H p = none → Q (.ref p) (upd H p (dtO c.P c.w p []))
theorem pe_dnewN {pos : Pos} (hc : c = ⟨X.prog, X.w, X.K⟩) : PE X (.Dict [] [] pos) (tDNewN c) := ⟨fun pins s σ H Q I h => by
  have hp := (pe_dnewK (X := X) (pos := pos)).run pins s σ H (fun v H' => ∃ p, H p = none ∧ v = .ref p ∧ H' = upd H p (.dK [])) I fun p hp => ⟨p, hp, rfl, rfl⟩
  refine thn hp fun u s' ⟨v, H', I', rv, p, hpn, e1, e2⟩ => ?_
  subst e1 e2
  refine ⟨.ref p, upd H p (dtO c.P c.w p []), ?_, rv, h p hpn⟩
  have ok : ObjOk X.prog X.w (upd H p (.dK [])) s'.heap p (.dK []) := I'.hok p _ upd_same
  obtain ⟨z, hs, vs, kv, o, es, ep, ho, hx, hd, _, he, hn⟩ := ok
  cases kv
  have new : ObjOk X.prog X.w (upd (upd H p (.dK [])) p (dtO c.P c.w p [])) s'.heap p (dtO c.P c.w p []) := by
    subst hc
    exact dt_ok (Nat.zero_le _) hs (fun _ z => nomatch z) ⟨o, es, ep, ho, hx, hd, (by
      cases hes : es.toList with
      | nil => rfl
      | cons x r => rw [hes] at he; cases he), List.nodup_nil⟩
  have I2 := I'.write (t' := s'.toks) (x := p) (e := p) (o := dtO c.P c.w p []) (by rw [upd_same]; exact True.intro) (.inl rfl) (fun _ _ _ q => q) ⟨o, ho⟩ new
  rw [upd_upd] at I2
  exact I2⟩
/-- d[t] = v -/
def rSetT (c : Cn) : TSet := fun o i v H Q => ∃ (F : Hp) (a b : Addr) (dk : D) (k : NestedKey) (xs : List (NestedKey × Addr × Value)) (kvs : List (D × D)), Same F H ∧ o = .ref a ∧ i = .ref b ∧ H a = some (dtO c.P c.w a xs) ∧ RepT c F xs kvs ∧ Rep c F (.ref b) dk ∧ D.nk dk = some k ∧ k.depth ≤ 8 ∧ xs.length < sizeLine ∧
  ∀ u, RelV v u → Q (upd H a (dtO c.P c.w a (storedH xs k b u)))
theorem storedH_len {xs : List (NestedKey × Addr × Value)} {k : NestedKey} {b : Addr} {u : Value} : (storedH xs k b u).length ≤ xs.length + 1 := by
  unfold storedH
  split
  · rw [List.length_map]; omega
  · rw [List.length_append]; exact Nat.le_refl _
theorem storedH_mem {xs : List (NestedKey × Addr × Value)} {k : NestedKey} {b : Addr} {u : Value} : ∀ p ∈ storedH xs k b u, p.1 = k ∨ ∃ q ∈ xs, q.1 = p.1 := fun p hp => by
  unfold storedH at hp
  split at hp
  · obtain ⟨q, hq, rfl⟩ := List.mem_map.mp hp
    refine .inr ⟨q, hq, ?_⟩
    unfold putAt
    split <;> rfl
  · rcases List.mem_append.mp hp with h | h
    · exact .inr ⟨p, h, rfl⟩
    · rw [List.mem_singleton.mp h]; exact .inl rfl
theorem set_T (hc : c = ⟨X.prog, X.w, X.K⟩) (hu : X.A.units + 20 < cLine) : PSet X (rSetT c) := by
  intro pins s σ H o i v ov iv u Q I ro ri rv h
  obtain ⟨F, a, b, dk, k, xs, kvs, le, rfl, rfl, ha, rt, rk, hk, hdep, hz, q⟩ := h
  cases ro
  cases ri
  obtain ⟨z, hs, hm⟩ := dt_dict hc I ha (RepT.mono le rt)
  have key : (nestedKind X.prog X.w).is s.heap k b := ⟨Rep.key hc I (rk.mono le) rfl hk, hdep⟩
  refine wpAny_setItem_heap (hsz := z) (show X.A.in1.units + 8 < cLine by show X.A.units + 1 + 8 < cLine; omega) key hm fun h' hm' hs' => ?_
  have hd0 := (dt_at (I.hok a _ (show H a = some (dtO X.prog X.w a xs) by rw [hc] at ha; exact ha))).2.2.1
  obtain ⟨o', es', ep', ho', hx', hd', he', _, hn'⟩ := hm'
  refine ⟨upd H a (dtO c.P c.w a (storedH xs k b u)), I.write (x := a) (e := a) (by rw [ha]; exact True.intro) (.inl rfl) (fun e o ne e' => (hs'.2 e ne).trans e') ⟨o', ho'⟩ ?_, q u rv⟩
  subst hc
  refine dt_ok (by have := storedH_len (xs := xs) (k := k) (b := b) (u := u); omega) hs (fun p hp => ?_) ⟨o', es', ep', ho', hx', hd', he', hn'⟩
  rcases storedH_mem p hp with e | ⟨p', hp', e⟩
  · rw [e]; exact hdep
  · rw [← e]; exact hd0 p' hp'
end
/-! ### by data -/
def sameK (a b : D) : Bool := match D.nk a, D.nk b with
  | some k, some j => decide (k = j)
  | _, _ => false
def putT (kvs : List (D × D)) (k v : D) : List (D × D) := if kvs.any (fun p => sameK p.1 k) then kvs.map (fun p => if sameK p.1 k then (p.1, v) else p) else kvs ++ [(k, v)]
def valT (kvs : List (D × D)) (k : D) : Option D := (kvs.find? fun p => sameK p.1 k).map (·.2)
section
variable {c : Cn} {F : Hp}
theorem RepT.any {k : NestedKey} {dk : D} (hk : D.nk dk = some k) : ∀ {xs : List (NestedKey × Addr × Value)} {kvs : List (D × D)}, RepT c F xs kvs → (atKey xs k).isSome = kvs.any fun p => sameK p.1 dk
  | _, _, .nil => rfl
  | _, _, .cons (k := j) (dk := ej) (xs := xs) (kvs := kvs) n kk r v t => by
    have e1 : sameK ej dk = decide (j = k) := by unfold sameK; rw [n, hk]
    rw [List.any_cons, e1, ← RepT.any hk t]
    unfold atKey
    rw [List.find?_cons]
    by_cases h : j = k
    · rw [decide_eq_true h]; rfl
    · rw [decide_eq_false h]; rfl
theorem RepT.val {k : NestedKey} {dk : D} (hk : D.nk dk = some k) : ∀ {xs : List (NestedKey × Addr × Value)} {kvs : List (D × D)}, RepT c F xs kvs → ∀ {d : D}, valT kvs dk = some d → ∃ b u v, atKey xs k = some (b, u) ∧ RelV v u ∧ Rep c F v d
  | _, _, .nil, d, h => by cases h
  | _, _, .cons (k := j) (b := b) (u := u) (v := v) (dk := ej) (xs := xs) (kvs := kvs) n kk r vv t, d, h => by
    have e1 : sameK ej dk = decide (j = k) := by unfold sameK; rw [n, hk]
    unfold valT at h
    rw [List.find?_cons] at h
    unfold atKey
    rw [List.find?_cons]
    by_cases hj : j = k
    · simp only [e1, decide_eq_true hj] at h ⊢
      cases h
      exact ⟨b, u, v, rfl, r, vv⟩
    · simp only [e1, decide_eq_false hj] at h ⊢
      exact RepT.val hk t h
theorem RepT.put {k : NestedKey} {b : Addr} {u : Value} {v : V} {dk dv : D} (hk : D.nk dk = some k) (rk : Rep c F (.ref b) dk) (ru : RelV v u) (rv : Rep c F v dv) {xs : List (NestedKey × Addr × Value)} {kvs : List (D × D)} (t : RepT c F xs kvs) : RepT c F (storedH xs k b u) (putT kvs dk dv) := by
  unfold storedH putT
  rw [t.any hk]
  cases h : kvs.any fun p => sameK p.1 dk with
  | true =>
    rw [if_pos rfl, if_pos rfl]
    clear h
    have go : ∀ {xs : List (NestedKey × Addr × Value)} {kvs : List (D × D)}, RepT c F xs kvs → RepT c F (xs.map (putAt k u)) (kvs.map fun p => if sameK p.1 dk then (p.1, dv) else p) := by
      intro xs kvs t
      induction kvs generalizing xs with
      | nil => cases t; exact .nil
      | cons p kvs ih =>
        cases t with
        | cons n kk r vv t =>
          rename_i j b' u' v' ej ev xs'
          rw [List.map_cons, List.map_cons]
          have e1 : sameK ej dk = decide (j = k) := by unfold sameK; rw [n, hk]
          unfold putAt
          by_cases hj : j = k
          · simp only [e1, decide_eq_true hj, if_pos hj, if_true]
            exact .cons n kk ru rv (ih t)
          · simp only [e1, decide_eq_false hj, if_neg hj, Bool.false_eq_true, if_false]
            exact .cons n kk r vv (ih t)
    exact go t
  | false =>
    rw [if_neg Bool.false_ne_true, if_neg Bool.false_ne_true]
    have go : ∀ {xs : List (NestedKey × Addr × Value)} {kvs : List (D × D)}, RepT c F xs kvs → RepT c F (xs ++ [(k, b, u)]) (kvs ++ [(dk, dv)]) := by
      intro xs kvs t
      induction kvs generalizing xs with
      | nil => cases t; exact .cons hk rk ru rv .nil
      | cons p kvs ih =>
        cases t with
        | cons n kk r vv t => exact .cons n kk r vv (ih t)
    exact go t
theorem RepT.len : ∀ {xs : List (NestedKey × Addr × Value)} {kvs : List (D × D)}, RepT c F xs kvs → xs.length = kvs.length
  | _, _, .nil => rfl
  | _, _, .cons _ _ _ _ t => by rw [List.length_cons, List.length_cons, RepT.len t]
end
section
variable {c : Cn} {B : Bx} {δ δ1 δ2 : DE} {te ty : TE} {ts : TA} {i : Nat} {d dk : D}
theorem evn_dnewT : EvN c (tDNewN c) δ (.odt []) δ := fun B F H σ E Q q p hp => by
  obtain ⟨fp, E⟩ := E
  obtain ⟨E2, n1, n2, n3⟩ := E.newO (o := dtO c.P c.w p []) hp
  exact q _ _ _ fp [p] E2 (Same.refl _) ⟨p, [], rfl, rfl, upd_same, .nil⟩ fun a ha => by rw [List.mem_singleton.mp ha]; exact ⟨n1, n2, n3⟩
/-- d[t] = v, d an own dict of slot i -/
theorem run_setT {kvs : List (D × D)} {k : NestedKey} (h : Ev c te δ d δ1) (h1 : δ1[i]? = some (.odt kvs)) (hy : Ev c ty δ1 dk δ2) (h2 : δ2[i]? = some (.odt kvs)) (hk : D.nk dk = some k) (hr : ∃ ds, dk = .tup ds) (hd : k.depth ≤ 8 := by decide) (hz : kvs.length ≤ 100000) : Run c B (tAsg te (gSub (tVar i) ty (rSetT c))) δ (.nx (δ2.set i (.odt (putT kvs dk d)))) := fun F H σ E Dn q =>
  h _ F H σ E _ fun v F1 H1 E1 s1 r1 => by
    obtain ⟨fp1, E1'⟩ := id E1
    obtain ⟨a, ws, e0, _, hH, _⟩ := E1'.sl i _ h1
    refine ⟨_, e0, hy _ F1 H1 σ E1 _ fun w F2 H2 E2 s2 r2 => ?_⟩
    obtain ⟨fp, E2⟩ := E2
    obtain ⟨a', xs, e1, ef, hH1, r⟩ := E2.sl i _ h2
    rw [e0] at e1; cases e1
    obtain ⟨ds, rfl⟩ := hr
    have r2' := r2
    obtain ⟨b, _, rfl, _, _⟩ := r2'.tup_inv
    refine ⟨F2, a, b, _, k, xs, kvs, E2.gr.le, rfl, rfl, hH1, r, r2, hk, hd, by rw [r.len]; exact sz6 hz, fun u ru => q F2 _ σ ⟨fp, E2.mut (lt_of_at h2) (by rw [ef]; exact List.mem_singleton.mpr rfl) ?_⟩ (s1.trans s2)⟩
    exact ⟨a, _, e0, ef, upd_same, RepT.put hk r2 ru (r1.mono s2) r⟩
end
end DL
set_option Elab.async false
set_option linter.all false
set_option maxRecDepth 100000
set_option maxHeartbeats 2000000
/-! DL10: enumerate of a tuple. -/
namespace DL
open PySem PySem.Spec PyProof.Rows L2
/-- enumerate(v) makes two cells -/
theorem enumB1 {v : Value} {o : Obj} {G : Heap → Prop} (B : Begins v o G) :
    Meets (Builtin.«enumerate.__new__» ⟨[.type "enumerate", v], []⟩) (fun _ R s => G s.heap ∧
      R (.ok (.ret (.ref (s.heap.push o).objs.size))) { s with heap := (s.heap.push o).push { cls := .type "enumerate", data := .fields #[.none, .bool false, .ref s.heap.objs.size, rawInt 0, .none, .none] } }) :=
  .of_wp fun prog w A R s h => by
    obtain ⟨hp, g, d, tk, os⟩ := s
    obtain ⟨h1, h⟩ := h
    have hsub := sub_enumerate
    have step : ∀ {A' : Around} {E : Value → Shared → Prop} {Q : Value → Shared → Prop}, Q (.ref hp.objs.size) ⟨hp.push o, g, d, tk, os⟩ → wpAny (model prog w) A' (pyIter v) Q E ⟨hp, g, d, tk, os⟩ := fun q => B.iter prog w _ _ ⟨hp, g, d, tk, os⟩ _ h1 q
    wp_walk using step
    refine wpAny_stack_any fun st => wpAny_pure ?_
    split
    · rename_i cl _ _ _ _ _
      cases (cl == Value.type "enumerate") <;> (wp_walk using step; exact ⟨_, rfl, h⟩)
    · wp_walk using step
      exact ⟨_, rfl, h⟩
theorem enum_tup {prog : Program} {w : World} {A : Around} {E : Value → Shared → Prop} {s : Shared} {l : Addr} {items : Array Value} {Q : Value → Shared → Prop} (hl : s.heap.IsTuple l items)
    (h : ∀ h', IsEnum h' (s.heap.objs.size + 1) s.heap.objs.size 0 .none → h'.IsTupleIter s.heap.objs.size l 0 → (∀ b o, s.heap.get? b = some o → h'.get? b = some o) → Q (.ref (s.heap.objs.size + 1)) { s with heap := h' }) :
    wpAny (model prog w) A (call (.type "enumerate") [.ref l]) Q E s := by
  have B := begins_tuple l items
  refine callType_new F.called_enumerate (by decide) (F.typeCall_enumerate_1 _) (F.newCall_enumerate_1 _) (fun obj => F.args_object_init_2 obj _) F.entry_enumerate_new (enumB1 B) ⟨hl, ?_⟩
  generalize ho : ({ cls := .type "tuple_iterator", data := .fields #[.ref l, .int 0 0] } : Obj) = o at B ⊢
  have hz : (s.heap.push o).objs.size = s.heap.objs.size + 1 := Heap.size_push ..
  show _ ∧ _
  rw [hz]
  have he : IsEnum ((s.heap.push o).push { cls := .type "enumerate", data := .fields #[.none, .bool false, .ref s.heap.objs.size, rawInt 0, .none, .none] }) (s.heap.objs.size + 1) s.heap.objs.size 0 .none := by
    have e2 := Heap.get?_push_size (s.heap.push o) (o := { cls := .type "enumerate", data := .fields #[.none, .bool false, .ref s.heap.objs.size, rawInt 0, .none, .none] }) rfl
    rw [hz] at e2
    exact e2
  refine ⟨⟨_, he, rfl⟩, h _ he ?_ fun b u x => Heap.get?_push_of_some _ (Heap.get?_push_of_some _ x)⟩
  exact ⟨o, Heap.get?_push_of_some _ (Heap.get?_push_size _ B.free), by rw [← ho], by rw [← ho]; rfl⟩
def ItE (K : PySem.W.Frag) (a : Addr) : It :=
  ⟨fun i H => ∃ (xs : List V) (x : V), SqT K H a xs ∧ xs[i]? = some x, fun i H v H' => ∃ T x, v = .ref T ∧ H T = none ∧ H' = upd H T (.tup [.int (i : Nat), x]) ∧ ∀ xs, SqT K H a xs → xs[i]? = some x, fun i H => ∃ xs : List V, SqT K H a xs ∧ xs.length ≤ i⟩
theorem isTuple_of {h : Heap} {a : Addr} {its : Array Value} (t : IsTup h a its) : h.IsTuple a its := t
theorem turnE {P : Program} {w : World} {K : PySem.W.Frag} {elts : List Expr} {kk : Nat} {tpos : Pos} (a e it : Addr) :
    Turn P w K (.Tuple elts kk tpos) (ItE K a) [e, it] e (fun i h => (∃ old, IsEnum h e it ((i : Nat) : Int) old) ∧ h.IsTupleIter it a i ∧ e ≠ it) where
  mem := by simp
  obj := fun i h st b hb => by
    obtain ⟨⟨old, he⟩, ⟨o, ho, _, hd⟩, _⟩ := st
    rcases (show b = e ∨ b = it by simpa using hb) with z | z
    · subst z; exact ⟨_, he, fun v q => nomatch q⟩
    · subst z; exact ⟨o, ho, fun v q => by rw [hd] at q; cases q⟩
  keep := fun i h h' st k => let ⟨⟨old, he⟩, hi, hne⟩ := st; ⟨⟨old, k e (by simp) _ he⟩, hi.at fun o q => k it (by simp) o q, hne⟩
  item := by
    intro X hP hw hK hc i pins s σ H E I hf st hg
    subst hP hw hK
    obtain ⟨⟨old, he⟩, hit, hne⟩ := st
    obtain ⟨xs, x, hq, hx⟩ := hg
    obtain ⟨its, rv, p, _⟩ := I.tuple hq
    obtain ⟨u, hu, ru⟩ := rv.get hx
    have hel : e < s.heap.objs.size := Heap.lt_size he
    have hil : it < s.heap.objs.size := let ⟨_, q, _⟩ := hit; Heap.lt_size q
    have hia : a ≠ it := fun z => by
      obtain ⟨o1, q1, c1, _⟩ := hit
      obtain ⟨o2, q2, c2, _⟩ := p
      rw [z, q1] at q2
      cases q2
      rw [c1] at c2
      exact absurd (Value.type.inj c2) (by decide)
    have hae : e ≠ a := fun z => by
      obtain ⟨o2, q2, c2, _⟩ := p
      rw [← z, he] at q2
      cases q2
      exact absurd (Value.type.inj c2) (by decide)
    have hsz : i < its.toArray.size := by rw [List.size_toArray]; exact (List.getElem?_eq_some_iff.mp hu).1
    refine wpAny_pyNext_enum_itemD (Draws.tuple (A := X.A.in1) (I.ok.hd hc) it a hia its.toArray) he ⟨hit, p⟩ hsz hne (fun z => by rcases (show e = it ∨ e = a by simpa using z) with w | w; exact hne w; exact hae w) fun x' h' tk hx' ho st' hT hz hk => ?_
    have ex : x' = u := by
      have h2 : its.toArray[i]? = some x' := hx'
      rw [List.getElem?_toArray, hu] at h2
      exact (Option.some.inj h2).symm
    subst ex
    refine ⟨_, rfl, wpAny_letOwnedTupleGo_enum (s := { s with heap := h', toks := tk + 1 }) ho fun h'' he' sb => ?_⟩
    have hT2 : h''.get? s.heap.objs.size = some { cls := .type "tuple", data := .seq #[.int i tk, x'] } := (sb.2 _ (Nat.ne_of_gt hel)).trans hT
    have new : ObjOk X.prog X.w (upd H s.heap.objs.size (.tup [.int (i : Nat), x])) h'' s.heap.objs.size (.tup [.int (i : Nat), x]) := ⟨(show 2 ≤ sizeLine by decide), [.int i tk, x'], .cons ⟨_, rfl⟩ (.cons ru .nil), ⟨_, hT2, rfl, _, rfl⟩⟩
    have I1 := I.turnedNew (h' := h'') (t' := tk + 1) (ch := [e, it]) (fun b ob hb q => (sb.2 b (fun z => hb (by simp [z]))).trans (hk b ob (fun z => hb (by simp [z])) (fun z => hb (by simp [z])) q)) hf (Nat.le_refl _) new
    refine ⟨.ref s.heap.objs.size, _, I1, rfl, ⟨_, x, rfl, I.hok.fresh (Nat.le_refl _), rfl, fun ys hy => by rw [I.tuple_inj hy hq]; exact hx⟩, ⟨⟨x', ?_⟩, st'.1.at fun o q => (sb.2 it (Ne.symm hne)).trans q, hne⟩, fun b hb => ?_⟩
    · rw [show ((i + 1 : Nat) : Int) = (i : Int) + 1 by omega]
      exact he'
    · have hb' : b < s.heap.objs.size := by
        rcases (show b = e ∨ b = it by simpa using hb) with z | z
        · rw [z]; exact hel
        · rw [z]; exact hil
      rw [upd_ne (Nat.ne_of_lt hb')]
      exact (hf b hb).1
  done := by
    intro X hP hw hK hc i pins s σ H E I hf st hg
    subst hP hw hK
    obtain ⟨⟨old, he⟩, hit, hne⟩ := st
    obtain ⟨xs, hq, hx⟩ := hg
    obtain ⟨its, rv, p, _⟩ := I.tuple hq
    have hia : a ≠ it := fun z => by
      obtain ⟨o1, q1, c1, _⟩ := hit
      obtain ⟨o2, q2, c2, _⟩ := p
      rw [z, q1] at q2
      cases q2
      rw [c1] at c2
      exact absurd (Value.type.inj c2) (by decide)
    obtain ⟨f0, f1, f2, f3, f4, f5⟩ := hf it (by simp)
    have hl := rv.length
    have hend : its.toArray[i]? = none := by rw [List.getElem?_toArray]; exact List.getElem?_eq_none (by omega)
    have hT : s.TypeIs (.ref e) "enumerate" := ⟨_, he, rfl⟩
    unfold pyNext
    refine wpAny_bind (wpAny_attempt (wpAny_callSpecial?_slot (name := Str.ofString "__next__") hT F.slot_enumerate_next (wpAny_call_entry F.slot_enumerate_next hT F.entry_enumerate_next ?_ (F.args_enumerate_next_1 _))))
    show wpAny _ _ (field (.ref e) 2 >>= _) _ _ s
    refine wpAny_bind (wpAny_field he rfl (x := .ref it) rfl ?_)
    refine wpAny_bind (wpAny_nextOf_tuple_end (I.ok.hd hc) hit p hend fun h' y ex hy => ?_)
    obtain ⟨o, ho, hcl⟩ := hy
    refine wpAny_bind (wpAny_isInstance (T := "StopIteration") (b := true) ⟨o, ho, hcl⟩ isSubtype_stop ?_)
    exact wpAny_pure ⟨rfl, I.turned (t' := s.toks) (fun b o hb q => ex b o hb q) f0 f1 f3 f4 f5⟩
  self := fun A i s Q E st h => let ⟨⟨_, he⟩, _⟩ := st; wpAny_pyIter_enum he h
def iEnumT (K : PySem.W.Frag) (ta : TA) : TI := fun σ H R => ta σ H fun vs H1 => ∃ a xs, vs = [.ref a] ∧ SqT K H1 a xs ∧ R (ItE K a) H1
theorem pi_enumT {X : Cx} {e : Expr} {ta : TA} {p pos tpos : Pos} {elts : List Expr} {kk : Nat} (hg : Gl X "enumerate") (hm : X.mg "enumerate" = none) (ha : PA X [e] ta) (hs : starEach [e] X.env = [(false, eval e X.env)] := by rfl) :
    PI X (.Tuple elts kk tpos) (.Call (.Name "enumerate" p) [e] [] pos) (iEnumT X.K ta) := by
  refine ⟨fun pins s σ H R I h => ?_⟩
  refine Call_ (ld_blt I hg hm boot_enumerate (PyProof.Rows.callWith_type1 (thn (ha.run pos pins s σ H _ I h) fun us s1 ⟨vs, H1, I1, r1, a, xs, ex, hq, q⟩ => ?_) hs rfl))
  subst ex
  rw [Vals.ref1 r1]
  obtain ⟨its, rv, p', hz⟩ := I1.tuple hq
  refine enum_tup p' fun h' he hit hk => wpAny_pyIter_enum he ?_
  refine ⟨s1.heap.objs.size + 1, [s1.heap.objs.size + 1, s1.heap.objs.size], _, _, H1, rfl, I1.kept (t' := s1.toks) hk, turnE a (s1.heap.objs.size + 1) s1.heap.objs.size, ⟨⟨.none, he⟩, hit, Nat.succ_ne_self _⟩, fun b hb => ?_, q⟩
  have hle : s1.heap.objs.size ≤ b := by
    rcases (show b = s1.heap.objs.size + 1 ∨ b = s1.heap.objs.size by simpa using hb) with z | z
    · rw [z]; exact Nat.le_add_right _ _
    · rw [z]; exact Nat.le_refl _
  exact I1.fpOk hle (I1.hok.fresh hle)
section
variable {c : Cn} {δ δ1 : DE} {ts : TA} {ds : List D}
theorem evi_enumT (h : EvA c ts δ [.tup ds] δ1) : EvI c (iEnumT c.K ts) δ (ds.zipIdx.map fun p => .tup [.int (p.2 : Nat), p.1]) δ1 := fun B F H σ E R q => h _ F H σ E _ fun vs F1 H1 E1 s1 r1 => by
  cases r1 with
  | cons r t => cases t with
    | nil =>
      obtain ⟨a, ws, rfl, hs, r⟩ := r.tup_inv
      refine ⟨a, ws, rfl, sqT_mono E1.le hs, q _ F1 H1 E1 s1 fun F2 H2 k1 k2 => ?_⟩
      have hl : (ds.zipIdx.map fun p => D.tup [.int (p.2 : Nat), p.1]).length = ws.length := by rw [List.length_map, List.length_zipIdx, r.length]
      have t1 : SqT c.K H2 a ws := sqT_mono (k1.trans k2) hs
      refine ⟨fun i hi => ?_, ⟨ws, t1, by rw [hl]; exact Nat.le_refl _⟩, fun i d hd x H3 hy => ?_⟩
      · rw [hl] at hi
        exact ⟨ws, ws[i], t1, List.getElem?_eq_getElem hi⟩
      · obtain ⟨T, x1, rfl, nT, rfl, f1⟩ := hy
        rw [List.getElem?_map, List.getElem?_zipIdx] at hd
        cases hdi : ds[i]? with
        | none => rw [hdi] at hd; cases hd
        | some y =>
          rw [hdi] at hd
          obtain ⟨w1, hw1, rw1⟩ := r.get hdi
          have ex1 : x1 = w1 := Option.some.inj ((f1 _ t1).symm.trans hw1)
          subst ex1
          have R := Ret.new (o := .tup [.int (i : Nat), x1]) k2 nT
          have e : d = .tup [.int (i : Nat), y] := by
            have := Option.some.inj hd
            rw [← this]
            simp
          rw [e]
          exact ⟨_, R, .tup upd_same (.cons (.int _) (.cons (rw1.mono (k1.trans R.sf)) .nil))⟩
end
end DL
set_option Elab.async false
set_option linter.all false
set_option maxRecDepth 100000
set_option maxHeartbeats 2000000
/-! DL11: dict comprehensions with any kind of store. -/
namespace DL
open PySem PySem.Spec PyProof.Rows L2
/-- a store into the dict that a comprehension makes -/
def PDs (X : Cx) (t : TSet) : Prop :=
  ∀ (pins : List (Addr × Obj)) (s : Shared) (σ : L2.St) (H : Hp) (a : Addr) (i v : V) (iv u : Value) (Q : Hp → Prop) (E : Value → Shared → Prop), Inv X pins σ H s → RelV i iv → RelV v u → t (.ref a) i v H Q →
    wpAny (model X.prog X.w) X.A (dictSet a iv u) (fun _ s' => ∃ H', Inv X pins σ H' s' ∧ Q H') E s
/-- {k: v for target in iter if ..}: O0 the empty dict, t the store -/
def tDG (O0 : Addr → HO) (t : TSet) (wi : TI) (g : TG) (tt : TT) (tk tv : TE) (vs : List Nat) : TE := fun σ H Q => wi σ H fun J H1 => ∀ D, H1 D = none → ∃ W : Nat → Nat → Hp → Prop, (∃ m, W 0 m (upd H1 D (O0 D))) ∧ ∀ i m H, W i m H →
  (J.stop i H ∧ Q (.ref D) H) ∨ (J.go i H ∧ ∃ Nx : Hp → Prop, (∀ H', Nx H' → ∃ m', m' < m ∧ W (i + 1) m' H') ∧ ∀ x H', J.yld i H x H' → g x (wipe σ vs) H' fun σ2 H2 => wipe σ2 vs = wipe σ vs ∧ tt σ2 H2 fun b H3 =>
    if b = true then tk σ2 H3 fun y H4 => tv σ2 H4 fun z H5 => t (.ref D) y z H5 Nx else Nx H3)
/-- the empty dict at a may be told as O0 a -/
def Emp (P : Program) (w : World) (O0 : Addr → HO) : Prop := ∀ (H : Hp) (h : Heap), sysModules < h.objs.size → ObjOk P w H (h.push { cls := .type "dict", data := .dict #[] }) h.objs.size (O0 h.objs.size)
theorem emp_dk {P : Program} {w : World} : Emp P w fun _ => .dK [] := fun H h hb => dk_empty h hb
theorem emp_dt {P : Program} {w : World} : Emp P w fun a => dtO P w a [] := fun H h hb =>
  dt_ok (Nat.zero_le _) (by
    have e : (h.objs.size == sysModules) = false := by
      rw [beq_eq_false_iff_ne]
      exact Nat.ne_of_gt hb
    exact e) (fun _ z => nomatch z) ⟨_, #[], 0, Heap.get?_push_size _ rfl, ⟨rfl, rfl, rfl⟩, rfl, rfl, List.nodup_nil⟩
section
variable {X : Cx}
theorem dg_core {O0 : Addr → HO} {t : TSet} (O : Emp X.prog X.w O0) {ps : List (Addr × Obj)} {s0 : Shared} {σ : L2.St} {H : Hp} {Q : VK} {ke ve tg it : Expr} {ifs : List Expr} {sc : Scope} {own : List (Str × Nat)} {p1 p2 : Pos} {wi : TI} {g : TG} {tt : TT} {tk tv : TE} {use : Option (Value → Sem Unit)} {Qf : Value → Shared → Prop}
    (hc : X.calm = true) (hN : X.N.Nodup) (I0 : Inv X ps σ H s0) (hi : PI X tg it wi) (ok : BlkOk X.N X.env.scope sc own)
    (hp : ∀ (s : Shared) (H : Hp) (C : Addr) (cl : List (Str × Addr)) (fp : List Addr), PDs (X.blk s H sc (compEnvC sc cl C X.env) fp) t)
    (hg : ∀ (s : Shared) (H : Hp) (C : Addr) (cl : List (Str × Addr)) (fp : List Addr), PG (X.blk s H sc (compEnvC sc cl C X.env) fp) tg g)
    (ht : ∀ (s : Shared) (H : Hp) (C : Addr) (cl : List (Str × Addr)) (fp : List Addr), PTs (X.blk s H sc (compEnvC sc cl C X.env) fp) ifs tt)
    (hk : ∀ (s : Shared) (H : Hp) (C : Addr) (cl : List (Str × Addr)) (fp : List Addr), PE (X.blk s H sc (compEnvC sc cl C X.env) fp) ke tk)
    (he : ∀ (s : Shared) (H : Hp) (C : Addr) (cl : List (Str × Addr)) (fp : List Addr), PE (X.blk s H sc (compEnvC sc cl C X.env) fp) ve tv) (hs : ∀ x, foldedSetIterable it X.env x = pure x)
    (h : tDG O0 t wi g tt tk tv (own.map (·.2)) σ H Q)
    (fin : ∀ D C s' m H', Inv X ps σ H' s' → Q (.ref D) H' → s'.heap.Ns C m → FpOk X ps H' C → compPost (model X.prog X.w) X.A X.xe use Qf (.ref D) C (.ok .next) s') :
    wpAny (model X.prog X.w) X.A (comprehension (.DictComp ke ve [⟨tg, it, ifs, 0⟩] sc p1) sc X.env p2 newDict false (eval it X.env) use) Qf X.xe s0 := by
  refine wpAny_comprehension_free (use := use) rfl hs (closure_ok fun y hy e => (ok.free y hy e).elim (fun k => I0.ok.has _ (.inl k)) fun k => I0.ok.has _ (.inr k)) ok.kind (fun y hy e => (ok.uniq y hy).trans (congrArg some e))
    (thn (hi.run ps s0 σ H _ I0 h) fun xv s1 hx => thn hx fun itv s2 h2 => ?_)
  obtain ⟨ia, fp, tn, J, H2, rfl, I2, T, st2, f2, q⟩ := h2
  refine wpAny_newObj_type (newEnv_comp ?_)
  have hDn : H2 s2.heap.objs.size = none := I2.hok.fresh (Nat.le_refl _)
  obtain ⟨W, ⟨m0, w0⟩, turn⟩ := q _ hDn
  have I3 := I2.laid (t' := s2.toks) (fun b o e => Heap.get?_push_of_some _ e) (Nat.le_refl _) (O (upd H2 s2.heap.objs.size (O0 s2.heap.objs.size)) s2.heap I2.big)
  have below : ∀ b ∈ fp, b < s2.heap.objs.size := fun b hb => let ⟨_, e, _⟩ := T.obj _ _ st2 b hb; Heap.lt_size e
  generalize hD : s2.heap.objs.size = D at hDn w0 turn I3 below
  generalize hs3 : ({ s2 with heap := s2.heap.push { cls := .type "dict", data := .dict #[] } } : Shared) = s3
  have hp3 : s3.heap = s2.heap.push { cls := .type "dict", data := .dict #[] } := by rw [← hs3]
  have I3 : Inv X ps σ (upd H2 D (O0 D)) s3 := by rw [← hs3]; exact I3
  generalize hH3 : upd H2 D (O0 D) = H3 at I3 w0
  have f3 : ∀ b ∈ fp, FpOk X ps H3 b ∧ b < s3.heap.objs.size := fun b hb =>
    ⟨⟨by rw [← hH3, upd_ne (Nat.ne_of_lt (below b hb))]; exact (f2 b hb).1, (f2 b hb).2⟩, by rw [hp3, Heap.size_push, hD]; exact Nat.lt_succ_of_lt (below b hb)⟩
  have st3 : tn 0 s3.heap := T.keep _ _ _ st2 fun b _ o e => by rw [hp3]; exact Heap.get?_push_of_some _ e
  have I4 := block_start I3 ok hN f3
  generalize hcl : cellsFrom (s3.heap.objs.size + 1) sc.names (cloFrom X.env.cells sc.names []) = cl at I4
  show codeAny _ _ (.compStart (.DictComp ke ve [⟨tg, it, ifs, 0⟩] sc p1) 0 (.ref ia) (.ref D) (compEnvC sc cl s3.heap.objs.size X.env)) (compPost (model X.prog X.w) X.A X.xe use Qf (.ref D) s3.heap.objs.size) { s3 with heap := pushCells (s3.heap.push { cls := .type "dict", data := .dict #[] }) sc.names }
  have a1 := hp s3 H3 s3.heap.objs.size cl fp
  have a2 := hg s3 H3 s3.heap.objs.size cl fp
  have a3 := ht s3 H3 s3.heap.objs.size cl fp
  have a4 := hk s3 H3 s3.heap.objs.size cl fp
  have a5 := he s3 H3 s3.heap.objs.size cl fp
  generalize hce : compEnvC sc cl s3.heap.objs.size X.env = ce at I4 a1 a2 a3 a4 a5 ⊢
  have cL : ce.locals = s3.heap.objs.size := by rw [← hce]; rfl
  generalize hs4 : ({ s3 with heap := pushCells (s3.heap.push { cls := .type "dict", data := .dict #[] }) sc.names } : Shared) = s4 at I4 ⊢
  have st4 : tn 0 s4.heap := T.keep _ _ _ st3 fun b _ o e => by rw [← hs4]; exact pushCells_keeps _ _ _ _ (Heap.get?_push_of_some _ e)
  have foot : ∀ {σ' : L2.St} {H' : Hp} {s' : Shared}, Inv (X.blk s3 H3 sc ce fp) [] σ' H' s' → (∀ b ∈ fp, H' b = none) → ∀ b ∈ fp, FpOk (X.blk s3 H3 sc ce fp) [] H' b := fun {σ' H' s'} I' hn b hb =>
    ⟨hn b hb, (I'.ok.exf b hb).1, I'.ok.exfs b hb, .inl hb, fun x c e => (I'.ok.exf b hb).2 x c e, fun p hp => absurd (show p ∈ ([] : List (Addr × Obj)) ++ [] from hp) (by simp)⟩
  refine codeAny_compStart_dict ?_ (T.self X.A 0 _ _ _ st4 ?_)
  all_goals
    refine compLoop_anyD (fun n s' => ∃ i H', Inv (X.blk s3 H3 sc ce fp) [] (wipe σ (own.map (·.2))) H' s' ∧ tn i s'.heap ∧ (∀ b ∈ fp, H' b = none) ∧ W i n H') ?_ m0 ⟨0, H3, I4, st4, fun b hb => (f3 b hb).1.1, w0⟩
    rintro n s5 ⟨i, H5, I5, st5, n5, w5⟩
    rcases turn i n H5 w5 with ⟨stop, qq⟩ | ⟨go, Nx, hNx, step⟩
    · refine thnF (T.done (X.blk s3 H3 sc ce fp) rfl rfl rfl hc i [] s5 _ H5 (fun _ _ => False) I5 (foot I5 n5) st5 stop) fun r s6 ⟨hr, I6⟩ => ?_
      subst hr
      have I7 : Inv X ps σ H5 s6 := I3.call' (ch := fp) I6.os I6.base I6.hok I6.bare fun b hb => ⟨(f3 b hb).1.2.2.2.1, (f3 b hb).1.2.1, (f3 b hb).1.2.2.2.2.1, (f3 b hb).1.2.2.2.2.2⟩
      obtain ⟨m, hn, _⟩ := I6.loc
      have hn' : s6.heap.Ns ce.locals m := hn
      have nC : H5 ce.locals = none := I6.free
      rw [cL] at hn' nC
      exact fin D s3.heap.objs.size s6 m H5 I7 qq hn' (I3.fpOk (Nat.le_refl _) nC)
    · refine thnF (T.item (X.blk s3 H3 sc ce fp) rfl rfl rfl hc i [] s5 _ H5 (fun _ _ => False) I5 (foot I5 n5) st5 go) fun r s6 ⟨u, hr, h6⟩ => ?_
      subst hr
      refine thnF h6 fun _ s7 ⟨x, H7, I7, r7, y7, st7, n7⟩ => ?_
      refine thnF (a2.run _ s7 _ H7 x u _ (I7.pinned (foot I7 n7) (T.obj _ _ st7)) r7 (step x H7 y7)) fun _ s8 ⟨σ8, H8, I8, hw8, q8⟩ => ?_
      refine thnF (a3.run _ s8 σ8 H8 _ I8 q8) fun b s9 ⟨H9, I9, q9⟩ => ?_
      have over : ∀ {s' : Shared} {H' : Hp}, Inv (X.blk s3 H3 sc ce fp) ([] ++ pinsAt fp s7.heap) σ8 H' s' → Nx H' → ∃ m, m < n ∧ ∃ i H', Inv (X.blk s3 H3 sc ce fp) [] (wipe σ (own.map (·.2))) H' s' ∧ tn i s'.heap ∧ (∀ b ∈ fp, H' b = none) ∧ W i m H' := fun {s' H'} I' nx => by
        obtain ⟨m', hm, w'⟩ := hNx H' nx
        have pin : ∀ b ∈ fp, ∀ o, s7.heap.get? b = some o → s'.heap.get? b = some o ∧ H' b = none := fun b hb o e =>
          let z := I'.pin (b, o) (List.mem_append_right _ (List.mem_append_right _ (mem_pinsAt hb e))); ⟨z.1, z.2.1⟩
        refine ⟨m', hm, i + 1, H', (I'.unpinned (pins := [])).weak (by rw [← hw8, wipe_length]) (fun j v e => ?_), T.keep _ _ _ st7 fun b hb o e => (pin b hb o e).1, fun b hb => let ⟨o, e, _⟩ := T.obj _ _ st7 b hb; (pin b hb o e).2, w'⟩
        rw [← hw8] at e
        exact (wipe_some e).1
      cases b with
      | false => exact over I9 q9
      | true =>
        refine thnF (a4.run _ s9 σ8 H9 _ I9 q9) fun z s10 ⟨yk, H10, I10, r10, q10⟩ => ?_
        refine thnF (a5.run _ s10 σ8 H10 _ I10 q10) fun z2 s11 ⟨yv, H11, I11, r11, q11⟩ => ?_
        refine wpAny_mono (a1 _ s11 σ8 H11 D yk yv _ _ Nx _ I11 r10 r11 q11) (fun _ s12 ⟨H12, I12, nx⟩ => over I12 nx) fun _ _ z => z
theorem pe_dg {O0 : Addr → HO} {t : TSet} (O : Emp X.prog X.w O0) {ke ve tg it : Expr} {ifs : List Expr} {sc : Scope} {own : List (Str × Nat)} {pos : Pos} {wi : TI} {g : TG} {tt : TT} {tk tv : TE} (hc : X.calm = true) (hN : X.N.Nodup) (hi : PI X tg it wi) (ok : BlkOk X.N X.env.scope sc own)
    (hp : ∀ (s : Shared) (H : Hp) (C : Addr) (cl : List (Str × Addr)) (fp : List Addr), PDs (X.blk s H sc (compEnvC sc cl C X.env) fp) t)
    (hg : ∀ (s : Shared) (H : Hp) (C : Addr) (cl : List (Str × Addr)) (fp : List Addr), PG (X.blk s H sc (compEnvC sc cl C X.env) fp) tg g)
    (ht : ∀ (s : Shared) (H : Hp) (C : Addr) (cl : List (Str × Addr)) (fp : List Addr), PTs (X.blk s H sc (compEnvC sc cl C X.env) fp) ifs tt)
    (hk : ∀ (s : Shared) (H : Hp) (C : Addr) (cl : List (Str × Addr)) (fp : List Addr), PE (X.blk s H sc (compEnvC sc cl C X.env) fp) ke tk)
    (he : ∀ (s : Shared) (H : Hp) (C : Addr) (cl : List (Str × Addr)) (fp : List Addr), PE (X.blk s H sc (compEnvC sc cl C X.env) fp) ve tv) (hs : ∀ x, foldedSetIterable it X.env x = pure x := by intro _; rfl) :
    PE X (.DictComp ke ve [⟨tg, it, ifs, 0⟩] sc pos) (tDG O0 t wi g tt tk tv (own.map (·.2))) := by
  refine ⟨fun ps s σ H Q I h => ?_⟩
  rw [arm_eval_DictComp]
  refine dg_core O hc hN I hi ok hp hg ht hk he hs h fun D C s' m H' I' q hn ⟨f0, f1, f2, f3, f4, f5⟩ => ⟨m, hn, fun h'' sb => ⟨.ref D, H', I'.turned (t' := s'.toks) (fun b o hb e => (sb.2 b hb).trans e) f0 f1 f3 f4 f5, rfl, q⟩⟩
/-- the stores -/
def rDsK : TSet := fun o i v H Q => ∃ (a : Addr) (kvs : List (Key × V)) (k : Key), o = .ref a ∧ i = kV k ∧ H a = some (.dK kvs) ∧ kvs.length < sizeLine ∧ Q (upd H a (.dK (putK kvs k v)))
theorem ds_K : PDs X rDsK := fun pins s σ H a i v iv u Q E I ri rv h => by
  obtain ⟨a', kvs, k, e, rfl, hH, hz, q⟩ := h
  cases e
  exact d_dictSet I hH hz ri rv fun s' I' => ⟨_, I', q⟩
theorem ds_T {c : Cn} (hc : c = ⟨X.prog, X.w, X.K⟩) (hu : X.A.units + 20 < cLine) : PDs X (rSetT c) := fun pins s σ H a i v iv u Q E I ri rv h => by
  obtain ⟨F, a', b, dk, k, xs, kvs, le, e, rfl, ha, rt, rk, hk, hdep, hz, q⟩ := h
  cases e
  cases ri
  obtain ⟨z, hs, hm⟩ := dt_dict hc I ha (RepT.mono le rt)
  have key : (nestedKind X.prog X.w).is s.heap k b := ⟨Rep.key hc I (rk.mono le) rfl hk, hdep⟩
  refine wpAny_dictSet_heap (hsz := z) (show X.A.units + 8 < cLine by omega) key hm fun h' hm' hs' => ?_
  have hd0 := (dt_at (I.hok a _ (show H a = some (dtO X.prog X.w a xs) by rw [hc] at ha; exact ha))).2.2.1
  obtain ⟨o', es', ep', ho', hx', hd', he', _, hn'⟩ := hm'
  refine ⟨upd H a (dtO c.P c.w a (storedH xs k b u)), I.write (x := a) (e := a) (by rw [ha]; exact True.intro) (.inl rfl) (fun e o ne e' => (hs'.2 e ne).trans e') ⟨o', ho'⟩ ?_, q u rv⟩
  subst hc
  refine dt_ok (by have := storedH_len (xs := xs) (k := k) (b := b) (u := u); omega) hs (fun p hp => ?_) ⟨o', es', ep', ho', hx', hd', he', hn'⟩
  rcases storedH_mem p hp with e | ⟨p', hp', e⟩
  · rw [e]; exact hdep
  · rw [← e]; exact hd0 p' hp'
end
end DL
set_option Elab.async false
set_option linter.all false
set_option maxRecDepth 100000
set_option maxHeartbeats 1000000
/-! DL12: dict comprehensions by data; dicts with int and text keys by data; list and sorted of dicts. -/
namespace DL
open PySem PySem.Spec PyProof.Rows L2
/-! ### int and text keys -/
def kD : Key → D
  | .inl i => .int i
  | .inr z => .str z
theorem rep_kV {c : Cn} {F : Hp} {v : V} {k : Key} (r : Rep c F v (kD k)) : v = kV k := by
  cases k with
  | inl i => exact Rep.int_inv r
  | inr z => exact Rep.str_inv r
theorem rep_kD {c : Cn} {F : Hp} (k : Key) : Rep c F (kV k) (kD k) := by
  cases k with
  | inl i => exact .int i
  | inr z => exact .str z
def putKD (kvs : List (Key × D)) (k : Key) (v : D) : List (Key × D) := if kvs.any (fun p => decide (p.1 = k)) then kvs.map (fun p => if p.1 = k then (p.1, v) else p) else kvs ++ [(k, v)]
def valKD (kvs : List (Key × D)) (k : Key) : Option D := (kvs.find? fun p => decide (p.1 = k)).map (·.2)
section
variable {c : Cn} {F : Hp}
theorem RepK.len : ∀ {xs : List (Key × V)} {kvs : List (Key × D)}, RepK c F xs kvs → xs.length = kvs.length
  | _, _, .nil => rfl
  | _, _, .cons _ t => by rw [List.length_cons, List.length_cons, RepK.len t]
theorem RepK.any {k : Key} : ∀ {xs : List (Key × V)} {kvs : List (Key × D)}, RepK c F xs kvs → (xs.any fun p => decide (p.1 = k)) = kvs.any fun p => decide (p.1 = k)
  | _, _, .nil => rfl
  | _, _, .cons _ t => by rw [List.any_cons, List.any_cons, RepK.any t]
theorem RepK.val {k : Key} : ∀ {xs : List (Key × V)} {kvs : List (Key × D)}, RepK c F xs kvs → ∀ {d : D}, valKD kvs k = some d → ∃ v, valV xs k = some v ∧ Rep c F v d
  | _, _, .nil, d, h => by cases h
  | _, _, .cons (k := j) (v := v) (kw := xs) (kvs := kvs) r t, d, h => by
    unfold valKD at h
    rw [List.find?_cons] at h
    by_cases hj : j = k
    · rw [valV_pos (p := (j, v)) hj]
      simp only [decide_eq_true hj] at h
      cases h
      exact ⟨v, rfl, r⟩
    · rw [valV_neg (p := (j, v)) hj]
      simp only [decide_eq_false hj] at h
      exact RepK.val t h
theorem RepK.valN {k : Key} : ∀ {xs : List (Key × V)} {kvs : List (Key × D)}, RepK c F xs kvs → valKD kvs k = none → valV xs k = none
  | _, _, .nil, h => rfl
  | _, _, .cons (k := j) (v := v) (kw := xs) (kvs := kvs) r t, h => by
    unfold valKD at h
    rw [List.find?_cons] at h
    by_cases hj : j = k
    · simp only [decide_eq_true hj] at h
      cases h
    · rw [valV_neg (p := (j, v)) hj]
      simp only [decide_eq_false hj] at h
      exact RepK.valN t h
theorem RepK.put {k : Key} {v : V} {d : D} (rv : Rep c F v d) {xs : List (Key × V)} {kvs : List (Key × D)} (t : RepK c F xs kvs) : RepK c F (L2.putK xs k v) (putKD kvs k d) := by
  unfold L2.putK putKD
  rw [t.any]
  cases h : kvs.any fun p => decide (p.1 = k) with
  | true =>
    rw [if_pos rfl, if_pos rfl]
    clear h
    induction kvs generalizing xs with
    | nil => cases t; exact .nil
    | cons p kvs ih =>
      cases t with
      | cons r t =>
        rename_i j v' d' xs'
        rw [List.map_cons, List.map_cons]
        by_cases hj : j = k
        · simp only [if_pos hj]
          exact .cons rv (ih t)
        · simp only [if_neg hj]
          exact .cons r (ih t)
  | false =>
    rw [if_neg Bool.false_ne_true, if_neg Bool.false_ne_true]
    clear h
    induction kvs generalizing xs with
    | nil => cases t; exact .cons rv .nil
    | cons p kvs ih =>
      cases t with
      | cons r t => exact .cons r (ih t)
end
theorem putKD_len (kvs : List (Key × D)) (k : Key) (v : D) : (putKD kvs k v).length ≤ kvs.length + 1 := by
  unfold putKD
  split
  · rw [List.length_map]; omega
  · rw [List.length_append]; exact Nat.le_refl _
theorem putT_len (kvs : List (D × D)) (k : D) (v : D) : (putT kvs k v).length ≤ kvs.length + 1 := by
  unfold putT
  split
  · rw [List.length_map]; omega
  · rw [List.length_append]; exact Nat.le_refl _
theorem putKD_fold : ∀ (l : List (Key × D)) (acc : List (Key × D)), (l.foldl (fun acc p => putKD acc p.1 p.2) acc).length ≤ acc.length + l.length
  | [], acc => Nat.le_refl _
  | p :: l, acc => by
    have h1 := putKD_fold l (putKD acc p.1 p.2)
    have h2 := putKD_len acc p.1 p.2
    rw [List.foldl_cons, List.length_cons]
    omega
theorem putT_fold : ∀ (l : List (D × D)) (acc : List (D × D)), (l.foldl (fun acc p => putT acc p.1 p.2) acc).length ≤ acc.length + l.length
  | [], acc => Nat.le_refl _
  | p :: l, acc => by
    have h1 := putT_fold l (putT acc p.1 p.2)
    have h2 := putT_len acc p.1 p.2
    rw [List.foldl_cons, List.length_cons]
    omega
/-- an item of a dict comprehension -/
structure ItemDT (c : Cn) (g : TG) (tt : TT) (tk tv : TE) (vs : List Nat) (δ : DE) (d : D) (r : Option (D × D)) : Prop where
  ex : ∃ δ', TgtW c g d vs (wipeD δ vs) δ' ∧ (∀ j, j ∉ vs → δ'[j]? = δ[j]?) ∧ ((r = none ∧ EvT c tt δ' false δ') ∨ ∃ kd vd, r = some (kd, vd) ∧ EvT c tt δ' true δ' ∧ Ev c tk δ' kd δ' ∧ Ev c tv δ' vd δ' ∧ ∃ k, D.nk kd = some k ∧ k.depth ≤ 8 ∧ ∃ ds, kd = .tup ds)
structure ItemDK (c : Cn) (g : TG) (tt : TT) (tk tv : TE) (vs : List Nat) (δ : DE) (d : D) (r : Option (Key × D)) : Prop where
  ex : ∃ δ', TgtW c g d vs (wipeD δ vs) δ' ∧ (∀ j, j ∉ vs → δ'[j]? = δ[j]?) ∧ ((r = none ∧ EvT c tt δ' false δ') ∨ ∃ kd vd, r = some (kd, vd) ∧ EvT c tt δ' true δ' ∧ Ev c tk δ' (kD kd) δ' ∧ Ev c tv δ' vd δ' ∧ True)
section
variable {c : Cn} {B : Bx} {F F' H H' : Hp} {σ : L2.St} {δ δ1 δ2 δ3 : DE} {fp : Nat → List Addr} {ta tb te tc : TE} {tt tu : TT} {d e x y : D} {ds : List D} {t u : TS} {o : Out} {i j : Nat} {s : Sl} {ts : TA}

theorem evn_dcT {wi : TI} {g : TG} {tk tv : TE} {vs : List Nat} (f : D → Option (D × D)) (hi : EvI c wi δ ds δ) (hz : ds.length ≤ 100000) (h0 : 0 ∉ vs) (hv : ∀ i ∈ vs, ∀ s, δ[i]? = some s → s.own = false)
    (h : ∀ d ∈ ds, ItemDT c g tt tk tv vs δ d (f d)) : EvN c (tDG (fun a => dtO c.P c.w a []) (rSetT c) wi g tt tk tv vs) δ (.odt ((ds.filterMap f).foldl (fun acc p => putT acc p.1 p.2) [])) δ := fun B F H σ E Q q => hi _ F H σ E _ fun J F1 H1 E1 s1 Y Dl hD => by
  refine ⟨fun i m H => m = ds.length - i ∧ i ≤ ds.length ∧ ∃ F' fp ws, EnvP c B F' H σ δ fp ∧ Same F1 F' ∧ F' Dl = none ∧ B.H0 Dl = none ∧ (∀ k, Dl ∉ fp k) ∧ H Dl = some (dtO c.P c.w Dl ws) ∧ RepT c F' ws (((ds.take i).filterMap f).foldl (fun acc p => putT acc p.1 p.2) []), ?_, ?_⟩
  · obtain ⟨fp, E1⟩ := E1
    obtain ⟨E2, n1, n2, n3⟩ := E1.newO (o := dtO c.P c.w Dl []) hD
    exact ⟨ds.length, rfl, Nat.zero_le _, F1, fp, [], E2, Same.refl _, n1, n2, n3, upd_same, .nil⟩
  · rintro i m H2 ⟨rfl, hle, F2, fp, ws, E2, s2, n1, n2, n3, hDl, rw'⟩
    obtain ⟨y1, y2, y3⟩ := Y F2 H2 s2 E2.gr.le
    by_cases hlt : i < ds.length
    · have hd : ds[i]? = some ds[i] := List.getElem?_eq_getElem hlt
      obtain ⟨δ', hg, hδ, hr⟩ := (h ds[i] (List.getElem_mem hlt)).ex
      have htk : ds.take (i + 1) = ds.take i ++ [ds[i]] := by rw [List.take_add_one, hd]; rfl
      have hlen : ws.length ≤ 100000 := by
        rw [rw'.len]
        have h1 := putT_fold ((ds.take i).filterMap f) []
        have h2 := List.length_filterMap_le f (ds.take i)
        rw [List.length_take] at h2
        have h3 : ([] : List (D × D)).length = 0 := rfl
        omega
      refine .inr ⟨y1 i hlt, fun H => i + 1 ≤ ds.length ∧ ∃ F' fp ws, EnvP c B F' H σ δ fp ∧ Same F1 F' ∧ F' Dl = none ∧ B.H0 Dl = none ∧ (∀ k, Dl ∉ fp k) ∧ H Dl = some (dtO c.P c.w Dl ws) ∧ RepT c F' ws (((ds.take (i + 1)).filterMap f).foldl (fun acc p => putT acc p.1 p.2) []), fun H' w => ⟨ds.length - (i + 1), by omega, rfl, w⟩, fun x H3 hy => ?_⟩
      obtain ⟨F3, R, rx⟩ := y3 i _ hd x H3 hy
      have E3 := E2.ret R
      have hD3 : H3 Dl = some (dtO c.P c.w Dl ws) := R.sh _ _ hDl
      have nF3 : F3 Dl = none := (R.fr Dl (ne_none_of hDl)).trans n1
      have E4 := (E3.wipe h0 hv).sub
      have stay : ∀ (F5 H5 : Hp), Grow (subB F3 H3 fp (wipeD δ vs).length) F5 H5 → H5 Dl = some (dtO c.P c.w Dl ws) ∧ F5 Dl = none := fun F5 H5 g5 => ⟨g5.sh Dl _ (fun z => by
        obtain ⟨k, _, hk⟩ := List.mem_flatMap.mp z
        exact n3 k hk) hD3, (g5.fr Dl (ne_none_of hD3)).trans nF3⟩
      refine hg _ F3 H3 _ ⟨fp, E4⟩ x rx _ fun F4 H4 σ4 E5 s4 l4 k4 => ⟨?_, ?_⟩
      · refine wipe_of (l4.trans (wipe_len σ vs)) fun j hj => ?_
        rw [k4 j hj, wipe_get, if_neg hj]
      · have hσ : ∀ j, j ∉ vs → σ4[j]? = σ[j]? := fun j hj => by rw [k4 j hj, wipe_get, if_neg hj]
        have nok : ∀ {F6 H6 : Hp} {fp6 : Nat → List Addr}, EnvP c (subB F3 H3 fp (wipeD δ vs).length) F6 H6 σ4 δ' fp6 → ∀ k, Dl ∉ (fun i => if i ∈ vs then ([] : List Addr) else fp6 i) k := fun {F6 H6 fp6} E6 k hk => by
          have hk : Dl ∈ (if k ∈ vs then ([] : List Addr) else fp6 k) := hk
          by_cases hkv : k ∈ vs
          · rw [if_pos hkv] at hk; cases hk
          · rw [if_neg hkv] at hk
            rcases E6.fh k Dl hk with w | w
            · exact (ne_none_of hD3) w
            · obtain ⟨k', _, hk'⟩ := List.mem_flatMap.mp w.1
              exact n3 k' hk'
        rcases hr with ⟨e, ht⟩ | ⟨kd, vd, e, ht, hke, hve, hx⟩
        · refine ht _ F4 H4 σ4 E5 _ fun F5 H5 E6 s5 => ?_
          obtain ⟨fp6, E6⟩ := E6
          obtain ⟨a1, a2⟩ := stay F5 H5 E6.gr
          refine ⟨hlt, F5, _, ws, E3.unwipe hv E6 hσ hδ, s2.trans (R.sf.trans E6.gr.sf), a2, n2, nok E6, a1, ?_⟩
          rw [htk, List.filterMap_append, List.filterMap_cons, e, List.filterMap_nil, List.append_nil]
          exact rw'.mono (R.sf.trans E6.gr.sf)
        · refine ht _ F4 H4 σ4 E5 _ fun F5 H5 E6 s5 => ?_
          refine hke _ F5 H5 σ4 E6 _ fun y F6 H6 E7 s6 r6 => ?_
          refine hve _ F6 H6 σ4 E7 _ fun v F7 H7 E8 s7 r7 => ?_
          obtain ⟨fp8, E8⟩ := E8
          obtain ⟨a1, a2⟩ := stay F7 H7 E8.gr
          have E9 := E3.unwipe hv E8 hσ hδ
          have hw := rw'.mono (R.sf.trans E8.gr.sf)
          have nk := nok E8
          have last : ∀ (ws' : List (NestedKey × Addr × Value)), RepT c F7 ws' (putT (((ds.take i).filterMap f).foldl (fun acc p => putT acc p.1 p.2) []) kd vd) → i + 1 ≤ ds.length ∧ ∃ F' fp ws, EnvP c B F' (upd H7 Dl (dtO c.P c.w Dl ws')) σ δ fp ∧ Same F1 F' ∧ F' Dl = none ∧ B.H0 Dl = none ∧ (∀ k, Dl ∉ fp k) ∧ (upd H7 Dl (dtO c.P c.w Dl ws')) Dl = some (dtO c.P c.w Dl ws) ∧ RepT c F' ws (((ds.take (i + 1)).filterMap f).foldl (fun acc p => putT acc p.1 p.2) []) := fun ws' hws => by
            refine ⟨hlt, F7, _, ws', ?_, s2.trans (R.sf.trans E8.gr.sf), a2, n2, nk, upd_same, ?_⟩
            · have g8 : Grow B F7 (upd H7 Dl (dtO c.P c.w Dl ws')) := ⟨E9.gr.sf, fun a o hm h => by
                rw [upd_ne (fun z => by subst z; rw [n2] at h; cases h)]; exact E9.gr.sh a o hm h, fun a h => by
                rw [upd_ne (fun z => by subst z; exact h n2)]; exact E9.gr.sd a h, E9.gr.fr, fun a o h => by
                rw [upd_ne (fun z => by subst z; rw [a2] at h; cases h)]; exact E9.gr.le a o h⟩
              exact E9.step g8 (Same.refl _) (fun k a ha => upd_ne fun z => by subst z; exact nk k ha) E9.ff
            · rw [htk, List.filterMap_append, List.filterMap_cons, e, List.filterMap_nil, List.foldl_append]
              exact hws
          obtain ⟨k, hkk, hdep, ds', hds⟩ := hx
          have r6' := r6.mono s7
          have r6r := r6'
          rw [hds] at r6r
          obtain ⟨b, _, rfl, _, _⟩ := r6r.tup_inv
          exact ⟨F7, Dl, b, kd, k, ws, _, E8.gr.le, rfl, rfl, a1, hw, r6', hkk, hdep, sz6 hlen, fun u ru => last _ (RepT.put hkk r6' ru r7 hw)⟩
    · have e : i = ds.length := Nat.le_antisymm hle (Nat.le_of_not_lt hlt)
      subst e
      refine .inl ⟨y2, q _ F2 H2 fp [Dl] E2 (s1.trans s2) ⟨Dl, ws, rfl, rfl, hDl, ?_⟩ fun a ha => ?_⟩
      · rw [List.take_length] at rw'; exact rw'
      · rw [List.mem_singleton.mp ha]; exact ⟨n1, n2, n3⟩

theorem evn_dcK {wi : TI} {g : TG} {tk tv : TE} {vs : List Nat} (f : D → Option (Key × D)) (hi : EvI c wi δ ds δ) (hz : ds.length ≤ 100000) (h0 : 0 ∉ vs) (hv : ∀ i ∈ vs, ∀ s, δ[i]? = some s → s.own = false)
    (h : ∀ d ∈ ds, ItemDK c g tt tk tv vs δ d (f d)) : EvN c (tDG (fun _ => HO.dK []) rDsK wi g tt tk tv vs) δ (.odk ((ds.filterMap f).foldl (fun acc p => putKD acc p.1 p.2) [])) δ := fun B F H σ E Q q => hi _ F H σ E _ fun J F1 H1 E1 s1 Y Dl hD => by
  refine ⟨fun i m H => m = ds.length - i ∧ i ≤ ds.length ∧ ∃ F' fp ws, EnvP c B F' H σ δ fp ∧ Same F1 F' ∧ F' Dl = none ∧ B.H0 Dl = none ∧ (∀ k, Dl ∉ fp k) ∧ H Dl = some (HO.dK ws) ∧ RepK c F' ws (((ds.take i).filterMap f).foldl (fun acc p => putKD acc p.1 p.2) []), ?_, ?_⟩
  · obtain ⟨fp, E1⟩ := E1
    obtain ⟨E2, n1, n2, n3⟩ := E1.newO (o := HO.dK []) hD
    exact ⟨ds.length, rfl, Nat.zero_le _, F1, fp, [], E2, Same.refl _, n1, n2, n3, upd_same, .nil⟩
  · rintro i m H2 ⟨rfl, hle, F2, fp, ws, E2, s2, n1, n2, n3, hDl, rw'⟩
    obtain ⟨y1, y2, y3⟩ := Y F2 H2 s2 E2.gr.le
    by_cases hlt : i < ds.length
    · have hd : ds[i]? = some ds[i] := List.getElem?_eq_getElem hlt
      obtain ⟨δ', hg, hδ, hr⟩ := (h ds[i] (List.getElem_mem hlt)).ex
      have htk : ds.take (i + 1) = ds.take i ++ [ds[i]] := by rw [List.take_add_one, hd]; rfl
      have hlen : ws.length ≤ 100000 := by
        rw [rw'.len]
        have h1 := putKD_fold ((ds.take i).filterMap f) []
        have h2 := List.length_filterMap_le f (ds.take i)
        rw [List.length_take] at h2
        have h3 : ([] : List (Key × D)).length = 0 := rfl
        omega
      refine .inr ⟨y1 i hlt, fun H => i + 1 ≤ ds.length ∧ ∃ F' fp ws, EnvP c B F' H σ δ fp ∧ Same F1 F' ∧ F' Dl = none ∧ B.H0 Dl = none ∧ (∀ k, Dl ∉ fp k) ∧ H Dl = some (HO.dK ws) ∧ RepK c F' ws (((ds.take (i + 1)).filterMap f).foldl (fun acc p => putKD acc p.1 p.2) []), fun H' w => ⟨ds.length - (i + 1), by omega, rfl, w⟩, fun x H3 hy => ?_⟩
      obtain ⟨F3, R, rx⟩ := y3 i _ hd x H3 hy
      have E3 := E2.ret R
      have hD3 : H3 Dl = some (HO.dK ws) := R.sh _ _ hDl
      have nF3 : F3 Dl = none := (R.fr Dl (ne_none_of hDl)).trans n1
      have E4 := (E3.wipe h0 hv).sub
      have stay : ∀ (F5 H5 : Hp), Grow (subB F3 H3 fp (wipeD δ vs).length) F5 H5 → H5 Dl = some (HO.dK ws) ∧ F5 Dl = none := fun F5 H5 g5 => ⟨g5.sh Dl _ (fun z => by
        obtain ⟨k, _, hk⟩ := List.mem_flatMap.mp z
        exact n3 k hk) hD3, (g5.fr Dl (ne_none_of hD3)).trans nF3⟩
      refine hg _ F3 H3 _ ⟨fp, E4⟩ x rx _ fun F4 H4 σ4 E5 s4 l4 k4 => ⟨?_, ?_⟩
      · refine wipe_of (l4.trans (wipe_len σ vs)) fun j hj => ?_
        rw [k4 j hj, wipe_get, if_neg hj]
      · have hσ : ∀ j, j ∉ vs → σ4[j]? = σ[j]? := fun j hj => by rw [k4 j hj, wipe_get, if_neg hj]
        have nok : ∀ {F6 H6 : Hp} {fp6 : Nat → List Addr}, EnvP c (subB F3 H3 fp (wipeD δ vs).length) F6 H6 σ4 δ' fp6 → ∀ k, Dl ∉ (fun i => if i ∈ vs then ([] : List Addr) else fp6 i) k := fun {F6 H6 fp6} E6 k hk => by
          have hk : Dl ∈ (if k ∈ vs then ([] : List Addr) else fp6 k) := hk
          by_cases hkv : k ∈ vs
          · rw [if_pos hkv] at hk; cases hk
          · rw [if_neg hkv] at hk
            rcases E6.fh k Dl hk with w | w
            · exact (ne_none_of hD3) w
            · obtain ⟨k', _, hk'⟩ := List.mem_flatMap.mp w.1
              exact n3 k' hk'
        rcases hr with ⟨e, ht⟩ | ⟨kd, vd, e, ht, hke, hve, hx⟩
        · refine ht _ F4 H4 σ4 E5 _ fun F5 H5 E6 s5 => ?_
          obtain ⟨fp6, E6⟩ := E6
          obtain ⟨a1, a2⟩ := stay F5 H5 E6.gr
          refine ⟨hlt, F5, _, ws, E3.unwipe hv E6 hσ hδ, s2.trans (R.sf.trans E6.gr.sf), a2, n2, nok E6, a1, ?_⟩
          rw [htk, List.filterMap_append, List.filterMap_cons, e, List.filterMap_nil, List.append_nil]
          exact rw'.mono (R.sf.trans E6.gr.sf)
        · refine ht _ F4 H4 σ4 E5 _ fun F5 H5 E6 s5 => ?_
          refine hke _ F5 H5 σ4 E6 _ fun y F6 H6 E7 s6 r6 => ?_
          refine hve _ F6 H6 σ4 E7 _ fun v F7 H7 E8 s7 r7 => ?_
          obtain ⟨fp8, E8⟩ := E8
          obtain ⟨a1, a2⟩ := stay F7 H7 E8.gr
          have E9 := E3.unwipe hv E8 hσ hδ
          have hw := rw'.mono (R.sf.trans E8.gr.sf)
          have nk := nok E8
          have last : ∀ (ws' : List (Key × V)), RepK c F7 ws' (putKD (((ds.take i).filterMap f).foldl (fun acc p => putKD acc p.1 p.2) []) kd vd) → i + 1 ≤ ds.length ∧ ∃ F' fp ws, EnvP c B F' (upd H7 Dl (HO.dK ws')) σ δ fp ∧ Same F1 F' ∧ F' Dl = none ∧ B.H0 Dl = none ∧ (∀ k, Dl ∉ fp k) ∧ (upd H7 Dl (HO.dK ws')) Dl = some (HO.dK ws) ∧ RepK c F' ws (((ds.take (i + 1)).filterMap f).foldl (fun acc p => putKD acc p.1 p.2) []) := fun ws' hws => by
            refine ⟨hlt, F7, _, ws', ?_, s2.trans (R.sf.trans E8.gr.sf), a2, n2, nk, upd_same, ?_⟩
            · have g8 : Grow B F7 (upd H7 Dl (HO.dK ws')) := ⟨E9.gr.sf, fun a o hm h => by
                rw [upd_ne (fun z => by subst z; rw [n2] at h; cases h)]; exact E9.gr.sh a o hm h, fun a h => by
                rw [upd_ne (fun z => by subst z; exact h n2)]; exact E9.gr.sd a h, E9.gr.fr, fun a o h => by
                rw [upd_ne (fun z => by subst z; rw [a2] at h; cases h)]; exact E9.gr.le a o h⟩
              exact E9.step g8 (Same.refl _) (fun k a ha => upd_ne fun z => by subst z; exact nk k ha) E9.ff
            · rw [htk, List.filterMap_append, List.filterMap_cons, e, List.filterMap_nil, List.foldl_append]
              exact hws
          have ey := rep_kV r6
          subst ey
          exact ⟨Dl, ws, kd, rfl, rfl, a1, sz6 hlen, last _ (RepK.put r7 hw)⟩
    · have e : i = ds.length := Nat.le_antisymm hle (Nat.le_of_not_lt hlt)
      subst e
      refine .inl ⟨y2, q _ F2 H2 fp [Dl] E2 (s1.trans s2) ⟨Dl, ws, rfl, rfl, hDl, ?_⟩ fun a ha => ?_⟩
      · rw [List.take_length] at rw'; exact rw'
      · rw [List.mem_singleton.mp ha]; exact ⟨n1, n2, n3⟩

end
end DL
set_option Elab.async false
set_option linter.all false
set_option maxRecDepth 100000
set_option maxHeartbeats 1000000
/-! DL13: more operations by values: tuple * n, tuple.count, list and sorted of a dict with tuple keys. -/
namespace DL
open PySem PySem.Spec PyProof.Rows L2
/-! ### t * n -/
theorem mul_one (l : Addr) (items : Array Value) (n : Nat) (dd : Option Addr) (sl : Array (Option Value)) (u : Tok) :
    Meets (Builtin.«tuple.__mul__» ⟨[.ref l, .int 1 u], []⟩) (fun _ R s => s.heap.get? l = some { cls := .type "tuple", dict := dd, data := .seq items n, slots := sl } ∧ R (.ok (.ret (Value.ref l))) s) :=
  .of_wp fun prog w A R s h => by
    obtain ⟨hp, g, d, tk, os⟩ := s
    obtain ⟨hl, h⟩ := h
    have f1 := AutoSeq1.idx_int
    have c1 : (items.isEmpty || (1 : Int) == 1) = true := by simp
    wp_walk using wpAny_loadPart' hl
    repeat (first
      | (refine wpAny_ite_true (decide_eq_true (by rw [c1])) ?_; wp_walk using wpAny_loadPart' hl)
      | (refine wpAny_ite_false (decide_eq_false (by decide)) ?_; wp_walk using wpAny_loadPart' hl))
    exact ⟨_, rfl, h⟩
theorem mul_zero (l : Addr) (items : Array Value) (n : Nat) (dd : Option Addr) (sl : Array (Option Value)) (u : Tok) (he : items.isEmpty = false) :
    Meets (Builtin.«tuple.__mul__» ⟨[.ref l, .int 0 u], []⟩) (fun _ R s => s.heap.get? l = some { cls := .type "tuple", dict := dd, data := .seq items n, slots := sl } ∧
      R (.ok (.ret (Value.ref s.heap.objs.size))) { s with heap := s.heap.push { cls := Value.type "tuple", data := Data.seq #[] }, toks := s.toks }) :=
  .of_wp fun prog w A R s h => by
    obtain ⟨hp, g, d, tk, os⟩ := s
    obtain ⟨hl, h⟩ := h
    have f1 := AutoSeq1.idx_int
    have c1 : (items.isEmpty || (0 : Int) == 1) = false := by rw [he]; rfl
    have c2 : (decide ((0 : Int) ≤ 0) || items.isEmpty) = true := by simp
    wp_walk using wpAny_loadPart' hl
    repeat (first
      | (refine wpAny_ite_false (decide_eq_false (by rw [c1]; exact Bool.false_ne_true)) ?_; wp_walk using wpAny_loadPart' hl)
      | (refine wpAny_ite_true (decide_eq_true (by rw [c2])) ?_; wp_walk using wpAny_loadPart' hl)
      | (refine wpAny_ite_false (decide_eq_false (by decide)) ?_; wp_walk using wpAny_loadPart' hl))
    exact ⟨_, rfl, h⟩

section
variable {X : Cx}
/-- t * k for 0 <= k -/
def rMulT (K : PySem.W.Frag) : R2 := fun x y H Q => ∃ l k xs, x = .ref l ∧ y = .int k ∧ SqT K H l xs ∧ xs ≠ [] ∧ 0 ≤ k ∧ k ≤ 1000 ∧ xs.length ≤ 1000 ∧ (k = 1 → Q (.ref l) H) ∧ (k ≠ 1 → ∀ p, H p = none → Q (.ref p) (upd H p (.tup (List.replicate k.toNat xs).flatten)))
theorem op_mulT : OpR X (binaryOp .Mult) (rMulT X.K) := by
  intro pins s σ H x y v u Q I rx ry h
  obtain ⟨l, k, xs, rfl, rfl, hT, hne, h1, h2, hz, q1, q⟩ := h
  by_cases hk2 : 2 ≤ k
  · exact op_repT pins s σ H _ _ v u Q I rx ry ⟨l, k, xs, rfl, rfl, hT, hne, hk2, h2, hz, q (by omega)⟩
  cases rx
  obtain ⟨t, rfl⟩ := ry
  obtain ⟨its, r, ⟨⟨cls, dd, data, sl⟩, ho, hc, n, hd⟩, hs⟩ := I.tuple hT
  simp only at hc hd
  subst hc hd
  have hle : its.length = xs.length := r.length.symm
  have hn : its ≠ [] := fun e => hne (by
    rw [e] at hle
    exact List.eq_nil_of_length_eq_zero hle.symm)
  have hi : its.toArray.isEmpty = false := by
    cases its with
    | nil => exact absurd rfl hn
    | cons a b => rfl
  by_cases hk1 : k = 1
  · subst hk1
    refine wpAny_binaryOp_repeat_ref (T := "tuple") (U := "int") (by decide) ⟨_, ho, rfl⟩ (fun s' => typeIs_int s' 1 t) noFill_tuple_mul F.fills_int_mul F.slot_int_rmul repeat_tuple F.slot_int_index.lookup
      (call_meets F.slot_int_rmul (typeIs_int s 1 t) F.entry_int_rmul (F.args_int_rmul_2 _ _) (int_rmul_tuple 1 t l its.toArray n dd sl)
        ⟨ho, rfl, ⟨_, ho, rfl⟩, call_meets F.slot_tuple_mul ⟨_, ho, rfl⟩ F.entry_tuple_mul (F.args_tuple_mul_2 _ _) (mul_one l its.toArray n dd sl t) ⟨ho, ?_⟩⟩)
    exact ⟨.ref l, H, I, rfl, q1 rfl⟩
  · obtain rfl : k = 0 := by omega
    refine wpAny_binaryOp_repeat_ref (T := "tuple") (U := "int") (by decide) ⟨_, ho, rfl⟩ (fun s' => typeIs_int s' 0 t) noFill_tuple_mul F.fills_int_mul F.slot_int_rmul repeat_tuple F.slot_int_index.lookup
      (call_meets F.slot_int_rmul (typeIs_int s 0 t) F.entry_int_rmul (F.args_int_rmul_2 _ _) (int_rmul_tuple 0 t l its.toArray n dd sl)
        ⟨ho, rfl, ⟨_, ho, rfl⟩, call_meets F.slot_tuple_mul ⟨_, ho, rfl⟩ F.entry_tuple_mul (F.args_tuple_mul_2 _ _) (mul_zero l its.toArray n dd sl t hi) ⟨ho, ?_⟩⟩)
    have hp : H s.heap.objs.size = none := I.hok.fresh (Nat.le_refl _)
    refine ⟨.ref s.heap.objs.size, upd H s.heap.objs.size (.tup []), I.laid (t' := s.toks) (fun b u e => Heap.get?_push_of_some _ e) (Nat.le_refl _) ?_, rfl, q (by decide) _ hp⟩
    exact ⟨Nat.zero_le _, [], .nil, ⟨_, Heap.get?_push_size _ rfl, rfl, _, rfl⟩⟩
end
section
variable {c : Cn} {B : Bx} {F F' H H' : Hp} {σ : L2.St} {δ δ1 δ2 δ3 : DE} {fp : Nat → List Addr} {ta tb te tc : TE} {tt tu : TT} {d e x y : D} {ds : List D} {t u : TS} {o : Out} {i j : Nat} {s : Sl} {ts : TA}
theorem repall_rep {vs : List V} (r : RepAll c F vs ds) : ∀ n : Nat, RepAll c F (List.replicate n vs).flatten (List.replicate n ds).flatten
  | 0 => .nil
  | n + 1 => by
    rw [List.replicate_succ, List.replicate_succ, List.flatten_cons, List.flatten_cons]
    exact r.append (repall_rep r n)
theorem ev_mulT {k : Int} (ha : Ev c ta δ (.tup ds) δ1) (hb : Ev c tb δ1 (.int k) δ2) (hne : ds ≠ []) (hz : ds.length ≤ 1000) (h0 : 0 ≤ k) (h1 : k ≤ 1000) : Ev c (tOp (rMulT c.K) ta tb) δ (.tup (List.replicate k.toNat ds).flatten) δ2 :=
  ev_op2 ha hb fun B F H σ v w E r1 r2 Q q => by
    have r1' := r1
    obtain ⟨a, vs, rfl, hs, r⟩ := r1.tup_inv
    cases r2.int_inv
    refine ⟨a, k, vs, rfl, rfl, sqT_mono E.le hs, fun e => hne (r.nil_iff.mp e), h0, h1, by rw [r.length]; exact hz, fun e => ?_, fun _ p hp => ?_⟩
    · subst e
      exact q _ F H E (Same.refl _) (by show Rep c F _ (.tup (List.replicate 1 ds).flatten); simpa using r1')
    · have R := Ret.new (o := .tup (List.replicate k.toNat vs).flatten) E.le hp
      exact q _ _ _ (E.ret R) R.sf (.tup upd_same (RepAll.mono R.sf (repall_rep r _)))
end
end DL
set_option Elab.async false
set_option linter.all false
set_option maxRecDepth 100000
set_option maxHeartbeats 1000000
/-! DL14: tuples of any make (D.sq), exact tuples, == != in of data at any depth, is of bools, t.count. -/
namespace DL
open PySem PySem.Spec PyProof.Rows L2
def D.sq : D → Option (List D)
  | .tup xs => some xs
  | .kt xs => some xs
  | .xt xs => some xs
  | _ => none
mutual
def D.py : D → Option PyData
  | .non => some .none
  | .bl b => some (.bool b)
  | .int i => some (.int i)
  | .str x => some (.str x)
  | .tup xs => (pys xs).map .tuple
  | .kt xs => (pys xs).map .tuple
  | .xt xs => (pys xs).map .tuple
  | .lst xs => (pys xs).map .list
  | _ => none
def pys : List D → Option (List PyData)
  | [] => some []
  | d :: ds => match D.py d, pys ds with
    | some k, some ks => some (k :: ks)
    | _, _ => none
end
section
variable {c : Cn} {F H : Hp}
theorem Rep.sq {v : V} {d : D} {ds : List D} (r : Rep c F v d) (h : d.sq = some ds) : ∃ a vs, v = .ref a ∧ SqT c.K F a vs ∧ RepAll c F vs ds := by
  cases r with
  | tup e ra => cases h; exact ⟨_, _, rfl, .inl (.inl e), ra⟩
  | kt e ra => cases h; exact ⟨_, _, rfl, e, ra⟩
  | xt e n ra => cases h; exact ⟨_, _, rfl, .inl (.inr ⟨_, e⟩), ra⟩
  | _ => cases h
mutual
theorem Rep.dp (l : Same F H) : ∀ {v : V} {d : D} {p : PyData}, Rep c F v d → d.py = some p → Dp c.K H v p
  | _, _, _, .non, e => by cases e; exact .non
  | _, _, _, .bl b, e => by cases e; exact .bl b
  | _, _, _, .int i, e => by cases e; exact .int i
  | _, _, _, .str x, e => by cases e; exact .str x
  | _, _, _, .tup h r, e => by
    unfold D.py at e
    obtain ⟨ps, hp, rfl⟩ := Option.map_eq_some_iff.mp e
    exact .tup (sqT_mono l (.inl (.inl h))) (RepAll.dp l r hp)
  | _, _, _, .kt h r, e => by
    unfold D.py at e
    obtain ⟨ps, hp, rfl⟩ := Option.map_eq_some_iff.mp e
    exact .tup (sqT_mono l h) (RepAll.dp l r hp)
  | _, _, _, .xt h _ r, e => by
    unfold D.py at e
    obtain ⟨ps, hp, rfl⟩ := Option.map_eq_some_iff.mp e
    exact .tup (sqT_mono l (.inl (.inr ⟨_, h⟩))) (RepAll.dp l r hp)
  | _, _, _, .lst h r, e => by
    unfold D.py at e
    obtain ⟨ps, hp, rfl⟩ := Option.map_eq_some_iff.mp e
    exact .lst (l.seq h) (RepAll.dp l r hp)
  | _, _, _, .dk _ _, e => by cases e
  | _, _, _, .dt _ _, e => by cases e
  | _, _, _, .ins _ _, e => by cases e
  | _, _, _, .raw _, e => by cases e
theorem RepAll.dp (l : Same F H) : ∀ {vs : List V} {ds : List D} {ps : List PyData}, RepAll c F vs ds → pys ds = some ps → DpAll c.K H vs ps
  | _, _, _, .nil, e => by cases e; exact .nil
  | _, d :: ds, _, .cons r t, e => by
    unfold pys at e
    cases h1 : D.py d with
    | none => rw [h1] at e; cases e
    | some k =>
      cases h2 : pys ds with
      | none => rw [h1, h2] at e; cases e
      | some ks =>
        rw [h1, h2] at e
        cases e
        exact .cons (Rep.dp l r h1) (RepAll.dp l t h2)
end
end
section
variable {X : Cx}
/-! ### exact tuples: readings -/
def tTupX (t : TA) : TE := fun σ H Q => t σ H fun xs H1 => xs.length ≤ sizeLine ∧ ∀ p (ob : Obj), ob.dict = none → H1 p = none → Q (.ref p) (upd H1 p (.frz ob (.tup xs)))
theorem pe_tupX {es : List Expr} {t : TA} {pos : Pos} {x1} (h : PA X es t) : PE X (.Tuple es x1 pos) (tTupX t) := by
  refine ⟨fun pins s σ H Q I hq => ?_⟩
  refine wpAny_Tuple_spliced (thn (h.run pos pins s σ H _ I hq) fun us s1 ⟨xs, H1, I1, r, z, q⟩ => ⟨by rw [← r.length]; exact z, ?_⟩)
  have hf : H1 s1.heap.objs.size = none := I1.hok.fresh (Nat.le_refl _)
  refine ⟨.ref s1.heap.objs.size, upd H1 s1.heap.objs.size (.frz { cls := .type "tuple", data := .seq us.toArray } (.tup xs)), I1.laid (t' := s1.toks) (fun b u e => Heap.get?_push_of_some _ e) (Nat.le_refl _) ?_, rfl, q _ _ rfl hf⟩
  exact ⟨Heap.get?_push_size _ rfl, z, us, r, ⟨_, Heap.get?_push_size _ rfl, rfl, _, rfl⟩⟩
def rCatX (K : PySem.W.Frag) : R2 := fun x y H Q => ∃ a b xs ys, x = .ref a ∧ y = .ref b ∧ SqT K H a xs ∧ SqT K H b ys ∧ xs.length + ys.length ≤ sizeLine ∧
  (xs = [] → Q (.ref b) H) ∧ (xs ≠ [] → ys = [] → Q (.ref a) H) ∧ (xs ≠ [] → ys ≠ [] → ∀ p (ob : Obj), ob.dict = none → H p = none → Q (.ref p) (upd H p (.frz ob (.tup (xs ++ ys)))))
theorem op_catX : OpR X (binaryOp .Add) (rCatX X.K) := by
  intro pins s σ H x y v u Q I rx ry h
  obtain ⟨a, b, xs, ys, rfl, rfl, ha, hb, hz, q0, q1, q2⟩ := h
  cases rx
  cases ry
  obtain ⟨its, r1, p1, _⟩ := I.tuple ha
  obtain ⟨its2, r2, p2, _⟩ := I.tuple hb
  by_cases hx : xs = []
  · subst hx
    cases r1
    exact cat_tup0 p1 p2 ⟨.ref b, H, I, rfl, q0 rfl⟩
  · refine HT.cat_tup p1 p2 (fun z => hx (r1.nil_iff.mp z)) (fun z => ⟨.ref a, H, I, rfl, q1 hx (r2.nil_iff.mp z)⟩) (fun z => ?_) (by rw [← r1.length, ← r2.length]; exact hz)
    refine ⟨.ref s.heap.objs.size, _, I.laid (t' := s.toks) (o := .frz { cls := .type "tuple", data := .seq (its ++ its2).toArray } (.tup (xs ++ ys))) (fun b ob q => Heap.get?_push_of_some _ q) (Nat.le_refl _) ?_, rfl, q2 hx (fun w => z (r2.nil_iff.mpr w)) _ _ rfl (I.hok.fresh (Nat.le_refl _))⟩
    exact ⟨Heap.get?_push_size _ rfl, by rw [List.length_append]; exact hz, _, r1.append r2, IsTup.new _ _⟩
def rTupOfX (K : PySem.W.Frag) : List V → Hp → VK → Prop := fun xs H Q => ∃ p ys, xs = [.ref p] ∧ SqL K H p ys ∧ ∀ l (ob : Obj), ob.dict = none → H l = none → Q (.ref l) (upd H l (.frz ob (.tup ys)))
theorem cr_tupOfX : CallR X (.type "tuple") (rTupOfX X.K) := by
  intro pins s σ H xs us Q I r h
  obtain ⟨p, ys, rfl, hq, q⟩ := h
  obtain ⟨u, rfl, rx⟩ := vals1 r
  cases rx
  obtain ⟨its, r', pl, hz⟩ := I.list hq
  have hlen := r'.length
  refine call_tuple_list pl.isList (fun h' kp => ?_) (by simp only [List.size_toArray] <;> omega)
  have I1 : Inv X pins σ H { s with heap := h' } := I.kept (t' := s.toks) kp
  have I2 : Inv X pins σ (upd H h'.objs.size (.frz { cls := .type "tuple", data := .seq its.toArray } (.tup ys))) { s with heap := h'.push { cls := .type "tuple", data := .seq its.toArray } } :=
    I1.laid (t' := s.toks) (fun b o e => Heap.get?_push_of_some _ e) (Nat.le_refl _) ⟨Heap.get?_push_size _ rfl, hz, its, r', IsTup.new _ _⟩
  exact ⟨.ref h'.objs.size, _, I2, rfl, q _ _ rfl (I1.hok.fresh (Nat.le_refl _))⟩
/-! ### t.count(x) -/
def rCnt (K : PySem.W.Frag) (x : V) (ys : List V) (H : Hp) (Q : VK) : Prop := ∃ y d ds, ys = [y] ∧ Dp K H x (.tuple ds) ∧ Dp K H y d ∧ SeqAt.shaped (.tuple ds) = true ∧ SeqAt.shaped d = true ∧ Q (.int ((ds.countP fun z => PyData.eqv z d : Nat) : Int)) H
def tCnt (K : PySem.W.Frag) (to : TE) (ta : TA) : TE := fun σ H Q => to σ H fun x H1 => (∃ a ob xs, x = .ref a ∧ H1 a = some (.frz ob (.tup xs)) ∧ ob.dict = none) ∧ ta σ H1 fun y H2 => rCnt K x y H2 Q
theorem countX {h : Heap} {us : List Value} {ds : List PyData} {as : List Addr} {d : PyData} (hc : PyData.canLayAll0 ds = true) (r : ReadsAll h us ds as) : us.countP (fun y => PyData.eqv (SeqAt.readOf h y) d) = ds.countP fun y => PyData.eqv y d := by
  have e := SeqAt.readsAll_map ds us as hc r
  rw [← e, List.countP_map]
  rfl
theorem pe_cnt (hu : X.A.units + 65 < cLine) {o e : Expr} {to : TE} {ta : TA} {apos cpos : Pos} (ho : PE X o to) (ha : PA X [e] ta)
    (hbase : attributeBase o "count" X.env (eval o X.env) = eval o X.env := by rfl)
    (hfew : ((backTo cpos (starEach [e] X.env)).all (fun x => !x.1) && (backToKw cpos (keywordEach [] X.env)).all (fun x => x.1.isSome)
      && decide (([e] : List Expr).length + ([] : List Keyword).length + (if ([] : List Keyword).isEmpty then 0 else 1) < 30)) = true := by rfl)
    (hline : (apos.endLine == cpos.line) = true := by rfl) (hs : starEach [e] X.env = (false, eval e X.env) :: starEach [] X.env := by rfl) (hplain : (backTo cpos (starEach [] X.env)).any (·.1) = false := by rfl) :
    PE X (.Call (.Attribute o "count" apos) [e] [] cpos) (tCnt X.K to ta) := by
  refine ⟨fun pins s σ H Q I h => ?_⟩
  refine wpAny_Call_method_late hbase hfew hline rfl (thn (ho.run pins s σ H _ I h) fun v s1 ⟨x, H1, I1, r1, ty, q1⟩ => ?_)
  obtain ⟨a, ob, xs, rfl, hf, hn⟩ := ty
  cases (show v = Value.ref a from r1)
  have hob : s1.heap.get? a = some ob := (I1.hok a _ hf).1
  obtain ⟨its, _, p1, _⟩ := I1.tuple (show SqT X.K H1 a xs from .inl (.inr ⟨_, hf⟩))
  refine ⟨"tuple", "tuple.count", PySem.F.plainAttrs_tuple, PySem.F.slot_tuple_count, PySem.F.type_tuple_count, p1.typeIs, (fun b eb => by cases eb; exact ⟨ob, hob, hn⟩), ?_⟩
  have hA := ha.run cpos pins s1 σ H1 _ I1 q1
  rw [hs] at hA ⊢
  refine Calls.callWith_builtin (by show (false || (backTo cpos (starEach [] X.env)).any (·.1)) = false; rw [hplain] <;> rfl) (Calls.evalArgs_plain ?_)
  refine thn hA fun us s2 hq2 => ?_
  obtain ⟨vs, H2, I2, r2, y, d, ds, rfl, h1, h2, h3, h4, q2⟩ := hq2
  obtain ⟨u, rfl, ru⟩ := vals1 r2
  obtain ⟨bs, rr⟩ := Dp.reads I2 d y u h2 ru
  cases h1 with
  | tup hs1 ha1 =>
    obtain ⟨its2, rv, ⟨⟨cls, dd, data, sls⟩, ho2, hc2, n2, hd2⟩, hlen⟩ := I2.tuple hs1
    simp only at hc2 hd2
    subst hc2 hd2
    obtain ⟨as, hr⟩ := Dp.readsAll I2 ds _ its2 ha1 rv
    have hxs : PyData.canLayAll0 ds = true := SeqAt.canLay_of_shaped h3
    refine call_meets PySem.F.slot_tuple_count ⟨_, ho2, rfl⟩ PySem.F.entry_tuple_count (PySem.F.args_tuple_count_2 _ _) (SeqAt.tuple_countAt a its2.toArray n2 dd sls u _)
      ⟨ho2, SeqAt.items_eqAt (vs := its2.toArray) (show ReadsAll s2.heap its2.toArray.toList ds as from hr) rr hxs (SeqAt.canLay_of_shaped h4) (room_in_shaped h4 hu), ?_⟩
    refine ⟨.int _, H2, I2.kept (h' := s2.heap) (t' := s2.toks + 1) (fun b o e => e), ⟨_, rfl⟩, ?_⟩
    have ec : its2.toArray.toList.countP (fun y => PyData.eqv (SeqAt.readOf s2.heap y) d) = ds.countP fun z => PyData.eqv z d := countX hxs hr
    rw [ec]
    exact q2
/-! ### in: data of any depth -/
def rInA (K : PySem.W.Frag) (neg : Bool) : R2 := fun x y H Q => ∃ d ds, Dp K H x d ∧ (Dp K H y (.list ds) ∨ Dp K H y (.tuple ds)) ∧ SeqAt.shaped d = true ∧ SeqAt.shaped (.list ds) = true ∧ Q (.bl (if neg then !(ds.any fun z => PyData.eqv z d) else ds.any fun z => PyData.eqv z d)) H
theorem op_inA (hu : X.A.units + 65 < cLine) : OpR X (compareOp .In) (rInA X.K false) := by
  intro pins s σ H x y v u Q I rx ry h
  obtain ⟨d, ds, hd, he | he, sd, se, q⟩ := h
  · obtain ⟨as, r1⟩ := Dp.reads I d x v hd rx
    obtain ⟨bs, r2⟩ := Dp.reads I (.list ds) y u he ry
    exact SeqAt.in_list_reads r2 r1 (SeqAt.canLay_of_shaped se) (SeqAt.canLay_of_shaped sd) (room_in_shaped sd hu) ⟨.bl _, H, I, rfl, q⟩
  · obtain ⟨as, r1⟩ := Dp.reads I d x v hd rx
    obtain ⟨bs, r2⟩ := Dp.reads I (.tuple ds) y u he ry
    exact SeqAt.in_tuple_reads r2 r1 (SeqAt.canLay_of_shaped se) (SeqAt.canLay_of_shaped sd) (room_in_shaped sd hu) ⟨.bl _, H, I, rfl, q⟩
theorem op_notInA (hu : X.A.units + 65 < cLine) : OpR X (compareOp .NotIn) (rInA X.K true) := by
  intro pins s σ H x y v u Q I rx ry h
  obtain ⟨d, ds, hd, he | he, sd, se, q⟩ := h
  · obtain ⟨as, r1⟩ := Dp.reads I d x v hd rx
    obtain ⟨bs, r2⟩ := Dp.reads I (.list ds) y u he ry
    exact SeqAt.notIn_list_reads r2 r1 (SeqAt.canLay_of_shaped se) (SeqAt.canLay_of_shaped sd) (room_in_shaped sd hu) ⟨.bl _, H, I, rfl, q⟩
  · obtain ⟨as, r1⟩ := Dp.reads I d x v hd rx
    obtain ⟨bs, r2⟩ := Dp.reads I (.tuple ds) y u he ry
    exact SeqAt.notIn_tuple_reads r2 r1 (SeqAt.canLay_of_shaped se) (SeqAt.canLay_of_shaped sd) (room_in_shaped sd hu) ⟨.bl _, H, I, rfl, q⟩
end
section
variable {c : Cn} {B : Bx} {F F' H H' : Hp} {σ : L2.St} {δ δ1 δ2 δ3 : DE} {fp : Nat → List Addr} {ta tb te tc : TE} {tt tu : TT} {d e x y : D} {ds es : List D} {t u : TS} {o : Out} {i j : Nat} {s : Sl} {ts : TA}
/-! ### tuples of any make -/
theorem ev_ixS {n : Int} (ha : Ev c ta δ x δ1) (hb : Ev c tb δ1 (.int n) δ2) (h : atI ds n = some d) (hs : x.sq = some ds := by rfl) : Ev c (tOp (rIxT c.K) ta tb) δ d δ2 :=
  ev_op2 ha hb fun B F H σ v w E r1 r2 Q q => by
    obtain ⟨a, vs, rfl, hq, r⟩ := r1.sq hs
    cases r2.int_inv
    obtain ⟨v, hv, rv⟩ := atI_rep r h
    exact ⟨a, vs, n, v, rfl, rfl, sqT_mono E.le hq, hv, q _ F H E (Same.refl _) rv⟩
theorem evi_seq (h : Ev c te δ x δ1) (hs : x.sq = some ds := by rfl) : EvI c (iTup c.K te) δ ds δ1 := fun B F H σ E R q => h _ F H σ E _ fun v F1 H1 E1 s1 r1 => by
  obtain ⟨a, vs, rfl, hs, r⟩ := r1.sq hs
  refine ⟨a, rfl, ⟨vs, sqT_mono E1.le hs⟩, q _ F1 H1 E1 s1 fun F2 H2 k1 k2 => ⟨fun i hi => ?_, ⟨vs, sqT_mono (k1.trans k2) hs, by rw [r.length]; exact Nat.le_refl _⟩, fun i d hd x H3 hy => ?_⟩⟩
  · obtain ⟨x, hx, _⟩ := r.get (List.getElem?_eq_getElem hi)
    exact ⟨vs, x, sqT_mono (k1.trans k2) hs, hx⟩
  · obtain ⟨rfl, f⟩ := hy
    obtain ⟨w, hw, rw'⟩ := r.get hd
    have e : x = w := Option.some.inj ((f _ (sqT_mono (k1.trans k2) hs)).symm.trans hw)
    rw [e]
    exact ⟨F2, Ret.refl k2, rw'.mono k1⟩
/-! ### exact tuples -/
theorem ev_tupX {tl : TA} (h : EvA c tl δ ds δ1) (hz : ds.length ≤ 100000) : Ev c (tTupX tl) δ (.xt ds) δ1 := fun B F H σ E Q q => h _ F H σ E _ fun vs F1 H1 E1 s1 r1 =>
  ⟨by rw [r1.length]; exact Nat.le_trans hz (by decide), fun p ob hn hp => by
    have R := Ret.new (o := .frz ob (.tup vs)) E1.le hp
    exact q _ _ _ (E1.ret R) (s1.trans R.sf) (.xt upd_same hn (r1.mono R.sf))⟩
theorem ev_catX (ha : Ev c ta δ (.xt ds) δ1) (hb : Ev c tb δ1 (.xt es) δ2) (hz : ds.length + es.length ≤ 100000) : Ev c (tOp (rCatX c.K) ta tb) δ (.xt (ds ++ es)) δ2 :=
  ev_op2 ha hb fun B F H σ v w E r1 r2 Q q => by
    have r1' := r1; have r2' := r2
    obtain ⟨a, vs, rfl, hs, r⟩ := r1.sq rfl
    obtain ⟨b, ws, rfl, hs', r'⟩ := r2.sq rfl
    refine ⟨a, b, vs, ws, rfl, rfl, sqT_mono E.le hs, sqT_mono E.le hs', by rw [r.length, r'.length]; exact sz5 hz, fun e => ?_, fun _ e => ?_, fun _ _ p ob hn hp => ?_⟩
    · have e' := r.nil_iff.mp e
      subst e'
      exact q _ F H E (Same.refl _) r2'
    · have e' := r'.nil_iff.mp e
      subst e'
      exact q _ F H E (Same.refl _) (by rw [List.append_nil]; exact r1')
    · have R := Ret.new (o := .frz ob (.tup (vs ++ ws))) E.le hp
      exact q _ _ _ (E.ret R) R.sf (.xt upd_same hn (RepAll.mono R.sf (r.append r')))
theorem ev_tupLX (h : EvA c ts δ [.lst ds] δ1) : Ev c (tCB (rTupOfX c.K) ts) δ (.xt ds) δ1 := fun B F H σ E Q q => h _ F H σ E _ fun vs F1 H1 E1 s1 r1 => by
  cases r1 with
  | cons r t => cases t with
    | nil =>
      obtain ⟨a, ws, rfl, hs, r⟩ := r.lst_inv
      refine ⟨a, ws, rfl, E1.le.seq hs, fun p ob hn hp => ?_⟩
      have R := Ret.new (o := .frz ob (.tup ws)) E1.le hp
      exact q _ _ _ (E1.ret R) (s1.trans R.sf) (.xt upd_same hn (RepAll.mono R.sf r))
theorem Same.at_ (l : Same F H) {a : Addr} {o : HO} (h : F a = some o) : H a = some o := l _ _ h
theorem ev_cnt {ps : List PyData} {p : PyData} (ho : Ev c ta δ (.xt ds) δ1) (ha : EvA c ts δ1 [e] δ2) (h1 : pys ds = some ps) (h2 : e.py = some p) (h3 : SeqAt.shaped (.tuple ps) = true) (h4 : SeqAt.shaped p = true) :
    Ev c (tCnt c.K ta ts) δ (.int ((ps.countP fun z => PyData.eqv z p : Nat) : Int)) δ2 := fun B F H σ E Q q => ho _ F H σ E _ fun v F1 H1 E1 s1 r1 => by
  have r1' := r1
  cases r1 with
  | xt hf hn r => 
    refine ⟨⟨_, _, _, rfl, E1.le _ _ hf, hn⟩, ha _ F1 H1 σ E1 _ fun ws F2 H2 E2 s2 r2 => ?_⟩
    cases r2 with
    | cons r2 rt =>
    cases rt
    exact ⟨_, p, ps, rfl, Rep.dp E2.le (r1'.mono s2) (by unfold D.py; rw [h1]; rfl), Rep.dp E2.le r2 h2, h3, h4, q _ F2 H2 E2 (s1.trans s2) (.int _)⟩
/-! ### == != in -/
theorem ev_eqD {p q : PyData} (ha : Ev c ta δ x δ1) (hb : Ev c tb δ1 y δ2) (h1 : x.py = some p) (h2 : y.py = some q) (h3 : SeqAt.shaped p = true) (h4 : SeqAt.shaped q = true) : Ev c (tOp (rEqD c.K) ta tb) δ (.bl (PyData.eqv p q)) δ2 :=
  ev_op2 ha hb fun B F H σ v w E r1 r2 Q k => ⟨p, q, r1.dp E.le h1, r2.dp E.le h2, h3, h4, k _ F H E (Same.refl _) (.bl _)⟩
theorem ev_neD {p q : PyData} (ha : Ev c ta δ x δ1) (hb : Ev c tb δ1 y δ2) (h1 : x.py = some p) (h2 : y.py = some q) (h3 : SeqAt.shaped p = true) (h4 : SeqAt.shaped q = true) : Ev c (tOp (rNeD c.K) ta tb) δ (.bl (!PyData.eqv p q)) δ2 :=
  ev_op2 ha hb fun B F H σ v w E r1 r2 Q k => ⟨p, q, r1.dp E.le h1, r2.dp E.le h2, h3, h4, k _ F H E (Same.refl _) (.bl _)⟩
def D.its : D → Option (List D)
  | .tup xs => some xs
  | .kt xs => some xs
  | .xt xs => some xs
  | .lst xs => some xs
  | _ => none
theorem dp_its {v : V} {p : List PyData} (l : Same F H) (r : Rep c F v d) (h : d.its = some ds) (hp : pys ds = some p) : Dp c.K H v (.list p) ∨ Dp c.K H v (.tuple p) := by
  cases d with
  | tup xs => cases h; exact .inr (r.dp l (by unfold D.py; rw [hp]; rfl))
  | kt xs => cases h; exact .inr (r.dp l (by unfold D.py; rw [hp]; rfl))
  | xt xs => cases h; exact .inr (r.dp l (by unfold D.py; rw [hp]; rfl))
  | lst xs => cases h; exact .inl (r.dp l (by unfold D.py; rw [hp]; rfl))
  | _ => cases h
theorem ev_inA {p : PyData} {ps : List PyData} {neg : Bool} (ha : Ev c ta δ x δ1) (hb : Ev c tb δ1 y δ2) (h1 : x.py = some p) (h2 : pys ds = some ps) (h3 : SeqAt.shaped p = true) (h4 : SeqAt.shaped (.list ps) = true) (hs : y.its = some ds := by rfl) :
    Ev c (tOp (rInA c.K neg) ta tb) δ (.bl (if neg then !(ps.any fun z => PyData.eqv z p) else ps.any fun z => PyData.eqv z p)) δ2 :=
  ev_op2 ha hb fun B F H σ v w E r1 r2 Q k => ⟨p, ps, r1.dp E.le h1, dp_its E.le r2 hs h2, h3, h4, k _ F H E (Same.refl _) (.bl _)⟩
/-! ### is -/
theorem ev_isB {a b : Bool} (ha : Ev c ta δ (.bl a) δ1) (hb : Ev c tb δ1 (.bl b) δ2) : Ev c (tOp rIsB ta tb) δ (.bl (decide (a = b))) δ2 :=
  ev_op2 ha hb fun B F H σ v w E r1 r2 Q k => ⟨a, b, r1.bl_inv, r2.bl_inv, k _ F H E (Same.refl _) (.bl _)⟩
theorem ev_isNB {a b : Bool} (ha : Ev c ta δ (.bl a) δ1) (hb : Ev c tb δ1 (.bl b) δ2) : Ev c (tOp rNotB ta tb) δ (.bl (!decide (a = b))) δ2 :=
  ev_op2 ha hb fun B F H σ v w E r1 r2 Q k => ⟨a, b, r1.bl_inv, r2.bl_inv, k _ F H E (Same.refl _) (.bl _)⟩
end
end DL
set_option Elab.async false
set_option linter.all false
set_option maxRecDepth 100000
set_option maxHeartbeats 1000000
/-! DL15: dicts by data: d[k] = v, d[k], k in d; list(d), sorted(d). -/
namespace DL
open PySem PySem.Spec PyProof.Rows L2
section
variable {X : Cx} {c : Cn}
/-! ### a dict whose keys are tuples: readings -/
def rInT (c : Cn) (neg : Bool) : R2 := fun x y H Q => ∃ (F : Hp) (a b : Addr) (dk : D) (k : NestedKey) (xs : List (NestedKey × Addr × Value)) (kvs : List (D × D)), Same F H ∧ y = .ref a ∧ x = .ref b ∧ H a = some (dtO c.P c.w a xs) ∧ RepT c F xs kvs ∧ Rep c F (.ref b) dk ∧ D.nk dk = some k ∧ k.depth ≤ 8 ∧
  Q (.bl (if neg then !(kvs.any fun p => sameK p.1 dk) else kvs.any fun p => sameK p.1 dk)) H
theorem op_inT (hc : c = ⟨X.prog, X.w, X.K⟩) (hu : X.A.units + 20 < cLine) : OpR X (compareOp .In) (rInT c false) := by
  intro pins s σ H x y v u Q I rx ry h
  obtain ⟨F, a, b, dk, k, xs, kvs, le, rfl, rfl, ha, rt, rk, hk, hdep, q⟩ := h
  cases rx
  cases ry
  obtain ⟨z, hs, hm⟩ := dt_dict hc I ha (RepT.mono le rt)
  have key : (nestedKind X.prog X.w).is s.heap k b := ⟨Rep.key hc I (rk.mono le) rfl hk, hdep⟩
  refine wpAny_in_heap (show X.A.in1.units + 8 < cLine by show X.A.units + 1 + 8 < cLine; omega) key hs hm ?_
  rw [rt.any hk]
  exact ⟨.bl _, H, I.tok _, rfl, q⟩
theorem op_notInT (hc : c = ⟨X.prog, X.w, X.K⟩) (hu : X.A.units + 20 < cLine) : OpR X (compareOp .NotIn) (rInT c true) := by
  intro pins s σ H x y v u Q I rx ry h
  obtain ⟨F, a, b, dk, k, xs, kvs, le, rfl, rfl, ha, rt, rk, hk, hdep, q⟩ := h
  cases rx
  cases ry
  obtain ⟨z, hs, hm⟩ := dt_dict hc I ha (RepT.mono le rt)
  have key : (nestedKind X.prog X.w).is s.heap k b := ⟨Rep.key hc I (rk.mono le) rfl hk, hdep⟩
  refine wpAny_notIn_heap (show X.A.in1.units + 8 < cLine by show X.A.units + 1 + 8 < cLine; omega) key hs hm ?_
  rw [rt.any hk]
  exact ⟨.bl _, H, I.tok _, rfl, q⟩
def rGetT (c : Cn) : R2 := fun x y H Q => ∃ (F : Hp) (a b : Addr) (dk d : D) (k : NestedKey) (xs : List (NestedKey × Addr × Value)) (kvs : List (D × D)), Same F H ∧ x = .ref a ∧ y = .ref b ∧ H a = some (dtO c.P c.w a xs) ∧ RepT c F xs kvs ∧ Rep c F (.ref b) dk ∧ D.nk dk = some k ∧ k.depth ≤ 8 ∧
  valT kvs dk = some d ∧ ∀ v, Rep c F v d → Q v H
theorem op_getT (hc : c = ⟨X.prog, X.w, X.K⟩) (hu : X.A.units + 20 < cLine) : OpR X getItem (rGetT c) := by
  intro pins s σ H x y v u Q I rx ry h
  obtain ⟨F, a, b, dk, d, k, xs, kvs, le, rfl, rfl, ha, rt, rk, hk, hdep, hv, q⟩ := h
  cases rx
  cases ry
  obtain ⟨z, hs, hm⟩ := dt_dict hc I ha (RepT.mono le rt)
  have key : (nestedKind X.prog X.w).is s.heap k b := ⟨Rep.key hc I (rk.mono le) rfl hk, hdep⟩
  obtain ⟨b', u', v', h1, h2, h3⟩ := rt.val hk hv
  exact wpAny_getItem_heap (show X.A.in1.units + 8 < cLine by show X.A.units + 1 + 8 < cLine; omega) key hm h1 ⟨v', H, I.tok _, h2, q v' h3⟩
/-! ### the keys as a list -/
theorem keys_rep {F : Hp} : ∀ {xs : List (NestedKey × Addr × Value)} {kvs : List (D × D)}, RepT c F xs kvs → RepAll c F (xs.map fun x => V.ref x.2.1) (kvs.map (·.1))
  | _, _, .nil => .nil
  | _, _, .cons _ k _ _ t => .cons k (keys_rep t)
theorem vals_keys : ∀ xs : List (NestedKey × Addr × Value), Vals (xs.map fun x => V.ref x.2.1) (xs.map fun x => Value.ref x.2.1)
  | [] => .nil
  | x :: xs => .cons rfl (vals_keys xs)
theorem items_keys {P : Program} {w : World} {es : Array DictEntry} {xs : List (NestedKey × Addr × Value)} {acc : Array Value} (he : es.toList = xs.map (entryOfKey (nestedKind P w))) (it : ItemsOf (fun i v => ∃ en : DictEntry, es[i]? = some en ∧ v = en.key) acc es.size) :
    acc.toList = xs.map fun x => Value.ref x.2.1 := by
  have l1 : es.size = xs.length := size_of_entries he
  apply List.ext_getElem?
  intro j
  rw [List.getElem?_map]
  cases hj : acc.toList[j]? with
  | none =>
    have h1 := List.getElem?_eq_none_iff.mp hj
    have hl : acc.toList.length = xs.length := by rw [Array.length_toList, it.1]; exact l1
    rw [List.getElem?_eq_none (by omega)]
    all_goals rfl
  | some v =>
    obtain ⟨en, hen, hv⟩ := it.2 j v (by rw [← Array.getElem?_toList]; exact hj)
    have qe := entry_at he j
    rw [hen] at qe
    cases hb : xs[j]? with
    | none =>
      rw [hb] at qe
      exact nomatch (show some en = none from qe)
    | some b =>
      rw [hb] at qe
      have e2 : en = entryOfKey (nestedKind P w) b := Option.some.inj qe
      rw [hv, e2]
      all_goals rfl
def rListT (c : Cn) : List V → Hp → VK → Prop := fun vs H Q => ∃ (F : Hp) (a : Addr) (xs : List (NestedKey × Addr × Value)) (kvs : List (D × D)), Same F H ∧ vs = [.ref a] ∧ H a = some (dtO c.P c.w a xs) ∧ RepT c F xs kvs ∧ ∀ p ws, H p = none → RepAll c F ws (kvs.map (·.1)) → Q (.ref p) (upd H p (.lst ws))
theorem cr_listT (hc : c = ⟨X.prog, X.w, X.K⟩) (hcalm : X.calm = true) : CallR X (.type "list") (rListT c) := by
  intro pins s σ H xs us Q I r h
  obtain ⟨F, a, ks, kvs, le, rfl, ha, rt, q⟩ := h
  obtain ⟨u, rfl, rx⟩ := r.one
  cases rx
  obtain ⟨h1, h2, h3, o, es, ep, ho, hx, hdt, he, hn⟩ := dt_at (I.hok a _ (show H a = some (dtO X.prog X.w a ks) by rw [hc] at ha; exact ha))
  have l1 : es.size = ks.length := size_of_entries he
  refine PySem.W.kdl_call (kdl_raw h2 hx hdt) (I.ok.hd hcalm) ho (by omega) fun h' tk acc' c' kp e it => ?_
  have ea := items_keys he it
  refine ⟨.ref s.heap.objs.size, _, I.laid (t' := tk) (o := .lst (ks.map fun x => V.ref x.2.1)) kp (Nat.le_refl _) ?_, rfl, q _ _ (I.hok.fresh (Nat.le_refl _)) (keys_rep rt)⟩
  exact ⟨by rw [List.length_map]; exact h1, acc'.toList, c', by rw [ea]; exact vals_keys ks, by rw [Array.toArray_toList]; exact e⟩
def rSortT {c : Cn} {α : Type} (S : SD c α) : List V → Hp → VK → Prop := fun vs H Q => ∃ (F : Hp) (a : Addr) (xs : List (NestedKey × Addr × Value)) (kvs : List (D × D)) (ds ys : List α), Same F H ∧ vs = [V.ref a] ∧ H a = some (dtO c.P c.w a xs) ∧ RepT c F xs kvs ∧ kvs.map (·.1) = ds.map S.enc ∧
  (2 ≤ ds.length → ∀ d ∈ ds, S.ok d) ∧ ys.Perm ds ∧ ys.Pairwise (fun x y => S.lt y x = false) ∧ ∀ p ws', H p = none → RepAll c F ws' (ys.map S.enc) → Q (.ref p) (upd H p (.lst ws'))
theorem cr_sortT {X : Cx} {c : Cn} (hc : c = ⟨X.prog, X.w, X.K⟩) (hcalm : X.calm = true) {α : Type} [Inhabited α] (S : SD c α) (hA : S.room X.A.in1.in1) : CallR X (.builtin "sorted") (rSortT S) := by
  intro pins s σ H vs us Q I r h
  obtain ⟨F, a, ks, kvs, ds, ys, le, rfl, ha, rt, hk, hok, hp, hl, q⟩ := h
  rw [Vals.ref1 r]
  obtain ⟨h1, h2, h3, o, es, ep, ho, hx, hdt, he, hn⟩ := dt_at (I.hok a _ (show H a = some (dtO X.prog X.w a ks) by rw [hc] at ha; exact ha))
  have l1 : es.size = ks.length := size_of_entries he
  have rp : RepAll c F (ks.map fun x => V.ref x.2.1) (ds.map S.enc) := by rw [← hk]; exact keys_rep rt
  obtain ⟨k, k1, k2, k3, k4⟩ := S.pick hc I le rp (vals_keys ks) hok
  subst hc
  refine S.toSK.sortedD S.tot hA (kdl_raw h2 hx hdt) (I.ok.hd hcalm) ho (by omega) fun h₁ tk acc kp it => ⟨k, ?_, fun h' d out g1 g2 g3 g4 ⟨n, g5⟩ => ?_⟩
  · have ea := items_keys he it
    have ea' : acc = ks.map fun x => Value.ref x.2.1 := by simpa using ea
    rw [ea']
    intro z v hv
    exact S.keeps (k4 z v hv) fun b o _ e => kp b o e
  · have ea := items_keys he it
    have ea' : acc = ks.map fun x => Value.ref x.2.1 := by simpa using ea
    rw [ea'] at g1
    have e : out.map k = ys := by
      refine S.tot.uniq ?_ g2 hl
      have p1 := g1.map k
      rw [k1] at p1
      exact p1.trans hp.symm
    have hout : ∀ u ∈ out, u ∈ ks.map fun x => Value.ref x.2.1 := fun u hu => g1.mem_iff.mp hu
    have hlen : (out.map bkR).length ≤ sizeLine := by rw [List.length_map, g1.length_eq, List.length_map]; exact h1
    have hw : RepAll ⟨X.prog, X.w, X.K⟩ F (out.map bkR) (ys.map S.enc) := by
      rw [← e]
      exact repAll_bk out fun u hu => k3 u (hout u hu)
    have I1 : Inv X pins σ H { s with heap := h₁, toks := tk } := I.kept kp
    exact ⟨.ref d, upd H d (.lst (out.map bkR)), I1.laid (t' := tk) (fun b o e => g3 b o e) g4 ⟨hlen, out, n, vals_bk out fun u hu => k2 u (hout u hu), g5⟩, rfl, q d _ (I1.hok.fresh g4) hw⟩
end
section
variable {c : Cn} {B : Bx} {F F' H H' : Hp} {σ : L2.St} {δ δ1 δ2 δ3 : DE} {fp : Nat → List Addr} {ta tb te tc ty tv : TE} {tt tu : TT} {d e x y dk : D} {ds es : List D} {t u : TS} {o : Out} {i j : Nat} {s : Sl} {ts : TA}
/-! ### dicts of ints and texts -/
theorem run_setK {kvs : List (Key × D)} {k : Key} (h : Ev c tv δ d δ1) (h1 : δ1[i]? = some (.odk kvs)) (hy : Ev c ty δ1 (kD k) δ2) (h2 : δ2[i]? = some (.odk kvs)) (hz : kvs.length ≤ 100000) : Run c B (sDPut (tVar i) ty tv) δ (.nx (δ2.set i (.odk (putKD kvs k d)))) := fun F H σ E Dn q =>
  h _ F H σ E _ fun v F1 H1 E1 s1 r1 => by
    obtain ⟨fp1, E1'⟩ := id E1
    obtain ⟨a, ws, e0, _, hH, _⟩ := E1'.sl i _ h1
    refine ⟨_, e0, hy _ F1 H1 σ E1 _ fun w F2 H2 E2 s2 r2 => ?_⟩
    obtain ⟨fp, E2⟩ := E2
    obtain ⟨a', xs, e1, ef, hH1, r⟩ := E2.sl i _ h2
    rw [e0] at e1; cases e1
    rw [rep_kV r2]
    refine ⟨a, _, rfl, DPut.k hH1 (by rw [r.len]; exact sz6 hz), q F2 _ σ ⟨fp, E2.mut (lt_of_at h2) (by rw [ef]; exact List.mem_singleton.mpr rfl) ?_⟩ (s1.trans s2)⟩
    exact ⟨a, _, e0, ef, upd_same, RepK.put (r1.mono s2) r⟩
theorem ev_getK {kvs : List (Key × D)} {k : Key} (ha : Ev c ta δ (.dk kvs) δ1) (hb : Ev c tb δ1 (kD k) δ2) (h : valKD kvs k = some d) : Ev c (tDGet ta tb) δ d δ2 := fun B F H σ E Q q => ha _ F H σ E _ fun v F1 H1 E1 s1 r1 => hb _ F1 H1 σ E1 _ fun w F2 H2 E2 s2 r2 => by
  have r1 := r1.mono s2
  rw [rep_kV r2]
  cases r1 with
  | dk hf rk =>
    obtain ⟨v, hv, rv⟩ := rk.val h
    exact ⟨_, v, rfl, .inl ⟨_, k, .inl (E2.le _ _ hf), rfl, hv.symm⟩, q v F2 H2 E2 (s1.trans s2) rv⟩
theorem ev_getOK {kvs : List (Key × D)} {k : Key} (h1 : δ[i]? = some (.odk kvs)) (hb : Ev c tb δ (kD k) δ2) (h2 : δ2[i]? = some (.odk kvs)) (h : valKD kvs k = some d) : Ev c (tDGet (tVar i) tb) δ d δ2 := fun B F H σ E Q q => by
  obtain ⟨fp1, E1'⟩ := id E
  obtain ⟨a, ws, e0, _, hH, _⟩ := E1'.sl i _ h1
  refine ⟨_, e0, hb _ F H σ E _ fun w F2 H2 E2 s2 r2 => ?_⟩
  obtain ⟨fp, E2'⟩ := id E2
  obtain ⟨a', xs, e1, ef, hH1, r⟩ := E2'.sl i _ h2
  rw [e0] at e1; cases e1
  rw [rep_kV r2]
  obtain ⟨v, hv, rv⟩ := r.val h
  exact ⟨_, v, rfl, .inl ⟨_, k, .inl hH1, rfl, hv.symm⟩, q v F2 H2 E2 s2 rv⟩
theorem valKD_some {kvs : List (Key × D)} {k : Key} : (valKD kvs k).isSome = kvs.any fun p => decide (p.1 = k) := by
  unfold valKD
  rw [Option.isSome_map, Bool.eq_iff_iff, List.find?_isSome, List.any_eq_true]
theorem RepK.isSome {k : Key} {kw : List (Key × V)} {kvs : List (Key × D)} (r : RepK c F kw kvs) : (valV kw k).isSome = (valKD kvs k).isSome := by
  cases h : valKD kvs k with
  | none => rw [r.valN h]; rfl
  | some d =>
    obtain ⟨v, hv, _⟩ := r.val h
    rw [hv]; rfl
theorem ev_inK {kvs : List (Key × D)} {k : Key} (hb : Ev c tb δ (kD k) δ1) (ha : Ev c ta δ1 (.dk kvs) δ2) : Ev c (tDIn tb ta) δ (.bl (valKD kvs k).isSome) δ2 := fun B F H σ E Q q => hb _ F H σ E _ fun w F1 H1 E1 s1 r1 => ha _ F1 H1 σ E1 _ fun v F2 H2 E2 s2 r2 => by
  rw [rep_kV r1]
  cases r2 with
  | dk hf rk => exact ⟨_, _, rfl, .inl ⟨_, k, .inl (E2.le _ _ hf), rfl, rfl⟩, q _ F2 H2 E2 (s1.trans s2) (by rw [rk.isSome]; exact .bl _)⟩
theorem ev_inOK {kvs : List (Key × D)} {k : Key} (hb : Ev c tb δ (kD k) δ1) (h1 : δ1[i]? = some (.odk kvs)) : Ev c (tDIn tb (tVar i)) δ (.bl (valKD kvs k).isSome) δ1 := fun B F H σ E Q q => hb _ F H σ E _ fun w F1 H1 E1 s1 r1 => by
  obtain ⟨fp1, E1'⟩ := id E1
  obtain ⟨a, ws, e0, _, hH, r⟩ := E1'.sl i _ h1
  rw [rep_kV r1]
  exact ⟨_, e0, a, _, rfl, .inl ⟨_, k, .inl hH, rfl, rfl⟩, q _ F1 H1 E1 s1 (by rw [r.isSome]; exact .bl _)⟩
theorem ev_notInK {kvs : List (Key × D)} {k : Key} (hb : Ev c tb δ (kD k) δ1) (ha : Ev c ta δ1 (.dk kvs) δ2) : Ev c (tDNotIn tb ta) δ (.bl (!(valKD kvs k).isSome)) δ2 := fun B F H σ E Q q => hb _ F H σ E _ fun w F1 H1 E1 s1 r1 => ha _ F1 H1 σ E1 _ fun v F2 H2 E2 s2 r2 => by
  rw [rep_kV r1]
  cases r2 with
  | dk hf rk => exact ⟨_, _, rfl, .inl ⟨_, k, .inl (E2.le _ _ hf), rfl, rfl⟩, q _ F2 H2 E2 (s1.trans s2) (by rw [rk.isSome]; exact .bl _)⟩
theorem ev_notInOK {kvs : List (Key × D)} {k : Key} (hb : Ev c tb δ (kD k) δ1) (h1 : δ1[i]? = some (.odk kvs)) : Ev c (tDNotIn tb (tVar i)) δ (.bl (!(valKD kvs k).isSome)) δ1 := fun B F H σ E Q q => hb _ F H σ E _ fun w F1 H1 E1 s1 r1 => by
  obtain ⟨fp1, E1'⟩ := id E1
  obtain ⟨a, ws, e0, _, hH, r⟩ := E1'.sl i _ h1
  rw [rep_kV r1]
  exact ⟨_, e0, a, _, rfl, .inl ⟨_, k, .inl hH, rfl, rfl⟩, q _ F1 H1 E1 s1 (by rw [r.isSome]; exact .bl _)⟩
/-! ### dicts of tuples -/
theorem ev_getT {kvs : List (D × D)} {k : NestedKey} (ha : Ev c ta δ (.dt kvs) δ1) (hb : Ev c tb δ1 dk δ2) (h : valT kvs dk = some d) (hk : D.nk dk = some k) (hd : k.depth ≤ 8 := by decide) (hs : ∃ ds, dk.sq = some ds := by exact ⟨_, rfl⟩) : Ev c (tOp (rGetT c) ta tb) δ d δ2 :=
  ev_op2 ha hb fun B F H σ v w E r1 r2 Q q => by
    obtain ⟨ds, hs⟩ := hs
    obtain ⟨b, vs, rfl, _, _⟩ := r2.sq hs
    cases r1 with
    | dt hf rt => exact ⟨F, _, b, dk, d, k, _, kvs, E.le, rfl, rfl, E.le _ _ hf, rt, r2, hk, hd, h, fun v rv => q v F H E (Same.refl _) rv⟩
theorem ev_getOT {kvs : List (D × D)} {k : NestedKey} (h1 : δ[i]? = some (.odt kvs)) (hb : Ev c tb δ dk δ2) (h2 : δ2[i]? = some (.odt kvs)) (h : valT kvs dk = some d) (hk : D.nk dk = some k) (hd : k.depth ≤ 8 := by decide) (hs : ∃ ds, dk.sq = some ds := by exact ⟨_, rfl⟩) : Ev c (tOp (rGetT c) (tVar i) tb) δ d δ2 := fun B F H σ E Q q => by
  obtain ⟨ds, hs⟩ := hs
  obtain ⟨fp1, E1'⟩ := id E
  obtain ⟨a, ws, e0, _, hH, _⟩ := E1'.sl i _ h1
  refine ⟨_, e0, hb _ F H σ E _ fun w F2 H2 E2 s2 r2 => ?_⟩
  obtain ⟨fp, E2'⟩ := id E2
  obtain ⟨a', xs, e1, ef, hH1, rt⟩ := E2'.sl i _ h2
  rw [e0] at e1; cases e1
  obtain ⟨b, vs, rfl, _, _⟩ := r2.sq hs
  exact ⟨F2, a, b, dk, d, k, xs, kvs, E2.le, rfl, rfl, hH1, rt, r2, hk, hd, h, fun v rv => q v F2 H2 E2 s2 rv⟩
theorem ev_inT {kvs : List (D × D)} {k : NestedKey} {neg : Bool} (hb : Ev c tb δ dk δ1) (ha : Ev c ta δ1 (.dt kvs) δ2) (hk : D.nk dk = some k) (hd : k.depth ≤ 8 := by decide) (hs : ∃ ds, dk.sq = some ds := by exact ⟨_, rfl⟩) : Ev c (tOp (rInT c neg) tb ta) δ (.bl (if neg then !(kvs.any fun p => sameK p.1 dk) else kvs.any fun p => sameK p.1 dk)) δ2 :=
  ev_op2 hb ha fun B F H σ v w E r2 r1 Q q => by
    obtain ⟨ds, hs⟩ := hs
    obtain ⟨b, vs, rfl, _, _⟩ := r2.sq hs
    cases r1 with
    | dt hf rt => exact ⟨F, _, b, dk, k, _, kvs, E.le, rfl, rfl, E.le _ _ hf, rt, r2, hk, hd, q _ F H E (Same.refl _) (.bl _)⟩
theorem ev_inOT {kvs : List (D × D)} {k : NestedKey} {neg : Bool} (hb : Ev c tb δ dk δ1) (h1 : δ1[i]? = some (.odt kvs)) (hk : D.nk dk = some k) (hd : k.depth ≤ 8 := by decide) (hs : ∃ ds, dk.sq = some ds := by exact ⟨_, rfl⟩) : Ev c (tOp (rInT c neg) tb (tVar i)) δ (.bl (if neg then !(kvs.any fun p => sameK p.1 dk) else kvs.any fun p => sameK p.1 dk)) δ1 := fun B F H σ E Q q => hb _ F H σ E _ fun w F1 H1 E1 s1 r1 => by
  obtain ⟨ds, hs⟩ := hs
  obtain ⟨fp1, E1'⟩ := id E1
  obtain ⟨a, ws, e0, _, hH, rt⟩ := E1'.sl i _ h1
  obtain ⟨b, vs, rfl, _, _⟩ := r1.sq hs
  exact ⟨_, e0, F1, a, b, dk, k, _, kvs, E1.le, rfl, rfl, hH, rt, r1, hk, hd, q _ F1 H1 E1 s1 (.bl _)⟩
theorem new_lst {p : Addr} {ws : List V} (E : EnvP c B F H σ δ fp) (hp : H p = none) (r : RepAll c F ws ds) (Q : VK) (q : ∀ v F' H' fp fpv, EnvP c B F' H' σ δ fp → Same F F' → SlOk c F' H' fpv (some (some v)) (.ol ds) → New B F' fp fpv → Q v H') : Q (.ref p) (upd H p (.lst ws)) := by
  obtain ⟨E2, n1, n2, n3⟩ := E.newO (o := .lst ws) hp
  exact q _ _ _ fp [p] E2 (Same.refl _) ⟨p, ws, rfl, rfl, upd_same, r⟩ fun a ha => by rw [List.mem_singleton.mp ha]; exact ⟨n1, n2, n3⟩
theorem evn_listT2 {kvs : List (D × D)} (h : EvA c ts δ [.dt kvs] δ1) : EvN c (tCB (rListT c) ts) δ (.ol (kvs.map (·.1))) δ1 := fun B F H σ E Q q => h _ F H σ E _ fun vs F1 H1 E1 s1 r1 => by
  cases r1 with
  | cons r t => cases t with
    | nil => cases r with
      | dt hf rt =>
        obtain ⟨fp, E1⟩ := E1
        exact ⟨F1, _, _, kvs, E1.gr.le, rfl, E1.gr.le _ _ hf, rt, fun p ws hp r' => new_lst E1 hp r' Q fun v F' H' fp' fpv a b c' d' => q v F' H' fp' fpv a (s1.trans b) c' d'⟩
theorem evn_listOT {kvs : List (D × D)} (h1 : δ[i]? = some (.odt kvs)) : EvN c (tCB (rListT c) (tCons (tVar i) tNil)) δ (.ol (kvs.map (·.1))) δ := fun B F H σ E Q q => by
  obtain ⟨fp, E1⟩ := E
  obtain ⟨a, xs, e0, _, hH, rt⟩ := E1.sl i _ h1
  exact ⟨_, e0, F, a, xs, kvs, E1.gr.le, rfl, hH, rt, fun p ws hp r' => new_lst E1 hp r' Q q⟩
theorem evn_sortT {α : Type} {S : SD c α} {kvs : List (D × D)} {as ys : List α} (h : EvA c ts δ [.dt kvs] δ1) (hk : kvs.map (·.1) = as.map S.enc) (hok : 2 ≤ as.length → ∀ d ∈ as, S.ok d) (hp : ys.Perm as) (hl : ys.Pairwise (fun x y => S.lt y x = false)) : EvN c (tCB (rSortT S) ts) δ (.ol (ys.map S.enc)) δ1 := fun B F H σ E Q q => h _ F H σ E _ fun vs F1 H1 E1 s1 r1 => by
  cases r1 with
  | cons r t => cases t with
    | nil => cases r with
      | dt hf rt =>
        obtain ⟨fp, E1⟩ := E1
        exact ⟨F1, _, _, kvs, as, ys, E1.gr.le, rfl, E1.gr.le _ _ hf, rt, hk, hok, hp, hl, fun p ws hp r' => new_lst E1 hp r' Q fun v F' H' fp' fpv a b c' d' => q v F' H' fp' fpv a (s1.trans b) c' d'⟩
theorem evn_sortOT {α : Type} {S : SD c α} {kvs : List (D × D)} {as ys : List α} (h1 : δ[i]? = some (.odt kvs)) (hk : kvs.map (·.1) = as.map S.enc) (hok : 2 ≤ as.length → ∀ d ∈ as, S.ok d) (hp : ys.Perm as) (hl : ys.Pairwise (fun x y => S.lt y x = false)) : EvN c (tCB (rSortT S) (tCons (tVar i) tNil)) δ (.ol (ys.map S.enc)) δ := fun B F H σ E Q q => by
  obtain ⟨fp, E1⟩ := E
  obtain ⟨a, xs, e0, _, hH, rt⟩ := E1.sl i _ h1
  exact ⟨_, e0, F, a, xs, kvs, as, ys, E1.gr.le, rfl, hH, rt, hk, hok, hp, hl, fun p ws hp r' => new_lst E1 hp r' Q q⟩
/-! ### sorted(d) of ints, fewer than 64 -/
def rSortDI : List V → Hp → VK → Prop := fun xs H Q => ∃ (a : Addr) (kvs : List (Key × V)) (ks : List Int), xs = [.ref a] ∧ Rd H a (.dK kvs) ∧ kvs.map (·.1) = ks.map Sum.inl ∧ ks.length < 64 ∧
    ∀ (ys : List Int) (p : Addr), ys.Perm ks → ys.Pairwise (· ≤ ·) → H p = none → Q (.ref p) (upd H p (.lst (ys.map V.int)))
theorem cr_sortDI {X : Cx} (hcalm : X.calm = true) : CallR X (.builtin "sorted") rSortDI := call_sortedDI hcalm
theorem repK_keys {kw : List (Key × V)} {kvs : List (Key × D)} (r : RepK c F kw kvs) : kw.map (·.1) = kvs.map (·.1) := by
  induction kvs generalizing kw with
  | nil => cases r; rfl
  | cons p kvs ih => cases r with
    | cons a t => rw [List.map_cons, List.map_cons, ih t]
theorem rep_ints_of : ∀ ns : List Int, RepAll c F (ns.map V.int) (ns.map D.int)
  | [] => .nil
  | n :: ns => .cons (.int n) (rep_ints_of ns)
theorem evn_sortOKI {kvs : List (Key × D)} {ks ys : List Int} (h1 : δ[i]? = some (.odk kvs)) (hk : kvs.map (·.1) = ks.map Sum.inl) (h64 : ks.length < 64) (hp : ys.Perm ks) (hl : ys.Pairwise (· ≤ ·)) : EvN c (tCB rSortDI (tCons (tVar i) tNil)) δ (.ol (ys.map .int)) δ := fun B F H σ E Q q => by
  obtain ⟨fp, E1⟩ := E
  obtain ⟨a, kw, e0, _, hH, r⟩ := E1.sl i _ h1
  refine ⟨_, e0, a, kw, ks, rfl, .inl hH, by rw [repK_keys r]; exact hk, h64, fun ns' p hp' hl' hpn => ?_⟩
  have e : ns' = ys := totN.uniq (hp'.trans hp.symm) (hl'.imp fun h => decide_eq_false (by omega)) (hl.imp fun h => decide_eq_false (by omega))
  subst e
  exact new_lst E1 hpn (rep_ints_of ns') Q q
/-! ### list + list -/
end
end DL
set_option Elab.async false
set_option linter.all false
set_option maxRecDepth 100000
set_option maxHeartbeats 1000000
/-! DL16: list + list, lists of own lists, tables of the module. -/
namespace DL
open PySem PySem.Spec PyProof.Rows L2
section
variable {c : Cn} {B : Bx} {F F' H H' : Hp} {σ : L2.St} {δ δ1 δ2 δ3 : DE} {fp : Nat → List Addr} {ta tb te tc ty tv : TE} {tt tu : TT} {d e x y dk : D} {ds es : List D} {t u : TS} {o : Out} {i j : Nat} {s : Sl} {ts : TA}
theorem evn_catL {xs ys : List D} (h1 : δ[i]? = some (.ol xs)) (hb : EvN c tb δ (.ol ys) δ2) (h2 : δ2[i]? = some (.ol xs)) (hz : xs.length + ys.length ≤ 100000) : EvN c (tOp rCat (tVar i) tb) δ (.ol (xs ++ ys)) δ2 := fun B F H σ E Q q => by
  obtain ⟨fp1, E1'⟩ := id E
  obtain ⟨a, ws, e0, _, hH, _⟩ := E1'.sl i _ h1
  refine ⟨_, e0, hb _ F H σ E _ fun v F2 H2 fp2 fpv E2 s2 ok nw => ?_⟩
  obtain ⟨a', vs, e1, ef, hH1, r⟩ := E2.sl i _ h2
  rw [e0] at e1; cases e1
  obtain ⟨b, us, e2, rfl, hH2, r2⟩ := ok
  cases e2
  exact ⟨a, b, vs, us, rfl, rfl, hH1, hH2, by rw [r.length, r2.length]; exact sz5 hz, fun p hp => new_lst E2 hp (r.append r2) Q fun v F' H' fp' fpv a b c' d' => q v F' H' fp' fpv a (s2.trans b) c' d'⟩
/-- an item of a comprehension whose element is a new list -/
structure ItemO (c : Cn) (g : TG) (te : TE) (vs : List Nat) (δ : DE) (d : D) (r : List D) : Prop where
  ex : ∃ δ', TgtW c g d vs (wipeD δ vs) δ' ∧ (∀ j, j ∉ vs → δ'[j]? = δ[j]?) ∧ EvN c te δ' (.ol r) δ'
theorem paired_move {c : Cn} {F F' H H' : Hp} {bs : List Addr} {xss : List (List D)} (p : Paired (fun b xs => ∃ vs, H b = some (.lst vs) ∧ RepAll c F vs xs) bs xss) (e : Same F F') (k : ∀ b ∈ bs, H' b = H b) : Paired (fun b xs => ∃ vs, H' b = some (.lst vs) ∧ RepAll c F' vs xs) bs xss := by
  induction p with
  | nil => exact .nil
  | cons hq t ih =>
    obtain ⟨ws, e1, e2⟩ := hq
    exact .cons ⟨ws, by rw [k _ List.mem_cons_self]; exact e1, RepAll.mono e e2⟩ (ih fun b' hb' => k b' (List.mem_cons_of_mem _ hb'))
theorem evn_lcO {wi : TI} {g : TG} {vs : List Nat} (f : D → List D) (hi : EvI c wi δ ds δ) (hz : ds.length ≤ 100000) (h0 : 0 ∉ vs) (hv : ∀ i ∈ vs, ∀ s, δ[i]? = some s → s.own = false)
    (h : ∀ d ∈ ds, ItemO c g te vs δ d (f d)) : EvN c (tLc wi g tYes te vs) δ (.oll (ds.map f)) δ := fun B F H σ E Q q => hi _ F H σ E _ fun J F1 H1 E1 s1 Y Dl hD => by
  refine ⟨fun i m H => m = ds.length - i ∧ i ≤ ds.length ∧ ∃ F' fp bs, EnvP c B F' H σ δ fp ∧ Same F1 F' ∧ (∀ b ∈ Dl :: bs, F' b = none ∧ B.H0 b = none ∧ ∀ k, b ∉ fp k) ∧ (Dl :: bs).Nodup ∧ H Dl = some (.lst (bs.map V.ref)) ∧ Paired (fun b xs => ∃ vs, H b = some (.lst vs) ∧ RepAll c F' vs xs) bs ((ds.take i).map f), ?_, ?_⟩
  · obtain ⟨fp, E1⟩ := E1
    obtain ⟨E2, n1, n2, n3⟩ := E1.newO (o := .lst []) hD
    exact ⟨ds.length, rfl, Nat.zero_le _, F1, fp, [], E2, Same.refl _, fun b hb => by rw [List.mem_singleton.mp hb]; exact ⟨n1, n2, n3⟩, (List.nodup_cons.mpr ⟨(fun z => nomatch z), List.nodup_nil⟩), upd_same, .nil⟩
  · rintro i m H2 ⟨rfl, hle, F2, fp, bs, E2, s2, nn, nd, hDl, rw'⟩
    obtain ⟨y1, y2, y3⟩ := Y F2 H2 s2 E2.gr.le
    by_cases hlt : i < ds.length
    · have hd : ds[i]? = some ds[i] := List.getElem?_eq_getElem hlt
      obtain ⟨δ', hg, hδ, hr⟩ := (h ds[i] (List.getElem_mem hlt)).ex
      have htk : ds.take (i + 1) = ds.take i ++ [ds[i]] := by rw [List.take_add_one, hd]; rfl
      refine .inr ⟨y1 i hlt, fun H => i + 1 ≤ ds.length ∧ ∃ F' fp bs, EnvP c B F' H σ δ fp ∧ Same F1 F' ∧ (∀ b ∈ Dl :: bs, F' b = none ∧ B.H0 b = none ∧ ∀ k, b ∉ fp k) ∧ (Dl :: bs).Nodup ∧ H Dl = some (.lst (bs.map V.ref)) ∧ Paired (fun b xs => ∃ vs, H b = some (.lst vs) ∧ RepAll c F' vs xs) bs ((ds.take (i + 1)).map f), fun H' w => ⟨ds.length - (i + 1), by omega, rfl, w⟩, fun x H3 hy => ?_⟩
      obtain ⟨F3, R, rx⟩ := y3 i _ hd x H3 hy
      have E3 := E2.ret R
      have there : ∀ b ∈ Dl :: bs, ∃ o, H2 b = some o := fun b hb => by
        rcases List.mem_cons.mp hb with rfl | hb
        · exact ⟨_, hDl⟩
        · cases z : H2 b with
          | some o => exact ⟨o, rfl⟩
          | none => exact absurd z (paired_there rw' b hb)
      have hold3 : ∀ b ∈ Dl :: bs, H3 b = H2 b := fun b hb => by
        obtain ⟨o, ho⟩ := there b hb
        rw [R.sh _ _ ho, ho]
      have nF3 : ∀ b ∈ Dl :: bs, F3 b = none := fun b hb => by
        obtain ⟨o, ho⟩ := there b hb
        exact (R.fr b (ne_none_of ho)).trans (nn b hb).1
      have E4 := (E3.wipe h0 hv).sub
      have stay : ∀ (F5 H5 : Hp), Grow (subB F3 H3 fp (wipeD δ vs).length) F5 H5 → ∀ b ∈ Dl :: bs, H5 b = H2 b ∧ F5 b = none := fun F5 H5 g5 b hb => by
        obtain ⟨o, ho⟩ := there b hb
        have h3 : H3 b = some o := by rw [hold3 b hb, ho]
        exact ⟨by rw [ho]; exact g5.sh b _ (fun z => by
          obtain ⟨k, _, hk⟩ := List.mem_flatMap.mp z
          exact (nn b hb).2.2 k hk) h3, (g5.fr b (ne_none_of h3)).trans (nF3 b hb)⟩
      refine hg _ F3 H3 _ ⟨fp, E4⟩ x rx _ fun F4 H4 σ4 E5 s4 l4 k4 => ⟨?_, ?_⟩
      · refine wipe_of (l4.trans (wipe_len σ vs)) fun j hj => ?_
        rw [k4 j hj, wipe_get, if_neg hj]
      · have hσ : ∀ j, j ∉ vs → σ4[j]? = σ[j]? := fun j hj => by rw [k4 j hj, wipe_get, if_neg hj]
        refine hr _ F4 H4 σ4 E5 _ fun v F6 H6 fp7 fpv E7 s6 ok nw => ?_
        obtain ⟨b, us, eb, rfl, hb6, ru⟩ := ok
        cases eb
        obtain ⟨nb1, nb2, nb3⟩ := nw b (List.mem_singleton.mpr rfl)
        have nb2 : H3 b = none := nb2
        have st := stay F6 H6 E7.gr
        have E8 := E3.unwipe hv E7 hσ hδ
        have nbm : b ∉ Dl :: bs := fun z => by
          obtain ⟨o, ho⟩ := there b z
          rw [hold3 b z, ho] at nb2
          cases nb2
        have nk : ∀ b' ∈ Dl :: bs, ∀ k, b' ∉ (fun i => if i ∈ vs then [] else fp7 i) k := fun b' hb' k hk => by
          have hk : b' ∈ (if k ∈ vs then ([] : List Addr) else fp7 k) := hk
          by_cases hkv : k ∈ vs
          · rw [if_pos hkv] at hk; cases hk
          · rw [if_neg hkv] at hk
            obtain ⟨o, ho⟩ := there b' hb'
            rcases E7.fh k b' hk with w | w
            · have w : H3 b' = none := w
              rw [hold3 b' hb', ho] at w
              cases w
            · obtain ⟨k', _, hk'⟩ := List.mem_flatMap.mp w.1
              exact (nn b' hb').2.2 k' hk'
        have nkb : ∀ k, b ∉ (fun i => if i ∈ vs then [] else fp7 i) k := fun k hk => by
          have hk : b ∈ (if k ∈ vs then ([] : List Addr) else fp7 k) := hk
          by_cases hkv : k ∈ vs
          · rw [if_pos hkv] at hk; cases hk
          · rw [if_neg hkv] at hk; exact nb3 k hk
        have hb0 : B.H0 b = none := by
          cases z : B.H0 b with
          | none => rfl
          | some o => exact absurd nb2 (E3.gr.sd b (by rw [z]; exact fun w => by cases w))
        have hlen : bs.length = ((ds.take i).map f).length := Paired.length rw'
        refine ⟨bs.map V.ref, by rw [(st Dl List.mem_cons_self).1]; exact hDl, ?_, hlt, F6, (fun i => if i ∈ vs then [] else fp7 i), bs ++ [b], ?_, s2.trans (R.sf.trans E7.gr.sf), ?_, ?_, ?_, ?_⟩
        · rw [List.length_map, hlen, List.length_map, List.length_take]
          exact Nat.lt_of_lt_of_le (show _ < 100001 by omega) (by decide)
        · have a2 := (st Dl List.mem_cons_self).2
          have n2 := (nn Dl List.mem_cons_self).2.1
          have g8 : Grow B F6 (upd H6 Dl (.lst (bs.map V.ref ++ [V.ref b]))) := ⟨E8.gr.sf, fun a o hm h => by
            rw [upd_ne (fun z => by subst z; rw [n2] at h; cases h)]; exact E8.gr.sh a o hm h, fun a h => by
            rw [upd_ne (fun z => by subst z; exact h n2)]; exact E8.gr.sd a h, E8.gr.fr, fun a o h => by
            rw [upd_ne (fun z => by subst z; rw [a2] at h; cases h)]; exact E8.gr.le a o h⟩
          exact E8.step g8 (Same.refl _) (fun k a ha => upd_ne fun z => by subst z; exact nk _ List.mem_cons_self k ha) E8.ff
        · intro b' hb'
          rw [← List.cons_append] at hb'
          rcases List.mem_append.mp hb' with z | z
          · exact ⟨(st b' z).2, (nn b' z).2.1, nk b' z⟩
          · rw [List.mem_singleton.mp z]; exact ⟨nb1, hb0, nkb⟩
        · rw [← List.cons_append]
          exact List.nodup_append.mpr ⟨nd, (List.nodup_cons.mpr ⟨(fun z => nomatch z), List.nodup_nil⟩), fun a ha b' hb' z => by
            rw [List.mem_singleton.mp hb'] at z; subst z; exact nbm ha⟩
        · rw [List.map_append]; exact upd_same
        · have nDb : b ≠ Dl := fun z => nbm (by rw [z]; exact List.mem_cons_self)
          have old : Paired (fun b1 xs => ∃ vs, upd H6 Dl (.lst (bs.map V.ref ++ [V.ref b])) b1 = some (.lst vs) ∧ RepAll c F6 vs xs) bs ((ds.take i).map f) := by
            have k1 : ∀ b' ∈ bs, upd H6 Dl (.lst (bs.map V.ref ++ [V.ref b])) b' = H2 b' := fun b' hb' => by
              rw [upd_ne (fun z => by subst z; exact (List.nodup_cons.mp nd).1 hb')]
              exact (st b' (List.mem_cons_of_mem _ hb')).1
            exact paired_move rw' (R.sf.trans E7.gr.sf) k1
          rw [htk, List.map_append, List.map_singleton]
          have app : ∀ {l : List Addr} {m : List (List D)} {Z : Addr → List D → Prop}, Paired Z l m → ∀ {b : Addr} {x : List D}, Z b x → Paired Z (l ++ [b]) (m ++ [x]) := by
            intro l m Z p
            induction p with
            | nil => intro b x h; exact .cons h .nil
            | cons h t ih => intro b x h2; exact .cons h (ih h2)
          exact app old ⟨us, by rw [upd_ne nDb]; exact hb6, ru⟩
    · have e : i = ds.length := Nat.le_antisymm hle (Nat.le_of_not_lt hlt)
      subst e
      refine .inl ⟨y2, q _ F2 H2 fp (Dl :: bs) E2 (s1.trans s2) ⟨Dl, bs, rfl, rfl, nd, hDl, ?_⟩ fun a ha => nn a ha⟩
      rw [List.take_length] at rw'; exact rw'
theorem paired_at {α β : Type} {R : α → β → Prop} : ∀ {l : List α} {m : List β} {k : Nat} {y : β}, Paired R l m → m[k]? = some y → ∃ x, l[k]? = some x ∧ R x y
  | _, _, k, y, .nil, h => by simp at h
  | _, _, 0, y, .cons r t, h => by simp at h; subst h; exact ⟨_, rfl, r⟩
  | _, _, k + 1, y, .cons r t, h => by
    obtain ⟨x, h1, h2⟩ := paired_at (k := k) (y := y) t (by simpa using h)
    exact ⟨x, by simpa using h1, h2⟩
theorem paired_set {α β : Type} {R R' : α → β → Prop} : ∀ {l : List α} {m : List β} {k : Nat} {y : β}, l.Nodup → Paired R l m → (∀ a, l[k]? = some a → R' a y) → (∀ j a b, j ≠ k → l[j]? = some a → m[j]? = some b → R a b → R' a b) → Paired R' l (m.set k y)
  | _, _, k, y, _, .nil, _, _ => .nil
  | _, _, 0, y, nd, .cons r t, h1, h2 => .cons (h1 _ rfl) (by
    have go : ∀ {l : List _} {m : List _}, Paired R l m → (∀ (j : Nat) a b, l[j]? = some a → m[j]? = some b → R a b → R' a b) → Paired R' l m := by
      intro l m p
      induction p with
      | nil => intro _; exact .nil
      | cons r t ih => intro k; exact .cons (k 0 _ _ rfl rfl r) (ih fun j a b e1 e2 => k (j + 1) a b (by simpa using e1) (by simpa using e2))
    exact go t fun j a b e1 e2 => h2 (j + 1) a b (Nat.succ_ne_zero j) (by simpa using e1) (by simpa using e2))
  | _, _, k + 1, y, nd, .cons r t, h1, h2 => .cons (h2 0 _ _ (Nat.succ_ne_zero k).symm rfl rfl r) (paired_set (List.nodup_cons.mp nd).2 t (fun a e => h1 a (by simpa using e)) fun j a b hj e1 e2 => h2 (j + 1) a b (fun z => hj (Nat.succ.inj z)) (by simpa using e1) (by simpa using e2))
/-- an argument that is a name or a constant -/
def At (c : Cn) (te : TE) (δ : DE) (d : D) : Prop := ∀ (B : Bx) F H σ fp, EnvP c B F H σ δ fp → ∃ v, Rep c F v d ∧ ∀ Q : VK, Q v H → te σ H Q
theorem at_var (h : δ[i]? = some (.d d)) : At c (tVar i) δ d := fun B F H σ fp E => by
  obtain ⟨_, v, e, r⟩ := E.sl i _ h
  exact ⟨v, r, fun Q q => ⟨v, e, q⟩⟩
theorem at_int {n : Int} : At c (tC (.int n)) δ (.int n) := fun B F H σ fp E => ⟨_, .int n, fun Q q => q⟩
theorem at_bl {b : Bool} : At c (tC (.bl b)) δ (.bl b) := fun B F H σ fp E => ⟨_, .bl b, fun Q q => q⟩
theorem run_appLL {xss : List (List D)} {n : Int} {k : Nat} {xs : List D} {tj : TE} (h0 : ∃ yss, δ[i]? = some (.oll yss)) (hj : Ev c tj δ (.int n) δ1) (h1 : δ1[i]? = some (.oll xss)) (hk : ixN xss.length n = some k) (hx : xss[k]? = some xs) (h : At c te δ1 d) (hz : xs.length ≤ 100000) :
    Run c B (tDrop (tBM c.K "list" rAppend (tOp (rIxL c.K) (tVar i) tj) (tCons te tNil))) δ (.nx (δ1.set i (.oll (xss.set k (xs ++ [d]))))) := fun F H σ E Dn q => by
  obtain ⟨yss, h0⟩ := h0
  obtain ⟨fp0, E0⟩ := id E
  obtain ⟨a, bs, e0, _, _, hH, _⟩ := E0.sl i _ h0
  refine ⟨_, e0, hj _ F H σ E _ fun v F2 H2 E2 s2 r2 => ?_⟩
  obtain ⟨fp, E2⟩ := E2
  obtain ⟨a', bs', e1, ef, nd, hH1, p⟩ := E2.sl i _ h1
  rw [e0] at e1; cases e1
  obtain ⟨b, hb, vs, hbv, rb⟩ := paired_at p hx
  cases r2.int_inv
  obtain ⟨w, rw', hw⟩ := h _ _ _ _ _ E2
  refine ⟨a, _, n, .ref b, rfl, rfl, .inl (.inl hH1), ?_, .inl ⟨rfl, vs, .inl (.inl hbv)⟩, hw _ ⟨b, vs, w, rfl, rfl, hbv, by rw [rb.length]; exact sz6 hz, q F2 _ σ ⟨fp, E2.mut (lt_of_at h1) (by rw [ef]; exact List.mem_cons_of_mem _ (List.mem_of_getElem? hb)) ?_⟩ s2⟩⟩
  · unfold atI
    rw [List.length_map, Paired.length p, hk]
    show (bs'.map V.ref)[k]? = _
    rw [List.getElem?_map, hb]
    rfl
  · have nab : a ≠ b := fun z => by
      subst z
      exact (List.nodup_cons.mp nd).1 (List.mem_of_getElem? hb)
    refine ⟨a, bs', e0, ef, nd, by rw [upd_ne nab]; exact hH1, paired_set (List.nodup_cons.mp nd).2 p (fun b' e => ?_) fun j b' xs' hj' e1 e2 ⟨us, g1, g2⟩ => ⟨us, ?_, g2⟩⟩
    · rw [hb] at e
      cases e
      exact ⟨vs ++ [w], upd_same, rb.append (.one rw')⟩
    · rw [upd_ne]
      · exact g1
      · intro z
        subst z
        obtain ⟨l1, g3⟩ := List.getElem?_eq_some_iff.mp e1
        obtain ⟨l2, g4⟩ := List.getElem?_eq_some_iff.mp hb
        exact hj' ((List.getElem_inj (List.nodup_cons.mp nd).2).mp (g3.trans g4.symm))
/-! ### a table of the module: text keys -/
def rKd (K : PySem.W.Frag) (d : Addr) : R2 := fun x y H Q => ∃ (z : Str) (u0 : Value) (v0 : V), x = .ref d ∧ y = .str z ∧ PySem.W.nsIn K d z = some (some u0) ∧ RelV v0 u0 ∧ Q v0 H
theorem op_kd {X : Cx} {p : Addr} {es : Array DictEntry} {n : Nat} (h : KDict X.K X.w p es n) : OpR X getItem (rKd X.K p) := op_item_kd h
theorem ev_kd {p : Addr} {z : Str} {u0 : Value} {v0 : V} (hb : Ev c tb δ (.str z) δ1) (h : PySem.W.nsIn c.K p z = some (some u0)) (r : RelV v0 u0) (hr : ∀ F, Rep c F v0 d) : Ev c (tOp (rKd c.K p) (tC (.ref p)) tb) δ d δ1 := fun B F H σ E Q q => hb _ F H σ E _ fun w F1 H1 E1 s1 r1 =>
  ⟨z, u0, v0, rfl, r1.str_inv, h, r, q _ F1 H1 E1 s1 (hr _)⟩
end
end DL
set_option Elab.async false
set_option linter.all false
set_option maxRecDepth 100000
set_option maxHeartbeats 1000000
/-! DL17: facts of the text by a table of facts; a few derivations. -/
namespace DL
open PySem PySem.Spec PyProof.Rows L2
abbrev rAddI : R2 := rI0 fun i j => .int (i + j)
abbrev rSubI : R2 := rI0 fun i j => .int (i - j)
abbrev rMulI : R2 := rI CMul fun i j => .int (i * j)
abbrev rFdivI : R2 := rI CDiv fun i j => .int (i / j)
abbrev rModI : R2 := rI (fun _ j => 0 < j) fun i j => .int (i % j)
abbrev rPowI : R2 := rI CPow fun i j => .int (i ^ j.toNat)
abbrev rLtI : R2 := rI0 fun i j => .bl (decide (i < j))
abbrev rLeI : R2 := rI0 fun i j => .bl (decide (i ≤ j))
abbrev rGtI : R2 := rI0 fun i j => .bl (decide (j < i))
abbrev rGeI : R2 := rI0 fun i j => .bl (decide (j ≤ i))
abbrev rNegI : V → Hp → VK → Prop := rU fun i => .int (-i)
abbrev rLenV (K : PySem.W.Frag) : List V → Hp → VK → Prop := fun xs H Q => ∃ x n, xs = [x] ∧ LenV K x H n ∧ Q (.int n) H
theorem bt_len : bootBuiltins "len" = some (.builtin "len") := by decide +kernel
theorem bt_isinstance : bootBuiltins "isinstance" = some (.builtin "isinstance") := by decide +kernel
theorem bt_sum : bootBuiltins "sum" = some (.builtin "sum") := by decide +kernel
theorem bt_sorted : bootBuiltins "sorted" = some (.builtin "sorted") := by decide +kernel
theorem bt_all : bootBuiltins "all" = some (.builtin "all") := by decide +kernel
theorem bt_any : bootBuiltins "any" = some (.builtin "any") := by decide +kernel
theorem bt_tuple : bootBuiltins "tuple" = some (.type "tuple") := by decide +kernel
theorem bt_list : bootBuiltins "list" = some (.type "list") := by decide +kernel
theorem bt_int : bootBuiltins "int" = some (.type "int") := by decide +kernel
theorem bt_str : bootBuiltins "str" = some (.type "str") := by decide +kernel
theorem bt_bool : bootBuiltins "bool" = some (.type "bool") := by decide +kernel
theorem bt_dict : bootBuiltins "dict" = some (.type "dict") := by decide +kernel
section
variable {X : Cx} {c : Cn} {o i : Expr} {td ty : TE} {pos : Pos}
theorem pe_getOp {r : R2} (hr : OpR X getItem r) (ht : ∀ (pins : List (Addr × Obj)) (s : Shared) (σ : L2.St) (H : Hp) (x y : V) (v : Value) (Q : VK), Inv X pins σ H s → RelV x v → r x y H Q → s.TypeIs v "dict") (ho : PE X o td) (hi : PE X i ty) (hs : NoSl i) : PE X (.Subscript o i pos) (tOp r td ty) := by
  refine ⟨fun pins s σ H Q I h => ?_⟩
  refine subD_of PySem.F.slot_dict_getitem.lookup hs (thn (ho.run pins s σ H _ I h) fun u s1 ⟨x, H1, I1, rx, q1⟩ => thn (hi.run pins s1 σ H1 _ I1 q1) fun iv s2 ⟨y, H2, I2, ry, q2⟩ => ?_)
  exact ⟨ht pins s2 σ H2 x y u Q I2 rx q2, hr pins s2 σ H2 x y u iv Q I2 rx ry q2⟩
theorem pe_getT (hc : c = ⟨X.prog, X.w, X.K⟩) (hu : X.A.units + 20 < cLine) (ho : PE X o td) (hi : PE X i ty) (hs : NoSl i) : PE X (.Subscript o i pos) (tOp (rGetT c) td ty) := by
  refine pe_getOp (op_getT hc hu) (fun pins s σ H x y v Q I rx h => ?_) ho hi hs
  obtain ⟨F, a, b, dk, d, k, xs, kvs, le, rfl, rfl, ha, rt, rk, hk, hdep, hv, q⟩ := h
  cases rx
  obtain ⟨_, _, _, ob, es, ep, ho, hx, _⟩ := dt_at (I.hok a _ (show H a = some (dtO X.prog X.w a xs) by rw [hc] at ha; exact ha))
  exact ⟨ob, ho, hx.1⟩
theorem pe_kd {p : Addr} {es : Array DictEntry} {n : Nat} (h : KDict X.K X.w p es n) (ho : PE X o td) (hi : PE X i ty) (hs : NoSl i) : PE X (.Subscript o i pos) (tOp (rKd X.K p) td ty) := by
  refine pe_getOp (op_kd h) (fun pins s σ H x y v Q I rx q => ?_) ho hi hs
  obtain ⟨z, u0, v0, rfl, _⟩ := q
  cases rx
  exact kd_type h I
end
section
variable {X : Cx}
/-- name = {..: .. for ..} on one line, the name a local -/
theorem ps_setDg {O0 : Addr → HO} {t : TSet} (O : Emp X.prog X.w O0) {i : Nat} {y : Str} {py : Pos} {ke ve tg it : Expr} {ifs : List Expr} {sc : Scope} {own : List (Str × Nat)} {pos spos : Pos} {wi : TI} {g : TG} {tt : TT} {tk tv : TE} (hc : X.calm = true) (hN : X.N.Nodup) (hy : X.N[i]? = some y) (hyl : X.env.scope.names.lookup y = some .local)
    (hsw : swapsWith (.DictComp ke ve [⟨tg, it, ifs, 0⟩] sc pos) (some (.Name y py)) spos.line X.env = pure true) (hi : PI X tg it wi) (ok : BlkOk X.N X.env.scope sc own)
    (hp : ∀ (s : Shared) (H : Hp) (C : Addr) (cl : List (Str × Addr)) (fp : List Addr), PDs (X.blk s H sc (compEnvC sc cl C X.env) fp) t)
    (hg : ∀ (s : Shared) (H : Hp) (C : Addr) (cl : List (Str × Addr)) (fp : List Addr), PG (X.blk s H sc (compEnvC sc cl C X.env) fp) tg g)
    (ht : ∀ (s : Shared) (H : Hp) (C : Addr) (cl : List (Str × Addr)) (fp : List Addr), PTs (X.blk s H sc (compEnvC sc cl C X.env) fp) ifs tt)
    (hk : ∀ (s : Shared) (H : Hp) (C : Addr) (cl : List (Str × Addr)) (fp : List Addr), PE (X.blk s H sc (compEnvC sc cl C X.env) fp) ke tk)
    (he : ∀ (s : Shared) (H : Hp) (C : Addr) (cl : List (Str × Addr)) (fp : List Addr), PE (X.blk s H sc (compEnvC sc cl C X.env) fp) ve tv) (hs : ∀ x, foldedSetIterable it X.env x = pure x := by intro _; rfl) :
    PS X (.Assign [.Name y py] (.DictComp ke ve [⟨tg, it, ifs, 0⟩] sc pos) spos) (tAsg (tDG O0 t wi g tt tk tv (own.map (·.2))) (gName i)) := by
  refine ⟨fun pins s σ H D I h => ?_⟩
  rw [exec_Assign_Name_used _ _ _ _ hsw]
  refine wpAny_bind (wpAny_standAt (wpAny_bind ?_))
  show wpAny _ X.A (do let _ ← comprehension (.DictComp ke ve [⟨tg, it, ifs, 0⟩] sc pos) sc X.env (firstIterPos [⟨tg, it, ifs, 0⟩] pos) newDict false (eval it X.env) (some (assign (.Name y py) X.env))) _ _ s
  have h : tDG O0 t wi g tt tk tv (own.map (·.2)) σ H (fun x H1 => gName i x σ H1 D.nx) := h
  refine wpAny_bind (thn (dg_core (Qf := fun _ s' => SP X pins D .next s') O hc hN I hi ok hp hg ht hk he hs h fun L C s' m H' I' q hn f => ?_) fun _ s' hq => wpAny_pure (wpAny_pure hq))
  show wpAny _ _ (assign (.Name y py) X.env (.ref L)) _ _ _
  refine wpAny_assign_Name (store_ok2 (v := V.ref L) I' hN hy (.inl hyl) rfl (fun s2 I2 ⟨a, sb, ha⟩ => ?_) (.inr hyl))
  obtain ⟨f0, f1, f2, f3, f4, f5⟩ := f
  have haC : C ≠ a := by
    rcases ha with z | z
    · rw [z]; exact f1
    · exact fun e => f4 y a z e.symm
  refine ⟨m, hn.sameBut sb haC, fun h3 sb3 => ?_⟩
  exact ⟨_, H', I2.turned (t' := s2.toks) (fun b o hb e => (sb3.2 b hb).trans e) f0 f1 f3 f4 f5, q⟩
end
/-! ### the facts of a text, by a table -/
/-- the function object of a def -/
def fdOf (K : PySem.W.Frag) (p : Str × Option Str) : FuncData := match K.lookup (He.fAd K p) with
  | some ⟨_, _, .func fd, _⟩ => fd
  | _ => default
/-- the head's Hook: a table of facts, one more Bool ex -/
abbrev AlE : Type := He.AlT × Bool
def obsE (n : Nat) (fa : List He.Fa) (fn : List He.DefD) (ts : List He.Tab) (ex : PySem.W.Frag → Bool) (g : Addr → Option Obj) : AlE := (He.obsT fa fn ts (He.frG g (He.asD g n)), ex (He.frG g (He.asD g n)))
def hookE (n : Nat) (fa : List He.Fa) (fn : List He.DefD) (ts : List He.Tab) (ex : PySem.W.Frag → Bool) : PySem.W.Hook where
  α := AlE
  obs := fun s => obsE n fa fn ts ex s.heap.get?
  val := fun w => (He.valT fn ts w, true)
  says := fun w h => ∃ K : PySem.W.Frag, K.In h ∧ He.SaysT fa fn ts w K ∧ ex K = true
  of := fun _ _ e => ⟨_, He.frG_in, congrArg (fun z : AlE => z.1) e, congrArg (fun z : AlE => z.2) e⟩
  keeps := fun _ _ _ ⟨K, hK, c⟩ k => ⟨K, PySem.W.Frag.In.keeps hK k, c⟩
theorem obsE_eq {n : Nat} {fa : List He.Fa} {fn : List He.DefD} {ts : List He.Tab} {ex : PySem.W.Frag → Bool} {g : Addr → Option Obj} {s : Shared} (h : ∀ a, g a = s.heap.get? a) : obsE n fa fn ts ex g = (hookE n fa fn ts ex).obs s := by
  have e : g = s.heap.get? := funext h
  rw [e] <;> rfl
structure Tx (fa : List He.Fa) (fn : List He.DefD) (ts : List He.Tab) (ex : PySem.W.Frag → Bool) (w : World) (K : PySem.W.Frag) (mg : Str → Option Value) : Prop where
  hp : ∃ h : Heap, K.In h ∧ h.Ns mainGlobals mg
  says : He.SaysT fa fn ts w K
  more : ex K = true
section
variable {fa : List He.Fa} {fn : List He.DefD} {ts : List He.Tab} {ex : PySem.W.Frag → Bool} {w : World} {K : PySem.W.Frag} {mg : Str → Option Value}
theorem Tx.def_ (T : Tx fa fn ts ex w K mg) (i : Nat) {d : He.DefD} (h : fn[i]? = some d := by rfl) : FunD K d.name d.qual d.params d.body d.scope (d.dvs K) (d.kws K) (He.fAd K d.at_) (fdOf K d.at_) := by
  obtain ⟨fd, F⟩ := T.says.d.def_ i h
  obtain ⟨oc, od, dV, kV, doc, pm, an, cdv, ct, osl, e, lk, _⟩ := F.ex
  have : fdOf K d.at_ = fd := by
    unfold fdOf
    rw [lk]
  rw [this]
  exact F
theorem Tx.glo (T : Tx fa fn ts ex w K mg) (i : Nat) {x : Str} (h : fa[i]? = some (.glo x) := by rfl) : mg x = some (.ref (He.ga K x)) := let ⟨_, X, G⟩ := T.hp; He.glo_ok X G (T.says.d.fact i h)
theorem Tx.free (T : Tx fa fn ts ex w K mg) (i : Nat) {x : Str} (h : fa[i]? = some (.free x) := by rfl) : mg x = none := let ⟨_, X, G⟩ := T.hp; He.free_ok X G (T.says.d.fact i h)
theorem Tx.int (T : Tx fa fn ts ex w K mg) (i : Nat) {x : Str} {n : Int} (h : fa[i]? = some (.int x n) := by rfl) : ∃ t, mg x = some (.int n t) := let ⟨_, X, G⟩ := T.hp; He.int_ok X G (T.says.d.fact i h)
theorem Tx.cls (T : Tx fa fn ts ex w K mg) (i : Nat) {x : Str} (h : fa[i]? = some (.cls x) := by rfl) : Cls K (He.ga K x) := He.cls_ok (T.says.d.fact i h)
theorem Tx.noat (T : Tx fa fn ts ex w K mg) (i : Nat) {x f : Str} (h : fa[i]? = some (.noat x f) := by rfl) : NoAttr K (He.ga K x) f := He.noat_ok (T.says.d.fact i h)
theorem Tx.meth (T : Tx fa fn ts ex w K mg) (i : Nat) {x m : Str} (h : fa[i]? = some (.meth x m) := by rfl) : Meth K (He.ga K x) m (He.ma K (He.ga K x) m) := He.meth_ok (T.says.d.fact i h)
theorem Tx.mkr (T : Tx fa fn ts ex w K mg) (i : Nat) {x : Str} (h : fa[i]? = some (.mkr x) := by rfl) : Mk K (He.ga K x) (He.ma K (He.ga K x) "__init__") := He.mkr_ok (T.says.d.fact i h)
end
theorem lenD {c : Cn} {R : List D → D → Prop} {k : Nat} (hl : ∀ ds r, R ds r → ds.length = k) {vs : List V} {H : Hp} {Q : VK} {E : XK} (h : SpD c R vs H Q E) : vs.length = k := by
  obtain ⟨F, ds, r, _, ra, hR, _⟩ := h
  rw [ra.length]; exact hl ds r hR
theorem leD {R : List D → D → Prop} {k n : Nat} (hl : ∀ ds r, R ds r → ds.length = k) (h : k ≤ n) : ∀ ds r, R ds r → ds.length ≤ n := fun ds r q => by rw [hl ds r q]; exact h
theorem lenN {c : Cn} {R : List D → Sl → Prop} {k : Nat} (hl : ∀ ds r, R ds r → ds.length = k) {vs : List V} {H : Hp} {Q : VK} {E : XK} (h : SpN c R vs H Q E) : vs.length = k := by
  obtain ⟨F, ds, r, _, ra, hR, _⟩ := h
  rw [ra.length]; exact hl ds r hR
theorem leN {R : List D → Sl → Prop} {k n : Nat} (hl : ∀ ds r, R ds r → ds.length = k) (h : k ≤ n) : ∀ ds r, R ds r → ds.length ≤ n := fun ds r q => by rw [hl ds r q]; exact h
theorem lenM {c : Cn} {R : Sl → List D → Sl → D → Prop} {k : Nat} (hl : ∀ s ds s' r, R s ds s' r → ds.length + 1 = k) {vs : List V} {H : Hp} {Q : VK} {E : XK} (h : SpM c R vs H Q E) : vs.length = k := by
  obtain ⟨F, fp, v0, ws, s, ds, s', r, rfl, _, _, _, ra, hR, _⟩ := h
  rw [List.length_cons, ra.length]; exact hl s ds s' r hR
theorem leM {R : Sl → List D → Sl → D → Prop} {k n : Nat} (hl : ∀ s ds s' r, R s ds s' r → ds.length + 1 = k) (h : k ≤ n) : ∀ s ds s' r, R s ds s' r → ds.length + 1 ≤ n := fun s ds s' r q => by rw [hl s ds s' r q]; exact h
theorem Room.u {k : Nat} {A : Around} (r : Room k A) : A.units + 199 < cLine := by have := r.un; omega
theorem hu65_of {k : Nat} {A : Around} (r : Room k A) : A.units + 65 < cLine := by have := r.un; omega
theorem hu20_of {k : Nat} {A : Around} (r : Room k A) : A.units + 20 < cLine := by have := r.un; omega
theorem sdR_room {c : Cn} {k : Nat} {A : Around} (r : Room k A) : (sdR c).room A.in1.in1 := show A.units + 2 + 2 < cLine by have := r.un; omega
end DL
set_option Elab.async false
set_option linter.all false
set_option maxRecDepth 100000
set_option maxHeartbeats 1000000
/-! DL18: loops as folds, slots forgotten at an end, items of comprehensions by data. -/
namespace DL
open PySem PySem.Spec PyProof.Rows L2
def forget : List Nat → DE → DE
  | [], δ => δ
  | i :: r, δ => forget r (δ.set i .un)
section
variable {c : Cn} {B : Bx} {F F' H H' : Hp} {σ : L2.St} {δ δ1 δ2 δ3 : DE} {fp : Nat → List Addr} {ta tb te tc : TE} {tt tu : TT} {d e x y : D} {ds es : List D} {t u : TS} {o : Out} {i j : Nat} {s : Sl} {ts : TA}
theorem Env.forget1 (E : Env c B F H σ δ) (i : Nat) : Env c B F H σ (δ.set i .un) := by
  obtain ⟨fp, E⟩ := E
  by_cases hi : i < δ.length
  · exact ⟨_, E.drop hi⟩
  · rw [List.set_eq_of_length_le (by omega)]
    exact ⟨fp, E⟩
theorem Env.forget (E : Env c B F H σ δ) : ∀ is : List Nat, Env c B F H σ (DL.forget is δ) := fun is => by
  induction is generalizing δ with
  | nil => exact E
  | cons i r ih => exact ih (E.forget1 i)
/-- at the end some slots are forgotten -/
theorem run_end (is : List Nat) (h : Run c B t δ (.nx δ1)) (e : DL.forget is δ1 = δ2) : Run c B t δ (.nx δ2) := fun F H σ E Dn q => h F H σ E Dn fun F' H' σ' E' s' => q F' H' σ' (e ▸ E'.forget is) s'
theorem run_to (h : Run c B t δ (.nx δ1)) (e : δ1 = δ2) : Run c B t δ (.nx δ2) := e ▸ h
/-- a loop as a fold -/
theorem Loop.fold {α β : Type} {g : TG} {tb : TS} (f : α → D) (env : β → DE) (step : β → α → β) (P : β → Prop) : ∀ (xs : List α) (b0 : β), P b0 → (∀ b a, P b → a ∈ xs → P (step b a) ∧ ∃ δ1, Tgt c g (f a) (env b) δ1 ∧ Run c B tb δ1 (.nx (env (step b a)))) →
    Loop c B g tb (env b0) (xs.map f) (.nx (env (xs.foldl step b0)))
  | [], b0, _, _ => .nil
  | a :: xs, b0, h0, h => by
    obtain ⟨p, δ1, h1, h2⟩ := h b0 a h0 List.mem_cons_self
    exact .next h1 h2 (Loop.fold f env step P xs _ p fun b a' pb m => h b a' pb (List.mem_cons_of_mem _ m))
theorem run_fold {α β : Type} {wi : TI} {g : TG} {tb : TS} {xs : List α} (f : α → D) (env : β → DE) (step : β → α → β) (P : β → Prop) (b0 : β) (hi : EvI c wi δ (xs.map f) (env b0)) (h0 : P b0)
    (h : ∀ b a, P b → a ∈ xs → P (step b a) ∧ ∃ δ1, Tgt c g (f a) (env b) δ1 ∧ Run c B tb δ1 (.nx (env (step b a)))) : Run c B (tFor wi g tb) δ (.nx (env (xs.foldl step b0))) :=
  run_for hi (Loop.fold f env step P xs b0 h0 h)
theorem run_foldS {α β : Type} {wi : TI} {g : TG} {tb : TS} {xs : List α} (f : α → D) (env : β → DE) (step : β → α → β) (b0 : β) (hi : EvI c wi δ (xs.map f) (env b0))
    (h : ∀ b a, a ∈ xs → ∃ δ1, Tgt c g (f a) (env b) δ1 ∧ Run c B tb δ1 (.nx (env (step b a)))) : Run c B (tFor wi g tb) δ (.nx (env (xs.foldl step b0))) :=
  run_fold f env step (fun _ => True) b0 hi trivial fun b a _ m => ⟨trivial, h b a m⟩
/-- .. by places -/
theorem Loop.foldI {α β : Type} {g : TG} {tb : TS} (f : α → D) (env : β → DE) (step : β → α → β) : ∀ (xs : List α) (P : Nat → β → Prop) (b0 : β), P 0 b0 → (∀ i b a, P i b → xs[i]? = some a → P (i + 1) (step b a) ∧ ∃ δ1, Tgt c g (f a) (env b) δ1 ∧ Run c B tb δ1 (.nx (env (step b a)))) →
    Loop c B g tb (env b0) (xs.map f) (.nx (env (xs.foldl step b0)))
  | [], P, b0, _, _ => .nil
  | a :: xs, P, b0, h0, h => by
    obtain ⟨p, δ1, h1, h2⟩ := h 0 b0 a h0 rfl
    exact .next h1 h2 (Loop.foldI f env step xs (fun i => P (i + 1)) _ p fun i b a' pb m => h (i + 1) b a' pb (by simpa using m))
theorem run_foldI {α β : Type} {wi : TI} {g : TG} {tb : TS} {xs : List α} (f : α → D) (env : β → DE) (step : β → α → β) (P : Nat → β → Prop) (b0 : β) (hi : EvI c wi δ (xs.map f) (env b0)) (h0 : P 0 b0)
    (h : ∀ i b a, P i b → xs[i]? = some a → P (i + 1) (step b a) ∧ ∃ δ1, Tgt c g (f a) (env b) δ1 ∧ Run c B tb δ1 (.nx (env (step b a)))) : Run c B (tFor wi g tb) δ (.nx (env (xs.foldl step b0))) :=
  run_for hi (Loop.foldI f env step xs P b0 h0 h)
theorem foldl_P {α β : Type} (step : β → α → β) : ∀ (xs : List α) (P : Nat → β → Prop) (b0 : β), P 0 b0 → (∀ i b a, P i b → xs[i]? = some a → P (i + 1) (step b a)) → P xs.length (xs.foldl step b0)
  | [], P, b0, h0, _ => h0
  | a :: xs, P, b0, h0, h => foldl_P step xs (fun i => P (i + 1)) _ (h 0 b0 a h0 rfl) fun i b a' pb m => h (i + 1) b a' pb (by simpa using m)
/-- a comprehension, its items by place -/
theorem evn_lcI {wi : TI} {g : TG} {vs : List Nat} (rs : Nat → Option D) (hi : EvI c wi δ ds δ) (hz : ds.length ≤ 100000) (h0 : 0 ∉ vs) (hv : ∀ i ∈ vs, ∀ s, δ[i]? = some s → s.own = false)
    (h : ∀ i d, ds[i]? = some d → Item c g tt te vs δ d (rs i)) : EvN c (tLc wi g tt te vs) δ (.ol ((List.range ds.length).filterMap rs)) δ := fun B F H σ E Q q => hi _ F H σ E _ fun J F1 H1 E1 s1 Y Dl hD => by
  refine ⟨fun i m H => m = ds.length - i ∧ i ≤ ds.length ∧ ∃ F' fp ws, EnvP c B F' H σ δ fp ∧ Same F1 F' ∧ F' Dl = none ∧ B.H0 Dl = none ∧ (∀ k, Dl ∉ fp k) ∧ H Dl = some (.lst ws) ∧ RepAll c F' ws ((List.range i).filterMap rs), ?_, ?_⟩
  · obtain ⟨fp, E1⟩ := E1
    obtain ⟨E2, n1, n2, n3⟩ := E1.newO (o := .lst []) hD
    exact ⟨ds.length, rfl, Nat.zero_le _, F1, fp, [], E2, Same.refl _, n1, n2, n3, upd_same, .nil⟩
  · rintro i m H2 ⟨rfl, hle, F2, fp, ws, E2, s2, n1, n2, n3, hDl, rw'⟩
    obtain ⟨y1, y2, y3⟩ := Y F2 H2 s2 E2.gr.le
    by_cases hlt : i < ds.length
    · have hd : ds[i]? = some ds[i] := List.getElem?_eq_getElem hlt
      obtain ⟨δ', hg, hδ, hr⟩ := (h i ds[i] hd).ex
      have htk : List.range (i + 1) = List.range i ++ [i] := List.range_succ
      refine .inr ⟨y1 i hlt, fun H => i + 1 ≤ ds.length ∧ ∃ F' fp ws, EnvP c B F' H σ δ fp ∧ Same F1 F' ∧ F' Dl = none ∧ B.H0 Dl = none ∧ (∀ k, Dl ∉ fp k) ∧ H Dl = some (.lst ws) ∧ RepAll c F' ws ((List.range (i + 1)).filterMap rs), fun H' w => ⟨ds.length - (i + 1), by omega, rfl, w⟩, fun x H3 hy => ?_⟩
      obtain ⟨F3, R, rx⟩ := y3 i _ hd x H3 hy
      have E3 := E2.ret R
      have hD3 : H3 Dl = some (.lst ws) := R.sh _ _ hDl
      have nF3 : F3 Dl = none := (R.fr Dl (ne_none_of hDl)).trans n1
      have E4 := (E3.wipe h0 hv).sub
      -- what stays within the block
      have stay : ∀ (F5 H5 : Hp), Grow (subB F3 H3 fp (wipeD δ vs).length) F5 H5 → H5 Dl = some (.lst ws) ∧ F5 Dl = none := fun F5 H5 g5 => ⟨g5.sh Dl _ (fun z => by
        obtain ⟨k, _, hk⟩ := List.mem_flatMap.mp z
        exact n3 k hk) hD3, (g5.fr Dl (ne_none_of hD3)).trans nF3⟩
      refine hg _ F3 H3 _ ⟨fp, E4⟩ x rx _ fun F4 H4 σ4 E5 s4 l4 k4 => ⟨?_, ?_⟩
      · refine wipe_of (l4.trans (wipe_len σ vs)) fun j hj => ?_
        rw [k4 j hj, wipe_get, if_neg hj]
      · have hσ : ∀ j, j ∉ vs → σ4[j]? = σ[j]? := fun j hj => by rw [k4 j hj, wipe_get, if_neg hj]
        rcases hr with ⟨e, ht⟩ | ⟨y, e, ht, he⟩
        · refine ht _ F4 H4 σ4 E5 _ fun F5 H5 E6 s5 => ?_
          obtain ⟨fp6, E6⟩ := E6
          obtain ⟨a1, a2⟩ := stay F5 H5 E6.gr
          have E7 := E3.unwipe hv E6 hσ hδ
          refine ⟨hlt, F5, _, ws, E7, s2.trans (R.sf.trans E6.gr.sf), a2, n2, fun k hk => ?_, a1, ?_⟩
          · by_cases hkv : k ∈ vs
            · rw [if_pos hkv] at hk; cases hk
            · rw [if_neg hkv] at hk
              rcases E6.fh k Dl hk with w | w
              · exact (ne_none_of hD3) w
              · obtain ⟨k', _, hk'⟩ := List.mem_flatMap.mp w.1
                exact n3 k' hk'
          · rw [htk, List.filterMap_append, List.filterMap_cons, e, List.filterMap_nil, List.append_nil]
            exact RepAll.mono (R.sf.trans E6.gr.sf) rw'
        · refine ht _ F4 H4 σ4 E5 _ fun F5 H5 E6 s5 => ?_
          refine he _ F5 H5 σ4 E6 _ fun v F6 H6 E7 s6 r7 => ?_
          obtain ⟨fp7, E7⟩ := E7
          obtain ⟨a1, a2⟩ := stay F6 H6 E7.gr
          have E8 := E3.unwipe hv E7 hσ hδ
          have hw : RepAll c F6 ws ((List.range i).filterMap rs) := RepAll.mono (R.sf.trans E7.gr.sf) rw'
          have nk : ∀ k, Dl ∉ (fun i => if i ∈ vs then [] else fp7 i) k := fun k hk => by
            have hk : Dl ∈ (if k ∈ vs then ([] : List Addr) else fp7 k) := hk
            by_cases hkv : k ∈ vs
            · rw [if_pos hkv] at hk; cases hk
            · rw [if_neg hkv] at hk
              rcases E7.fh k Dl hk with w | w
              · exact (ne_none_of hD3) w
              · obtain ⟨k', _, hk'⟩ := List.mem_flatMap.mp w.1
                exact n3 k' hk'
          refine ⟨ws, a1, ?_, hlt, F6, _, ws ++ [v], ?_, s2.trans (R.sf.trans E7.gr.sf), a2, n2, nk, upd_same, ?_⟩
          · rw [hw.length]
            have := List.length_filterMap_le rs (List.range i)
            rw [List.length_range] at this
            exact Nat.lt_of_lt_of_le (show _ < 100001 by omega) (by decide)
          · have g8 : Grow B F6 (upd H6 Dl (.lst (ws ++ [v]))) := ⟨E8.gr.sf, fun a o hm h => by
              rw [upd_ne (fun z => by subst z; rw [n2] at h; cases h)]; exact E8.gr.sh a o hm h, fun a h => by
              rw [upd_ne (fun z => by subst z; exact h n2)]; exact E8.gr.sd a h, E8.gr.fr, fun a o h => by
              rw [upd_ne (fun z => by subst z; rw [a2] at h; cases h)]; exact E8.gr.le a o h⟩
            exact E8.step g8 (Same.refl _) (fun k a ha => upd_ne fun z => by subst z; exact nk k ha) E8.ff
          · rw [htk, List.filterMap_append, List.filterMap_cons, e, List.filterMap_nil]
            exact hw.append (.one r7)
    · have e : i = ds.length := Nat.le_antisymm hle (Nat.le_of_not_lt hlt)
      subst e
      refine .inl ⟨y2, q _ F2 H2 fp [Dl] E2 (s1.trans s2) ⟨Dl, ws, rfl, rfl, hDl, ?_⟩ fun a ha => ?_⟩
      · exact rw'
      · rw [List.mem_singleton.mp ha]; exact ⟨n1, n2, n3⟩
theorem range_fm {α β : Type} (h : α → Option β) : ∀ xs : List α, ((List.range xs.length).filterMap fun i => (xs[i]?).bind h) = xs.filterMap h
  | [] => rfl
  | x :: xs => by
    rw [List.length_cons, List.range_succ_eq_map, List.filterMap_cons, List.filterMap_map, List.filterMap_cons]
    have e : ((fun i => ((x :: xs)[i]?).bind h) ∘ Nat.succ) = fun i => (xs[i]?).bind h := by
      funext i
      simp
    rw [e, range_fm h xs]
    rfl
/-- .. over typed items -/
theorem evn_fmap {α : Type} {wi : TI} {g : TG} {vs : List Nat} {xs : List α} (f : α → D) (h : α → Option D) (hi : EvI c wi δ (xs.map f) δ) (hz : xs.length ≤ 100000) (hv : ∀ i ∈ vs, ∀ s, δ[i]? = some s → s.own = false) (hx : ∀ a ∈ xs, Item c g tt te vs δ (f a) (h a)) (h0 : 0 ∉ vs := by decide) :
    EvN c (tLc wi g tt te vs) δ (.ol (xs.filterMap h)) δ := by
  have k := evn_lcI (tt := tt) (te := te) (g := g) (fun i => (xs[i]?).bind h) hi (by rw [List.length_map]; exact hz) h0 hv fun i d hd => by
    rw [List.getElem?_map] at hd
    cases e : xs[i]? with
    | none => rw [e] at hd; cases hd
    | some a =>
      rw [e] at hd
      cases hd
      exact hx a (List.mem_of_getElem? e)
  rw [List.length_map, range_fm] at k
  exact k
theorem evn_map {α : Type} {wi : TI} {g : TG} {vs : List Nat} {xs : List α} (f h : α → D) (hi : EvI c wi δ (xs.map f) δ) (hz : xs.length ≤ 100000) (hv : ∀ i ∈ vs, ∀ s, δ[i]? = some s → s.own = false)
    (hx : ∀ a ∈ xs, ∃ δ', TgtW c g (f a) vs (wipeD δ vs) δ' ∧ (∀ j, j ∉ vs → δ'[j]? = δ[j]?) ∧ Ev c te δ' (h a) δ') (h0 : 0 ∉ vs := by decide) : EvN c (tLc wi g tYes te vs) δ (.ol (xs.map h)) δ := by
  have k := evn_fmap (tt := tYes) (te := te) (g := g) f (fun a => some (h a)) hi hz hv (fun a m => by
    obtain ⟨δ', h1, h2, h3⟩ := hx a m
    exact ⟨δ', h1, h2, .inr ⟨h a, rfl, evt_yes, h3⟩⟩) h0
  have e : xs.filterMap (fun a => some (h a)) = xs.map h := List.filterMap_eq_map (f := h) ▸ rfl
  rw [e] at k
  exact k
def ownB (δ : DE) (vs : List Nat) : Bool := vs.any fun i => match δ[i]? with
  | some s => s.own
  | none => false
theorem own_of {vs : List Nat} (h : ownB δ vs = false) : ∀ i ∈ vs, ∀ s, δ[i]? = some s → s.own = false := fun i hi s hs => by
  unfold ownB at h
  rw [List.any_eq_false] at h
  have := h i hi
  rw [hs] at this
  simpa using this
theorem wipe1 {i : Nat} {s : Sl} : (wipeD δ [i]).set i s = δ.set i s := by
  show ((δ.set i .un).set i s) = _
  rw [List.set_set]
theorem wipe1_ne {i : Nat} {s : Sl} : ∀ j, j ∉ [i] → (δ.set i s)[j]? = δ[j]? := fun j hj => by
  rw [List.getElem?_set_ne]
  intro e
  exact hj (by rw [e]; exact List.mem_singleton.mpr rfl)
/-- [e for x in ..], x in slot i -/
theorem evn_fmap1 {α : Type} {wi : TI} {xs : List α} (f : α → D) (h : α → Option D) (hi : EvI c wi δ (xs.map f) δ) (hz : xs.length ≤ 100000) (hx : ∀ a ∈ xs, (h a = none ∧ EvT c tt (δ.set i (.d (f a))) false (δ.set i (.d (f a)))) ∨ ∃ y, h a = some y ∧ EvT c tt (δ.set i (.d (f a))) true (δ.set i (.d (f a))) ∧ Ev c te (δ.set i (.d (f a))) y (δ.set i (.d (f a))))
    (ho : ownB δ [i] = false := by rfl) (hl : i < δ.length := by first | decide | simp) (h0 : 0 < i := by decide) : EvN c (tLc wi (gName i) tt te [i]) δ (.ol (xs.filterMap h)) δ :=
  evn_fmap f h hi hz (own_of ho) (fun a m => ⟨δ.set i (.d (f a)), by
    have k : TgtW c (gName i) (f a) [i] (wipeD δ [i]) ((wipeD δ [i]).set i (.d (f a))) := tgtw_name (List.mem_singleton.mpr rfl) (by rw [wipeD_len]; exact hl) h0
    rw [wipe1] at k
    exact k, wipe1_ne, hx a m⟩) (fun z => by rw [List.mem_singleton] at z; omega)
theorem evn_map1 {α : Type} {wi : TI} {xs : List α} (f h : α → D) (hi : EvI c wi δ (xs.map f) δ) (hz : xs.length ≤ 100000) (hx : ∀ a ∈ xs, Ev c te (δ.set i (.d (f a))) (h a) (δ.set i (.d (f a))))
    (ho : ownB δ [i] = false := by rfl) (hl : i < δ.length := by first | decide | simp) (h0 : 0 < i := by decide) : EvN c (tLc wi (gName i) tYes te [i]) δ (.ol (xs.map h)) δ := by
  have k := evn_fmap1 (i := i) (tt := tYes) (te := te) f (fun a => some (h a)) hi hz (fun a m => .inr ⟨h a, rfl, evt_yes, hx a m⟩) ho hl h0
  have e : xs.filterMap (fun a => some (h a)) = xs.map h := List.filterMap_eq_map (f := h) ▸ rfl
  rw [e] at k
  exact k
theorem evn_filt1 {α : Type} {wi : TI} {xs : List α} (f h : α → D) (p : α → Bool) (hi : EvI c wi δ (xs.map f) δ) (hz : xs.length ≤ 100000) (ht : ∀ a ∈ xs, EvT c tt (δ.set i (.d (f a))) (p a) (δ.set i (.d (f a)))) (hx : ∀ a ∈ xs, p a = true → Ev c te (δ.set i (.d (f a))) (h a) (δ.set i (.d (f a))))
    (ho : ownB δ [i] = false := by rfl) (hl : i < δ.length := by first | decide | simp) (h0 : 0 < i := by decide) : EvN c (tLc wi (gName i) tt te [i]) δ (.ol ((xs.filter p).map h)) δ := by
  have k := evn_fmap1 (i := i) (tt := tt) (te := te) f (fun a => if p a then some (h a) else none) hi hz (fun a m => by
    cases e : p a with
    | false => exact .inl ⟨by simp, e ▸ ht a m⟩
    | true => exact .inr ⟨h a, by simp, e ▸ ht a m, hx a m e⟩) ho hl h0
  have e : ∀ l : List α, l.filterMap (fun a => if p a then some (h a) else none) = (l.filter p).map h := fun l => by
    induction l with
    | nil => rfl
    | cons a l ih =>
      rw [List.filterMap_cons, List.filter_cons]
      cases p a with
      | true => simp [ih]
      | false => simp [ih]
  rw [e] at k
  exact k
/-- len of a new list -/
theorem ev_lenN {xs : List D} (h : EvN c te δ (.ol xs) δ1) (hz : xs.length ≤ 100000) : Ev c (tCB (rLenV c.K) (tCons te tNil)) δ (.int xs.length) δ1 := ev_len (eva_cons (ev_lstN h) eva_nil) rfl hz
theorem ev_len1 {n : Nat} (h : Ev c te δ d δ1) (hn : d.len? = some n := by rfl) (hz : n ≤ 100000) : Ev c (tCB (rLenV c.K) (tCons te tNil)) δ (.int n) δ1 := ev_len (eva_cons h eva_nil) hn hz
/-- tuple(a new list) -/
theorem ev_tupN {xs : List D} (h : EvN c te δ (.ol xs) δ1) : Ev c (tCB (rTupOf c.K) (tCons te tNil)) δ (.tup xs) δ1 := ev_tupL (eva_cons (ev_lstN h) eva_nil)
/-- it returns d -/
def RR (c : Cn) (B : Bx) (t : TS) (δ : DE) (d : D) : Prop := ∃ δ', Run c B t δ (.rt (.d d) δ')
theorem rr_seq (h : Run c B t δ (.nx δ1)) (k : RR c B u δ1 d) : RR c B (tSeq t u) δ d := let ⟨δ', k⟩ := k; ⟨δ', run_seq h k⟩
theorem rr_seqR (h : RR c B t δ d) : RR c B (tSeq t u) δ d := let ⟨δ', k⟩ := h; ⟨δ', run_seq_rt k⟩
theorem rr_ret (h : Ev c te δ d δ1) : RR c B (tRet te) δ d := ⟨_, run_ret h⟩
theorem rr_if {b : Bool} (h : EvT c tt δ b δ1) (h1 : b = true → RR c B t δ1 d) (h2 : b = false → RR c B u δ1 d) : RR c B (tIfS tt t u) δ d := by
  cases b with
  | true => obtain ⟨δ', k⟩ := h1 rfl; exact ⟨δ', run_if h (fun _ => k) fun z => by cases z⟩
  | false => obtain ⟨δ', k⟩ := h2 rfl; exact ⟨δ', run_if h (fun z => by cases z) fun _ => k⟩
theorem rr_seq_if {b : Bool} {w : TS} (h : EvT c tt δ b δ1) (h1 : b = true → RR c B (tSeq t w) δ1 d) (h2 : b = false → RR c B (tSeq u w) δ1 d) : RR c B (tSeq (tIfS tt t u) w) δ d := by
  cases b with
  | true => obtain ⟨δ', k⟩ := h1 rfl; exact ⟨δ', run_seq_if h (fun _ => k) fun z => by cases z⟩
  | false => obtain ⟨δ', k⟩ := h2 rfl; exact ⟨δ', run_seq_if h (fun z => by cases z) fun _ => k⟩
theorem rr_next {w : TS} (h : RR c B w δ d) : RR c B (tSeq tNext w) δ d := h
theorem rr_is {e : D} (h : RR c B t δ d) (q : d = e) : RR c B t δ e := q ▸ h
/-- a test that is true, false -/
theorem rr_no {w : TS} (h : EvT c tt δ false δ1) (k : RR c B w δ1 d) : RR c B (tSeq (tIfS tt t tNext) w) δ d := rr_seq_if h (fun z => by cases z) fun _ => k
theorem run_no {w : TS} (h : EvT c tt δ false δ1) (k : Run c B w δ1 o) : Run c B (tSeq (tIfS tt t tNext) w) δ o := run_seq_if h (fun z => by cases z) fun _ => k
/-- a def's reading from its promise's cases -/
theorem runs_rt {n : Nat} {r : D} (e : st0 n ds = δ) (h : ∀ B : Bx, B.M = [] → RR c B t δ r) : RunsTo c t n ds (.d r) := fun B hM => .inl (e ▸ h B hM)
theorem runs_nx {n : Nat} (e : st0 n ds = δ) (h : ∀ B : Bx, B.M = [] → ∃ δ', Run c B t δ (.nx δ')) : RunsTo c t n ds (.d .non) := fun B hM => .inr ⟨rfl, e ▸ h B hM⟩
/-- {} -/
theorem evn_dkN : EvN c tDNewK δ (.odk []) δ := fun B F H σ E Q q p hp => by
  obtain ⟨fp, E⟩ := E
  obtain ⟨E2, n1, n2, n3⟩ := E.newO (o := .dK []) hp
  exact q _ _ _ fp [p] E2 (Same.refl _) ⟨p, [], rfl, rfl, upd_same, .nil⟩ fun a ha => by rw [List.mem_singleton.mp ha]; exact ⟨n1, n2, n3⟩
end
end DL
set_option Elab.async false
set_option linter.all false
set_option maxRecDepth 100000
set_option maxHeartbeats 1000000
/-! DL19: sum of a tuple. -/
namespace DL
open PySem PySem.Spec PyProof.Rows L2
def rSumT (K : PySem.W.Frag) : List V → Hp → VK → Prop := fun vs H Q => ∃ (a : Addr) (ns : List Int), vs = [V.ref a] ∧ SqT K H a (ns.map V.int) ∧ Q (.int ns.sum) H
theorem cr_sumT {X : Cx} (hc : X.calm = true) : CallR X (.builtin "sum") (rSumT X.K) := by
  intro pins s σ H vs us Q I r h
  obtain ⟨a, ns, rfl, hs, q⟩ := h
  obtain ⟨its, rv, hl, _⟩ := I.tuple hs
  rw [Vals.ref1 r]
  have hi : IntsAre its ns := rv.ints
  obtain ⟨xs, e⟩ := hi.allInts.items
  have hn : numsOf (intItems xs).toList = ns := by rw [← e]; exact hi.numsOf
  rw [nums_intItems] at hn
  rw [e] at hl
  refine PySem.W.ktm_sumG (I.ok.hd hc) hl fun h' tk t' hk => ?_
  rw [preSum_eq, List.take_of_length_le (by simp), hn]
  exact ⟨.int _, H, I.kept hk, ⟨_, rfl⟩, q⟩
section
variable {c : Cn} {δ δ1 : DE} {ts : TA}
theorem ev_sumT {ns : List Int} (h : EvA c ts δ [.tup (ns.map .int)] δ1) : Ev c (tCB (rSumT c.K) ts) δ (.int ns.sum) δ1 := fun B F H σ E Q q => h _ F H σ E _ fun vs F1 H1 E1 s1 r1 => by
  cases r1 with
  | cons r t => cases t with
    | nil =>
      obtain ⟨a, ws, rfl, hs, r⟩ := r.tup_inv
      rw [rep_ints r] at hs
      exact ⟨a, ns, rfl, sqT_mono E1.le hs, q _ F1 H1 E1 s1 (.int _)⟩
end
end DL
set_option Elab.async false
set_option linter.all false
set_option maxRecDepth 100000
set_option maxHeartbeats 1000000
/-! K71a: programs of reads, writes and fences; what each def computes. -/
namespace KM
open PySem PySem.Spec PyProof.Rows L2 DL
inductive Deed where
  | rd (l : Int) | wr (l : Int) | fe
  deriving DecidableEq, Repr
abbrev Prog := List (List Deed)
def Deed.ln : Deed → Option Int
  | .rd l => some l
  | .wr l => some l
  | .fe => none
def Deed.isR : Deed → Bool
  | .rd _ => true
  | _ => false
def Deed.isW : Deed → Bool
  | .wr _ => true
  | _ => false
def dDeed : Deed → D
  | .rd l => .tup [.str "read", .int l]
  | .wr l => .tup [.str "write", .int l]
  | .fe => .tup [.str "fence"]
def dRow (r : List Deed) : D := .tup (r.map dDeed)
def dProg (p : Prog) : D := .tup (p.map dRow)
def total (p : Prog) : Nat := (p.map List.length).sum
/-- what is asked of a program here -/
structure Ok (p : Prog) : Prop where
  len : p.length ≤ 3
  tot : total p ≤ 6
  ln : ∀ r ∈ p, ∀ d ∈ r, ∀ l, d.ln = some l → 0 ≤ l
/-! ### the parts -/
def addD (acc : List Int) (d : Deed) : List Int := match d.ln with
  | some l => if l ∈ acc then acc else acc ++ [l]
  | none => acc
def linesAcc (p : Prog) : List Int := p.foldl (fun acc r => r.foldl addD acc) []
def linesOf (p : Prog) : List Int := (linesAcc p).mergeSort fun a b => decide (a ≤ b)
def wrow (last : Int) : List Deed → List Int
  | [] => []
  | d :: r => if d.isW then (last + 1) :: wrow (last + 1) r else 0 :: wrow last r
def wcount (r : List Deed) : Int := (r.countP Deed.isW : Nat)
def rcount (r : List Deed) : Int := (r.countP Deed.isR : Nat)
def wnums (last : Int) : Prog → List (List Int)
  | [] => []
  | r :: p => wrow last r :: wnums (last + wcount r) p
def counts (p : Prog) : List Int := p.map rcount
abbrev Num := List (List (List Int))
def nrow (ls : List Int) (reads : Int) : List Deed → List Int → List (List Int)
  | .fe :: r, _ :: w => [2, -1, -1] :: nrow ls reads r w
  | .wr l :: r, n :: w => [1, (ls.idxOf l : Nat), n] :: nrow ls reads r w
  | .rd l :: r, _ :: w => [0, (ls.idxOf l : Nat), reads] :: nrow ls (reads + 1) r w
  | _, _ => []
def nrows (ls : List Int) (reads : Int) : Prog → List (List Int) → Num
  | r :: p, w :: ws => nrow ls reads r w :: nrows ls (reads + rcount r) p ws
  | _, _ => []
def numd (p : Prog) : Num := nrows (linesOf p) 0 p (wnums 0 p)
def dNum (n : Num) : D := .tup (n.map fun r => .tup (r.map dI))
def split : List Int → List Int → List (List Int)
  | [], _ => []
  | c :: cs, as => as.take c.toNat :: split cs (as.drop c.toNat)
/-! ### the plan -/
def planF (p : Prog) : List (Str × D) := [("rows", dNum (numd p)), ("many", .int (p.length : Nat)), ("lines", .int ((linesOf p).length : Nat)), ("reads", .int (counts p).sum), ("length", .int (total p : Nat))]
def dPlan (K : PySem.W.Frag) (p : Prog) : D := .ins (He.ga K "PlainPlan") (planF p)
/-- a stand: the processors' places, the memory, the answers -/
def next (n : Num) (s : List Int) (i : Nat) : List Int := ((n.getD i []).getD (s.getD i 0).toNat [])
def behind (p : Prog) (s : List Int) (i : Nat) : List Int :=
  let d := next (numd p) s i
  let m := p.length
  let s1 := s.set i (s.getD i 0 + 1)
  let s2 := if d.getD 0 0 = 1 then s1.set (m + (d.getD 1 0).toNat) (d.getD 2 0) else s1
  if d.getD 0 0 = 0 then s2.set (m + (linesOf p).length + (d.getD 2 0).toNat) (s.getD (m + (d.getD 1 0).toNat) 0) else s2
def canGo (p : Prog) (s : List Int) (i : Nat) : Bool := decide (s.getD i 0 < ((numd p).getD i []).length)
def start (p : Prog) : List Int := List.replicate (p.length + (linesOf p).length) 0 ++ List.replicate (counts p).sum.toNat (-1)
/-- a key is put (kept at its first place) -/
def put (acc : List (List Int)) (x : List Int) : List (List Int) := if x ∈ acc then acc else acc ++ [x]
def stepOne (p : Prog) (acc : List (List Int)) (s : List Int) : List (List Int) := (List.range p.length).foldl (fun acc i => if canGo p s i then put acc (behind p s i) else acc) acc
def stepAll (p : Prog) (ss : List (List Int)) : List (List Int) := ss.foldl (stepOne p) []
def standsAt (p : Prog) : Nat → List (List Int)
  | 0 => [start p]
  | n + 1 => stepAll p (standsAt p n)
def told (p : Prog) : List (List Int) := (standsAt p (total p)).foldl (fun acc s => put acc (s.drop (p.length + (linesOf p).length))) []
def leI (a b : List Int) : Bool := !ltI b a
def answers (p : Prog) : List (List Int) := (told p).mergeSort leI
/-! ### the law's own -/
structure Pile where
  ns : List Int
  k : Int
  c : Int
def Pile.sl (a : Pile) : Sl := .ol [.lst (a.ns.map .int), .int a.k, .int a.c]
def cellOf (a : Pile) : Int := if a.ns.length = 0 then 12 else a.ns.getD ((a.k / 8) % a.ns.length).toNat 0
def keptOf (a : Pile) : Int := if a.k % 8 = 0 then cellOf a else a.c
def draw (a : Pile) (many : Int) : Int × Pile :=
  let cell := cellOf a
  let c := keptOf a
  let k := a.k + 1
  if (10 : Int) ^ 18 ≤ cell ∧ a.k / 8 < a.ns.length then (c % many, ⟨a.ns, k, c / many⟩)
  else ((((cell % 1000193 * 16807 + k * 69621 + 5) % 2147483647) * 39373 + k * k * 31) % 2147483647 % many, ⟨a.ns, k, c⟩)
/-- orders, one deed more -/
def orders (p : Prog) : Nat → List (List Int)
  | 0 => [[]]
  | n + 1 => (orders p n).flatMap fun o => (List.range p.length).filterMap fun i => if o.count (i : Int) < (p.getD i []).length then some (o ++ [(i : Int)]) else none
/-- a state of the law's machine -/
structure Ls where
  first : List Int
  at_ : List Int
  ans : List (List Int)
  cells : List Int
def firsts (n : Int) : Prog → List Int
  | [] => []
  | r :: p => n :: firsts (n + wcount r) p
def ls0 (p : Prog) : Ls := ⟨firsts 0 p, p.map fun _ => 0, p.map fun _ => [], [0, 0]⟩
def lstep (p : Prog) (s : Ls) (i : Nat) : Ls :=
  let d := (p.getD i []).getD (s.at_.getD i 0).toNat .fe
  let at1 := s.at_.set i (s.at_.getD i 0 + 1)
  match d with
  | .wr l => ⟨s.first.set i (s.first.getD i 0 + 1), at1, s.ans, s.cells.set l.toNat (s.first.getD i 0 + 1)⟩
  | .rd l => ⟨s.first, at1, s.ans.set i (s.ans.getD i [] ++ [s.cells.getD l.toNat 0]), s.cells⟩
  | .fe => ⟨s.first, at1, s.ans, s.cells⟩
def lrun (p : Prog) (o : List Int) : Ls := o.foldl (fun s i => lstep p s i.toNat) (ls0 p)
def done (p : Prog) (o : List Int) : List (List Int) := (lrun p o).ans
def putR (acc : List (List (List Int))) (x : List (List Int)) : List (List (List Int)) := if x ∈ acc then acc else acc ++ [x]
def found (p : Prog) : List (List (List Int)) := (orders p (total p)).foldl (fun acc o => putR acc (done p o)) []
def leR (a b : List (List Int)) : Bool := !ltR b a
def due (p : Prog) : List (List (List Int)) := (found p).mergeSort leR
/-- a program that is drawn -/
def drawDeed (fence : Bool) (a : Pile) : Deed × Pile :=
  let (w, a1) := draw a (if fence then 3 else 6)
  let (l, a2) := draw a1 2
  (if fence then (if w = 0 then .rd l else if w = 1 then .wr l else .fe) else (if w % 2 = 0 then .rd l else .wr l), a2)
def fill (fence : Bool) : Nat → Prog → Pile → Prog × Pile
  | 0, rows, a => (rows, a)
  | n + 1, rows, a =>
    let (d, a1) := drawDeed fence a
    let (i, a2) := draw a1 rows.length
    fill fence n (rows.set i.toNat (rows.getD i.toNat [] ++ [d])) a2
def mkProg (a : Pile) : Prog × Pile :=
  let (m, a1) := draw a 3
  let (n, a2) := draw a1 7
  let (f, a3) := draw a2 3
  fill (decide (f = 0)) n.toNat (List.replicate (1 + m).toNat []) a3
/-! ### the promises -/
section
def R_is_integer (c : Cn) : List D → D → Prop := fun ds r => ∃ n : Int, ds = [.int n] ∧ r = .bl true
def R_is_number (c : Cn) : List D → D → Prop := fun ds r => ∃ n : Int, ds = [.int n] ∧ r = .bl (decide (0 ≤ n))
def R_lines_of (c : Cn) : List D → D → Prop := fun ds r => ∃ p, Ok p ∧ ds = [dProg p] ∧ r = dI (linesOf p)
def R_write_numbers (c : Cn) : List D → D → Prop := fun ds r => ∃ p, Ok p ∧ ds = [dProg p] ∧ r = dR (wnums 0 p)
def R_read_counts (c : Cn) : List D → D → Prop := fun ds r => ∃ p, Ok p ∧ ds = [dProg p] ∧ r = dI (counts p)
def R_deed_count (c : Cn) : List D → D → Prop := fun ds r => ∃ p, Ok p ∧ ds = [dProg p] ∧ r = .int (total p : Nat)
def R_numbered (c : Cn) : List D → D → Prop := fun ds r => ∃ p, Ok p ∧ ds = [dProg p] ∧ r = dNum (numd p)
def R_rows_of (c : Cn) : List D → D → Prop := fun ds r => ∃ cs as : List Int, cs.length ≤ 1000 ∧ as.length ≤ 1000 ∧ (∀ x ∈ cs, 0 ≤ x) ∧ ds = [dI cs, dI as] ∧ r = dR (split cs as)
def R_PlainPlan_init (c : Cn) : Sl → List D → Sl → D → Prop := fun s ds s' r => ∃ p, Ok p ∧ s = .oo (He.ga c.K "PlainPlan") [] ∧ ds = [dProg p] ∧ s' = .oo (He.ga c.K "PlainPlan") (planF p) ∧ r = .non
def R_PlainPlan_first_stand (c : Cn) : List D → D → Prop := fun ds r => ∃ p, Ok p ∧ ds = [dPlan c.K p] ∧ r = dI (List.replicate (p.length + (linesOf p).length) 0)
/-- a stand that the walk meets -/
structure Stand (p : Prog) (s : List Int) : Prop where
  len : s.length = (start p).length
  at_ : ∀ i, i < p.length → 0 ≤ s.getD i 0
def R_PlainPlan_can_go_on (c : Cn) : List D → D → Prop := fun ds r => ∃ p s, ∃ i : Nat, Ok p ∧ Stand p s ∧ i < p.length ∧ ds = [dPlan c.K p, dI s, .int i] ∧ r = .bl (canGo p s i)
def R_PlainPlan_next_deed (c : Cn) : List D → D → Prop := fun ds r => ∃ p s, ∃ i : Nat, Ok p ∧ Stand p s ∧ i < p.length ∧ canGo p s i = true ∧ ds = [dPlan c.K p, dI s, .int i] ∧ r = dI (next (numd p) s i)
def R_PlainPlan_memory_has (c : Cn) : List D → D → Prop := fun ds r => ∃ p s, ∃ j : Nat, Ok p ∧ Stand p s ∧ j < (linesOf p).length ∧ ds = [dPlan c.K p, dI s, .int j] ∧ r = .int (s.getD (p.length + j) 0)
def R_PlainPlan_behind (c : Cn) : List D → D → Prop := fun ds r => ∃ p s, ∃ i : Nat, Ok p ∧ Stand p s ∧ i < p.length ∧ canGo p s i = true ∧ ds = [dPlan c.K p, dI s, .int i] ∧ r = dI (behind p s i)
def R_plain_answers (c : Cn) : List D → D → Prop := fun ds r => ∃ p, Ok p ∧ ds = [dProg p] ∧ r = .lst ((answers p).map dI)
def R_is_deed_of_program (c : Cn) : List D → D → Prop := fun ds r => ∃ d : Deed, (∀ l, d.ln = some l → 0 ≤ l) ∧ ds = [dDeed d] ∧ r = .bl true
def R_is_program (c : Cn) : List D → D → Prop := fun ds r => ∃ p, Ok p ∧ ds = [dProg p] ∧ r = .bl true
def R_check_program (c : Cn) : List D → D → Prop := fun ds r => ∃ p, Ok p ∧ ds = [dProg p] ∧ r = .non
def R_plain_outcomes (c : Cn) : List D → D → Prop := fun ds r => ∃ p, Ok p ∧ ds = [dProg p] ∧ r = .tup (((answers p).map (split (counts p))).map dR)
def R__law_draw (c : Cn) : Sl → List D → Sl → D → Prop := fun s ds s' r => ∃ (a : Pile) (many : Int), 0 < many ∧ many < 1000 ∧ 0 ≤ a.k ∧ a.k ≤ 1000 ∧ a.ns.length ≤ 1000 ∧ s = a.sl ∧ ds = [.int many] ∧ s' = (draw a many).2.sl ∧ r = .int (draw a many).1
def R__law_program (c : Cn) : Sl → List D → Sl → D → Prop := fun s ds s' r => ∃ a : Pile, 0 ≤ a.k ∧ a.k ≤ 500 ∧ a.ns.length ≤ 1000 ∧ s = a.sl ∧ ds = [] ∧ s' = (mkProg a).2.sl ∧ r = dProg (mkProg a).1
/-- of lines 0 and 1 alone -/
def Two (p : Prog) : Prop := ∀ r ∈ p, ∀ d ∈ r, ∀ l, d.ln = some l → l = 0 ∨ l = 1
def R__law_orders (c : Cn) : List D → D → Prop := fun ds r => ∃ p, Ok p ∧ ds = [dProg p] ∧ r = .lst ((orders p (total p)).map fun o => .xt (o.map .int))
def R__law_done (c : Cn) : List D → D → Prop := fun ds r => ∃ p o, Ok p ∧ Two p ∧ o ∈ orders p (total p) ∧ ds = [dProg p, .xt (o.map .int)] ∧ r = dR (done p o)
def R__law_due (c : Cn) : List D → D → Prop := fun ds r => ∃ p, Ok p ∧ Two p ∧ 1 ≤ p.length ∧ ds = [dProg p] ∧ r = .lst ((due p).map dR)
def R__law_holds (c : Cn) : List D → D → Prop := fun ds r => ∃ rs : List (List (List Int)), rs.length ≤ 1000 ∧ (∀ x ∈ rs, x.length ≤ 10 ∧ ∀ y ∈ x, y.length ≤ 10) ∧ ds = [.tup (rs.map dR), .lst (rs.map dR)] ∧ r = .bl true
def R_law (c : Cn) : List D → D → Prop := fun ds r => ∃ ns : List Int, ns.length ≤ 63 ∧ ds = [.lst (ns.map .int)] ∧ r = .bl true
end
end KM
set_option Elab.async false
set_option linter.all false
set_option maxRecDepth 100000
set_option maxHeartbeats 1000000
/-! K71p: the plain part: what the numbered rows hold. -/
namespace KM
open PySem
def rowOf (p : Prog) (i : Nat) : List Deed := p.getD i []
def wb (p : Prog) (i : Nat) : Int := ((p.take i).map wcount).sum
def rb (p : Prog) (i : Nat) : Int := ((p.take i).map rcount).sum
def entry (p : Prog) (i j : Nat) : List Int := match (rowOf p i)[j]? with
  | some (.wr l) => [1, (((linesOf p).idxOf l : Nat) : Int), wb p i + wcount ((rowOf p i).take (j + 1))]
  | some (.rd l) => [0, (((linesOf p).idxOf l : Nat) : Int), rb p i + rcount ((rowOf p i).take j)]
  | _ => [2, -1, -1]
theorem wcount_cons (d : Deed) (r : List Deed) : wcount (d :: r) = (if d.isW then 1 else 0) + wcount r := by
  unfold wcount
  rw [List.countP_cons]
  cases d.isW <;> simp <;> omega
theorem rcount_cons (d : Deed) (r : List Deed) : rcount (d :: r) = (if d.isR then 1 else 0) + rcount r := by
  unfold rcount
  rw [List.countP_cons]
  cases d.isR <;> simp <;> omega
theorem wrow_length : ∀ (r : List Deed) (n : Int), (wrow n r).length = r.length
  | [], _ => rfl
  | d :: r, n => by
    show (if d.isW then (n + 1) :: wrow (n + 1) r else 0 :: wrow n r).length = _
    split
    · rw [List.length_cons, List.length_cons, wrow_length]
    · rw [List.length_cons, List.length_cons, wrow_length]
theorem wnums_length : ∀ (p : Prog) (n : Int), (wnums n p).length = p.length
  | [], _ => rfl
  | r :: p, n => by
    show (wrow n r :: wnums (n + wcount r) p).length = _
    rw [List.length_cons, List.length_cons, wnums_length]
theorem nrow_length (ls : List Int) : ∀ (r : List Deed) (w : List Int) (k : Int), w.length = r.length → (nrow ls k r w).length = r.length
  | [], [], _, _ => rfl
  | .fe :: r, _ :: w, k, h => by
    show ([2, -1, -1] :: nrow ls k r w).length = _
    rw [List.length_cons, List.length_cons, nrow_length ls r w k (by simpa using h)]
  | .wr l :: r, n :: w, k, h => by
    show ([1, ((ls.idxOf l : Nat) : Int), n] :: nrow ls k r w).length = _
    rw [List.length_cons, List.length_cons, nrow_length ls r w k (by simpa using h)]
  | .rd l :: r, _ :: w, k, h => by
    show ([0, ((ls.idxOf l : Nat) : Int), k] :: nrow ls (k + 1) r w).length = _
    rw [List.length_cons, List.length_cons, nrow_length ls r w (k + 1) (by simpa using h)]
  | [], _ :: _, _, h => by simp at h
  | _ :: _, [], _, h => by simp at h
theorem wrow_at : ∀ (r : List Deed) (n : Int) (j : Nat) (l : Int), r[j]? = some (.wr l) → (wrow n r).getD j 0 = n + wcount (r.take (j + 1))
  | [], _, j, l, h => by simp at h
  | d :: r, n, 0, l, h => by
    simp at h
    subst h
    show ((n + 1) :: wrow (n + 1) r).getD 0 0 = _
    rw [List.take_succ_cons, wcount_cons]
    simp [Deed.isW, wcount]
  | d :: r, n, j + 1, l, h => by
    have h' : r[j]? = some (.wr l) := by simpa using h
    show (if d.isW then (n + 1) :: wrow (n + 1) r else 0 :: wrow n r).getD (j + 1) 0 = _
    rw [List.take_succ_cons, wcount_cons]
    cases d.isW with
    | true =>
      show (wrow (n + 1) r).getD j 0 = _
      rw [wrow_at r (n + 1) j l h']
      simp
      omega
    | false =>
      show (wrow n r).getD j 0 = _
      rw [wrow_at r n j l h']
      simp
theorem nrow_at (ls : List Int) : ∀ (r : List Deed) (w : List Int) (k : Int) (j : Nat) (d : Deed), w.length = r.length → r[j]? = some d →
    (nrow ls k r w).getD j [] = (match d with
      | .wr l => [1, ((ls.idxOf l : Nat) : Int), w.getD j 0]
      | .rd l => [0, ((ls.idxOf l : Nat) : Int), k + rcount (r.take j)]
      | .fe => [2, -1, -1])
  | [], _, _, j, d, _, h => by simp at h
  | _ :: _, [], _, _, _, h, _ => by simp at h
  | .fe :: r, x :: w, k, 0, d, hl, h => by simp at h; subst h; rfl
  | .wr l :: r, x :: w, k, 0, d, hl, h => by simp at h; subst h; rfl
  | .rd l :: r, x :: w, k, 0, d, hl, h => by
    simp at h
    subst h
    show [0, ((ls.idxOf l : Nat) : Int), k] = [0, ((ls.idxOf l : Nat) : Int), k + rcount []]
    simp [rcount]
  | .fe :: r, x :: w, k, j + 1, d, hl, h => by
    show (nrow ls k r w).getD j [] = _
    rw [nrow_at ls r w k j d (by simpa using hl) (by simpa using h), List.take_succ_cons, rcount_cons]
    cases d <;> simp [Deed.isR]
  | .wr l :: r, x :: w, k, j + 1, d, hl, h => by
    show (nrow ls k r w).getD j [] = _
    rw [nrow_at ls r w k j d (by simpa using hl) (by simpa using h), List.take_succ_cons, rcount_cons]
    cases d <;> simp [Deed.isR]
  | .rd l :: r, x :: w, k, j + 1, d, hl, h => by
    show (nrow ls (k + 1) r w).getD j [] = _
    rw [nrow_at ls r w (k + 1) j d (by simpa using hl) (by simpa using h), List.take_succ_cons, rcount_cons]
    cases d <;> simp [Deed.isR] <;> omega
theorem nrows_length (ls : List Int) : ∀ (p : Prog) (ws : List (List Int)) (k : Int), ws.length = p.length → (nrows ls k p ws).length = p.length
  | [], [], _, _ => rfl
  | r :: p, w :: ws, k, h => by
    show (nrow ls k r w :: nrows ls (k + rcount r) p ws).length = _
    rw [List.length_cons, List.length_cons, nrows_length ls p ws _ (by simpa using h)]
  | [], _ :: _, _, h => by simp at h
  | _ :: _, [], _, h => by simp at h
theorem nrows_at (ls : List Int) : ∀ (p : Prog) (ws : List (List Int)) (k : Int) (i : Nat), ws.length = p.length → i < p.length → (nrows ls k p ws).getD i [] = nrow ls (k + rb p i) (rowOf p i) (ws.getD i [])
  | [], _, _, i, _, h => by simp at h
  | _ :: _, [], _, _, h, _ => by simp at h
  | r :: p, w :: ws, k, 0, h, _ => by
    show nrow ls k r w = _
    simp [rb, rowOf]
  | r :: p, w :: ws, k, i + 1, h, hi => by
    show (nrows ls (k + rcount r) p ws).getD i [] = _
    rw [nrows_at ls p ws (k + rcount r) i (by simpa using h) (by simpa using hi)]
    have : k + rcount r + rb p i = k + rb (r :: p) (i + 1) := by
      unfold rb
      rw [List.take_succ_cons, List.map_cons, List.sum_cons]
      omega
    rw [this]
    rfl
theorem wnums_at : ∀ (p : Prog) (n : Int) (i : Nat), i < p.length → (wnums n p).getD i [] = wrow (n + wb p i) (rowOf p i)
  | [], _, i, h => by simp at h
  | r :: p, n, 0, _ => by
    show wrow n r = _
    simp [wb, rowOf]
  | r :: p, n, i + 1, h => by
    show (wnums (n + wcount r) p).getD i [] = _
    rw [wnums_at p (n + wcount r) i (by simpa using h)]
    have : n + wcount r + wb p i = n + wb (r :: p) (i + 1) := by
      unfold wb
      rw [List.take_succ_cons, List.map_cons, List.sum_cons]
      omega
    rw [this]
    rfl
theorem numd_length (p : Prog) : (numd p).length = p.length := nrows_length _ _ _ _ (wnums_length p 0)
theorem numd_row {p : Prog} {i : Nat} (h : i < p.length) : (numd p).getD i [] = nrow (linesOf p) (rb p i) (rowOf p i) (wrow (wb p i) (rowOf p i)) := by
  unfold numd
  rw [nrows_at _ _ _ _ _ (wnums_length p 0) h, wnums_at p 0 i h]
  simp
theorem numd_row_length {p : Prog} {i : Nat} (h : i < p.length) : ((numd p).getD i []).length = (rowOf p i).length := by
  rw [numd_row h, nrow_length _ _ _ _ (wrow_length _ _)]
theorem numd_at {p : Prog} {i j : Nat} (h : i < p.length) (hj : j < (rowOf p i).length) : ((numd p).getD i []).getD j [] = entry p i j := by
  have hd : (rowOf p i)[j]? = some (rowOf p i)[j] := List.getElem?_eq_getElem hj
  rw [numd_row h, nrow_at _ _ _ _ _ _ (wrow_length _ _) hd]
  unfold entry
  rw [hd]
  cases e : (rowOf p i)[j] with
  | rd l => rfl
  | fe => rfl
  | wr l =>
    show [1, (((linesOf p).idxOf l : Nat) : Int), (wrow (wb p i) (rowOf p i)).getD j 0] = [1, (((linesOf p).idxOf l : Nat) : Int), wb p i + wcount ((rowOf p i).take (j + 1))]
    rw [wrow_at _ _ _ l (by rw [hd, e])]
/-! ### the lines -/
theorem mem_addD {acc : List Int} {d : Deed} {x : Int} : x ∈ addD acc d ↔ x ∈ acc ∨ d.ln = some x := by
  unfold addD
  cases h : d.ln with
  | none => simp
  | some l =>
    show x ∈ (if l ∈ acc then acc else acc ++ [l]) ↔ _
    by_cases hl : l ∈ acc
    · rw [if_pos hl]
      constructor
      · exact .inl
      · rintro (h | h)
        · exact h
        · cases h; exact hl
    · rw [if_neg hl]
      simp [eq_comm]
theorem nodup_addD {acc : List Int} {d : Deed} (h : acc.Nodup) : (addD acc d).Nodup := by
  unfold addD
  cases d.ln with
  | none => exact h
  | some l =>
    show (if l ∈ acc then acc else acc ++ [l]).Nodup
    by_cases hl : l ∈ acc
    · rw [if_pos hl]; exact h
    · rw [if_neg hl]
      exact List.nodup_append.mpr ⟨h, by simp, fun a ha b hb e => hl (by rw [List.mem_singleton.mp hb] at e; rw [← e]; exact ha)⟩
theorem mem_addR {r : List Deed} : ∀ {acc : List Int} {x : Int}, x ∈ r.foldl addD acc ↔ x ∈ acc ∨ ∃ d ∈ r, d.ln = some x := by
  induction r with
  | nil => intro acc x; simp
  | cons d r ih =>
    intro acc x
    rw [List.foldl_cons, ih, mem_addD]
    simp [or_assoc]
theorem nodup_addR {r : List Deed} : ∀ {acc : List Int}, acc.Nodup → (r.foldl addD acc).Nodup := by
  induction r with
  | nil => intro acc h; exact h
  | cons d r ih => intro acc h; exact ih (nodup_addD h)
theorem mem_acc {p : Prog} : ∀ {acc : List Int} {x : Int}, x ∈ p.foldl (fun acc r => r.foldl addD acc) acc ↔ x ∈ acc ∨ ∃ r ∈ p, ∃ d ∈ r, d.ln = some x := by
  induction p with
  | nil => intro acc x; simp
  | cons r p ih =>
    intro acc x
    rw [List.foldl_cons, ih, mem_addR]
    simp [or_assoc]
theorem nodup_acc {p : Prog} : ∀ {acc : List Int}, acc.Nodup → (p.foldl (fun acc r => r.foldl addD acc) acc).Nodup := by
  induction p with
  | nil => intro acc h; exact h
  | cons d r ih => intro acc h; exact ih (nodup_addR h)
theorem mem_lines {p : Prog} {x : Int} : x ∈ linesOf p ↔ ∃ r ∈ p, ∃ d ∈ r, d.ln = some x := by
  unfold linesOf
  rw [(List.mergeSort_perm _ _).mem_iff]
  unfold linesAcc
  rw [mem_acc]
  simp
theorem nodup_lines (p : Prog) : (linesOf p).Nodup := by
  unfold linesOf
  rw [(List.mergeSort_perm _ _).nodup_iff]
  exact nodup_acc List.nodup_nil
theorem rowOf_mem {p : Prog} {i : Nat} (h : i < p.length) : rowOf p i ∈ p := by
  unfold rowOf
  rw [List.getD_eq_getElem?_getD, List.getElem?_eq_getElem h]
  exact List.getElem_mem h
theorem line_lt {p : Prog} {i j : Nat} {d : Deed} {l : Int} (h : i < p.length) (hd : (rowOf p i)[j]? = some d) (hl : d.ln = some l) : (linesOf p).idxOf l < (linesOf p).length :=
  List.idxOf_lt_length_iff.mpr (mem_lines.mpr ⟨_, rowOf_mem h, d, List.mem_of_getElem? hd, hl⟩)
/-! ### the reads -/
theorem sum_nonneg : ∀ {l : List Int}, (∀ x ∈ l, 0 ≤ x) → 0 ≤ l.sum
  | [], _ => by simp
  | x :: l, h => by
    rw [List.sum_cons]
    have := h x List.mem_cons_self
    have := sum_nonneg fun y hy => h y (List.mem_cons_of_mem x hy)
    omega
theorem rcount_nonneg (r : List Deed) : 0 ≤ rcount r := by unfold rcount; omega
theorem wcount_nonneg (r : List Deed) : 0 ≤ wcount r := by unfold wcount; omega
theorem rb_nonneg (p : Prog) (i : Nat) : 0 ≤ rb p i := sum_nonneg fun x hx => by
  obtain ⟨r, _, rfl⟩ := List.mem_map.mp hx
  exact rcount_nonneg r
theorem counts_split : ∀ {p : Prog} {i : Nat}, i < p.length → rb p i + rcount (rowOf p i) + ((p.drop (i + 1)).map rcount).sum = (counts p).sum
  | [], i, h => by simp at h
  | r :: p, 0, _ => by simp [rb, rowOf, counts]
  | r :: p, i + 1, h => by
    have := counts_split (p := p) (i := i) (by simpa using h)
    unfold rb rowOf counts at *
    rw [List.take_succ_cons, List.map_cons, List.sum_cons, List.map_cons, List.sum_cons, List.drop_succ_cons]
    show rcount r + ((p.take i).map rcount).sum + rcount (p.getD i []) + _ = _
    omega
theorem rcount_take_lt : ∀ {r : List Deed} {j : Nat} {l : Int}, r[j]? = some (.rd l) → rcount (r.take j) < rcount r
  | [], j, l, h => by simp at h
  | d :: r, 0, l, h => by
    simp at h
    subst h
    rw [rcount_cons]
    have := rcount_nonneg r
    simp [rcount, Deed.isR] at *
    omega
  | d :: r, j + 1, l, h => by
    have := rcount_take_lt (r := r) (j := j) (l := l) (by simpa using h)
    rw [List.take_succ_cons, rcount_cons, rcount_cons]
    omega
theorem read_lt {p : Prog} {i j : Nat} {l : Int} (h : i < p.length) (hd : (rowOf p i)[j]? = some (.rd l)) : 0 ≤ rb p i + rcount ((rowOf p i).take j) ∧ rb p i + rcount ((rowOf p i).take j) < (counts p).sum := by
  have h1 := rb_nonneg p i
  have h2 := rcount_nonneg ((rowOf p i).take j)
  have h3 := rcount_take_lt hd
  have h4 := counts_split h
  have h5 : 0 ≤ ((p.drop (i + 1)).map rcount).sum := sum_nonneg fun x hx => by
    obtain ⟨r, _, rfl⟩ := List.mem_map.mp hx
    exact rcount_nonneg r
  omega
/-- the deed that is next -/
theorem next_entry {p : Prog} {s : List Int} {i : Nat} (h : i < p.length) (h0 : 0 ≤ s.getD i 0) (hg : canGo p s i = true) : (s.getD i 0).toNat < (rowOf p i).length ∧ next (numd p) s i = entry p i (s.getD i 0).toNat := by
  have hg' : s.getD i 0 < ((numd p).getD i []).length := of_decide_eq_true hg
  rw [numd_row_length h] at hg'
  have hj : (s.getD i 0).toNat < (rowOf p i).length := by omega
  exact ⟨hj, numd_at h hj⟩
/-! ### sets as lists -/
theorem mem_put {acc : List (List Int)} {x y : List Int} : y ∈ put acc x ↔ y ∈ acc ∨ y = x := by
  unfold put
  by_cases h : x ∈ acc
  · rw [if_pos h]
    exact ⟨.inl, fun z => z.elim id fun e => e ▸ h⟩
  · rw [if_neg h]; simp
theorem nodup_put {acc : List (List Int)} {x : List Int} (h : acc.Nodup) : (put acc x).Nodup := by
  unfold put
  by_cases hx : x ∈ acc
  · rw [if_pos hx]; exact h
  · rw [if_neg hx]
    exact List.nodup_append.mpr ⟨h, by simp, fun a ha b hb e => hx (by rw [List.mem_singleton.mp hb] at e; rw [← e]; exact ha)⟩
theorem put_len (acc : List (List Int)) (x : List Int) : (put acc x).length ≤ acc.length + 1 := by
  unfold put
  split
  · exact Nat.le_succ _
  · rw [List.length_append]; exact Nat.le_refl _
section
variable {p : Prog}
theorem mem_range_fold {s : List Int} : ∀ (l : List Nat) (acc : List (List Int)) (x : List Int), x ∈ l.foldl (fun acc i => if canGo p s i then put acc (behind p s i) else acc) acc ↔ x ∈ acc ∨ ∃ i ∈ l, canGo p s i = true ∧ x = behind p s i
  | [], acc, x => by simp
  | i :: l, acc, x => by
    rw [List.foldl_cons, mem_range_fold l]
    by_cases h : canGo p s i = true
    · rw [if_pos h, mem_put]; simp [h, or_assoc]
    · rw [if_neg h]; simp [h]
theorem nodup_range_fold {s : List Int} : ∀ (l : List Nat) (acc : List (List Int)), acc.Nodup → (l.foldl (fun acc i => if canGo p s i then put acc (behind p s i) else acc) acc).Nodup
  | [], acc, h => h
  | i :: l, acc, h => by
    rw [List.foldl_cons]
    refine nodup_range_fold l _ ?_
    split
    · exact nodup_put h
    · exact h
theorem len_range_fold {s : List Int} : ∀ (l : List Nat) (acc : List (List Int)), (l.foldl (fun acc i => if canGo p s i then put acc (behind p s i) else acc) acc).length ≤ acc.length + l.length
  | [], acc => Nat.le_refl _
  | i :: l, acc => by
    rw [List.foldl_cons, List.length_cons]
    have h1 := len_range_fold (s := s) l (if canGo p s i then put acc (behind p s i) else acc)
    have h2 : (if canGo p s i then put acc (behind p s i) else acc).length ≤ acc.length + 1 := by
      split
      · exact put_len _ _
      · exact Nat.le_succ _
    omega
theorem mem_stepAll : ∀ (ss acc : List (List Int)) (x : List Int), x ∈ ss.foldl (stepOne p) acc ↔ x ∈ acc ∨ ∃ s ∈ ss, ∃ i, i < p.length ∧ canGo p s i = true ∧ x = behind p s i
  | [], acc, x => by simp
  | s :: ss, acc, x => by
    rw [List.foldl_cons, mem_stepAll ss]
    unfold stepOne
    rw [mem_range_fold]
    simp [or_assoc]
theorem nodup_stepAll : ∀ (ss acc : List (List Int)), acc.Nodup → (ss.foldl (stepOne p) acc).Nodup
  | [], acc, h => h
  | s :: ss, acc, h => nodup_stepAll ss _ (nodup_range_fold _ _ h)
theorem len_stepAll : ∀ (ss acc : List (List Int)), (ss.foldl (stepOne p) acc).length ≤ acc.length + p.length * ss.length
  | [], acc => by simp
  | s :: ss, acc => by
    rw [List.foldl_cons]
    have h1 := len_stepAll ss (stepOne p acc s)
    have h2 : (stepOne p acc s).length ≤ acc.length + p.length := by
      have := len_range_fold (p := p) (s := s) (List.range p.length) acc
      rw [List.length_range] at this
      exact this
    rw [List.length_cons, Nat.mul_add, Nat.mul_one]
    omega
theorem getD_set {α : Type} {xs : List α} {i j : Nat} {x d : α} (h : i < xs.length) : (xs.set i x).getD j d = if i = j then x else xs.getD j d := by
  rw [List.getD_eq_getElem?_getD, List.getD_eq_getElem?_getD, List.getElem?_set]
  by_cases e : i = j
  · rw [if_pos e, if_pos e, if_pos h]; rfl
  · rw [if_neg e, if_neg e]
theorem getD_set_ne {α : Type} {xs : List α} {i j : Nat} {x d : α} (h : i ≠ j) : (xs.set i x).getD j d = xs.getD j d := by
  rw [List.getD_eq_getElem?_getD, List.getD_eq_getElem?_getD, List.getElem?_set_ne h]
theorem start_stand (p : Prog) : Stand p (start p) := ⟨rfl, fun i hi => by
  unfold start
  rw [List.getD_eq_getElem?_getD, List.getElem?_append_left (by rw [List.length_replicate]; omega), List.getElem?_replicate]
  split <;> simp⟩
theorem behind_len (s : List Int) (i : Nat) : (behind p s i).length = s.length := by
  unfold behind
  simp only
  split <;> split <;> simp
theorem behind_at {s : List Int} {i j : Nat} (hi : i < s.length) (hj : j < p.length) : (behind p s i).getD j 0 = if i = j then s.getD i 0 + 1 else s.getD j 0 := by
  unfold behind
  simp only
  split
  · rw [getD_set_ne (by omega)]
    split
    · rw [getD_set_ne (by omega), getD_set hi]
    · rw [getD_set hi]
  · split
    · rw [getD_set_ne (by omega), getD_set hi]
    · rw [getD_set hi]
theorem behind_stand {s : List Int} {i : Nat} (hs : Stand p s) (hi : i < p.length) : Stand p (behind p s i) := by
  have hl : i < s.length := by
    rw [hs.len]
    unfold start
    rw [List.length_append, List.length_replicate]
    omega
  refine ⟨(behind_len s i).trans hs.len, fun j hj => ?_⟩
  rw [behind_at hl hj]
  have := hs.at_ i hi
  split
  · omega
  · exact hs.at_ j hj
theorem standsAt_ok : ∀ n : Nat, (∀ s ∈ standsAt p n, Stand p s) ∧ (standsAt p n).Nodup ∧ (standsAt p n).length ≤ p.length ^ n
  | 0 => ⟨fun s h => by rw [List.mem_singleton.mp h]; exact start_stand p, List.nodup_cons.mpr ⟨(fun z => nomatch z), List.nodup_nil⟩, by simp [standsAt]⟩
  | n + 1 => by
    obtain ⟨h1, h2, h3⟩ := standsAt_ok n
    refine ⟨fun s h => ?_, nodup_stepAll _ _ List.nodup_nil, ?_⟩
    · rcases (mem_stepAll _ _ _).mp h with z | ⟨s', hs', i, hi, _, rfl⟩
      · cases z
      · exact behind_stand (h1 s' hs') hi
    · have := len_stepAll (p := p) (standsAt p n) []
      rw [Nat.pow_succ, Nat.mul_comm]
      have h4 := Nat.mul_le_mul_left p.length h3
      show ((standsAt p n).foldl (stepOne p) []).length ≤ _
      simp at this
      omega
theorem stands_le (hp : Ok p) {n : Nat} (hn : n ≤ 6) : (standsAt p n).length ≤ 729 := by
  have h1 := (standsAt_ok (p := p) n).2.2
  have h2 : p.length ^ n ≤ 3 ^ n := Nat.pow_le_pow_left hp.len n
  have h3 : 3 ^ n ≤ 3 ^ 6 := Nat.pow_le_pow_right (by decide) hn
  have : (3 : Nat) ^ 6 = 729 := rfl
  omega
theorem mem_told {x : List Int} : ∀ (ss acc : List (List Int)) (n : Nat), x ∈ ss.foldl (fun acc s => put acc (s.drop n)) acc ↔ x ∈ acc ∨ ∃ s ∈ ss, x = s.drop n
  | [], acc, n => by simp
  | s :: ss, acc, n => by
    rw [List.foldl_cons, mem_told ss, mem_put]
    simp [or_assoc]
theorem nodup_told : ∀ (ss acc : List (List Int)) (n : Nat), acc.Nodup → (ss.foldl (fun acc s => put acc (s.drop n)) acc).Nodup
  | [], acc, n, h => h
  | s :: ss, acc, n, h => nodup_told ss _ n (nodup_put h)
end
/-! ### orders -/
def ext (p : Prog) (o : List Int) : List (List Int) := (List.range p.length).filterMap fun (i : Nat) => if o.count (i : Int) < (p.getD i []).length then some (o ++ [(i : Int)]) else none
theorem orders_succ (p : Prog) (n : Nat) : orders p (n + 1) = (orders p n).flatMap (ext p) := rfl
theorem fold_app {α β : Type} (f : α → List β) : ∀ (l : List α) (acc : List β), l.foldl (fun acc o => acc ++ f o) acc = acc ++ l.flatMap f
  | [], acc => by simp
  | x :: l, acc => by rw [List.foldl_cons, fold_app f l, List.flatMap_cons, List.append_assoc]
theorem mem_ext {p : Prog} {o x : List Int} : x ∈ ext p o ↔ ∃ i : Nat, i < p.length ∧ o.count (i : Int) < (rowOf p i).length ∧ x = o ++ [(i : Int)] := by
  unfold ext
  rw [List.mem_filterMap]
  constructor
  · rintro ⟨i, hi, h⟩
    split at h
    · rename_i hc
      cases h
      exact ⟨i, List.mem_range.mp hi, hc, rfl⟩
    · cases h
  · rintro ⟨i, hi, hc, rfl⟩
    exact ⟨i, List.mem_range.mpr hi, if_pos hc⟩
theorem ext_len (p : Prog) (o : List Int) : (ext p o).length ≤ p.length := by
  unfold ext
  have := List.length_filterMap_le (fun (i : Nat) => if o.count (i : Int) < (p.getD i []).length then some (o ++ [(i : Int)]) else none) (List.range p.length)
  rw [List.length_range] at this
  exact this
theorem orders_count (p : Prog) : ∀ n : Nat, (orders p n).length ≤ p.length ^ n
  | 0 => by simp [orders]
  | n + 1 => by
    have h1 := orders_count p n
    have h2 : ∀ l : List (List Int), (l.flatMap (ext p)).length ≤ p.length * l.length := fun l => by
      induction l with
      | nil => simp
      | cons x l ih =>
        have := ext_len p x
        rw [List.flatMap_cons, List.length_append, List.length_cons, Nat.mul_add, Nat.mul_one]
        omega
    have h3 := h2 (orders p n)
    rw [orders_succ, Nat.pow_succ, Nat.mul_comm]
    exact Nat.le_trans h3 (Nat.mul_le_mul_left _ h1)
theorem orders_le {p : Prog} (hp : Ok p) {n : Nat} (hn : n ≤ 6) : (orders p n).length ≤ 729 := by
  have h1 := orders_count p n
  have h2 : p.length ^ n ≤ 3 ^ n := Nat.pow_le_pow_left hp.len n
  have h3 : 3 ^ n ≤ 3 ^ 6 := Nat.pow_le_pow_right (by decide) hn
  have : (3 : Nat) ^ 6 = 729 := rfl
  omega
theorem orders_length {p : Prog} : ∀ {n : Nat} {o : List Int}, o ∈ orders p n → o.length = n
  | 0, o, h => by
    rw [List.mem_singleton.mp h]
    rfl
  | n + 1, o, h => by
    rw [orders_succ] at h
    obtain ⟨o', h1, h2⟩ := List.mem_flatMap.mp h
    obtain ⟨i, _, _, rfl⟩ := mem_ext.mp h2
    rw [List.length_append, orders_length h1]
    rfl
/-- each place of an order is a processor that can go on there -/
theorem orders_at {p : Prog} : ∀ {n : Nat} {o : List Int}, o ∈ orders p n → ∀ (j : Nat) (x : Int), o[j]? = some x → 0 ≤ x ∧ x.toNat < p.length ∧ (o.take j).count x < (rowOf p x.toNat).length
  | 0, o, h, j, x, hx => by
    rw [List.mem_singleton.mp h] at hx
    simp at hx
  | n + 1, o, h, j, x, hx => by
    rw [orders_succ] at h
    obtain ⟨o', h1, h2⟩ := List.mem_flatMap.mp h
    obtain ⟨i, hi, hc, rfl⟩ := mem_ext.mp h2
    have hl := orders_length h1
    by_cases hj : j < o'.length
    · rw [List.getElem?_append_left hj] at hx
      rw [List.take_append_of_le_length (Nat.le_of_lt hj)]
      exact orders_at h1 j x hx
    · have hj2 : j = o'.length := by
        have := (List.getElem?_eq_some_iff.mp hx).1
        rw [List.length_append] at this
        simp at this
        omega
      subst hj2
      rw [List.getElem?_append_right (Nat.le_refl _)] at hx
      simp at hx
      subst hx
      rw [List.take_left]
      exact ⟨by omega, by simpa using hi, by simpa using hc⟩
/-- the prefixes of an order -/
theorem orders_take {p : Prog} : ∀ {n : Nat} {o : List Int}, o ∈ orders p n → ∀ j, j ≤ n → o.take j ∈ orders p j
  | 0, o, h, j, hj => by
    obtain rfl : j = 0 := by omega
    rw [List.take_zero]
    exact List.mem_singleton.mpr rfl
  | n + 1, o, h, j, hj => by
    have h0 := h
    rw [orders_succ] at h
    obtain ⟨o', h1, h2⟩ := List.mem_flatMap.mp h
    obtain ⟨i, hi, hc, rfl⟩ := mem_ext.mp h2
    have hl := orders_length h1
    by_cases h3 : j ≤ n
    · rw [List.take_append_of_le_length (by omega)]
      exact orders_take h1 j h3
    · obtain rfl : j = n + 1 := by omega
      rw [List.take_of_length_le (by rw [orders_length h0]; exact Nat.le_refl _)]
      exact h0
end KM
set_option Elab.async false
set_option linter.all false
set_option maxRecDepth 100000
set_option maxHeartbeats 1000000
/-! K71b (printed by gen.py): the text, the facts, the readings. -/
namespace KM
open PySem PySem.Spec PyProof.Rows L2 DL
def top (i : Nat) : Stmt := PySem.Challenge.pw_keptinstep_k71_all_orders_of_one_memory.main.body.getD i (.Pass ⟨0, 0, 0, 0⟩)
abbrev s_is_integer : Stmt := top 1
theorem sc_is_integer : FnScope ["value"] ["value"] (defScope s_is_integer) := ⟨rfl, rfl, rfl, by decide +kernel, rfl, by decide +kernel, by decide +kernel⟩
abbrev s_is_number : Stmt := top 2
theorem sc_is_number : FnScope ["value"] ["value"] (defScope s_is_number) := ⟨rfl, rfl, rfl, by decide +kernel, rfl, by decide +kernel, by decide +kernel⟩
abbrev s_lines_of : Stmt := top 11
theorem sc_lines_of : FnScope ["program", "told", "row", "deed"] ["program"] (defScope s_lines_of) := ⟨rfl, rfl, rfl, by decide +kernel, rfl, by decide +kernel, by decide +kernel⟩
abbrev s_write_numbers : Stmt := top 12
theorem sc_write_numbers : FnScope ["program", "rows", "last", "row", "numbers", "deed"] ["program"] (defScope s_write_numbers) := ⟨rfl, rfl, rfl, by decide +kernel, rfl, by decide +kernel, by decide +kernel⟩
abbrev s_read_counts : Stmt := top 13
theorem sc_read_counts : FnScope ["program", "deed", "row"] ["program"] (defScope s_read_counts) := ⟨rfl, rfl, rfl, by decide +kernel, rfl, by decide +kernel, by decide +kernel⟩
abbrev s_deed_count : Stmt := top 14
theorem sc_deed_count : FnScope ["program", "row"] ["program"] (defScope s_deed_count) := ⟨rfl, rfl, rfl, by decide +kernel, rfl, by decide +kernel, by decide +kernel⟩
abbrev s_numbered : Stmt := top 15
theorem sc_numbered : FnScope ["program", "places", "at", "line", "writes", "rows", "reads", "row", "numbers", "made", "deed", "number", "kind"] ["program"] (defScope s_numbered) := ⟨rfl, rfl, rfl, by decide +kernel, rfl, by decide +kernel, by decide +kernel⟩
abbrev s_rows_of : Stmt := top 16
theorem sc_rows_of : FnScope ["counts", "answers", "rows", "at", "many"] ["counts", "answers"] (defScope s_rows_of) := ⟨rfl, rfl, rfl, by decide +kernel, rfl, by decide +kernel, by decide +kernel⟩
abbrev s_PlainPlan_init : Stmt := inClass (top 18) 0
theorem sc_PlainPlan_init : FnScope ["self", "program"] ["self", "program"] (defScope s_PlainPlan_init) := ⟨rfl, rfl, rfl, by decide +kernel, rfl, by decide +kernel, by decide +kernel⟩
abbrev s_PlainPlan_first_stand : Stmt := inClass (top 18) 1
theorem sc_PlainPlan_first_stand : FnScope ["self"] ["self"] (defScope s_PlainPlan_first_stand) := ⟨rfl, rfl, rfl, by decide +kernel, rfl, by decide +kernel, by decide +kernel⟩
abbrev s_PlainPlan_can_go_on : Stmt := inClass (top 18) 2
theorem sc_PlainPlan_can_go_on : FnScope ["self", "stand", "processor"] ["self", "stand", "processor"] (defScope s_PlainPlan_can_go_on) := ⟨rfl, rfl, rfl, by decide +kernel, rfl, by decide +kernel, by decide +kernel⟩
abbrev s_PlainPlan_next_deed : Stmt := inClass (top 18) 3
theorem sc_PlainPlan_next_deed : FnScope ["self", "stand", "processor"] ["self", "stand", "processor"] (defScope s_PlainPlan_next_deed) := ⟨rfl, rfl, rfl, by decide +kernel, rfl, by decide +kernel, by decide +kernel⟩
abbrev s_PlainPlan_memory_has : Stmt := inClass (top 18) 4
theorem sc_PlainPlan_memory_has : FnScope ["self", "stand", "line"] ["self", "stand", "line"] (defScope s_PlainPlan_memory_has) := ⟨rfl, rfl, rfl, by decide +kernel, rfl, by decide +kernel, by decide +kernel⟩
abbrev s_PlainPlan_behind : Stmt := inClass (top 18) 5
theorem sc_PlainPlan_behind : FnScope ["self", "stand", "processor", "kind", "line", "number", "made", "at"] ["self", "stand", "processor"] (defScope s_PlainPlan_behind) := ⟨rfl, rfl, rfl, by decide +kernel, rfl, by decide +kernel, by decide +kernel⟩
abbrev s_plain_answers : Stmt := top 19
theorem sc_plain_answers : FnScope ["program", "plan", "stands", "_", "ahead", "stand", "processor", "told"] ["program"] (defScope s_plain_answers) := ⟨rfl, rfl, rfl, by decide +kernel, rfl, by decide +kernel, by decide +kernel⟩
abbrev s_is_deed_of_program : Stmt := top 22
theorem sc_is_deed_of_program : FnScope ["value"] ["value"] (defScope s_is_deed_of_program) := ⟨rfl, rfl, rfl, by decide +kernel, rfl, by decide +kernel, by decide +kernel⟩
abbrev s_is_program : Stmt := top 23
theorem sc_is_program : FnScope ["value", "row", "deed"] ["value"] (defScope s_is_program) := ⟨rfl, rfl, rfl, by decide +kernel, rfl, by decide +kernel, by decide +kernel⟩
abbrev s_check_program : Stmt := top 24
theorem sc_check_program : FnScope ["program"] ["program"] (defScope s_check_program) := ⟨rfl, rfl, rfl, by decide +kernel, rfl, by decide +kernel, by decide +kernel⟩
abbrev s_plain_outcomes : Stmt := top 25
theorem sc_plain_outcomes : FnScope ["program", "counts", "answers"] ["program"] (defScope s_plain_outcomes) := ⟨rfl, rfl, rfl, by decide +kernel, rfl, by decide +kernel, by decide +kernel⟩
abbrev s__law_draw : Stmt := top 27
theorem sc__law_draw : FnScope ["pile", "many", "cells", "at", "cell", "part", "seed"] ["pile", "many"] (defScope s__law_draw) := ⟨rfl, rfl, rfl, by decide +kernel, rfl, by decide +kernel, by decide +kernel⟩
abbrev s__law_program : Stmt := top 28
theorem sc__law_program : FnScope ["pile", "many", "size", "words", "rows", "k", "word", "deed", "row"] ["pile"] (defScope s__law_program) := ⟨rfl, rfl, rfl, by decide +kernel, rfl, by decide +kernel, by decide +kernel⟩
abbrev s__law_orders : Stmt := top 29
theorem sc__law_orders : FnScope ["program", "rows", "turn", "row", "news", "p"] ["program"] (defScope s__law_orders) := ⟨rfl, rfl, rfl, by decide +kernel, rfl, by decide +kernel, by decide +kernel⟩
abbrev s__law_done : Stmt := top 30
theorem sc__law_done : FnScope ["program", "order", "first", "number", "row", "deed", "at", "answers", "cells", "p"] ["program", "order"] (defScope s__law_done) := ⟨rfl, rfl, rfl, by decide +kernel, rfl, by decide +kernel, by decide +kernel⟩
abbrev s__law_due : Stmt := top 31
theorem sc__law_due : FnScope ["program", "found", "order"] ["program"] (defScope s__law_due) := ⟨rfl, rfl, rfl, by decide +kernel, rfl, by decide +kernel, by decide +kernel⟩
abbrev s__law_holds : Stmt := top 32
theorem sc__law_holds : FnScope ["told", "due", "k", "row", "x"] ["told", "due"] (defScope s__law_holds) := ⟨rfl, rfl, rfl, by decide +kernel, rfl, by decide +kernel, by decide +kernel⟩
abbrev s_law : Stmt := top 33
theorem sc_law : FnScope ["script", "pile", "program", "other", "due"] ["script"] (defScope s_law) := ⟨rfl, rfl, rfl, by decide +kernel, rfl, by decide +kernel, by decide +kernel⟩
def d_is_integer : He.DefD := ⟨("is_integer", none), "is_integer", "is_integer", defArgs s_is_integer, defBody s_is_integer, defScope s_is_integer, [], []⟩
def d_is_number : He.DefD := ⟨("is_number", none), "is_number", "is_number", defArgs s_is_number, defBody s_is_number, defScope s_is_number, [], []⟩
def d_lines_of : He.DefD := ⟨("lines_of", none), "lines_of", "lines_of", defArgs s_lines_of, defBody s_lines_of, defScope s_lines_of, [], []⟩
def d_write_numbers : He.DefD := ⟨("write_numbers", none), "write_numbers", "write_numbers", defArgs s_write_numbers, defBody s_write_numbers, defScope s_write_numbers, [], []⟩
def d_read_counts : He.DefD := ⟨("read_counts", none), "read_counts", "read_counts", defArgs s_read_counts, defBody s_read_counts, defScope s_read_counts, [], []⟩
def d_deed_count : He.DefD := ⟨("deed_count", none), "deed_count", "deed_count", defArgs s_deed_count, defBody s_deed_count, defScope s_deed_count, [], []⟩
def d_numbered : He.DefD := ⟨("numbered", none), "numbered", "numbered", defArgs s_numbered, defBody s_numbered, defScope s_numbered, [], []⟩
def d_rows_of : He.DefD := ⟨("rows_of", none), "rows_of", "rows_of", defArgs s_rows_of, defBody s_rows_of, defScope s_rows_of, [], []⟩
def d_PlainPlan_init : He.DefD := ⟨("PlainPlan", some "__init__"), "__init__", "PlainPlan.__init__", defArgs s_PlainPlan_init, defBody s_PlainPlan_init, defScope s_PlainPlan_init, [], []⟩
def d_PlainPlan_first_stand : He.DefD := ⟨("PlainPlan", some "first_stand"), "first_stand", "PlainPlan.first_stand", defArgs s_PlainPlan_first_stand, defBody s_PlainPlan_first_stand, defScope s_PlainPlan_first_stand, [], []⟩
def d_PlainPlan_can_go_on : He.DefD := ⟨("PlainPlan", some "can_go_on"), "can_go_on", "PlainPlan.can_go_on", defArgs s_PlainPlan_can_go_on, defBody s_PlainPlan_can_go_on, defScope s_PlainPlan_can_go_on, [], []⟩
def d_PlainPlan_next_deed : He.DefD := ⟨("PlainPlan", some "next_deed"), "next_deed", "PlainPlan.next_deed", defArgs s_PlainPlan_next_deed, defBody s_PlainPlan_next_deed, defScope s_PlainPlan_next_deed, [], []⟩
def d_PlainPlan_memory_has : He.DefD := ⟨("PlainPlan", some "memory_has"), "memory_has", "PlainPlan.memory_has", defArgs s_PlainPlan_memory_has, defBody s_PlainPlan_memory_has, defScope s_PlainPlan_memory_has, [], []⟩
def d_PlainPlan_behind : He.DefD := ⟨("PlainPlan", some "behind"), "behind", "PlainPlan.behind", defArgs s_PlainPlan_behind, defBody s_PlainPlan_behind, defScope s_PlainPlan_behind, [], []⟩
def d_plain_answers : He.DefD := ⟨("plain_answers", none), "plain_answers", "plain_answers", defArgs s_plain_answers, defBody s_plain_answers, defScope s_plain_answers, [], []⟩
def d_is_deed_of_program : He.DefD := ⟨("is_deed_of_program", none), "is_deed_of_program", "is_deed_of_program", defArgs s_is_deed_of_program, defBody s_is_deed_of_program, defScope s_is_deed_of_program, [], []⟩
def d_is_program : He.DefD := ⟨("is_program", none), "is_program", "is_program", defArgs s_is_program, defBody s_is_program, defScope s_is_program, [], []⟩
def d_check_program : He.DefD := ⟨("check_program", none), "check_program", "check_program", defArgs s_check_program, defBody s_check_program, defScope s_check_program, [], []⟩
def d_plain_outcomes : He.DefD := ⟨("plain_outcomes", none), "plain_outcomes", "plain_outcomes", defArgs s_plain_outcomes, defBody s_plain_outcomes, defScope s_plain_outcomes, [], []⟩
def d__law_draw : He.DefD := ⟨("_law_draw", none), "_law_draw", "_law_draw", defArgs s__law_draw, defBody s__law_draw, defScope s__law_draw, [], []⟩
def d__law_program : He.DefD := ⟨("_law_program", none), "_law_program", "_law_program", defArgs s__law_program, defBody s__law_program, defScope s__law_program, [], []⟩
def d__law_orders : He.DefD := ⟨("_law_orders", none), "_law_orders", "_law_orders", defArgs s__law_orders, defBody s__law_orders, defScope s__law_orders, [], []⟩
def d__law_done : He.DefD := ⟨("_law_done", none), "_law_done", "_law_done", defArgs s__law_done, defBody s__law_done, defScope s__law_done, [], []⟩
def d__law_due : He.DefD := ⟨("_law_due", none), "_law_due", "_law_due", defArgs s__law_due, defBody s__law_due, defScope s__law_due, [], []⟩
def d__law_holds : He.DefD := ⟨("_law_holds", none), "_law_holds", "_law_holds", defArgs s__law_holds, defBody s__law_holds, defScope s__law_holds, [], []⟩
def d_law : He.DefD := ⟨("law", none), "law", "law", defArgs s_law, defBody s_law, defScope s_law, [], []⟩
def fn : List He.DefD := [d_is_integer, d_is_number, d_lines_of, d_write_numbers, d_read_counts, d_deed_count, d_numbered, d_rows_of, d_PlainPlan_init, d_PlainPlan_first_stand, d_PlainPlan_can_go_on, d_PlainPlan_next_deed, d_PlainPlan_memory_has, d_PlainPlan_behind, d_plain_answers, d_is_deed_of_program, d_is_program, d_check_program, d_plain_outcomes, d__law_draw, d__law_program, d__law_orders, d__law_done, d__law_due, d__law_holds, d_law]
def fa : List He.Fa := [.free "int", .free "isinstance", .free "bool", .glo "is_integer", .free "len", .free "sorted", .free "tuple", .free "sum", .glo "lines_of", .free "enumerate", .glo "write_numbers", .free "zip", .glo "KINDS", .int "FENCE" 2, .int "WRITE" 1, .glo "numbered", .cls "PlainPlan", .noat "PlainPlan" "rows", .noat "PlainPlan" "many", .noat "PlainPlan" "lines", .glo "read_counts", .noat "PlainPlan" "reads", .glo "deed_count", .noat "PlainPlan" "length", .meth "PlainPlan" "next_deed", .free "list", .int "READ" 0, .meth "PlainPlan" "memory_has", .mkr "PlainPlan", .glo "PlainPlan", .meth "PlainPlan" "first_stand", .free "range", .meth "PlainPlan" "can_go_on", .meth "PlainPlan" "behind", .free "str", .glo "WITH_LINE", .glo "is_number", .glo "is_deed_of_program", .free "all", .glo "is_program", .glo "check_program", .glo "plain_answers", .glo "rows_of", .glo "_law_draw", .glo "_law_orders", .glo "_law_done", .glo "_law_program", .glo "_law_due", .glo "plain_outcomes", .glo "_law_holds", .glo "law"]
def ts : List He.Tab := [(fun K => He.ga K "KINDS", ["read", "write", "fence"])]
def ex : PySem.W.Frag → Bool := fun K => He.tupB K "WITH_LINE" [.str "read", .str "write"] && He.valsB K (He.ga K "KINDS") [("read", .int 0), ("write", .int 1), ("fence", .int 2)]
abbrev TX (w : World) (K : PySem.W.Frag) (mg : Str → Option Value) : Prop := Tx fa fn ts ex w K mg
theorem cl_PlainPlan {w : World} {K : PySem.W.Frag} {mg : Str → Option Value} (T : TX w K mg) : Cls K (He.ga K "PlainPlan") := T.cls 16
theorem na_PlainPlan_rows {w : World} {K : PySem.W.Frag} {mg : Str → Option Value} (T : TX w K mg) : NoAttr K (He.ga K "PlainPlan") "rows" := T.noat 17
theorem na_PlainPlan_many {w : World} {K : PySem.W.Frag} {mg : Str → Option Value} (T : TX w K mg) : NoAttr K (He.ga K "PlainPlan") "many" := T.noat 18
theorem na_PlainPlan_lines {w : World} {K : PySem.W.Frag} {mg : Str → Option Value} (T : TX w K mg) : NoAttr K (He.ga K "PlainPlan") "lines" := T.noat 19
theorem na_PlainPlan_reads {w : World} {K : PySem.W.Frag} {mg : Str → Option Value} (T : TX w K mg) : NoAttr K (He.ga K "PlainPlan") "reads" := T.noat 21
theorem na_PlainPlan_length {w : World} {K : PySem.W.Frag} {mg : Str → Option Value} (T : TX w K mg) : NoAttr K (He.ga K "PlainPlan") "length" := T.noat 23
/-- is_integer: 0 value -/
def t_is_integer (c : Cn) : TS := tRet (tAndV (tCB (rIsi c.K) (tCons (tVar 0) (tCons (tC (.ty "int")) tNil))) (tNotV (tCB (rIsi c.K) (tCons (tVar 0) (tCons (tC (.ty "bool")) tNil)))))
/-- is_number: 0 value -/
def t_is_number (c : Cn) : TS := tRet (tAndV (tCall (SpD c (R_is_integer c)) [] E0 (tCons (tVar 0) tNil)) (tOp rGeI (tVar 0) (tC (.int 0))))
/-- lines_of: 0 program, 1 told, 2 row, 3 deed -/
def t_lines_of (c : Cn) : TS := tSeq (tAsg tDNewK (gName 1)) (tSeq (tFor (iTup c.K (tVar 0)) (gName 2) (tFor (iTup c.K (tVar 2)) (gName 3) (tIfS (tTest (tOp rEq (tCB (rLenV c.K) (tCons (tVar 3) tNil)) (tC (.int 2)))) (sDPut (tVar 1) (tOp (rIxT c.K) (tVar 3) (tC (.int 1))) (tC (.bl true))) tNext))) (tRet (tCB (rTupOf c.K) (tCons (tCB rSortDI (tCons (tVar 1) tNil)) tNil))))
/-- write_numbers: 0 program, 1 rows, 2 last, 3 row, 4 numbers, 5 deed -/
def t_write_numbers (c : Cn) : TS := tSeq (tAsg (tLst tNil) (gName 1)) (tSeq (tAsg (tC (.int 0)) (gName 2)) (tSeq (tFor (iTup c.K (tVar 0)) (gName 3) (tSeq (tAsg (tLst tNil) (gName 4)) (tSeq (tFor (iTup c.K (tVar 3)) (gName 5) (tIfS (tTest (tOp rEq (tOp (rIxT c.K) (tVar 5) (tC (.int 0))) (tC (.str "write")))) (tSeq (tAug 2 (tC (.int 1)) (ipI fun i j => i + j)) (tDrop (tBM c.K "list" rAppend (tVar 4) (tCons (tVar 2) tNil)))) (tDrop (tBM c.K "list" rAppend (tVar 4) (tCons (tC (.int 0)) tNil))))) (tDrop (tBM c.K "list" rAppend (tVar 1) (tCons (tCB (rTupOf c.K) (tCons (tVar 4) tNil)) tNil)))))) (tRet (tCB (rTupOf c.K) (tCons (tVar 1) tNil)))))
/-- read_counts: 0 program, 1 deed, 2 row -/
def t_read_counts (c : Cn) : TS := tRet (tCB (rTupOf c.K) (tCons (tLc (iTup c.K (tVar 0)) (gName 2) tYes (tCB (rLenV c.K) (tCons (tLc (iTup c.K (tVar 2)) (gName 1) (tTest (tOp rEq (tOp (rIxT c.K) (tVar 1) (tC (.int 0))) (tC (.str "read")))) (tVar 1) [1]) tNil)) [2]) tNil))
/-- deed_count: 0 program, 1 row -/
def t_deed_count (c : Cn) : TS := tRet (tCB (rSum c.K) (tCons (tLc (iTup c.K (tVar 0)) (gName 1) tYes (tCB (rLenV c.K) (tCons (tVar 1) tNil)) [1]) tNil))
/-- numbered: 0 program, 1 places, 2 at, 3 line, 4 writes, 5 rows, 6 reads, 7 row, 8 numbers, 9 made, 10 deed, 11 number, 12 kind -/
def t_numbered (c : Cn) : TS := tSeq (tAsg (tDG (fun _ => .dK []) rDsK (iEnumT c.K (tCons (tCall (SpD c (R_lines_of c)) [] E0 (tCons (tVar 0) tNil)) tNil)) (gTup c.K 2 (gCons (gName 2) (gCons (gName 3) gNil))) tYes (tVar 3) (tVar 2) [2, 3]) (gName 1)) (tSeq (tAsg (tCall (SpD c (R_write_numbers c)) [] E0 (tCons (tVar 0) tNil)) (gName 4)) (tSeq (tAsg (tLst tNil) (gName 5)) (tSeq (tAsg (tC (.int 0)) (gName 6)) (tSeq (tFor (RZ.iZipA c.K (tCons (tVar 0) (tCons (tVar 4) tNil))) (gTup c.K 2 (gCons (gName 7) (gCons (gName 8) gNil))) (tSeq (tAsg (tLst tNil) (gName 9)) (tSeq (tFor (RZ.iZipA c.K (tCons (tVar 7) (tCons (tVar 8) tNil))) (gTup c.K 2 (gCons (gName 10) (gCons (gName 11) gNil))) (tSeq (tAsg (tOp (rKd c.K (He.ga c.K "KINDS")) (tC (.ref (He.ga c.K "KINDS"))) (tOp (rIxT c.K) (tVar 10) (tC (.int 0)))) (gName 12)) (tIfS (tTest (tOp rEq (tVar 12) (tC (.int 2)))) (tDrop (tBM c.K "list" rAppend (tVar 9) (tCons (tTup (tCons (tVar 12) (tCons (tUn rNegI (tC (.int 1))) (tCons (tUn rNegI (tC (.int 1))) tNil)))) tNil))) (tIfS (tTest (tOp rEq (tVar 12) (tC (.int 1)))) (tDrop (tBM c.K "list" rAppend (tVar 9) (tCons (tTup (tCons (tVar 12) (tCons (tDGet (tVar 1) (tOp (rIxT c.K) (tVar 10) (tC (.int 1)))) (tCons (tVar 11) tNil)))) tNil))) (tSeq (tDrop (tBM c.K "list" rAppend (tVar 9) (tCons (tTup (tCons (tVar 12) (tCons (tDGet (tVar 1) (tOp (rIxT c.K) (tVar 10) (tC (.int 1)))) (tCons (tVar 6) tNil)))) tNil))) (tAug 6 (tC (.int 1)) (ipI fun i j => i + j))))))) (tDrop (tBM c.K "list" rAppend (tVar 5) (tCons (tCB (rTupOf c.K) (tCons (tVar 9) tNil)) tNil)))))) (tRet (tCB (rTupOf c.K) (tCons (tVar 5) tNil)))))))
/-- rows_of: 0 counts, 1 answers, 2 rows, 3 at, 4 many -/
def t_rows_of (c : Cn) : TS := tSeq (tAsg (tLst tNil) (gName 2)) (tSeq (tAsg (tC (.int 0)) (gName 3)) (tSeq (tFor (iTup c.K (tVar 0)) (gName 4) (tSeq (tDrop (tBM c.K "list" rAppend (tVar 2) (tCons (tCB (rTupOf c.K) (tCons (tSl (rSlA c.K) (tVar 1) (tPart (tVar 3)) (tPart (tOp rAddI (tVar 3) (tVar 4)))) tNil)) tNil))) (tAug 3 (tVar 4) (ipI fun i j => i + j)))) (tRet (tCB (rTupOf c.K) (tCons (tVar 2) tNil)))))
/-- PlainPlan.__init__: 0 self, 1 program -/
def t_PlainPlan_init (c : Cn) : TS := tSeq (sFld c.K (tVar 0) (tCall (SpD c (R_numbered c)) [] E0 (tCons (tVar 1) tNil)) "rows") (tSeq (sFld c.K (tVar 0) (tCB (rLenV c.K) (tCons (tFld c.K (tVar 0) "rows") tNil)) "many") (tSeq (sFld c.K (tVar 0) (tCB (rLenV c.K) (tCons (tCall (SpD c (R_lines_of c)) [] E0 (tCons (tVar 1) tNil)) tNil)) "lines") (tSeq (sFld c.K (tVar 0) (tCB (rSumT c.K) (tCons (tCall (SpD c (R_read_counts c)) [] E0 (tCons (tVar 1) tNil)) tNil)) "reads") (sFld c.K (tVar 0) (tCall (SpD c (R_deed_count c)) [] E0 (tCons (tVar 1) tNil)) "length"))))
/-- PlainPlan.first_stand: 0 self -/
def t_PlainPlan_first_stand (c : Cn) : TS := tRet (tOp (rMulT c.K) (tTup (tCons (tC (.int 0)) tNil)) (tOp rAddI (tFld c.K (tVar 0) "many") (tFld c.K (tVar 0) "lines")))
/-- PlainPlan.can_go_on: 0 self, 1 stand, 2 processor -/
def t_PlainPlan_can_go_on (c : Cn) : TS := tRet (tOp rLtI (tOp (rIxT c.K) (tVar 1) (tVar 2)) (tCB (rLenV c.K) (tCons (tOp (rIxT c.K) (tFld c.K (tVar 0) "rows") (tVar 2)) tNil)))
/-- PlainPlan.next_deed: 0 self, 1 stand, 2 processor -/
def t_PlainPlan_next_deed (c : Cn) : TS := tRet (tOp (rIxT c.K) (tOp (rIxT c.K) (tFld c.K (tVar 0) "rows") (tVar 2)) (tOp (rIxT c.K) (tVar 1) (tVar 2)))
/-- PlainPlan.memory_has: 0 self, 1 stand, 2 line -/
def t_PlainPlan_memory_has (c : Cn) : TS := tRet (tOp (rIxT c.K) (tVar 1) (tOp rAddI (tFld c.K (tVar 0) "many") (tVar 2)))
/-- PlainPlan.behind: 0 self, 1 stand, 2 processor, 3 kind, 4 line, 5 number, 6 made, 7 at -/
def t_PlainPlan_behind (c : Cn) : TS := tSeq (tAsg (tMeth (He.ga c.K "PlainPlan") "next_deed" (SpD c (R_PlainPlan_next_deed c)) [] E0 (tVar 0) (tCons (tVar 1) (tCons (tVar 2) tNil))) (gTup c.K 3 (gCons (gName 3) (gCons (gName 4) (gCons (gName 5) gNil))))) (tSeq (tAsg (tCB (rListOf c.K) (tCons (tVar 1) tNil)) (gName 6)) (tSeq (tAugS (tVar 6) (tVar 2) (tC (.int 1)) (rIxL c.K) (ipI fun i j => i + j) rSetL) (tSeq (tIfS (tTest (tOp rEq (tVar 3) (tC (.int 1)))) (tAsg (tVar 5) (gSub (tVar 6) (tOp rAddI (tFld c.K (tVar 0) "many") (tVar 4)) rSetL)) tNext) (tSeq (tAsg (tOp rAddI (tOp rAddI (tFld c.K (tVar 0) "many") (tFld c.K (tVar 0) "lines")) (tVar 5)) (gName 7)) (tSeq (tIfS (tAnd (tTest (tOp rEq (tVar 3) (tC (.int 0)))) (tTest (tOp rLtI (tVar 7) (tCB (rLenV c.K) (tCons (tVar 6) tNil))))) (tAsg (tMeth (He.ga c.K "PlainPlan") "memory_has" (SpD c (R_PlainPlan_memory_has c)) [] E0 (tVar 0) (tCons (tVar 1) (tCons (tVar 4) tNil))) (gSub (tVar 6) (tVar 7) rSetL)) tNext) (tRet (tCB (rTupOf c.K) (tCons (tVar 6) tNil))))))))
/-- plain_answers: 0 program, 1 plan, 2 stands, 3 _, 4 ahead, 5 stand, 6 processor, 7 told -/
def t_plain_answers (c : Cn) : TS := tSeq (tAsg (tMake (He.ga c.K "PlainPlan") (SpM c (R_PlainPlan_init c)) [] E0 (tCons (tVar 0) tNil)) (gName 1)) (tSeq (tAsg (tLst (tCons (tOp (rCatA c.K) (tMeth (He.ga c.K "PlainPlan") "first_stand" (SpD c (R_PlainPlan_first_stand c)) [] E0 (tVar 1) tNil) (tOp (rMulT c.K) (tTup (tCons (tUn rNegI (tC (.int 1))) tNil)) (tFld c.K (tVar 1) "reads"))) tNil)) (gName 2)) (tSeq (tFor (iRng1 (tCons (tFld c.K (tVar 1) "length") tNil)) (gName 3) (tSeq (tAsg (tDNewN c) (gName 4)) (tSeq (tFor (iList c.K (tVar 2)) (gName 5) (tFor (iRng1 (tCons (tFld c.K (tVar 1) "many") tNil)) (gName 6) (tIfS (tB (tMeth (He.ga c.K "PlainPlan") "can_go_on" (SpD c (R_PlainPlan_can_go_on c)) [] E0 (tVar 1) (tCons (tVar 5) (tCons (tVar 6) tNil)))) (tAsg (tC (.bl true)) (gSub (tVar 4) (tMeth (He.ga c.K "PlainPlan") "behind" (SpD c (R_PlainPlan_behind c)) [] E0 (tVar 1) (tCons (tVar 5) (tCons (tVar 6) tNil))) (rSetT c))) tNext))) (tAsg (tCB (rListT c) (tCons (tVar 4) tNil)) (gName 2))))) (tSeq (tAsg (tDG (fun a => dtO c.P c.w a []) (rSetT c) (iList c.K (tVar 2)) (gName 5) tYes (tSl (rSlA c.K) (tVar 5) (tPart (tOp rAddI (tFld c.K (tVar 1) "many") (tFld c.K (tVar 1) "lines"))) tNoPart) (tC (.bl true)) [5]) (gName 7)) (tRet (tCB (rSortT (sdI c)) (tCons (tVar 7) tNil))))))
/-- is_deed_of_program: 0 value -/
def t_is_deed_of_program (c : Cn) : TS := tSeq (tIfS (tOr (tNot (tB (tCB (rIsi c.K) (tCons (tVar 0) (tCons (tC (.ty "tuple")) tNil))))) (tTest (tOp (rInA c.K true) (tCB (rLenV c.K) (tCons (tVar 0) tNil)) (tTup (tCons (tC (.int 1)) (tCons (tC (.int 2)) tNil)))))) (tRet (tC (.bl false))) tNext) (tSeq (tIfS (tNot (tB (tCB (rIsi c.K) (tCons (tOp (rIxT c.K) (tVar 0) (tC (.int 0))) (tCons (tC (.ty "str")) tNil))))) (tRet (tC (.bl false))) tNext) (tSeq (tIfS (tTest (tOp rEq (tCB (rLenV c.K) (tCons (tVar 0) tNil)) (tC (.int 1)))) (tRet (tOp rEq (tOp (rIxT c.K) (tVar 0) (tC (.int 0))) (tC (.str "fence")))) tNext) (tRet (tAndV (tOp (rInA c.K false) (tOp (rIxT c.K) (tVar 0) (tC (.int 0))) (tC (.ref (He.ga c.K "WITH_LINE")))) (tCall (SpD c (R_is_number c)) [] E0 (tCons (tOp (rIxT c.K) (tVar 0) (tC (.int 1))) tNil))))))
/-- is_program: 0 value, 1 row, 2 deed -/
def t_is_program (c : Cn) : TS := tSeq (tIfS (tNot (tB (tCB (rIsi c.K) (tCons (tVar 0) (tCons (tC (.ty "tuple")) tNil))))) (tRet (tC (.bl false))) tNext) (tSeq (tFor (iTup c.K (tVar 0)) (gName 1) (tSeq (tIfS (tNot (tB (tCB (rIsi c.K) (tCons (tVar 1) (tCons (tC (.ty "tuple")) tNil))))) (tRet (tC (.bl false))) tNext) (tIfS (tNot (tB (tCB (rAll c.K) (tCons (tLc (iTup c.K (tVar 1)) (gName 2) tYes (tCall (SpD c (R_is_deed_of_program c)) [] E0 (tCons (tVar 2) tNil)) [2]) tNil)))) (tRet (tC (.bl false))) tNext))) (tRet (tC (.bl true))))
/-- check_program: 0 program -/
def t_check_program (c : Cn) : TS := tIfS (tNot (tB (tCall (SpD c (R_is_program c)) [] E0 (tCons (tVar 0) tNil)))) tNever tNext
/-- plain_outcomes: 0 program, 1 counts, 2 answers -/
def t_plain_outcomes (c : Cn) : TS := tSeq (tDrop (tCall (SpD c (R_check_program c)) [] E0 (tCons (tVar 0) tNil))) (tSeq (tAsg (tCall (SpD c (R_read_counts c)) [] E0 (tCons (tVar 0) tNil)) (gName 1)) (tRet (tCB (rTupOf c.K) (tCons (tLc (iList c.K (tCall (SpD c (R_plain_answers c)) [] E0 (tCons (tVar 0) tNil))) (gName 2) tYes (tCall (SpD c (R_rows_of c)) [] E0 (tCons (tVar 1) (tCons (tVar 2) tNil))) [2]) tNil))))
/-- _law_draw: 0 pile, 1 many, 2 cells, 3 at, 4 cell, 5 part, 6 seed -/
def t__law_draw (c : Cn) : TS := tSeq (tAsg (tOp (rIxL c.K) (tVar 0) (tC (.int 0))) (gName 2)) (tSeq (tAsg (tOp rFdivI (tOp (rIxL c.K) (tVar 0) (tC (.int 1))) (tC (.int 8))) (gName 3)) (tSeq (tAsg (tC (.int 12)) (gName 4)) (tSeq (tIfS (tTest (tOp rGtI (tCB (rLenV c.K) (tCons (tVar 2) tNil)) (tC (.int 0)))) (tAsg (tCB rInt1 (tCons (tOp (rIxL c.K) (tVar 2) (tOp rModI (tVar 3) (tCB (rLenV c.K) (tCons (tVar 2) tNil)))) tNil)) (gName 4)) tNext) (tSeq (tIfS (tTest (tOp rEq (tOp rModI (tOp (rIxL c.K) (tVar 0) (tC (.int 1))) (tC (.int 8))) (tC (.int 0)))) (tAsg (tVar 4) (gSub (tVar 0) (tC (.int 2)) rSetL)) tNext) (tSeq (tAsg (tOp rAddI (tOp (rIxL c.K) (tVar 0) (tC (.int 1))) (tC (.int 1))) (gSub (tVar 0) (tC (.int 1)) rSetL)) (tSeq (tIfS (tAnd (tTest (tOp rGeI (tVar 4) (tOp rPowI (tC (.int 10)) (tC (.int 18))))) (tTest (tOp rLtI (tVar 3) (tCB (rLenV c.K) (tCons (tVar 2) tNil))))) (tSeq (tAsg (tOp rModI (tCB rInt1 (tCons (tOp (rIxL c.K) (tVar 0) (tC (.int 2))) tNil)) (tVar 1)) (gName 5)) (tSeq (tAsg (tOp rFdivI (tCB rInt1 (tCons (tOp (rIxL c.K) (tVar 0) (tC (.int 2))) tNil)) (tVar 1)) (gSub (tVar 0) (tC (.int 2)) rSetL)) (tRet (tVar 5)))) tNext) (tSeq (tAsg (tOp rModI (tOp rAddI (tOp rAddI (tOp rMulI (tOp rModI (tCB rInt1 (tCons (tVar 4) tNil)) (tC (.int 1000193))) (tC (.int 16807))) (tOp rMulI (tOp (rIxL c.K) (tVar 0) (tC (.int 1))) (tC (.int 69621)))) (tC (.int 5))) (tC (.int 2147483647))) (gName 6)) (tRet (tOp rModI (tOp rModI (tOp rAddI (tOp rMulI (tVar 6) (tC (.int 39373))) (tOp rMulI (tOp rMulI (tOp (rIxL c.K) (tVar 0) (tC (.int 1))) (tOp (rIxL c.K) (tVar 0) (tC (.int 1)))) (tC (.int 31)))) (tC (.int 2147483647))) (tVar 1))))))))))
/-- _law_program: 0 pile, 1 many, 2 size, 3 words, 4 rows, 5 k, 6 word, 7 deed, 8 row -/
def t__law_program (c : Cn) : TS := tSeq (tAsg (tOp rAddI (tC (.int 1)) (tCall (SpM c (R__law_draw c)) [] E0 (tCons (tVar 0) (tCons (tC (.int 3)) tNil)))) (gName 1)) (tSeq (tAsg (tCall (SpM c (R__law_draw c)) [] E0 (tCons (tVar 0) (tCons (tC (.int 7)) tNil))) (gName 2)) (tSeq (tAsg (tLst (tCons (tC (.str "read")) (tCons (tC (.str "write")) (tCons (tC (.str "read")) (tCons (tC (.str "write")) (tCons (tC (.str "read")) (tCons (tC (.str "write")) tNil))))))) (gName 3)) (tSeq (tIfS (tTest (tOp rEq (tCall (SpM c (R__law_draw c)) [] E0 (tCons (tVar 0) (tCons (tC (.int 3)) tNil))) (tC (.int 0)))) (tAsg (tLst (tCons (tC (.str "read")) (tCons (tC (.str "write")) (tCons (tC (.str "fence")) tNil)))) (gName 3)) tNext) (tSeq (tAsg (tLc (iRng1 (tCons (tVar 1) tNil)) (gName 5) tYes (tLst tNil) [5]) (gName 4)) (tSeq (tFor (iRng1 (tCons (tVar 2) tNil)) (gName 5) (tSeq (tAsg (tOp (rIxL c.K) (tVar 3) (tCall (SpM c (R__law_draw c)) [] E0 (tCons (tVar 0) (tCons (tCB (rLenV c.K) (tCons (tVar 3) tNil)) tNil)))) (gName 6)) (tSeq (tAsg (tTup (tCons (tVar 6) (tCons (tCall (SpM c (R__law_draw c)) [] E0 (tCons (tVar 0) (tCons (tC (.int 2)) tNil))) tNil))) (gName 7)) (tSeq (tIfS (tTest (tOp rEq (tVar 6) (tC (.str "fence")))) (tAsg (tTup (tCons (tC (.str "fence")) tNil)) (gName 7)) tNext) (tDrop (tBM c.K "list" rAppend (tOp (rIxL c.K) (tVar 4) (tCall (SpM c (R__law_draw c)) [] E0 (tCons (tVar 0) (tCons (tVar 1) tNil)))) (tCons (tVar 7) tNil))))))) (tRet (tCB (rTupOf c.K) (tCons (tLc (iList c.K (tVar 4)) (gName 8) tYes (tCB (rTupOf c.K) (tCons (tVar 8) tNil)) [8]) tNil))))))))
/-- _law_orders: 0 program, 1 rows, 2 turn, 3 row, 4 news, 5 p -/
def t__law_orders (c : Cn) : TS := tSeq (tAsg (tLst (tCons (tTupX tNil) tNil)) (gName 1)) (tSeq (tFor (iRng1 (tCons (tCB (rSum c.K) (tCons (tLc (iTup c.K (tVar 0)) (gName 3) tYes (tCB (rLenV c.K) (tCons (tVar 3) tNil)) [3]) tNil)) tNil)) (gName 2) (tSeq (tAsg (tLst tNil) (gName 4)) (tSeq (tFor (iList c.K (tVar 1)) (gName 3) (tAsg (tOp rCat (tVar 4) (tLc (iRng1 (tCons (tCB (rLenV c.K) (tCons (tVar 0) tNil)) tNil)) (gName 5) (tTest (tOp rLtI (tCnt c.K (tVar 3) (tCons (tVar 5) tNil)) (tCB (rLenV c.K) (tCons (tOp (rIxT c.K) (tVar 0) (tVar 5)) tNil)))) (tOp (rCatX c.K) (tVar 3) (tTupX (tCons (tVar 5) tNil))) [5])) (gName 4))) (tAsg (tVar 4) (gName 1))))) (tRet (tVar 1)))
/-- _law_done: 0 program, 1 order, 2 first, 3 number, 4 row, 5 deed, 6 at, 7 answers, 8 cells, 9 p -/
def t__law_done (c : Cn) : TS := tSeq (tAsg (tLst tNil) (gName 2)) (tSeq (tAsg (tC (.int 0)) (gName 3)) (tSeq (tFor (iTup c.K (tVar 0)) (gName 4) (tSeq (tDrop (tBM c.K "list" rAppend (tVar 2) (tCons (tVar 3) tNil))) (tAsg (tOp rAddI (tVar 3) (tCB (rLenV c.K) (tCons (tLc (iTup c.K (tVar 4)) (gName 5) (tTest (tOp rEq (tOp (rIxT c.K) (tVar 5) (tC (.int 0))) (tC (.str "write")))) (tVar 5) [5]) tNil))) (gName 3)))) (tSeq (tAsg (tLc (iTup c.K (tVar 0)) (gName 4) tYes (tC (.int 0)) [4]) (gName 6)) (tSeq (tAsg (tLc (iTup c.K (tVar 0)) (gName 4) tYes (tTup tNil) [4]) (gName 7)) (tSeq (tAsg (tLst (tCons (tC (.int 0)) (tCons (tC (.int 0)) tNil))) (gName 8)) (tSeq (tFor (iTup c.K (tVar 1)) (gName 9) (tSeq (tAsg (tOp (rIxT c.K) (tOp (rIxT c.K) (tVar 0) (tVar 9)) (tOp (rIxL c.K) (tVar 6) (tVar 9))) (gName 5)) (tSeq (tAsg (tOp rAddI (tOp (rIxL c.K) (tVar 6) (tVar 9)) (tC (.int 1))) (gSub (tVar 6) (tVar 9) rSetL)) (tIfS (tTest (tOp rEq (tOp (rIxT c.K) (tVar 5) (tC (.int 0))) (tC (.str "write")))) (tSeq (tAsg (tOp rAddI (tOp (rIxL c.K) (tVar 2) (tVar 9)) (tC (.int 1))) (gSub (tVar 2) (tVar 9) rSetL)) (tAsg (tOp (rIxL c.K) (tVar 2) (tVar 9)) (gSub (tVar 8) (tOp (rIxT c.K) (tVar 5) (tC (.int 1))) rSetL))) (tIfS (tTest (tOp rEq (tOp (rIxT c.K) (tVar 5) (tC (.int 0))) (tC (.str "read")))) (tAsg (tOp (rCatA c.K) (tOp (rIxL c.K) (tVar 7) (tVar 9)) (tTup (tCons (tOp (rIxL c.K) (tVar 8) (tOp (rIxT c.K) (tVar 5) (tC (.int 1)))) tNil))) (gSub (tVar 7) (tVar 9) rSetL)) tNext))))) (tRet (tCB (rTupOf c.K) (tCons (tVar 7) tNil)))))))))
/-- _law_due: 0 program, 1 found, 2 order -/
def t__law_due (c : Cn) : TS := tSeq (tAsg (tDNewN c) (gName 1)) (tSeq (tFor (iList c.K (tCall (SpD c (R__law_orders c)) [] E0 (tCons (tVar 0) tNil))) (gName 2) (tAsg (tC (.bl true)) (gSub (tVar 1) (tCall (SpD c (R__law_done c)) [] E0 (tCons (tVar 0) (tCons (tVar 2) tNil))) (rSetT c)))) (tRet (tCB (rSortS (sdR c) c.K) (tCons (tCB (rListT c) (tCons (tVar 1) tNil)) tNil))))
/-- _law_holds: 0 told, 1 due, 2 k, 3 row, 4 x -/
def t__law_holds (c : Cn) : TS := tSeq (tIfS (tOr (tNot (tB (tCB (rIsi c.K) (tCons (tVar 0) (tCons (tC (.ty "tuple")) tNil))))) (tTest (tOp rNe (tCB (rLenV c.K) (tCons (tVar 0) tNil)) (tCB (rLenV c.K) (tCons (tVar 1) tNil))))) (tRet (tC (.bl false))) tNext) (tSeq (tFor (iRng1 (tCons (tCB (rLenV c.K) (tCons (tVar 1) tNil)) tNil)) (gName 2) (tSeq (tIfS (tOr (tNot (tB (tCB (rIsi c.K) (tCons (tOp (rIxT c.K) (tVar 0) (tVar 2)) (tCons (tC (.ty "tuple")) tNil))))) (tTest (tOp (rNeD c.K) (tOp (rIxT c.K) (tVar 0) (tVar 2)) (tOp (rIxL c.K) (tVar 1) (tVar 2))))) (tRet (tC (.bl false))) tNext) (tFor (iTup c.K (tOp (rIxT c.K) (tVar 0) (tVar 2))) (gName 3) (tIfS (tOr (tNot (tB (tCB (rIsi c.K) (tCons (tVar 3) (tCons (tC (.ty "tuple")) tNil))))) (tTest (tOp rGtI (tCB (rLenV c.K) (tCons (tLc (iTup c.K (tVar 3)) (gName 4) (tOr (tB (tCB (rIsi c.K) (tCons (tVar 4) (tCons (tC (.ty "bool")) tNil)))) (tNot (tB (tCB (rIsi c.K) (tCons (tVar 4) (tCons (tC (.ty "int")) tNil)))))) (tVar 4) [4]) tNil)) (tC (.int 0))))) (tRet (tC (.bl false))) tNext)))) (tRet (tC (.bl true))))
/-- law: 0 script, 1 pile, 2 program, 3 other, 4 due -/
def t_law (c : Cn) : TS := tSeq (tAsg (tLst (tCons (tCB (rListOf c.K) (tCons (tVar 0) tNil)) (tCons (tC (.int 0)) (tCons (tC (.int 0)) tNil)))) (gName 1)) (tSeq (tAsg (tCall (SpM c (R__law_program c)) [] E0 (tCons (tVar 1) tNil)) (gName 2)) (tSeq (tAsg (tCall (SpM c (R__law_program c)) [] E0 (tCons (tVar 1) tNil)) (gName 3)) (tSeq (tAsg (tCall (SpD c (R__law_due c)) [] E0 (tCons (tVar 2) tNil)) (gName 4)) (tSeq (tIfS (tOr (tTest (tOp rNotB (tCall (SpD c (R_is_program c)) [] E0 (tCons (tVar 2) tNil)) (tC (.bl true)))) (tNot (tB (tCall (SpD c (R__law_holds c)) [] E0 (tCons (tCall (SpD c (R_plain_outcomes c)) [] E0 (tCons (tVar 2) tNil)) (tCons (tVar 4) tNil)))))) (tRet (tC (.bl false))) tNext) (tSeq (tIfS (tNot (tB (tCall (SpD c (R__law_holds c)) [] E0 (tCons (tCall (SpD c (R_plain_outcomes c)) [] E0 (tCons (tSl (rSlA c.K) (tVar 3) tNoPart (tPart (tC (.int 2)))) tNil)) (tCons (tCall (SpD c (R__law_due c)) [] E0 (tCons (tSl (rSlA c.K) (tVar 3) tNoPart (tPart (tC (.int 2)))) tNil)) tNil))))) (tRet (tC (.bl false))) tNext) (tRet (tCall (SpD c (R__law_holds c)) [] E0 (tCons (tCall (SpD c (R_plain_outcomes c)) [] E0 (tCons (tVar 2) tNil)) (tCons (tVar 4) tNil)))))))))
end KM
set_option Elab.async false
set_option linter.all false
set_option maxRecDepth 100000
set_option maxHeartbeats 1000000
/-! K71c: each def computes what it promises, by data. -/
namespace KM
open PySem PySem.Spec PyProof.Rows L2 DL
section
variable {c : Cn} {mg : Str → Option Value}
theorem len_is_integer : ∀ ds r, R_is_integer c ds r → ds.length = 1 := by rintro _ _ ⟨n, rfl, _⟩; rfl
theorem run_is_integer (c : Cn) {mg : Str → Option Value} (T : TX c.w c.K mg) : ∀ ds r, R_is_integer c ds r → RunsTo c (t_is_integer c) 1 ds (.d r) := by
  rintro _ _ ⟨n, rfl, rfl⟩
  exact runs_rt (δ := [.d (.int n)]) rfl fun B hM => rr_ret (ev_is (ev_andV (ev_isi (b := true) (ev_var rfl)) fun _ => ev_notV (ev_isi (b := false) (ev_var rfl))) rfl)
theorem len_is_number : ∀ ds r, R_is_number c ds r → ds.length = 1 := by rintro _ _ ⟨n, rfl, _⟩; rfl
theorem run_is_number (c : Cn) {mg : Str → Option Value} (T : TX c.w c.K mg) : ∀ ds r, R_is_number c ds r → RunsTo c (t_is_number c) 1 ds (.d r) := by
  rintro _ _ ⟨n, rfl, rfl⟩
  exact runs_rt (δ := [.d (.int n)]) rfl fun B hM => rr_ret (ev_is (ev_andV (ev_call (eva_cons (ev_var rfl) eva_nil) ⟨n, rfl, rfl⟩) fun _ => ev_ge (ev_var rfl) ev_int) (by rfl))
theorem prog_len {p : Prog} (h : Ok p) : p.length ≤ 100000 := Nat.le_trans h.len (by decide)
theorem row_le : ∀ {p : Prog} {r : List Deed}, r ∈ p → r.length ≤ total p
  | r' :: p, r, h => by
    have e : total (r' :: p) = r'.length + total p := List.sum_cons
    rcases List.mem_cons.mp h with rfl | h
    · omega
    · have := row_le h
      omega
theorem row_len {p : Prog} {r : List Deed} (h : Ok p) (m : r ∈ p) : r.length ≤ 6 := Nat.le_trans (row_le m) h.tot
theorem len_deed_count : ∀ ds r, R_deed_count c ds r → ds.length = 1 := by rintro _ _ ⟨p, _, rfl, _⟩; rfl
theorem run_deed_count (c : Cn) {mg : Str → Option Value} (T : TX c.w c.K mg) : ∀ ds r, R_deed_count c ds r → RunsTo c (t_deed_count c) 2 ds (.d r) := by
  rintro _ _ ⟨p, hp, rfl, rfl⟩
  refine runs_rt (δ := [.d (dProg p), .un]) rfl fun B hM => rr_ret (ev_is (ev_sum (ns := p.map fun r => (r.length : Int)) (eva_cons (ev_is (ev_lstN (evn_map1 dRow (fun r => .int r.length) (evi_tup (ev_var rfl)) (prog_len hp) fun a m => ev_len1 (ev_var (d := dRow a) rfl) (by show some (a.map dDeed).length = _; rw [List.length_map]) (Nat.le_trans (row_len hp m) (by decide)))) (by rw [List.map_map]; rfl)) eva_nil)) ?_)
  have : ∀ q : Prog, (q.map fun r => (r.length : Int)).sum = ((total q : Nat) : Int) := fun q => by
    induction q with
    | nil => rfl
    | cons r q ih =>
      have e : total (r :: q) = r.length + total q := List.sum_cons
      rw [List.map_cons, List.sum_cons, ih, e]
      push_cast
      rfl
  rw [this]
theorem len_read_counts : ∀ ds r, R_read_counts c ds r → ds.length = 1 := by rintro _ _ ⟨p, _, rfl, _⟩; rfl
theorem atI0 {x : D} {xs : List D} : atI (x :: xs) 0 = some x := by
  unfold atI ixN
  simp
theorem atI1 {x y : D} {xs : List D} : atI (x :: y :: xs) 1 = some y := by
  unfold atI ixN
  rw [if_pos (by decide), if_pos (by simp only [List.length_cons]; omega)]
  rfl
def Deed.word : Deed → Str
  | .rd _ => "read"
  | .wr _ => "write"
  | .fe => "fence"
def Deed.tail : Deed → List D
  | .rd l => [.int l]
  | .wr l => [.int l]
  | .fe => []
theorem dDeed_eq (d : Deed) : dDeed d = .tup (.str d.word :: d.tail) := by cases d <;> rfl
/-- deed[0] -/
theorem ev_word {δ δ1 : DE} {te : TE} {d : Deed} (h : Ev c te δ (dDeed d) δ1) : Ev c (tOp (rIxT c.K) te (tC (.int 0))) δ (.str d.word) δ1 := by
  rw [dDeed_eq] at h
  exact ev_ixT h ev_int atI0
theorem word_read (d : Deed) : decide (d.word = ("read" : Str)) = d.isR := by
  have h1 : decide (("read" : Str) = ("read" : Str)) = true := by decide +kernel
  have h2 : decide (("write" : Str) = ("read" : Str)) = false := by decide +kernel
  have h3 : decide (("fence" : Str) = ("read" : Str)) = false := by decide +kernel
  cases d
  · exact h1
  · exact h2
  · exact h3
theorem word_write (d : Deed) : decide (d.word = ("write" : Str)) = d.isW := by
  have h1 : decide (("read" : Str) = ("write" : Str)) = false := by decide +kernel
  have h2 : decide (("write" : Str) = ("write" : Str)) = true := by decide +kernel
  have h3 : decide (("fence" : Str) = ("write" : Str)) = false := by decide +kernel
  cases d
  · exact h1
  · exact h2
  · exact h3
theorem run_read_counts (c : Cn) {mg : Str → Option Value} (T : TX c.w c.K mg) : ∀ ds r, R_read_counts c ds r → RunsTo c (t_read_counts c) 3 ds (.d r) := by
  rintro _ _ ⟨p, hp, rfl, rfl⟩
  refine runs_rt (δ := [.d (dProg p), .un, .un]) rfl fun B hM => rr_ret (ev_is (ev_tupN (evn_map1 dRow (fun r => .int ((r.filter Deed.isR).map dDeed).length) (evi_tup (ev_var rfl)) (prog_len hp) fun a m => ?_)) ?_)
  · refine ev_lenN (evn_filt1 dDeed dDeed Deed.isR (evi_tup (ev_var rfl)) (Nat.le_trans (row_len hp m) (by decide)) (fun d md => ?_) fun d md _ => ev_var rfl) ?_
    · exact evt_T (ev_is (ev_eqS (ev_word (ev_var rfl)) ev_str) (by rw [word_read]))
    · rw [List.length_map]
      exact Nat.le_trans (List.length_filter_le _ _) (Nat.le_trans (row_len hp m) (by decide))
  · unfold dI counts
    rw [List.map_map]
    congr 1
    refine List.map_congr_left fun r _ => ?_
    show D.int _ = D.int (rcount r)
    unfold rcount
    rw [List.length_map, List.countP_eq_length_filter]
end
end KM
set_option Elab.async false
set_option linter.all false
set_option maxRecDepth 100000
set_option maxHeartbeats 1000000
namespace KM
open PySem PySem.Spec PyProof.Rows L2 DL
section
variable {c : Cn} {mg : Str → Option Value}
/-! ### lines_of -/
def tl (ls : List Int) : List (Key × D) := ls.map fun l => (.inl l, .bl true)
theorem tl_put (ls : List Int) (l : Int) : putKD (tl ls) (.inl l) (.bl true) = tl (if l ∈ ls then ls else ls ++ [l]) := by
  unfold putKD
  have e : (tl ls).any (fun p => decide (p.1 = Sum.inl l)) = decide (l ∈ ls) := by
    unfold tl
    rw [List.any_map, Bool.eq_iff_iff, List.any_eq_true, decide_eq_true_eq]
    constructor
    · rintro ⟨x, hx, h⟩
      have : (Sum.inl x : Key) = Sum.inl l := of_decide_eq_true h
      cases this
      exact hx
    · intro h
      exact ⟨l, h, decide_eq_true rfl⟩
  rw [e]
  by_cases h : l ∈ ls
  · rw [decide_eq_true h, if_pos rfl, if_pos h]
    unfold tl
    rw [List.map_map]
    refine List.map_congr_left fun x _ => ?_
    show (if (Sum.inl x : Key) = Sum.inl l then ((Sum.inl x : Key), D.bl true) else ((Sum.inl x : Key), D.bl true)) = _
    split <;> rfl
  · rw [decide_eq_false h, if_neg Bool.false_ne_true, if_neg h]
    unfold tl
    rw [List.map_append]
    rfl
theorem addD_len (acc : List Int) (d : Deed) : (addD acc d).length ≤ acc.length + 1 := by
  unfold addD
  cases d.ln with
  | none => exact Nat.le_succ _
  | some l =>
    show (if l ∈ acc then acc else acc ++ [l]).length ≤ _
    split
    · exact Nat.le_succ _
    · rw [List.length_append]; exact Nat.le_refl _
theorem row_addD : ∀ (r : List Deed) (acc : List Int), (r.foldl addD acc).length ≤ acc.length + r.length
  | [], _ => Nat.le_refl _
  | d :: r, acc => by
    have h1 := row_addD r (addD acc d)
    have h2 := addD_len acc d
    rw [List.foldl_cons, List.length_cons]
    omega
theorem acc_le : ∀ (p : Prog) (acc : List Int), (p.foldl (fun acc r => r.foldl addD acc) acc).length ≤ acc.length + total p
  | [], _ => Nat.le_refl _
  | r :: p, acc => by
    have h1 := acc_le p (r.foldl addD acc)
    have h2 := row_addD r acc
    have e : total (r :: p) = r.length + total p := List.sum_cons
    rw [List.foldl_cons]
    omega
theorem lines_len {p : Prog} (h : Ok p) : (linesAcc p).length ≤ 6 := by
  have := acc_le p []
  have := h.tot
  unfold linesAcc
  simp at *
  omega
theorem linesOf_perm (p : Prog) : (linesOf p).Perm (linesAcc p) := List.mergeSort_perm _ _
theorem linesOf_len {p : Prog} (h : Ok p) : (linesOf p).length ≤ 6 := by rw [(linesOf_perm p).length_eq]; exact lines_len h
theorem linesOf_le (p : Prog) : (linesOf p).Pairwise (· ≤ ·) := (List.pairwise_mergeSort (le := fun a b : Int => decide (a ≤ b)) (fun a b c h1 h2 => by simp at *; omega) (fun a b => by simp; omega) (linesAcc p)).imp fun h => of_decide_eq_true h
theorem len_lines_of : ∀ ds r, R_lines_of c ds r → ds.length = 1 := by rintro _ _ ⟨p, _, rfl, _⟩; rfl
theorem deed_len (d : Deed) : (dDeed d).len? = some (1 + d.ln.toList.length) := by cases d <;> rfl
theorem run_lines_of (c : Cn) {mg : Str → Option Value} (T : TX c.w c.K mg) : ∀ ds r, R_lines_of c ds r → RunsTo c (t_lines_of c) 4 ds (.d r) := by
  rintro _ _ ⟨p, hp, rfl, rfl⟩
  refine runs_rt (δ := [.d (dProg p), .un, .un, .un]) rfl fun B hM => rr_seq (run_asgN evn_dkN) (rr_seq (run_foldI (xs := p) dRow (fun ls => [.d (dProg p), .odk (tl ls), .un, .un]) (fun acc r => r.foldl addD acc) (fun i b => b.length ≤ 6 * i) [] (evi_tup (ev_var rfl)) (Nat.zero_le _) fun i b r hb hr => ?_) ?_)
  · have hm := List.mem_of_getElem? hr
    have hi : i < p.length := (List.getElem?_eq_some_iff.mp hr).1
    have h3 := hp.len
    have h6 := row_len hp hm
    refine ⟨by have := row_addD r b; omega, _, tgt_name, run_end [2] (run_foldI (xs := r) dDeed (fun ls => [.d (dProg p), .odk (tl ls), .d (dRow r), .un]) addD (fun j b => b.length ≤ 6 * i + j) b (evi_tup (ev_var rfl)) (by omega) fun j b d hb hd => ⟨by have := addD_len b d; omega, _, tgt_name, ?_⟩) rfl⟩
    have hj : j < r.length := (List.getElem?_eq_some_iff.mp hd).1
    have hz : (tl b).length ≤ 100000 := by unfold tl; rw [List.length_map]; omega
    refine run_if (evt_T (ev_eqI (ev_len1 (ev_var (d := dDeed d) rfl) (deed_len d) (by cases d <;> simp [Deed.ln])) ev_int)) (fun h => ?_) (fun h => ?_)
    · obtain ⟨l, e⟩ : ∃ l, d.ln = some l := by
        cases d with
        | rd l => exact ⟨l, rfl⟩
        | wr l => exact ⟨l, rfl⟩
        | fe => exact absurd (of_decide_eq_true h) (by decide)
      have e2 : ∃ x, dDeed d = .tup [x, .int l] := by
        cases d with
        | rd l => cases e; exact ⟨_, rfl⟩
        | wr l => cases e; exact ⟨_, rfl⟩
        | fe => cases e
      obtain ⟨x, e2⟩ := e2
      refine run_end [3] (run_setK (k := .inl l) ev_bl rfl (ev_ixT (ev_var (by rw [e2]; rfl)) ev_int atI1) rfl hz) ?_
      rw [tl_put]
      unfold addD
      rw [e]
      rfl
    · have e : d.ln = none := by
        cases d with
        | fe => rfl
        | rd l => exact absurd h (by simp [Deed.ln])
        | wr l => exact absurd h (by simp [Deed.ln])
      refine run_end [3] run_next ?_
      unfold addD
      rw [e]
      rfl
  · refine rr_ret (ev_tupN (evn_sortOKI (ks := linesAcc p) rfl ?_ (by have := lines_len hp; omega) (linesOf_perm p) (linesOf_le p)))
    unfold tl
    rw [List.map_map]
    rfl
end
end KM
set_option Elab.async false
set_option linter.all false
set_option maxRecDepth 100000
set_option maxHeartbeats 1000000
namespace KM
open PySem PySem.Spec PyProof.Rows L2 DL
section
variable {c : Cn} {mg : Str → Option Value}
/-! ### write_numbers -/
def wstep (b : List Int × Int) (d : Deed) : List Int × Int := if d.isW then (b.1 ++ [b.2 + 1], b.2 + 1) else (b.1 ++ [0], b.2)
theorem wstep_fold : ∀ (r : List Deed) (b : List Int × Int), r.foldl wstep b = (b.1 ++ wrow b.2 r, b.2 + wcount r)
  | [], b => by
    show b = _
    simp [wrow, wcount]
  | d :: r, b => by
    rw [List.foldl_cons, wstep_fold r, show wrow b.2 (d :: r) = if d.isW then (b.2 + 1) :: wrow (b.2 + 1) r else 0 :: wrow b.2 r from rfl]
    unfold wstep wcount
    rw [List.countP_cons]
    cases h : d.isW with
    | true =>
      simp only [if_true, List.append_assoc, List.singleton_append, Prod.mk.injEq, true_and]
      push_cast
      omega
    | false => simp
def wst (b : List (List Int) × Int) (r : List Deed) : List (List Int) × Int := (b.1 ++ [wrow b.2 r], b.2 + wcount r)
theorem wst_fold : ∀ (p : Prog) (b : List (List Int) × Int), (p.foldl wst b).1 = b.1 ++ wnums b.2 p
  | [], b => by simp [wnums]
  | r :: p, b => by
    rw [List.foldl_cons, wst_fold p, show wnums b.2 (r :: p) = wrow b.2 r :: wnums (b.2 + wcount r) p from rfl]
    unfold wst
    simp
theorem wrow_len : ∀ (r : List Deed) (n : Int), (wrow n r).length = r.length
  | [], _ => rfl
  | d :: r, n => by
    unfold wrow
    split
    · rw [List.length_cons, List.length_cons, wrow_len]
    · rw [List.length_cons, List.length_cons, wrow_len]
theorem len_write_numbers : ∀ ds r, R_write_numbers c ds r → ds.length = 1 := by rintro _ _ ⟨p, _, rfl, _⟩; rfl
theorem run_write_numbers (c : Cn) {mg : Str → Option Value} (T : TX c.w c.K mg) : ∀ ds r, R_write_numbers c ds r → RunsTo c (t_write_numbers c) 6 ds (.d r) := by
  rintro _ _ ⟨p, hp, rfl, rfl⟩
  refine runs_rt (δ := [.d (dProg p), .un, .un, .un, .un, .un]) rfl fun B hM => rr_seq (run_asgN (evn_lst eva_nil (Nat.zero_le _))) (rr_seq (run_asg ev_int) (rr_seq (run_foldI (xs := p) dRow (fun b => [.d (dProg p), .ol (b.1.map dI), .d (.int b.2), .un, .un, .un]) wst (fun i b => b.1.length ≤ i) ([], 0) (evi_tup (ev_var rfl)) (Nat.le_refl _) fun i b r hb hr => ?_) ?_))
  · have hm := List.mem_of_getElem? hr
    have h6 := row_len hp hm
    have hi : i < p.length := (List.getElem?_eq_some_iff.mp hr).1
    have h3 := hp.len
    refine ⟨by unfold wst; rw [List.length_append]; exact Nat.succ_le_succ hb, _, tgt_name, ?_⟩
    refine run_end [3, 4, 5] (run_seq (run_asgN (evn_lst eva_nil (Nat.zero_le _))) (run_seq (run_foldI (xs := r) dDeed (fun x => [.d (dProg p), .ol (b.1.map dI), .d (.int x.2), .d (dRow r), .ol (x.1.map .int), .un]) wstep (fun j x => x.1.length ≤ j) ([], b.2) (evi_tup (ev_var rfl)) (Nat.le_refl _) fun j x d hx hd => ?_) (run_app rfl (ev_tupO rfl) rfl (by rw [List.length_map]; omega)))) ?_
    · have hj : j < r.length := (List.getElem?_eq_some_iff.mp hd).1
      have hz : (x.1.map D.int).length ≤ 100000 := by rw [List.length_map]; omega
      refine ⟨by unfold wstep; split <;> (rw [List.length_append]; exact Nat.succ_le_succ hx), _, tgt_name, ?_⟩
      refine run_if (evt_T (ev_is (ev_eqS (ev_word (ev_var rfl)) ev_str) (by rw [word_write]))) (fun h => ?_) (fun h => ?_)
      · refine run_end [5] (run_seq (run_aug rfl ev_int) (run_app rfl (ev_var rfl) rfl hz)) ?_
        unfold wstep
        rw [if_pos h]
        simp [forget]
      · refine run_end [5] (run_app rfl ev_int rfl hz) ?_
        unfold wstep
        rw [if_neg (by rw [h]; exact Bool.false_ne_true)]
        simp [forget]
    · rw [wstep_fold]
      unfold wst
      simp [forget, dI]
  · refine rr_ret (ev_is (ev_tupO rfl) ?_)
    rw [wst_fold]
    rfl
/-! ### rows_of -/
theorem cutD_nat (ds : List D) (a n : Nat) : DL.cutD ds (some (a : Int)) (some ((a : Int) + (n : Int))) = (ds.drop a).take n := by
  unfold DL.cutD
  have e1 : HT.sIx ds.length 0 (some ((a : Nat) : Int)) = min a ds.length := HT.sIx_nat _ _ _
  have e2 : HT.sIx ds.length ds.length (some ((a : Int) + (n : Int))) = min (a + n) ds.length := by
    rw [show ((a : Int) + (n : Int)) = ((a + n : Nat) : Int) by omega]
    exact HT.sIx_nat _ _ _
  rw [e1, e2]
  by_cases h : a ≤ ds.length
  · rw [Nat.min_eq_left h]
    by_cases h2 : a + n ≤ ds.length
    · rw [Nat.min_eq_left h2, show a + n - a = n by omega]
    · rw [Nat.min_eq_right (by omega)]
      rw [List.take_of_length_le (by rw [List.length_drop]; exact Nat.le_refl _), List.take_of_length_le (by rw [List.length_drop]; omega)]
  · rw [Nat.min_eq_right (by omega), Nat.min_eq_right (by omega), Nat.sub_self, List.drop_eq_nil_of_le (by omega), List.take_zero, List.drop_eq_nil_of_le (by omega), List.take_nil]
def rst (as : List Int) (b : List (List Int) × Nat) (n : Int) : List (List Int) × Nat := (b.1 ++ [(as.drop b.2).take n.toNat], b.2 + n.toNat)
theorem rst_fold (as : List Int) : ∀ (cs : List Int) (b : List (List Int) × Nat), (cs.foldl (rst as) b).1 = b.1 ++ split cs (as.drop b.2)
  | [], b => by simp [split]
  | n :: cs, b => by
    rw [List.foldl_cons, rst_fold as cs, show split (n :: cs) (as.drop b.2) = (as.drop b.2).take n.toNat :: split cs ((as.drop b.2).drop n.toNat) from rfl]
    unfold rst
    simp [List.drop_drop]
theorem len_rows_of : ∀ ds r, R_rows_of c ds r → ds.length = 2 := by rintro _ _ ⟨cs, as, _, _, _, rfl, _⟩; rfl
theorem run_rows_of (c : Cn) {mg : Str → Option Value} (T : TX c.w c.K mg) : ∀ ds r, R_rows_of c ds r → RunsTo c (t_rows_of c) 5 ds (.d r) := by
  rintro _ _ ⟨cs, as, h1, h2, h3, rfl, rfl⟩
  refine runs_rt (δ := [.d (dI cs), .d (dI as), .un, .un, .un]) rfl fun B hM => rr_seq (run_asgN (evn_lst eva_nil (Nat.zero_le _))) (rr_seq (run_asg ev_int) (rr_seq (run_foldI (xs := cs) D.int (fun b => [.d (dI cs), .d (dI as), .ol (b.1.map dI), .d (.int (b.2 : Nat)), .un]) (rst as) (fun i b => b.1.length ≤ i) ([], 0) (evi_tup (ev_var rfl)) (Nat.le_refl _) fun i b n hb hn => ?_) ?_))
  · have hi : i < cs.length := (List.getElem?_eq_some_iff.mp hn).1
    have h0 := h3 n (List.mem_of_getElem? hn)
    have en : n = ((n.toNat : Nat) : Int) := (Int.toNat_of_nonneg h0).symm
    refine ⟨by unfold rst; rw [List.length_append]; exact Nat.succ_le_succ hb, _, tgt_name, ?_⟩
    refine run_end [4] (run_seq (run_app rfl (ev_tupT (eva_cons (ev_slT (ev_var rfl) (evo_some (ev_var rfl)) (evo_some (ev_add (ev_var rfl) (ev_var rfl)))) eva_nil)) rfl (by rw [List.length_map]; omega)) (run_aug rfl (ev_var rfl))) ?_
    unfold rst
    rw [en]
    simp only [Int.toNat_natCast]
    rw [cutD_nat]
    simp [forget, dI, List.map_drop, List.map_take]
  · refine rr_ret (ev_is (ev_tupO rfl) ?_)
    rw [rst_fold]
    rfl
/-! ### the plan's methods -/
theorem lk (s : Str) (h : (planF ([] : Prog)).lookup s = none → True) : True := trivial
end
end KM
set_option Elab.async false
set_option linter.all false
set_option maxRecDepth 100000
set_option maxHeartbeats 1000000
namespace KM
open PySem PySem.Spec PyProof.Rows L2 DL
section
variable {c : Cn} {mg : Str → Option Value} {δ δ1 δ2 : DE} {ta tb : TE}
/-! ### places -/
theorem atI_at {xs : List D} {i : Nat} {d : D} (h : xs[i]? = some d) : atI xs (i : Int) = some d := by
  have hi := (List.getElem?_eq_some_iff.mp h).1
  unfold atI ixN
  rw [if_pos (by omega), if_pos (by omega)]
  show xs[((i : Int)).toNat]? = _
  rw [Int.toNat_natCast]
  exact h
theorem getD_some {α : Type} {xs : List α} {i : Nat} {d : α} (h : i < xs.length) : xs[i]? = some (xs.getD i d) := by
  rw [List.getD_eq_getElem?_getD, List.getElem?_eq_getElem h]
  rfl
theorem atI_map {α : Type} {xs : List α} {i : Nat} {d : α} {f : α → D} (h : i < xs.length) : atI (xs.map f) (i : Int) = some (f (xs.getD i d)) := atI_at (by rw [List.getElem?_map, getD_some (d := d) h]; rfl)
theorem atI_mapZ {α : Type} {xs : List α} {z : Int} {d : α} {f : α → D} (h0 : 0 ≤ z) (h : z.toNat < xs.length) : atI (xs.map f) z = some (f (xs.getD z.toNat d)) := by
  have := atI_map (d := d) (f := f) h
  rw [Int.toNat_of_nonneg h0] at this
  exact this
theorem ixN_at {n i : Nat} (h : i < n) : ixN n (i : Int) = some i := by
  unfold ixN
  rw [if_pos (by omega), if_pos (by omega), Int.toNat_natCast]
theorem ixN_Z {n : Nat} {z : Int} (h0 : 0 ≤ z) (h : z.toNat < n) : ixN n z = some z.toNat := by
  have := ixN_at h
  rw [Int.toNat_of_nonneg h0] at this
  exact this
/-! ### the plan -/
theorem pl_rows {p : Prog} : (planF p).lookup ("rows" : Str) = some (dNum (numd p)) := rfl
theorem pl_many {p : Prog} : (planF p).lookup ("many" : Str) = some (.int (p.length : Nat)) := rfl
theorem pl_lines {p : Prog} : (planF p).lookup ("lines" : Str) = some (.int ((linesOf p).length : Nat)) := rfl
theorem pl_reads {p : Prog} : (planF p).lookup ("reads" : Str) = some (.int (counts p).sum) := rfl
theorem pl_length {p : Prog} : (planF p).lookup ("length" : Str) = some (.int (total p : Nat)) := rfl
theorem ev_pl (T : TX c.w c.K mg) {p : Prog} {f : Str} {d : D} (h : Ev c ta δ (dPlan c.K p) δ1) (hn : NoAttr c.K (He.ga c.K "PlainPlan") f) (hl : (planF p).lookup f = some d) : Ev c (tFld c.K ta f) δ d δ1 := ev_fld h (cl_PlainPlan T) hn hl
theorem len_PlainPlan_first_stand : ∀ ds r, R_PlainPlan_first_stand c ds r → ds.length = 1 := by rintro _ _ ⟨p, _, rfl, _⟩; rfl
theorem rep_single {α : Type} (x : α) : ∀ n : Nat, (List.replicate n [x]).flatten = List.replicate n x
  | 0 => rfl
  | n + 1 => by rw [List.replicate_succ, List.replicate_succ, List.flatten_cons, rep_single x n]; rfl
theorem run_PlainPlan_first_stand (c : Cn) {mg : Str → Option Value} (T : TX c.w c.K mg) : ∀ ds r, R_PlainPlan_first_stand c ds r → RunsTo c (t_PlainPlan_first_stand c) 1 ds (.d r) := by
  rintro _ _ ⟨p, hp, rfl, rfl⟩
  have h3 := hp.len
  have h6 := linesOf_len hp
  refine runs_rt (δ := [.d (dPlan c.K p)]) rfl fun B hM => rr_ret (ev_is (ev_mulT (ev_tup (eva_cons ev_int eva_nil) (by decide)) (ev_add (ev_pl T (ev_var rfl) (na_PlainPlan_many T) pl_many) (ev_pl T (ev_var rfl) (na_PlainPlan_lines T) pl_lines)) (by decide) (by decide) (by omega) (by omega)) ?_)
  rw [show (((p.length : Nat) : Int) + (((linesOf p).length : Nat) : Int)).toNat = p.length + (linesOf p).length by omega, rep_single]
  unfold dI
  rw [List.map_replicate]
theorem start_len (p : Prog) : (start p).length = p.length + (linesOf p).length + (counts p).sum.toNat := by
  unfold start
  rw [List.length_append, List.length_replicate, List.length_replicate]
theorem stand_len {p : Prog} {s : List Int} (h : Stand p s) : s.length = p.length + (linesOf p).length + (counts p).sum.toNat := h.len.trans (start_len p)
/-- rows[i] -/
theorem ev_row (T : TX c.w c.K mg) {p : Prog} {i : Nat} (hi : i < p.length) (h : Ev c ta δ (dPlan c.K p) δ1) (hb : Ev c tb δ1 (.int i) δ2) : Ev c (tOp (rIxT c.K) (tFld c.K ta "rows") tb) δ (.tup (((numd p).getD i []).map dI)) δ2 :=
  ev_ixT (ev_pl T h (na_PlainPlan_rows T) pl_rows) hb (atI_map (f := fun r => D.tup (r.map dI)) (d := []) (by rw [numd_length]; exact hi))
theorem len_PlainPlan_can_go_on : ∀ ds r, R_PlainPlan_can_go_on c ds r → ds.length = 3 := by rintro _ _ ⟨p, s, i, _, _, _, rfl, _⟩; rfl
theorem run_PlainPlan_can_go_on (c : Cn) {mg : Str → Option Value} (T : TX c.w c.K mg) : ∀ ds r, R_PlainPlan_can_go_on c ds r → RunsTo c (t_PlainPlan_can_go_on c) 3 ds (.d r) := by
  rintro _ _ ⟨p, s, i, hp, hs, hi, rfl, rfl⟩
  have hl := stand_len hs
  have h6 : (((numd p).getD i []).map dI).length ≤ 100000 := by
    rw [List.length_map, numd_row_length hi]
    exact Nat.le_trans (row_len hp (by unfold rowOf; rw [List.getD_eq_getElem?_getD, List.getElem?_eq_getElem hi]; exact List.getElem_mem hi)) (by decide)
  refine runs_rt (δ := [.d (dPlan c.K p), .d (dI s), .d (.int i)]) rfl fun B hM => rr_ret (ev_is (ev_lt (ev_ixT (ev_var rfl) (ev_var rfl) (atI_map (f := D.int) (d := 0) (by omega))) (ev_len1 (ev_row T hi (ev_var rfl) (ev_var rfl)) rfl h6)) ?_)
  unfold canGo
  rw [List.length_map]
theorem len_PlainPlan_next_deed : ∀ ds r, R_PlainPlan_next_deed c ds r → ds.length = 3 := by rintro _ _ ⟨p, s, i, _, _, _, _, rfl, _⟩; rfl
theorem run_PlainPlan_next_deed (c : Cn) {mg : Str → Option Value} (T : TX c.w c.K mg) : ∀ ds r, R_PlainPlan_next_deed c ds r → RunsTo c (t_PlainPlan_next_deed c) 3 ds (.d r) := by
  rintro _ _ ⟨p, s, i, hp, hs, hi, hg, rfl, rfl⟩
  have hl := stand_len hs
  have h0 := hs.at_ i hi
  have hg' : s.getD i 0 < ((numd p).getD i []).length := of_decide_eq_true hg
  exact runs_rt (δ := [.d (dPlan c.K p), .d (dI s), .d (.int i)]) rfl fun B hM => rr_ret (ev_ixT (ev_row T hi (ev_var rfl) (ev_var rfl)) (ev_ixT (ev_var rfl) (ev_var rfl) (atI_map (f := D.int) (d := 0) (by omega))) (atI_mapZ (f := dI) (d := []) h0 (by omega)))
theorem len_PlainPlan_memory_has : ∀ ds r, R_PlainPlan_memory_has c ds r → ds.length = 3 := by rintro _ _ ⟨p, s, i, _, _, _, rfl, _⟩; rfl
theorem run_PlainPlan_memory_has (c : Cn) {mg : Str → Option Value} (T : TX c.w c.K mg) : ∀ ds r, R_PlainPlan_memory_has c ds r → RunsTo c (t_PlainPlan_memory_has c) 3 ds (.d r) := by
  rintro _ _ ⟨p, s, j, hp, hs, hj, rfl, rfl⟩
  have hl := stand_len hs
  refine runs_rt (δ := [.d (dPlan c.K p), .d (dI s), .d (.int j)]) rfl fun B hM => rr_ret (ev_ixT (ev_var rfl) (ev_add (ev_pl T (ev_var rfl) (na_PlainPlan_many T) pl_many) (ev_var rfl)) ?_)
  rw [show ((p.length : Nat) : Int) + ((j : Nat) : Int) = ((p.length + j : Nat) : Int) by omega]
  exact atI_map (f := D.int) (d := 0) (by omega)
end
end KM
set_option Elab.async false
set_option linter.all false
set_option maxRecDepth 100000
set_option maxHeartbeats 1000000
namespace KM
open PySem PySem.Spec PyProof.Rows L2 DL
section
variable {c : Cn} {mg : Str → Option Value} {δ δ1 δ2 : DE} {ta tb : TE}
theorem len_PlainPlan_init : ∀ s ds s' r, R_PlainPlan_init c s ds s' r → ds.length + 1 = 2 := by rintro _ _ _ _ ⟨p, _, _, rfl, _⟩; rfl
theorem run_PlainPlan_init (c : Cn) {mg : Str → Option Value} (T : TX c.w c.K mg) : ∀ s ds s' r, R_PlainPlan_init c s ds s' r → RunsM c (t_PlainPlan_init c) 2 s ds s' r := by
  rintro _ _ _ _ ⟨p, hp, rfl, rfl, rfl, rfl⟩
  intro B hJ
  refine .inr ⟨rfl, ?_⟩
  have a1 : ∀ n m k l : D, putG "many" m [("rows", n)] = [(("rows" : Str), n), ("many", m)] := fun n m k l => rfl
  have call : ∀ {δ : DE} {R : List D → D → Prop} {r : D}, δ[1]? = some (.d (dProg p)) → R [dProg p] r → Ev c (tCall (SpD c R) [] E0 (tCons (tVar 1) tNil)) δ r δ := fun h hR => ev_call (eva_cons (ev_var h) eva_nil) hR
  have h3 := hp.len
  have h6 := linesOf_len hp
  refine ⟨_, ?_, run_seq (δ1 := [.oo (He.ga c.K "PlainPlan") [("rows", dNum (numd p))], .d (dProg p)]) (run_to (run_fld (call (R := R_numbered c) rfl ⟨p, hp, rfl, rfl⟩) rfl (cl_PlainPlan T) (na_PlainPlan_rows T) (by simp)) rfl)
    (run_seq (δ1 := [.oo (He.ga c.K "PlainPlan") [("rows", dNum (numd p)), ("many", .int (p.length : Nat))], .d (dProg p)]) (run_to (run_fld (ev_is (ev_len1 (ev_fldO rfl (cl_PlainPlan T) (na_PlainPlan_rows T) rfl) rfl (by rw [List.length_map, numd_length]; omega)) (by rw [List.length_map, numd_length])) rfl (cl_PlainPlan T) (na_PlainPlan_many T) (by simp)) rfl)
    (run_seq (δ1 := [.oo (He.ga c.K "PlainPlan") [("rows", dNum (numd p)), ("many", .int (p.length : Nat)), ("lines", .int ((linesOf p).length : Nat))], .d (dProg p)]) (run_to (run_fld (ev_is (ev_len1 (call (R := R_lines_of c) rfl ⟨p, hp, rfl, rfl⟩) rfl (by rw [List.length_map]; omega)) (by rw [List.length_map])) rfl (cl_PlainPlan T) (na_PlainPlan_lines T) (by simp)) rfl)
    (run_seq (δ1 := [.oo (He.ga c.K "PlainPlan") [("rows", dNum (numd p)), ("many", .int (p.length : Nat)), ("lines", .int ((linesOf p).length : Nat)), ("reads", .int (counts p).sum)], .d (dProg p)]) (run_to (run_fld (ev_sumT (eva_cons (call (R := R_read_counts c) rfl ⟨p, hp, rfl, rfl⟩) eva_nil)) rfl (cl_PlainPlan T) (na_PlainPlan_reads T) (by simp)) rfl)
    (run_to (run_fld (call (R := R_deed_count c) rfl ⟨p, hp, rfl, rfl⟩) rfl (cl_PlainPlan T) (na_PlainPlan_length T) (by simp)) (δ2 := [.oo (He.ga c.K "PlainPlan") (planF p), .d (dProg p)]) rfl))))⟩
  rfl
theorem len_PlainPlan_behind : ∀ ds r, R_PlainPlan_behind c ds r → ds.length = 3 := by rintro _ _ ⟨p, s, i, _, _, _, _, rfl, _⟩; rfl
theorem set_map {α : Type} (f : α → D) (xs : List α) (i : Nat) (x : α) : (xs.map f).set i (f x) = (xs.set i x).map f := by rw [List.map_set]
theorem run_PlainPlan_behind (c : Cn) {mg : Str → Option Value} (T : TX c.w c.K mg) : ∀ ds r, R_PlainPlan_behind c ds r → RunsTo c (t_PlainPlan_behind c) 8 ds (.d r) := by
  rintro _ _ ⟨p, s, i, hp, hs, hi, hg, rfl, rfl⟩
  have hl := stand_len hs
  have h0 := hs.at_ i hi
  obtain ⟨hj, he⟩ := next_entry hi h0 hg
  have hd : (rowOf p i)[(s.getD i 0).toNat]? = some (rowOf p i)[(s.getD i 0).toNat] := List.getElem?_eq_getElem hj
  have h3 := hp.len
  have h6 := linesOf_len hp
  refine runs_rt (δ := [.d (dPlan c.K p), .d (dI s), .d (.int i), .un, .un, .un, .un, .un]) rfl fun B hM => ?_
  have first : ∀ k l n : Int, entry p i (s.getD i 0).toNat = [k, l, n] → Run c B (tAsg (tMeth (He.ga c.K "PlainPlan") "next_deed" (SpD c (R_PlainPlan_next_deed c)) [] E0 (tVar 0) (tCons (tVar 1) (tCons (tVar 2) tNil))) (gTup c.K 3 (gCons (gName 3) (gCons (gName 4) (gCons (gName 5) gNil)))))
      [.d (dPlan c.K p), .d (dI s), .d (.int i), .un, .un, .un, .un, .un] (.nx [.d (dPlan c.K p), .d (dI s), .d (.int i), .d (.int k), .d (.int l), .d (.int n), .un, .un]) := fun k l n e =>
    run_tgt (d := .tup [.int k, .int l, .int n]) (ev_is (ev_meth (ev_var rfl) rfl (eva_cons (ev_var rfl) (eva_cons (ev_var rfl) eva_nil)) ⟨p, s, i, hp, hs, hi, hg, rfl, rfl⟩) (by rw [he, e]; rfl)) (tgt_tup (tgts_cons tgt_name (tgts_cons tgt_name (tgts_cons tgt_name tgts_nil))))
  have second : ∀ k l n : Int, Run c B (tAsg (tCB (rListOf c.K) (tCons (tVar 1) tNil)) (gName 6)) [.d (dPlan c.K p), .d (dI s), .d (.int i), .d (.int k), .d (.int l), .d (.int n), .un, .un] (.nx [.d (dPlan c.K p), .d (dI s), .d (.int i), .d (.int k), .d (.int l), .d (.int n), .ol (s.map .int), .un]) := fun k l n =>
    run_asgN (evn_listT (eva_cons (ev_var rfl) eva_nil))
  have third : ∀ k l n : Int, Run c B (tAugS (tVar 6) (tVar 2) (tC (.int 1)) (rIxL c.K) (ipI fun i j => i + j) rSetL) [.d (dPlan c.K p), .d (dI s), .d (.int i), .d (.int k), .d (.int l), .d (.int n), .ol (s.map .int), .un] (.nx [.d (dPlan c.K p), .d (dI s), .d (.int i), .d (.int k), .d (.int l), .d (.int n), .ol ((s.set i (s.getD i 0 + 1)).map .int), .un]) := fun k l n =>
    run_to (run_augL rfl (ev_var rfl) (ixN_at (by rw [List.length_map]; omega)) (by rw [List.getElem?_map, getD_some (d := 0) (by omega)]; rfl) ev_int) (by rw [set_map]; rfl)
  have many : ∀ {δ : DE}, δ[0]? = some (.d (dPlan c.K p)) → Ev c (tFld c.K (tVar 0) "many") δ (.int (p.length : Nat)) δ := fun h => ev_pl T (ev_var h) (na_PlainPlan_many T) pl_many
  have lines : ∀ {δ : DE}, δ[0]? = some (.d (dPlan c.K p)) → Ev c (tFld c.K (tVar 0) "lines") δ (.int ((linesOf p).length : Nat)) δ := fun h => ev_pl T (ev_var h) (na_PlainPlan_lines T) pl_lines
  -- the cases
  have fin : ∀ k l n : Int, entry p i (s.getD i 0).toNat = [k, l, n] → ∀ s1 : List Int, Run c B (tIfS (tTest (tOp rEq (tVar 3) (tC (.int 1)))) (tAsg (tVar 5) (gSub (tVar 6) (tOp rAddI (tFld c.K (tVar 0) "many") (tVar 4)) rSetL)) tNext) [.d (dPlan c.K p), .d (dI s), .d (.int i), .d (.int k), .d (.int l), .d (.int n), .ol ((s.set i (s.getD i 0 + 1)).map .int), .un] (.nx [.d (dPlan c.K p), .d (dI s), .d (.int i), .d (.int k), .d (.int l), .d (.int n), .ol (s1.map .int), .un]) →
      ∀ s2 : List Int, s2 = behind p s i → RR c B (tSeq (tAsg (tOp rAddI (tOp rAddI (tFld c.K (tVar 0) "many") (tFld c.K (tVar 0) "lines")) (tVar 5)) (gName 7)) (tSeq (tIfS (tAnd (tTest (tOp rEq (tVar 3) (tC (.int 0)))) (tTest (tOp rLtI (tVar 7) (tCB (rLenV c.K) (tCons (tVar 6) tNil))))) (tAsg (tMeth (He.ga c.K "PlainPlan") "memory_has" (SpD c (R_PlainPlan_memory_has c)) [] E0 (tVar 0) (tCons (tVar 1) (tCons (tVar 4) tNil))) (gSub (tVar 6) (tVar 7) rSetL)) tNext) (tRet (tCB (rTupOf c.K) (tCons (tVar 6) tNil)))))
        [.d (dPlan c.K p), .d (dI s), .d (.int i), .d (.int k), .d (.int l), .d (.int n), .ol (s1.map .int), .un] (dI s2) → RR c B (t_PlainPlan_behind c) [.d (dPlan c.K p), .d (dI s), .d (.int i), .un, .un, .un, .un, .un] (dI (behind p s i)) := fun k l n e s1 hr s2 e2 h => by
    subst e2
    exact rr_seq (first k l n e) (rr_seq (second k l n) (rr_seq (third k l n) (rr_seq hr h)))
  have tail : ∀ (k l n : Int) (s1 : List Int), k ≠ 0 → RR c B (tSeq (tAsg (tOp rAddI (tOp rAddI (tFld c.K (tVar 0) "many") (tFld c.K (tVar 0) "lines")) (tVar 5)) (gName 7)) (tSeq (tIfS (tAnd (tTest (tOp rEq (tVar 3) (tC (.int 0)))) (tTest (tOp rLtI (tVar 7) (tCB (rLenV c.K) (tCons (tVar 6) tNil))))) (tAsg (tMeth (He.ga c.K "PlainPlan") "memory_has" (SpD c (R_PlainPlan_memory_has c)) [] E0 (tVar 0) (tCons (tVar 1) (tCons (tVar 4) tNil))) (gSub (tVar 6) (tVar 7) rSetL)) tNext) (tRet (tCB (rTupOf c.K) (tCons (tVar 6) tNil)))))
        [.d (dPlan c.K p), .d (dI s), .d (.int i), .d (.int k), .d (.int l), .d (.int n), .ol (s1.map .int), .un] (dI s1) := fun k l n s1 hk =>
    rr_seq (run_asg (ev_add (ev_add (many rfl) (lines rfl)) (ev_var rfl))) (rr_no (evt_is (evt_and (b := false) (evt_T (ev_eqI (ev_var rfl) ev_int)) fun z => absurd (of_decide_eq_true z) hk) (by rw [decide_eq_false hk]; rfl)) (rr_ret (ev_tupO rfl)))
  have skip : ∀ (k l n : Int) (s1 : List Int), k ≠ 1 → Run c B (tIfS (tTest (tOp rEq (tVar 3) (tC (.int 1)))) (tAsg (tVar 5) (gSub (tVar 6) (tOp rAddI (tFld c.K (tVar 0) "many") (tVar 4)) rSetL)) tNext) [.d (dPlan c.K p), .d (dI s), .d (.int i), .d (.int k), .d (.int l), .d (.int n), .ol (s1.map .int), .un] (.nx [.d (dPlan c.K p), .d (dI s), .d (.int i), .d (.int k), .d (.int l), .d (.int n), .ol (s1.map .int), .un]) := fun k l n s1 hk =>
    run_if (evt_T (ev_eqI (ev_var rfl) ev_int)) (fun z => absurd (of_decide_eq_true z) hk) fun _ => run_next
  cases ed : (rowOf p i)[(s.getD i 0).toNat] with
  | fe =>
    have ee : entry p i (s.getD i 0).toNat = [2, -1, -1] := by unfold entry; rw [hd, ed]
    refine fin 2 (-1) (-1) ee _ (skip 2 (-1) (-1) _ (by decide)) _ ?_ (tail 2 (-1) (-1) _ (by decide))
    unfold behind
    rw [he, ee]
    rfl
  | wr l =>
    have ee : entry p i (s.getD i 0).toNat = [1, (((linesOf p).idxOf l : Nat) : Int), wb p i + wcount ((rowOf p i).take ((s.getD i 0).toNat + 1))] := by unfold entry; rw [hd, ed]
    have hlt := line_lt hi (by rw [hd, ed]) (rfl : (Deed.wr l).ln = some l)
    refine fin _ _ _ ee _ (run_if (evt_T (ev_eqI (ev_var rfl) ev_int)) (fun _ => run_to (run_setL (n := ((p.length : Nat) : Int) + (((linesOf p).idxOf l : Nat) : Int)) (k := p.length + (linesOf p).idxOf l) (ev_var rfl) rfl (ev_add (many rfl) (ev_var rfl)) ?_) (by rw [set_map]; rfl)) fun z => absurd z (by decide)) _ ?_ (tail _ _ _ _ (by decide))
    · rw [show ((p.length : Nat) : Int) + (((linesOf p).idxOf l : Nat) : Int) = ((p.length + (linesOf p).idxOf l : Nat) : Int) by omega]
      exact ixN_at (by rw [List.length_map, List.length_set]; omega)
    · unfold behind
      rw [he, ee]
      simp
  | rd l =>
    have ee : entry p i (s.getD i 0).toNat = [0, (((linesOf p).idxOf l : Nat) : Int), rb p i + rcount ((rowOf p i).take (s.getD i 0).toNat)] := by unfold entry; rw [hd, ed]
    have hlt := line_lt hi (by rw [hd, ed]) (rfl : (Deed.rd l).ln = some l)
    obtain ⟨r0, r1⟩ := read_lt hi (l := l) (by rw [hd, ed])
    generalize rb p i + rcount ((rowOf p i).take (s.getD i 0).toNat) = n at ee r0 r1
    have hat : ((p.length : Nat) : Int) + (((linesOf p).length : Nat) : Int) + n = ((p.length + (linesOf p).length + n.toNat : Nat) : Int) := by omega
    refine fin _ _ _ ee _ (skip _ _ _ _ (by decide)) _ rfl ?_
    refine rr_seq (run_asg (ev_add (ev_add (many rfl) (lines rfl)) (ev_var rfl))) (rr_seq (run_if (evt_and (evt_T (ev_eqI (ev_var rfl) ev_int)) fun _ => evt_T (ev_lt (ev_var rfl) (ev_lenO rfl))) (fun _ => run_setL (k := p.length + (linesOf p).length + n.toNat) (ev_meth (ev_var rfl) rfl (eva_cons (ev_var rfl) (eva_cons (ev_var rfl) eva_nil)) ⟨p, s, (linesOf p).idxOf l, hp, hs, hlt, rfl, rfl⟩) rfl (ev_var rfl) ?_) fun z => ?_) (rr_ret (ev_is (ev_tupO rfl) ?_)))
    · rw [hat]
      exact ixN_at (by rw [List.length_map, List.length_set]; omega)
    · rw [List.length_map, List.length_set, decide_eq_true (show ((p.length : Nat) : Int) + (((linesOf p).length : Nat) : Int) + n < ((s.length : Nat) : Int) by omega)] at z
      exact absurd z (by decide)
    · unfold behind
      rw [he, ee]
      rw [set_map]
      simp [dI]
end
end KM
set_option Elab.async false
set_option linter.all false
set_option maxRecDepth 100000
set_option maxHeartbeats 1000000
namespace KM
open PySem PySem.Spec PyProof.Rows L2 DL
theorem DLevi_is {c : Cn} {wi : TI} {δ δ1 : DE} {ds es : List D} (h : EvI c wi δ ds δ1) (e : ds = es) : EvI c wi δ es δ1 := e ▸ h
section
variable {c : Cn} {mg : Str → Option Value} {δ δ1 δ2 : DE} {ta tb te : TE}
/-! ### numbered -/
def Deed.kind : Deed → Int
  | .rd _ => 0
  | .wr _ => 1
  | .fe => 2
theorem kinds (T : TX c.w c.K mg) (d : Deed) : ∃ u, PySem.W.nsIn c.K (He.ga c.K "KINDS") d.word = some (some u) ∧ RelV (.int d.kind) u := by
  have h := (He.ba T.more).2
  cases d with
  | rd l => exact He.valsB_ok h (q := ("read", .int 0)) (by simp)
  | wr l => exact He.valsB_ok h (q := ("write", .int 1)) (by simp)
  | fe => exact He.valsB_ok h (q := ("fence", .int 2)) (by simp)
theorem ev_kind (T : TX c.w c.K mg) {d : Deed} (h : Ev c te δ (dDeed d) δ1) : Ev c (tOp (rKd c.K (He.ga c.K "KINDS")) (tC (.ref (He.ga c.K "KINDS"))) (tOp (rIxT c.K) te (tC (.int 0)))) δ (.int d.kind) δ1 := by
  obtain ⟨u, h1, h2⟩ := kinds T d
  exact ev_kd (ev_word h) h1 h2 fun _ => .int _
def placesOf (ls : List Int) : List (Key × D) := ls.zipIdx.map fun p => (.inl p.1, .int (p.2 : Nat))
theorem put_new {kvs : List (Key × D)} {k : Key} {v : D} (h : k ∉ kvs.map (·.1)) : putKD kvs k v = kvs ++ [(k, v)] := by
  unfold putKD
  rw [if_neg]
  rw [List.any_eq_true]
  rintro ⟨p, hp, e⟩
  exact h (List.mem_map.mpr ⟨p, hp, of_decide_eq_true e⟩)
theorem fold_new : ∀ (l acc : List (Key × D)), (l.map (·.1)).Nodup → (∀ k ∈ l.map (·.1), k ∉ acc.map (·.1)) → l.foldl (fun acc p => putKD acc p.1 p.2) acc = acc ++ l
  | [], acc, _, _ => by simp
  | p :: l, acc, h1, h2 => by
    rw [List.map_cons] at h1 h2
    obtain ⟨n1, n2⟩ := List.nodup_cons.mp h1
    rw [List.foldl_cons, put_new (h2 p.1 List.mem_cons_self), fold_new l _ n2 (fun k hk hm => ?_)]
    · simp
    · rw [List.map_append] at hm
      rcases List.mem_append.mp hm with z | z
      · exact h2 k (List.mem_cons_of_mem _ hk) z
      · have e : k = p.1 := by simpa using z
        subst e
        exact n1 hk
theorem find_idx {ls : List Int} {l : Int} : ∀ (n : Nat), l ∈ ls → valKD ((ls.zipIdx n).map fun p => ((.inl p.1 : Key), D.int (p.2 : Nat))) (.inl l) = some (.int ((n + ls.idxOf l : Nat) : Int)) := by
  induction ls with
  | nil => intro n h; cases h
  | cons x ls ih =>
    intro n h
    rw [List.zipIdx_cons, List.map_cons]
    unfold valKD
    rw [List.find?_cons]
    by_cases e : x = l
    · subst e
      simp
    · have hm : l ∈ ls := by
        rcases List.mem_cons.mp h with z | z
        · exact absurd z.symm e
        · exact z
      have := ih (n + 1) hm
      unfold valKD at this
      have hne : decide ((Sum.inl x : Key) = Sum.inl l) = false := decide_eq_false fun z => e (Sum.inl.inj z)
      simp only [hne]
      have e3 : (x :: ls).idxOf l = ls.idxOf l + 1 := by rw [List.idxOf_cons, beq_eq_false_iff_ne.mpr e]; rfl
      rw [this, e3]
      congr 3
      omega
theorem places_at {ls : List Int} {l : Int} (h : l ∈ ls) : valKD (placesOf ls) (.inl l) = some (.int ((ls.idxOf l : Nat) : Int)) := by
  have := find_idx 0 h
  unfold placesOf
  rw [this]
  simp
def nst (ls : List Int) (b : List (List Int) × Int) (x : Deed × Int) : List (List Int) × Int := match x.1 with
  | .fe => (b.1 ++ [[2, -1, -1]], b.2)
  | .wr l => (b.1 ++ [[1, ((ls.idxOf l : Nat) : Int), x.2]], b.2)
  | .rd l => (b.1 ++ [[0, ((ls.idxOf l : Nat) : Int), b.2]], b.2 + 1)
theorem nst_fold (ls : List Int) : ∀ (r : List Deed) (w : List Int) (b : List (List Int) × Int), w.length = r.length → (r.zip w).foldl (nst ls) b = (b.1 ++ nrow ls b.2 r w, b.2 + rcount r)
  | [], [], b, _ => by simp [nrow, rcount]
  | [], _ :: _, _, h => by simp at h
  | _ :: _, [], _, h => by simp at h
  | d :: r, x :: w, b, h => by
    rw [List.zip_cons_cons, List.foldl_cons, nst_fold ls r w _ (by simpa using h), rcount_cons]
    cases d with
    | fe =>
      show ((b.1 ++ [[2, -1, -1]]) ++ nrow ls b.2 r w, b.2 + rcount r) = (b.1 ++ ([2, -1, -1] :: nrow ls b.2 r w), _)
      simp [Deed.isR]
    | wr l =>
      show ((b.1 ++ [[1, ((ls.idxOf l : Nat) : Int), x]]) ++ nrow ls b.2 r w, b.2 + rcount r) = (b.1 ++ ([1, ((ls.idxOf l : Nat) : Int), x] :: nrow ls b.2 r w), _)
      simp [Deed.isR]
    | rd l =>
      show ((b.1 ++ [[0, ((ls.idxOf l : Nat) : Int), b.2]]) ++ nrow ls (b.2 + 1) r w, b.2 + 1 + rcount r) = (b.1 ++ ([0, ((ls.idxOf l : Nat) : Int), b.2] :: nrow ls (b.2 + 1) r w), _)
      simp [Deed.isR]
      omega
def nro (ls : List Int) (b : Num × Int) (x : List Deed × List Int) : Num × Int := (b.1 ++ [nrow ls b.2 x.1 x.2], b.2 + rcount x.1)
theorem nro_fold (ls : List Int) : ∀ (p : Prog) (ws : List (List Int)) (b : Num × Int), ((p.zip ws).foldl (nro ls) b).1 = b.1 ++ nrows ls b.2 p ws
  | [], _, b => by simp [nrows]
  | _ :: _, [], b => by simp [nrows]
  | r :: p, w :: ws, b => by
    rw [List.zip_cons_cons, List.foldl_cons, nro_fold ls p ws]
    show (b.1 ++ [nrow ls b.2 r w]) ++ nrows ls (b.2 + rcount r) p ws = b.1 ++ (nrow ls b.2 r w :: nrows ls (b.2 + rcount r) p ws)
    simp
theorem zip_dd {α β : Type} (f : α → D) (g : β → D) (xs : List α) (ys : List β) : ((xs.map f).zip (ys.map g)).map (fun p => D.tup [p.1, p.2]) = (xs.zip ys).map fun p => D.tup [f p.1, g p.2] := by
  rw [List.zip_map, List.map_map]
  rfl
theorem len_numbered : ∀ ds r, R_numbered c ds r → ds.length = 1 := by rintro _ _ ⟨p, _, rfl, _⟩; rfl
theorem ev_tail {d : Deed} {l : Int} (h : Ev c te δ (dDeed d) δ1) (e : d.ln = some l) : Ev c (tOp (rIxT c.K) te (tC (.int 1))) δ (.int l) δ1 := by
  have : ∃ x, dDeed d = .tup [x, .int l] := by
    cases d with
    | rd l => cases e; exact ⟨_, rfl⟩
    | wr l => cases e; exact ⟨_, rfl⟩
    | fe => cases e
  obtain ⟨x, e2⟩ := this
  rw [e2] at h
  exact ev_ixT h ev_int atI1
def pf : D → Option (Key × D)
  | .tup [.int k, .int l] => some (.inl l, .int k)
  | _ => none
theorem run_places (c : Cn) {B : Bx} {p : Prog} (hp : Ok p) : Run c B (tAsg (tDG (fun _ => .dK []) rDsK (iEnumT c.K (tCons (tCall (SpD c (R_lines_of c)) [] E0 (tCons (tVar 0) tNil)) tNil)) (gTup c.K 2 (gCons (gName 2) (gCons (gName 3) gNil))) tYes (tVar 3) (tVar 2) [2, 3]) (gName 1))
    [.d (dProg p), .un, .un, .un, .un, .un, .un, .un, .un, .un, .un, .un, .un] (.nx [.d (dProg p), .odk (placesOf (linesOf p)), .un, .un, .un, .un, .un, .un, .un, .un, .un, .un, .un]) := by
  have h6 := linesOf_len hp
  refine run_to (run_asgN (evn_dcK pf (evi_enumT (eva_cons (ev_call (eva_cons (ev_var rfl) eva_nil) ⟨p, hp, rfl, rfl⟩) eva_nil)) (by rw [List.length_map, List.length_zipIdx, List.length_map]; omega) (by decide) (own_of rfl) fun d hd => ?_)) ?_
  · obtain ⟨⟨x, k⟩, hm, rfl⟩ := List.mem_map.mp hd
    obtain ⟨l, _, rfl⟩ : ∃ l, l ∈ linesOf p ∧ D.int l = x := by
      have := List.mem_zipIdx hm
      have h2 := List.mem_of_getElem? (List.mem_zipIdx_iff_getElem?.mp hm)
      exact List.mem_map.mp h2
    refine ⟨_, tgtw_tup (tgtsw_cons (tgtw_name (by decide) (by rw [wipeD_len]; simp) (by decide)) (tgtsw_cons (tgtw_name (by decide) (by rw [List.length_set, wipeD_len]; simp) (by decide)) tgtsw_nil)), fun j hj => ?_, .inr ⟨.inl l, .int k, rfl, evt_yes, ev_var rfl, ev_var rfl, trivial⟩⟩
    match j, hj with
    | 0, _ => rfl
    | 1, _ => rfl
    | 2, hj => exact absurd (by decide) hj
    | 3, hj => exact absurd (by decide) hj
    | j + 4, _ => rfl
  · have e : ((((linesOf p).map D.int).zipIdx.map fun q => D.tup [D.int ((q.2 : Nat) : Int), q.1]).filterMap pf) = placesOf (linesOf p) := by
      rw [List.filterMap_map, List.zipIdx_map, List.filterMap_map]
      unfold placesOf
      rw [← List.filterMap_eq_map]
      rfl
    rw [e, fold_new _ _ ?_ (fun _ _ z => by simp at z)]
    · rfl
    · have : (placesOf (linesOf p)).map (·.1) = (linesOf p).map Sum.inl := by
        unfold placesOf
        rw [List.map_map]
        have h : ∀ (ls : List Int) (n : Nat), (ls.zipIdx n).map (((fun x => x.1) : Key × D → Key) ∘ fun p => ((.inl p.1 : Key), D.int (p.2 : Nat))) = ls.map Sum.inl := by
          intro ls
          induction ls with
          | nil => intro n; rfl
          | cons x ls ih => intro n; rw [List.zipIdx_cons, List.map_cons, ih]; rfl
        exact h _ _
      rw [this]
      exact List.pairwise_map.mpr ((nodup_lines p).imp fun h e => h (Sum.inl.inj e))
theorem fa_zip {α β : Type} {xs : List α} {ys : List β} {i : Nat} {z : α × β} (h : (xs.zip ys)[i]? = some z) : xs[i]? = some z.1 ∧ ys[i]? = some z.2 := by
  rw [List.getElem?_zip_eq_some] at h
  exact h
theorem run_numbered (c : Cn) {mg : Str → Option Value} (T : TX c.w c.K mg) : ∀ ds r, R_numbered c ds r → RunsTo c (t_numbered c) 13 ds (.d r) := by
  rintro _ _ ⟨p, hp, rfl, rfl⟩
  have h3 := hp.len
  refine runs_rt (δ := [.d (dProg p), .un, .un, .un, .un, .un, .un, .un, .un, .un, .un, .un, .un]) rfl fun B hM => rr_seq (run_places c hp) (rr_seq (run_asg (ev_call (eva_cons (ev_var rfl) eva_nil) ⟨p, hp, rfl, rfl⟩)) (rr_seq (run_asgN (evn_lst eva_nil (Nat.zero_le _))) (rr_seq (run_asg ev_int)
    (rr_seq (run_foldI (xs := p.zip (wnums 0 p)) (fun x => D.tup [dRow x.1, dI x.2]) (fun b => [.d (dProg p), .odk (placesOf (linesOf p)), .un, .un, .d (dR (wnums 0 p)), .ol (b.1.map fun r => D.tup (r.map dI)), .d (.int b.2), .un, .un, .un, .un, .un, .un]) (nro (linesOf p)) (fun i b => b.1.length ≤ i) ([], 0)
      (DLevi_is (evi_zipT (eva_cons (ev_var (d := .tup (p.map dRow)) rfl) (eva_cons (ev_var (d := .tup ((wnums 0 p).map dI)) rfl) eva_nil))) (zip_dd dRow dI p (wnums 0 p))) (Nat.le_refl _) fun i b x hb hx => ?_) ?_))))
  · obtain ⟨hr, hw⟩ := fa_zip hx
    have hi : i < p.length := (List.getElem?_eq_some_iff.mp hr).1
    have hm := List.mem_of_getElem? hr
    have h6 := row_len hp hm
    have hwl : x.2.length = x.1.length := by
      have e1 := wnums_at p 0 i hi
      have e2 : (wnums 0 p).getD i [] = x.2 := by rw [List.getD_eq_getElem?_getD, hw]; rfl
      have e3 : rowOf p i = x.1 := by unfold rowOf; rw [List.getD_eq_getElem?_getD, hr]; rfl
      rw [e2, e3] at e1
      rw [e1, wrow_length]
    refine ⟨by unfold nro; rw [List.length_append]; exact Nat.succ_le_succ hb, _, tgt_tup (tgts_cons tgt_name (tgts_cons tgt_name tgts_nil)), ?_⟩
    refine run_end [7, 8, 9, 10, 11, 12] (run_seq (run_asgN (evn_lst eva_nil (Nat.zero_le _))) (run_seq (run_foldI (xs := x.1.zip x.2) (fun y => D.tup [dDeed y.1, .int y.2]) (fun z => [.d (dProg p), .odk (placesOf (linesOf p)), .un, .un, .d (dR (wnums 0 p)), .ol (b.1.map fun r => D.tup (r.map dI)), .d (.int z.2), .d (dRow x.1), .d (dI x.2), .ol (z.1.map dI), .un, .un, .un]) (nst (linesOf p)) (fun j z => z.1.length ≤ j) ([], b.2)
      (DLevi_is (evi_zipT (eva_cons (ev_var (d := .tup (x.1.map dDeed)) rfl) (eva_cons (ev_var (d := .tup (x.2.map .int)) rfl) eva_nil))) (zip_dd dDeed D.int x.1 x.2)) (Nat.le_refl _) fun j z y hz hy => ?_) (run_app rfl (ev_tupO rfl) rfl (by rw [List.length_map]; omega)))) ?_
    · obtain ⟨hd, hn⟩ := fa_zip hy
      have hj : j < x.1.length := (List.getElem?_eq_some_iff.mp hd).1
      have hsz : (z.1.map dI).length ≤ 100000 := by rw [List.length_map]; omega
      have hmd := List.mem_of_getElem? hd
      refine ⟨by unfold nst; split <;> (rw [List.length_append]; exact Nat.succ_le_succ hz), _, tgt_tup (tgts_cons tgt_name (tgts_cons tgt_name tgts_nil)), ?_⟩
      obtain ⟨d, n⟩ := y
      simp only at hd hn hmd
      cases d with
      | fe =>
        refine run_end [10, 11, 12] (run_seq (run_asg (ev_kind T (d := .fe) (ev_var rfl))) (run_if (evt_T (ev_eqI (ev_var rfl) ev_int)) (fun _ => run_app rfl (ev_tup (eva_cons (ev_var rfl) (eva_cons (ev_neg ev_int) (eva_cons (ev_neg ev_int) eva_nil))) (by simp)) rfl hsz) (fun z => absurd z (by simp [Deed.kind])))) ?_
        simp [forget, nst, dI, Deed.kind]
      | wr l =>
        have hl : l ∈ linesOf p := mem_lines.mpr ⟨x.1, hm, _, hmd, rfl⟩
        refine run_end [10, 11, 12] (run_seq (run_asg (ev_kind T (d := .wr l) (ev_var rfl))) (run_if (evt_T (ev_eqI (ev_var rfl) ev_int)) (fun z => absurd z (by simp [Deed.kind])) fun _ => run_if (evt_T (ev_eqI (ev_var rfl) ev_int)) (fun _ => run_app rfl (ev_tup (eva_cons (ev_var rfl) (eva_cons (ev_getOK (k := .inl l) rfl (ev_tail (d := .wr l) (ev_var rfl) rfl) rfl (places_at hl)) (eva_cons (ev_var rfl) eva_nil))) (by simp)) rfl hsz) (fun z => absurd z (by simp [Deed.kind])))) ?_
        simp [forget, nst, dI, Deed.kind]
      | rd l =>
        have hl : l ∈ linesOf p := mem_lines.mpr ⟨x.1, hm, _, hmd, rfl⟩
        refine run_end [10, 11, 12] (run_seq (run_asg (ev_kind T (d := .rd l) (ev_var rfl))) (run_if (evt_T (ev_eqI (ev_var rfl) ev_int)) (fun z => absurd z (by simp [Deed.kind])) fun _ => run_if (evt_T (ev_eqI (ev_var rfl) ev_int)) (fun z => absurd z (by simp [Deed.kind])) fun _ => run_seq (run_app rfl (ev_tup (eva_cons (ev_var rfl) (eva_cons (ev_getOK (k := .inl l) rfl (ev_tail (d := .rd l) (ev_var rfl) rfl) rfl (places_at hl)) (eva_cons (ev_var rfl) eva_nil))) (by simp)) rfl hsz) (run_aug rfl ev_int))) ?_
        simp [forget, nst, dI, Deed.kind]
    · rw [nst_fold _ _ _ _ hwl]
      unfold nro
      simp [forget, dI]
  · refine rr_ret (ev_is (ev_tupO rfl) ?_)
    rw [nro_fold]
    rfl
end
end KM
set_option Elab.async false
set_option linter.all false
set_option maxRecDepth 100000
set_option maxHeartbeats 1000000
namespace KM
open PySem PySem.Spec PyProof.Rows L2 DL
section
variable {c : Cn} {mg : Str → Option Value} {δ δ1 δ2 : DE} {ta tb te : TE}
/-! ### is_program -/
theorem ev_with (T : TX c.w c.K mg) : Ev c (tC (.ref (He.ga c.K "WITH_LINE"))) δ (.kt [.str "read", .str "write"]) δ := by
  have h := (He.ba T.more).1
  exact ev_con fun F => .kt (He.tupB_ok h F) (.cons (.str _) (.cons (.str _) .nil))
theorem len_is_deed_of_program : ∀ ds r, R_is_deed_of_program c ds r → ds.length = 1 := by rintro _ _ ⟨d, _, rfl, _⟩; rfl
theorem run_is_deed_of_program (c : Cn) {mg : Str → Option Value} (T : TX c.w c.K mg) : ∀ ds r, R_is_deed_of_program c ds r → RunsTo c (t_is_deed_of_program c) 1 ds (.d r) := by
  rintro _ _ ⟨d, h0, rfl, rfl⟩
  have in12 : ∀ {δ : DE} {te : TE} {n : Int}, Ev c te δ (.int n) δ → (n = 1 ∨ n = 2) → EvT c (tTest (tOp (rInA c.K true) te (tTup (tCons (tC (.int 1)) (tCons (tC (.int 2)) tNil))))) δ false δ := fun {δ te n} h hn => by
    refine evt_T (ev_is (ev_inA (ds := [.int 1, .int 2]) (p := .int n) (ps := [.int 1, .int 2]) (neg := true) h (ev_tup (eva_cons ev_int (eva_cons ev_int eva_nil)) (by simp)) rfl rfl rfl rfl rfl) ?_)
    rcases hn with rfl | rfl <;> rfl
  have isw : ∀ {δ : DE} {te : TE} {z : Str}, Ev c te δ (.str z) δ → (z = "read" ∨ z = "write") → Ev c (tOp (rInA c.K false) te (tC (.ref (He.ga c.K "WITH_LINE")))) δ (.bl true) δ := fun {δ te z} h hz => by
    have ok : SeqAt.shaped (.str z) = true := by rcases hz with rfl | rfl <;> decide +kernel
    refine ev_is (ev_inA (ds := [.str "read", .str "write"]) (p := .str z) (ps := [.str "read", .str "write"]) (neg := false) h (ev_with T) rfl rfl ok (by decide +kernel) rfl) ?_
    have e : ([PyData.str "read", PyData.str "write"].any fun y => y.eqv (.str z)) = true := by rcases hz with rfl | rfl <;> decide +kernel
    rw [if_neg Bool.false_ne_true, e]
  have e1 : decide ((1 : Int) = 1) = true := rfl
  cases d with
  | fe =>
    refine runs_rt (δ := [.d (dDeed .fe)]) rfl fun B hM => rr_no (evt_is (evt_or (b := false) (evt_not (evt_B (ev_isi (b := true) (ev_var rfl)))) fun _ => in12 (ev_len1 (ev_var rfl) rfl (by simp)) (.inl rfl)) rfl) (rr_no (evt_is (evt_not (evt_B (ev_isi (b := true) (ev_word (d := .fe) (ev_var rfl))))) rfl) (rr_seq_if (evt_T (ev_eqI (ev_len1 (ev_var (d := dDeed .fe) rfl) rfl (by simp)) ev_int)) (fun _ => rr_seqR (rr_ret (ev_is (ev_eqS (ev_word (d := .fe) (ev_var rfl)) ev_str) ?_))) fun z => absurd z (by simp)))
    show D.bl (decide (("fence" : Str) = "fence")) = _
    rw [decide_eq_true rfl]
  | rd l =>
    have hl := h0 l rfl
    refine runs_rt (δ := [.d (dDeed (.rd l))]) rfl fun B hM => rr_no (evt_is (evt_or (b := false) (evt_not (evt_B (ev_isi (b := true) (ev_var rfl)))) fun _ => in12 (ev_len1 (ev_var rfl) rfl (by simp)) (.inr rfl)) rfl) (rr_no (evt_is (evt_not (evt_B (ev_isi (b := true) (ev_word (d := .rd l) (ev_var rfl))))) rfl) (rr_no (evt_T (ev_is (ev_eqI (ev_len1 (ev_var (d := dDeed (.rd l)) rfl) rfl (by simp)) ev_int) rfl)) (rr_ret (ev_is (ev_andV (isw (ev_word (d := .rd l) (ev_var rfl)) (.inl rfl)) fun _ => ev_call (eva_cons (ev_tail (d := .rd l) (ev_var rfl) rfl) eva_nil) ⟨l, rfl, rfl⟩) ?_))))
    rw [decide_eq_true hl]
    rfl
  | wr l =>
    have hl := h0 l rfl
    refine runs_rt (δ := [.d (dDeed (.wr l))]) rfl fun B hM => rr_no (evt_is (evt_or (b := false) (evt_not (evt_B (ev_isi (b := true) (ev_var rfl)))) fun _ => in12 (ev_len1 (ev_var rfl) rfl (by simp)) (.inr rfl)) rfl) (rr_no (evt_is (evt_not (evt_B (ev_isi (b := true) (ev_word (d := .wr l) (ev_var rfl))))) rfl) (rr_no (evt_T (ev_is (ev_eqI (ev_len1 (ev_var (d := dDeed (.wr l)) rfl) rfl (by simp)) ev_int) rfl)) (rr_ret (ev_is (ev_andV (isw (ev_word (d := .wr l) (ev_var rfl)) (.inr rfl)) fun _ => ev_call (eva_cons (ev_tail (d := .wr l) (ev_var rfl) rfl) eva_nil) ⟨l, rfl, rfl⟩) ?_))))
    rw [decide_eq_true hl]
    rfl
theorem len_is_program : ∀ ds r, R_is_program c ds r → ds.length = 1 := by rintro _ _ ⟨p, _, rfl, _⟩; rfl
theorem run_is_program (c : Cn) {mg : Str → Option Value} (T : TX c.w c.K mg) : ∀ ds r, R_is_program c ds r → RunsTo c (t_is_program c) 3 ds (.d r) := by
  rintro _ _ ⟨p, hp, rfl, rfl⟩
  refine runs_rt (δ := [.d (dProg p), .un, .un]) rfl fun B hM => rr_no (evt_is (evt_not (evt_B (ev_isi (b := true) (ev_var rfl)))) rfl) (rr_seq (run_foldS (xs := p) dRow (fun _ => [.d (dProg p), .un, .un]) (fun (b : Unit) _ => b) () (evi_tup (ev_var rfl)) fun b r hr => ⟨_, tgt_name, ?_⟩) (rr_ret ev_bl))
  have h6 := row_len hp hr
  refine run_end [1] (run_no (evt_is (evt_not (evt_B (ev_isi (b := true) (ev_var rfl)))) rfl) (run_if (b := false) (evt_is (evt_not (evt_B (ev_all (bs := r.map fun _ => true) (eva_cons (ev_is (ev_lstN (evn_map1 (xs := r) dDeed (fun _ => .bl true) (evi_tup (ev_var rfl)) (by omega) fun d hd => ev_call (eva_cons (ev_var rfl) eva_nil) ⟨d, fun l hl => hp.ln r hr d hd l hl, rfl, rfl⟩)) (by rw [List.map_map]; rfl)) eva_nil)))) ?_) (fun z => by cases z) fun _ => run_next)) rfl
  have : ∀ l : List Deed, ((l.map fun _ => true).all id) = true := fun l => by
    induction l with
    | nil => rfl
    | cons x l ih => rw [List.map_cons, List.all_cons, ih]; rfl
  rw [this]
  rfl
theorem len_check_program : ∀ ds r, R_check_program c ds r → ds.length = 1 := by rintro _ _ ⟨p, _, rfl, _⟩; rfl
theorem run_check_program (c : Cn) {mg : Str → Option Value} (T : TX c.w c.K mg) : ∀ ds r, R_check_program c ds r → RunsTo c (t_check_program c) 1 ds (.d r) := by
  rintro _ _ ⟨p, hp, rfl, rfl⟩
  exact runs_nx (δ := [.d (dProg p)]) rfl fun B hM => ⟨_, run_if (b := false) (evt_is (evt_not (evt_B (ev_call (eva_cons (ev_var rfl) eva_nil) ⟨p, hp, rfl, rfl⟩))) rfl) (fun z => by cases z) fun _ => run_next⟩
end
end KM
set_option Elab.async false
set_option linter.all false
set_option maxRecDepth 100000
set_option maxHeartbeats 1000000
namespace KM
open PySem PySem.Spec PyProof.Rows L2 DL
section
variable {c : Cn} {mg : Str → Option Value} {δ δ1 δ2 : DE} {ta tb te : TE} {B : Bx}
/-! ### plain_answers -/
theorem nks_ints : ∀ ns : List Int, nks (ns.map .int) = some (ns.map .num)
  | [] => rfl
  | n :: ns => by
    rw [List.map_cons]
    unfold nks
    rw [nks_ints ns]
    rfl
theorem nk_dI (ns : List Int) : D.nk (dI ns) = some (.tup (ns.map .num)) := by
  unfold dI D.nk
  rw [nks_ints]
  rfl
theorem map_num_inj : ∀ {a b : List Int}, a.map NestedKey.num = b.map NestedKey.num → a = b
  | [], [], _ => rfl
  | [], _ :: _, h => by cases h
  | _ :: _, [], h => by cases h
  | x :: a, y :: b, h => by
    rw [List.map_cons, List.map_cons] at h
    injection h with h1 h2
    injection h1 with h1
    rw [h1, map_num_inj h2]
theorem sameK_dI (a b : List Int) : sameK (dI a) (dI b) = decide (a = b) := by
  unfold sameK
  rw [nk_dI, nk_dI]
  show decide (NestedKey.tup (a.map .num) = NestedKey.tup (b.map .num)) = _
  by_cases h : a = b
  · rw [decide_eq_true h, h, decide_eq_true rfl]
  · rw [decide_eq_false h, decide_eq_false (fun e => h (map_num_inj (NestedKey.tup.inj e)))]
theorem depth_dI (ns : List Int) : (NestedKey.tup (ns.map .num)).depth ≤ 8 := by
  show NestedKey.depthAll (ns.map .num) + 1 ≤ 8
  rw [depth_nums]
  decide
def td (acc : List (List Int)) : List (D × D) := acc.map fun x => (dI x, .bl true)
theorem td_put (acc : List (List Int)) (x : List Int) : putT (td acc) (dI x) (.bl true) = td (put acc x) := by
  unfold putT put
  have e : (td acc).any (fun p => sameK p.1 (dI x)) = decide (x ∈ acc) := by
    unfold td
    rw [List.any_map, Bool.eq_iff_iff, List.any_eq_true, decide_eq_true_eq]
    constructor
    · rintro ⟨y, hy, h⟩
      have h : sameK (dI y) (dI x) = true := h
      rw [sameK_dI] at h
      rw [← of_decide_eq_true h]
      exact hy
    · intro h
      refine ⟨x, h, ?_⟩
      show sameK (dI x) (dI x) = true
      rw [sameK_dI, decide_eq_true rfl]
  rw [e]
  by_cases h : x ∈ acc
  · rw [decide_eq_true h, if_pos rfl, if_pos h]
    unfold td
    rw [List.map_map]
    refine List.map_congr_left fun y _ => ?_
    show (if sameK (dI y) (dI x) = true then (dI y, D.bl true) else (dI y, D.bl true)) = _
    split <;> rfl
  · rw [decide_eq_false h, if_neg Bool.false_ne_true, if_neg h]
    unfold td
    rw [List.map_append]
    rfl
theorem td_len (acc : List (List Int)) : (td acc).length = acc.length := by unfold td; rw [List.length_map]
theorem td_keys (acc : List (List Int)) : (td acc).map (·.1) = acc.map dI := by unfold td; rw [List.map_map]; rfl
theorem cutD_from (ds : List D) (a : Nat) : DL.cutD ds (some (a : Int)) none = ds.drop a := by
  unfold DL.cutD
  have e1 : HT.sIx ds.length 0 (some ((a : Nat) : Int)) = min a ds.length := HT.sIx_nat _ _ _
  have e2 : HT.sIx ds.length ds.length none = ds.length := rfl
  rw [e1, e2]
  by_cases h : a ≤ ds.length
  · rw [Nat.min_eq_left h, List.take_of_length_le (by rw [List.length_drop]; exact Nat.le_refl _)]
  · rw [Nat.min_eq_right (by omega), List.drop_eq_nil_of_le (by omega), List.drop_eq_nil_of_le (by omega), List.take_nil]
theorem leI_trans (a b c : List Int) (h1 : leI a b = true) (h2 : leI b c = true) : leI a c = true := by
  unfold leI at *
  simp only [Bool.not_eq_true'] at *
  cases h : ltI c a with
  | false => rfl
  | true =>
    cases h3 : ltI a b with
    | true =>
      have := totI.trans _ _ _ h h3
      rw [this] at h2
      cases h2
    | false =>
      have e := totI.tot _ _ h3 h1
      subst e
      rw [h] at h2
      cases h2
theorem leI_total (a b : List Int) : (leI a b || leI b a) = true := by
  unfold leI
  cases h : ltI b a with
  | false => rfl
  | true => rw [totI.asym _ _ h]; rfl
theorem answers_perm (p : Prog) : (answers p).Perm (told p) := List.mergeSort_perm _ _
theorem answers_le (p : Prog) : (answers p).Pairwise (fun x y => ltI y x = false) := (List.pairwise_mergeSort (le := leI) leI_trans leI_total (told p)).imp fun {a b} h => by
  unfold leI at h
  simpa using h
theorem nodup_same_len {l : List (List Int)} (hn : l.Nodup) {n : Nat} (hl : ∀ x ∈ l, x.length = n) (h2 : 2 ≤ l.length) : ∀ x ∈ l, x ≠ [] := fun x hx e => by
  subst e
  have h0 := hl [] hx
  match l, hn, hl, h2 with
  | a :: b :: r, hn, hl, _ =>
    have ha : a = [] := List.eq_nil_of_length_eq_zero (by rw [hl a List.mem_cons_self, ← h0]; rfl)
    have hb : b = [] := List.eq_nil_of_length_eq_zero (by rw [hl b (List.mem_cons_of_mem _ List.mem_cons_self), ← h0]; rfl)
    have := (List.nodup_cons.mp hn).1
    rw [ha, hb] at this
    exact this List.mem_cons_self
theorem told_len {p : Prog} {x : List Int} (h : x ∈ told p) : x.length = (counts p).sum.toNat := by
  rcases (mem_told _ _ _).mp h with z | ⟨s, hs, rfl⟩
  · cases z
  · have := stand_len ((standsAt_ok (total p)).1 s hs)
    rw [List.length_drop]
    omega
theorem len_plain_answers : ∀ ds r, R_plain_answers c ds r → ds.length = 1 := by rintro _ _ ⟨p, _, rfl, _⟩; rfl
theorem range_ints (n : Nat) : ((List.range ((n : Nat) : Int).toNat).map fun (k : Nat) => D.int (k : Int)) = (List.range n).map fun (k : Nat) => D.int (k : Int) := by rw [Int.toNat_natCast]
/-- one stand more -/
theorem run_turn (T : TX c.w c.K mg) {p : Prog} (hp : Ok p) {x0 : D} {x3 : D} {ls : D} {acc : List (List Int)} {s : List Int} (hs : Stand p s) (hz : acc.length ≤ 3000) :
    Run c B (tFor (iRng1 (tCons (tFld c.K (tVar 1) "many") tNil)) (gName 6) (tIfS (tB (tMeth (He.ga c.K "PlainPlan") "can_go_on" (SpD c (R_PlainPlan_can_go_on c)) [] E0 (tVar 1) (tCons (tVar 5) (tCons (tVar 6) tNil)))) (tAsg (tC (.bl true)) (gSub (tVar 4) (tMeth (He.ga c.K "PlainPlan") "behind" (SpD c (R_PlainPlan_behind c)) [] E0 (tVar 1) (tCons (tVar 5) (tCons (tVar 6) tNil))) (rSetT c))) tNext))
      [.d x0, .d (dPlan c.K p), .d ls, .d x3, .odt (td acc), .d (dI s), .un, .un] (.nx [.d x0, .d (dPlan c.K p), .d ls, .d x3, .odt (td (stepOne p acc s)), .d (dI s), .un, .un]) := by
  have h3 := hp.len
  refine run_to (run_foldI (xs := List.range p.length) (fun (k : Nat) => D.int (k : Int)) (fun acc => [.d x0, .d (dPlan c.K p), .d ls, .d x3, .odt (td acc), .d (dI s), .un, .un]) (fun acc i => if canGo p s i then put acc (behind p s i) else acc) (fun k b => b.length ≤ acc.length + k) acc
    (DLevi_is (evi_range1 (eva_cons (ev_pl T (ev_var rfl) (na_PlainPlan_many T) pl_many) eva_nil) (by omega) (by omega)) (range_ints _)) (Nat.le_refl _) fun k b i hb hk => ?_) rfl
  have hi : i < p.length := List.mem_range.mp (List.mem_of_getElem? hk)
  have hk' : k < p.length := by have := (List.getElem?_eq_some_iff.mp hk).1; rwa [List.length_range] at this
  refine ⟨?_, _, tgt_name, ?_⟩
  · split
    · have := put_len b (behind p s i); omega
    · omega
  · refine run_if (evt_B (ev_meth (ev_var rfl) rfl (eva_cons (ev_var rfl) (eva_cons (ev_var rfl) eva_nil)) ⟨p, s, i, hp, hs, hi, rfl, rfl⟩)) (fun h => ?_) (fun h => ?_)
    · refine run_end [6] (run_setT ev_bl rfl (ev_meth (ev_var rfl) rfl (eva_cons (ev_var rfl) (eva_cons (ev_var rfl) eva_nil)) ⟨p, s, i, hp, hs, hi, h, rfl, rfl⟩) rfl (nk_dI _) ⟨_, rfl⟩ (depth_dI _) (by rw [td_len]; omega)) ?_
      rw [td_put, if_pos h]
      rfl
    · refine run_end [6] run_next ?_
      rw [if_neg (by rw [h]; exact Bool.false_ne_true)]
      rfl
theorem run_round (hM : B.M = []) (T : TX c.w c.K mg) {p : Prog} (hp : Ok p) {x0 x3 : D} {n : Nat} (hn : n ≤ 6) :
    Run c B (tSeq (tAsg (tDNewN c) (gName 4)) (tSeq (tFor (iList c.K (tVar 2)) (gName 5) (tFor (iRng1 (tCons (tFld c.K (tVar 1) "many") tNil)) (gName 6) (tIfS (tB (tMeth (He.ga c.K "PlainPlan") "can_go_on" (SpD c (R_PlainPlan_can_go_on c)) [] E0 (tVar 1) (tCons (tVar 5) (tCons (tVar 6) tNil)))) (tAsg (tC (.bl true)) (gSub (tVar 4) (tMeth (He.ga c.K "PlainPlan") "behind" (SpD c (R_PlainPlan_behind c)) [] E0 (tVar 1) (tCons (tVar 5) (tCons (tVar 6) tNil))) (rSetT c))) tNext))) (tAsg (tCB (rListT c) (tCons (tVar 4) tNil)) (gName 2))))
      [.d x0, .d (dPlan c.K p), .ol ((standsAt p n).map dI), .d x3, .un, .un, .un, .un] (.nx [.d x0, .d (dPlan c.K p), .ol ((standsAt p (n + 1)).map dI), .un, .un, .un, .un, .un]) := by
  have h3 := hp.len
  have hl := stands_le hp hn
  refine run_end [3, 4, 5] (run_seq (run_asgN evn_dnewT) (run_freeze 2 hM rfl (run_seq (run_foldI (xs := standsAt p n) dI (fun acc => [.d x0, .d (dPlan c.K p), .d (.lst ((standsAt p n).map dI)), .d x3, .odt (td acc), .un, .un, .un]) (stepOne p) (fun k b => b.length ≤ 3 * k) [] (evi_list (ev_var rfl)) (Nat.zero_le _) fun k b s hb hk => ?_) (run_asgN (evn_listOT rfl))))) ?_
  · have hk' : k < (standsAt p n).length := (List.getElem?_eq_some_iff.mp hk).1
    have hs := (standsAt_ok n).1 s (List.mem_of_getElem? hk)
    refine ⟨?_, _, tgt_name, run_end [5] (run_turn T hp hs (by omega)) rfl⟩
    have := len_range_fold (p := p) (s := s) (List.range p.length) b
    rw [List.length_range] at this
    show (stepOne p b s).length ≤ _
    unfold stepOne
    omega
  · rw [td_keys]
    rfl
def df (n : Nat) : D → Option (D × D)
  | .tup xs => some (.tup (xs.drop n), .bl true)
  | _ => none
theorem run_plain_answers (c : Cn) {mg : Str → Option Value} (T : TX c.w c.K mg) : ∀ ds r, R_plain_answers c ds r → RunsTo c (t_plain_answers c) 8 ds (.d r) := by
  rintro _ _ ⟨p, hp, rfl, rfl⟩
  have h3 := hp.len
  have h6 := hp.tot
  have hL := linesOf_len hp
  have hR : 0 ≤ (counts p).sum ∧ (counts p).sum ≤ 1000 := by
    refine ⟨sum_nonneg fun x hx => ?_, ?_⟩
    · obtain ⟨r, _, rfl⟩ := List.mem_map.mp hx
      exact rcount_nonneg r
    · have : ∀ q : Prog, (counts q).sum ≤ ((total q : Nat) : Int) := fun q => by
        induction q with
        | nil => simp [counts, total]
        | cons r q ih =>
          have e : total (r :: q) = r.length + total q := List.sum_cons
          have h1 : rcount r ≤ (r.length : Int) := by
            unfold rcount
            have := List.countP_le_length (p := Deed.isR) (l := r)
            omega
          unfold counts at *
          rw [List.map_cons, List.sum_cons, e]
          push_cast
          omega
      have := this p
      omega
  refine runs_rt (δ := [.d (dProg p), .un, .un, .un, .un, .un, .un, .un]) rfl fun B hM => rr_seq (run_asg (ev_insN (evn_make (eva_cons (ev_var rfl) eva_nil) ⟨p, hp, rfl, rfl, rfl, rfl⟩))) (rr_seq (run_to (δ2 := [.d (dProg p), .d (dPlan c.K p), .ol ((standsAt p 0).map dI), .un, .un, .un, .un, .un]) (run_asgN (evn_lst (eva_cons (ev_catT (ev_meth (ev_var rfl) rfl eva_nil ⟨p, hp, rfl, rfl⟩) (ev_mulT (ev_tup (eva_cons (ev_neg ev_int) eva_nil) (by simp)) (ev_pl T (ev_var rfl) (na_PlainPlan_reads T) pl_reads) (by simp) (by simp) hR.1 hR.2) ?_) eva_nil) (by simp))) ?_)
    (rr_seq (run_foldI (xs := List.range (total p)) (fun (k : Nat) => D.int (k : Int)) (fun ss => [.d (dProg p), .d (dPlan c.K p), .ol (ss.map dI), .un, .un, .un, .un, .un]) (fun ss _ => stepAll p ss) (fun k ss => ss = standsAt p k) (standsAt p 0) (DLevi_is (evi_range1 (eva_cons (ev_pl T (ev_var rfl) (na_PlainPlan_length T) pl_length) eva_nil) (by omega) (by omega)) (range_ints _)) rfl fun k ss i hk hi => ?_) ?_))
  · rw [List.length_map, List.length_replicate, rep_single, List.length_replicate]
    omega
  · rw [rep_single]
    show _ = [Sl.d (dProg p), Sl.d (dPlan c.K p), .ol [dI (start p)], .un, .un, .un, .un, .un]
    unfold dI start
    rw [List.map_append, List.map_replicate, List.map_replicate]
    rfl
  · subst hk
    have hk' : k < total p := by have := (List.getElem?_eq_some_iff.mp hi).1; rwa [List.length_range] at this
    exact ⟨rfl, _, tgt_name, run_round hM T hp (by omega)⟩
  · have e : (List.range (total p)).foldl (fun ss _ => stepAll p ss) (standsAt p 0) = standsAt p (total p) := by
      have := foldl_P (fun ss (_ : Nat) => stepAll p ss) (List.range (total p)) (fun k ss => ss = standsAt p k) (standsAt p 0) rfl fun k b a hb _ => by rw [hb]; rfl
      rw [List.length_range] at this
      exact this
    rw [e]
    have hz := stands_le hp h6
    obtain ⟨o1, o2, _⟩ := standsAt_ok (p := p) (total p)
    refine rr_seq (δ1 := [.d (dProg p), .d (dPlan c.K p), .d (.lst ((standsAt p (total p)).map dI)), .un, .un, .un, .un, .odt (td (told p))]) (run_freeze 2 hM rfl (run_to (run_asgN (evn_dcT (df (p.length + (linesOf p).length)) (evi_list (ev_var rfl)) (by rw [List.length_map]; omega) (by decide) (own_of rfl) fun d hd => ?_)) ?_)) (rr_ret (ev_lstN (evn_sortOT (S := sdI c) (as := told p) rfl (td_keys _) (fun h2 => ?_) (answers_perm p) (answers_le p))))
    · obtain ⟨x, hx, rfl⟩ := List.mem_map.mp hd
      have hn : ((p.length : Nat) : Int) + (((linesOf p).length : Nat) : Int) = ((p.length + (linesOf p).length : Nat) : Int) := by omega
      refine ⟨[.d (dProg p), .d (dPlan c.K p), .d (.lst ((standsAt p (total p)).map dI)), .un, .un, .d (dI x), .un, .un], ?_, fun j hj => ?_, .inr ⟨dI (x.drop (p.length + (linesOf p).length)), .bl true, ?_, evt_yes, ?_, ev_bl, _, nk_dI _, depth_dI _, _, rfl⟩⟩
      · exact tgtw_name (δ := wipeD [.d (dProg p), .d (dPlan c.K p), .d (.lst ((standsAt p (total p)).map dI)), .un, .un, .un, .un, .un] [5]) (d := dI x) (by decide) (by rw [wipeD_len]; simp) (by decide)
      · match j, hj with
        | 0, _ => rfl
        | 1, _ => rfl
        | 2, _ => rfl
        | 3, _ => rfl
        | 4, _ => rfl
        | 5, hj => exact absurd (by decide) hj
        | j + 6, _ => rfl
      · show some (D.tup ((x.map D.int).drop _), D.bl true) = _
        rw [← List.map_drop]
        rfl
      · refine ev_is (ev_slT (ev_var rfl) (evo_some (ev_add (ev_pl T (ev_var rfl) (na_PlainPlan_many T) pl_many) (ev_pl T (ev_var rfl) (na_PlainPlan_lines T) pl_lines))) evo_no) ?_
        rw [hn, cutD_from, ← List.map_drop]
        rfl
    · have e2 : ∀ (l acc : List (List Int)) (n : Nat), ((l.map dI).filterMap (df n)).foldl (fun acc p => putT acc p.1 p.2) (td acc) = td (l.foldl (fun acc s => put acc (s.drop n)) acc) := fun l => by
        induction l with
        | nil => intro acc n; rfl
        | cons x l ih =>
          intro acc n
          have e3 : df n (dI x) = some (dI (x.drop n), .bl true) := by
            show some (D.tup ((x.map D.int).drop n), D.bl true) = _
            rw [← List.map_drop]
            rfl
          rw [List.map_cons, List.filterMap_cons, e3, List.foldl_cons, List.foldl_cons]
          show (_ : List (D × D)) = _
          rw [← ih, td_put]
      have e4 := e2 (standsAt p (total p)) [] (p.length + (linesOf p).length)
      show [Sl.d (dProg p), Sl.d (dPlan c.K p), .d (.lst ((standsAt p (total p)).map dI)), .un, .un, .un, .un, .odt ((((standsAt p (total p)).map dI).filterMap (df (p.length + (linesOf p).length))).foldl (fun acc p => putT acc p.1 p.2) (td []))] = _
      rw [e4]
      rfl
    · exact nodup_same_len (nodup_told _ _ _ List.nodup_nil) (fun x hx => told_len hx) h2
theorem len_plain_outcomes : ∀ ds r, R_plain_outcomes c ds r → ds.length = 1 := by rintro _ _ ⟨p, _, rfl, _⟩; rfl
theorem counts_nonneg {p : Prog} : ∀ x ∈ counts p, 0 ≤ x := fun x hx => by
  obtain ⟨r, _, rfl⟩ := List.mem_map.mp hx
  exact rcount_nonneg r
theorem counts_le (p : Prog) : (counts p).sum ≤ ((total p : Nat) : Int) := by
  induction p with
  | nil => simp [counts, total]
  | cons r q ih =>
    have e : total (r :: q) = r.length + total q := List.sum_cons
    have h1 : rcount r ≤ (r.length : Int) := by
      unfold rcount
      have := List.countP_le_length (p := Deed.isR) (l := r)
      omega
    unfold counts at *
    rw [List.map_cons, List.sum_cons, e]
    push_cast
    omega
theorem answers_len {p : Prog} (hp : Ok p) : (answers p).length ≤ 729 := by
  rw [(answers_perm p).length_eq]
  have h : ∀ (l acc : List (List Int)) (n : Nat), (l.foldl (fun acc s => put acc (s.drop n)) acc).length ≤ acc.length + l.length := fun l => by
    induction l with
    | nil => intro acc n; exact Nat.le_refl _
    | cons x l ih =>
      intro acc n
      have := ih (put acc (x.drop n)) n
      have := put_len acc (x.drop n)
      rw [List.foldl_cons, List.length_cons]
      omega
  have h1 := h (standsAt p (total p)) [] (p.length + (linesOf p).length)
  have h2 := stands_le hp hp.tot
  simp at h1
  unfold told
  omega
theorem run_plain_outcomes (c : Cn) {mg : Str → Option Value} (T : TX c.w c.K mg) : ∀ ds r, R_plain_outcomes c ds r → RunsTo c (t_plain_outcomes c) 3 ds (.d r) := by
  rintro _ _ ⟨p, hp, rfl, rfl⟩
  have h3 := hp.len
  have hz := answers_len hp
  refine runs_rt (δ := [.d (dProg p), .un, .un]) rfl fun B hM => rr_seq (run_drop (ev_call (eva_cons (ev_var rfl) eva_nil) ⟨p, hp, rfl, rfl⟩)) (rr_seq (run_asg (ev_call (eva_cons (ev_var rfl) eva_nil) ⟨p, hp, rfl, rfl⟩)) (rr_ret (ev_is (ev_tupN (evn_map1 (xs := answers p) dI (fun a => dR (split (counts p) a)) (evi_list (ev_call (eva_cons (ev_var rfl) eva_nil) ⟨p, hp, rfl, rfl⟩)) (by omega) fun a ha => ?_)) (by rw [List.map_map]; rfl))))
  have hl := told_len ((answers_perm p).mem_iff.mp ha)
  have := counts_le p
  have := hp.tot
  exact ev_call (eva_cons (ev_var rfl) (eva_cons (ev_var rfl) eva_nil)) ⟨counts p, a, by unfold counts; rw [List.length_map]; omega, by omega, counts_nonneg, rfl, rfl⟩
end
end KM
set_option Elab.async false
set_option linter.all false
set_option maxRecDepth 100000
set_option maxHeartbeats 1000000
namespace KM
open PySem PySem.Spec PyProof.Rows L2 DL
section
variable {c : Cn} {mg : Str → Option Value} {δ δ1 δ2 : DE} {ta tb te : TE} {B : Bx} {t u w : TS} {tt : TT} {d : D} {s : Sl}
/-- it returns d, the first slot holds s then -/
def RM (c : Cn) (B : Bx) (t : TS) (δ : DE) (s : Sl) (d : D) : Prop := ∃ δ', δ'[0]? = some s ∧ DL.Run c B t δ (.rt (.d d) δ')
theorem rm_seq (h : DL.Run c B t δ (.nx δ1)) (k : RM c B u δ1 s d) : RM c B (tSeq t u) δ s d := let ⟨δ', e, k⟩ := k; ⟨δ', e, run_seq h k⟩
theorem rm_seqR (h : RM c B t δ s d) : RM c B (tSeq t u) δ s d := let ⟨δ', e, k⟩ := h; ⟨δ', e, run_seq_rt k⟩
theorem rm_ret (h : Ev c te δ d δ1) (e : δ1[0]? = some s) : RM c B (tRet te) δ s d := ⟨_, e, run_ret h⟩
theorem rm_seq_if {b : Bool} (h : EvT c tt δ b δ1) (h1 : b = true → RM c B (tSeq t w) δ1 s d) (h2 : b = false → RM c B (tSeq u w) δ1 s d) : RM c B (tSeq (tIfS tt t u) w) δ s d := by
  cases b with
  | true => obtain ⟨δ', e, k⟩ := h1 rfl; exact ⟨δ', e, run_seq_if h (fun _ => k) fun z => by cases z⟩
  | false => obtain ⟨δ', e, k⟩ := h2 rfl; exact ⟨δ', e, run_seq_if h (fun z => by cases z) fun _ => k⟩
/-- pile[j] -/
theorem ev_pile {i : Nat} {ds : List D} {n : Int} {d : D} (h : δ[i]? = some (.ol ds)) (ha : atI ds n = some d) : Ev c (tOp (rIxL c.K) (tVar i) (tC (.int n))) δ d δ := ev_ixOL h ev_int h ha
theorem len__law_draw : ∀ s ds s' r, R__law_draw c s ds s' r → ds.length + 1 = 2 := by rintro _ _ _ _ ⟨a, m, _, _, _, _, _, _, rfl, _⟩; rfl
theorem run__law_draw (c : Cn) {mg : Str → Option Value} (T : TX c.w c.K mg) : ∀ s ds s' r, R__law_draw c s ds s' r → RunsM c (t__law_draw c) 7 s ds s' r := by
  rintro _ _ _ _ ⟨a, many, hm0, hm1, hk0, hk1, hns, rfl, rfl, rfl, rfl⟩
  intro B hJ
  refine .inl ?_
  show RM c B (t__law_draw c) [a.sl, .d (.int many), .un, .un, .un, .un, .un] (draw a many).2.sl (.int (draw a many).1)
  have hlen : (a.ns.map D.int).length ≤ 100000 := by rw [List.length_map]; omega
  -- the cell
  refine rm_seq (δ1 := [a.sl, .d (.int many), .d (.lst (a.ns.map .int)), .un, .un, .un, .un]) (run_asg (ev_pile rfl rfl)) (rm_seq (δ1 := [a.sl, .d (.int many), .d (.lst (a.ns.map .int)), .d (.int (a.k / 8)), .un, .un, .un]) (run_asg (ev_fdiv (ev_pile rfl rfl) ev_int ⟨by decide, by decide⟩)) (rm_seq (run_asg ev_int) (rm_seq (δ1 := [a.sl, .d (.int many), .d (.lst (a.ns.map .int)), .d (.int (a.k / 8)), .d (.int (cellOf a)), .un, .un]) ?_ ?_)))
  · refine run_if (evt_T (ev_gt (ev_len1 (ev_var (d := .lst (a.ns.map .int)) rfl) rfl hlen) ev_int)) (fun h => ?_) (fun h => ?_)
    · have h := of_decide_eq_true h
      rw [List.length_map] at h
      have h0 : 0 ≤ (a.k / 8) % ((a.ns.length : Nat) : Int) := Int.emod_nonneg _ (by omega)
      have h1 : (a.k / 8) % ((a.ns.length : Nat) : Int) < ((a.ns.length : Nat) : Int) := Int.emod_lt_of_pos _ (by omega)
      refine run_to (run_asg (ev_int1 (eva_cons (ev_ixL (ev_var rfl) (ev_mod (ev_var rfl) (ev_len1 (ev_var (d := .lst (a.ns.map .int)) rfl) rfl hlen) (by rw [List.length_map]; omega)) (atI_mapZ (f := D.int) (d := 0) (by rw [List.length_map]; exact h0) (by rw [List.length_map]; omega))) eva_nil))) ?_
      unfold cellOf
      rw [if_neg (by omega), List.length_map]
      rfl
    · have h := of_decide_eq_false h
      rw [List.length_map] at h
      refine run_to run_next ?_
      unfold cellOf
      rw [if_pos (by omega)]
      rfl
  -- what is kept
  refine rm_seq (δ1 := [.ol [.lst (a.ns.map .int), .int a.k, .int (keptOf a)], .d (.int many), .d (.lst (a.ns.map .int)), .d (.int (a.k / 8)), .d (.int (cellOf a)), .un, .un]) ?_ (rm_seq (δ1 := [.ol [.lst (a.ns.map .int), .int (a.k + 1), .int (keptOf a)], .d (.int many), .d (.lst (a.ns.map .int)), .d (.int (a.k / 8)), .d (.int (cellOf a)), .un, .un]) (run_to (run_setL (n := 1) (k := 1) (ev_add (ev_pile rfl rfl) ev_int) rfl ev_int rfl) rfl) ?_)
  · refine run_if (evt_T (ev_eqI (ev_mod (ev_pile rfl rfl) ev_int (by decide)) ev_int)) (fun h => ?_) (fun h => ?_)
    · refine run_to (run_setL (n := 2) (k := 2) (ev_var rfl) rfl ev_int rfl) ?_
      unfold keptOf
      rw [if_pos (of_decide_eq_true h)]
      rfl
    · refine run_to run_next ?_
      unfold keptOf
      rw [if_neg (of_decide_eq_false h)]
      rfl
  refine rm_seq_if (evt_and (evt_T (ev_ge (ev_var rfl) (ev_pow ev_int ev_int ⟨by decide, by decide, by decide⟩))) fun _ => evt_T (ev_lt (ev_var rfl) (ev_len1 (ev_var (d := .lst (a.ns.map .int)) rfl) rfl hlen))) (fun h => ?_) (fun h => ?_)
  · obtain ⟨h1, h2⟩ := Bool.and_eq_true_iff.mp h
    have h1 : (10 : Int) ^ 18 ≤ cellOf a := of_decide_eq_true h1
    have h2 := of_decide_eq_true h2
    rw [List.length_map] at h2
    have e : draw a many = (keptOf a % many, ⟨a.ns, a.k + 1, keptOf a / many⟩) := by
      unfold draw
      exact if_pos ⟨h1, h2⟩
    rw [e]
    refine rm_seqR (rm_seq (run_asg (ev_mod (ev_int1 (eva_cons (ev_pile rfl rfl) eva_nil)) (ev_var rfl) hm0)) (rm_seq (run_setL (n := 2) (k := 2) (ev_fdiv (ev_int1 (eva_cons (ev_pile rfl rfl) eva_nil)) (ev_var rfl) ⟨hm0, by omega⟩) rfl ev_int rfl) (rm_ret (ev_var rfl) rfl)))
  · have hn : ¬ ((10 : Int) ^ 18 ≤ cellOf a ∧ a.k / 8 < a.ns.length) := by
      rintro ⟨h1, h2⟩
      rw [List.length_map] at h
      rw [decide_eq_true h2, Bool.and_true] at h
      exact of_decide_eq_false h h1
    have e : draw a many = ((((cellOf a % 1000193 * 16807 + (a.k + 1) * 69621 + 5) % 2147483647) * 39373 + (a.k + 1) * (a.k + 1) * 31) % 2147483647 % many, ⟨a.ns, a.k + 1, keptOf a⟩) := by
      unfold draw
      exact if_neg hn
    rw [e]
    refine rm_seq (run_next) (rm_seq (run_asg (ev_mod (ev_add (ev_add (ev_mul (ev_mod (ev_int1 (eva_cons (ev_var rfl) eva_nil)) ev_int (by decide)) ev_int (.inr ⟨by decide, by decide⟩)) (ev_mul (ev_pile rfl rfl) ev_int (.inr ⟨by decide, by decide⟩))) ev_int) ev_int (by decide))) (rm_ret (ev_mod (ev_mod (ev_add (ev_mul (ev_var rfl) ev_int (.inr ⟨by decide, by decide⟩)) (ev_mul (ev_mul (ev_pile rfl rfl) (ev_pile rfl rfl) (.inr ⟨by omega, by omega⟩)) ev_int (.inr ⟨by decide, by decide⟩))) ev_int (by decide)) (ev_var rfl) hm0) rfl))
end
end KM
set_option Elab.async false
set_option linter.all false
set_option maxRecDepth 100000
set_option maxHeartbeats 1000000
namespace KM
open PySem PySem.Spec PyProof.Rows L2 DL
section
variable {c : Cn} {mg : Str → Option Value} {δ δ1 δ2 : DE} {ta tb te : TE} {B : Bx} {t u w : TS} {tt : TT} {d : D} {s s2 : Sl}
theorem rm_freeze (i : Nat) (hM : B.M = [] ∨ ∀ a, ¬ B.J i a) (h : δ[i]? = some s2) (k : RM c B t (δ.set i (.d s2.frz)) s d) (hs : s2.own = true := by rfl) : RM c B t δ s d := let ⟨δ', e, k⟩ := k; ⟨δ', e, run_freezeJ i hM h k hs⟩
theorem rm_is {e : D} (h : RM c B t δ s d) (q : d = e) : RM c B t δ s e := q ▸ h
/-! ### the draws -/
theorem draw_lt {a : Pile} {m : Int} (h : 0 < m) : 0 ≤ (draw a m).1 ∧ (draw a m).1 < m := by
  unfold draw
  simp only
  split
  · exact ⟨Int.emod_nonneg _ (by omega), Int.emod_lt_of_pos _ h⟩
  · exact ⟨Int.emod_nonneg _ (by omega), Int.emod_lt_of_pos _ h⟩
theorem draw_k {a : Pile} {m : Int} : (draw a m).2.k = a.k + 1 := by
  unfold draw
  simp only
  split <;> rfl
theorem draw_ns {a : Pile} {m : Int} : (draw a m).2.ns = a.ns := by
  unfold draw
  simp only
  split <;> rfl
theorem ev_draw {ts : TA} {a : Pile} {m : Int} (h : δ[0]? = some a.sl) (ha : EvA c ts δ [.int m] δ) (h0 : 0 < m) (h1 : m < 1000) (hk : 0 ≤ a.k) (hk1 : a.k ≤ 1000) (hn : a.ns.length ≤ 1000) :
    Ev c (tCall (SpM c (R__law_draw c)) [] E0 (tCons (tVar 0) ts)) δ (.int (draw a m).1) (δ.set 0 (draw a m).2.sl) := ev_callM h rfl ha ⟨a, m, h0, h1, hk, hk1, hn, rfl, rfl, rfl, rfl⟩
/-! ### a program is drawn -/
def fstep (fence : Bool) (b : Prog × Pile) : Prog × Pile :=
  let x := drawDeed fence b.2
  let y := draw x.2 b.1.length
  (b.1.set y.1.toNat (b.1.getD y.1.toNat [] ++ [x.1]), y.2)
theorem fill_fold (fence : Bool) : ∀ (l : List Nat) (b : Prog × Pile), l.foldl (fun b _ => fstep fence b) b = fill fence l.length b.1 b.2
  | [], b => rfl
  | x :: l, b => by
    rw [List.foldl_cons, fill_fold fence l]
    rfl
theorem drawDeed_k (f : Bool) (a : Pile) : (drawDeed f a).2.k = a.k + 2 := by
  show (draw (draw a _).2 2).2.k = _
  rw [draw_k, draw_k]
  omega
theorem drawDeed_ns (f : Bool) (a : Pile) : (drawDeed f a).2.ns = a.ns := by
  show (draw (draw a _).2 2).2.ns = _
  rw [draw_ns, draw_ns]
theorem fstep_k (f : Bool) (b : Prog × Pile) : (fstep f b).2.k = b.2.k + 3 := by
  show (draw (drawDeed f b.2).2 _).2.k = _
  rw [draw_k, drawDeed_k]
  omega
theorem fstep_ns (f : Bool) (b : Prog × Pile) : (fstep f b).2.ns = b.2.ns := by
  show (draw (drawDeed f b.2).2 _).2.ns = _
  rw [draw_ns, drawDeed_ns]
theorem fstep_len (f : Bool) (b : Prog × Pile) : (fstep f b).1.length = b.1.length := by
  show (b.1.set _ _).length = _
  rw [List.length_set]
theorem fstep_rows (f : Bool) {b : Prog × Pile} {n : Nat} (h : ∀ r ∈ b.1, r.length ≤ n) : ∀ r ∈ (fstep f b).1, r.length ≤ n + 1 := fun r hr => by
  have hr : r ∈ b.1.set _ _ := hr
  rcases List.mem_or_eq_of_mem_set hr with z | z
  · have := h r z; omega
  · rw [z, List.length_append]
    have : (b.1.getD (draw (drawDeed f b.2).2 b.1.length).1.toNat []).length ≤ n := by
      rw [List.getD_eq_getElem?_getD]
      cases e : b.1[(draw (drawDeed f b.2).2 b.1.length).1.toNat]? with
      | none => exact Nat.zero_le _
      | some q => exact h q (List.mem_of_getElem? e)
    exact Nat.succ_le_succ this
def words (f : Bool) : List D := if f then [.str "read", .str "write", .str "fence"] else [.str "read", .str "write", .str "read", .str "write", .str "read", .str "write"]
def wsz (f : Bool) : Int := if f then 3 else 6
theorem words_len (f : Bool) : (((words f).length : Nat) : Int) = wsz f := by cases f <;> rfl
/-- the word that is drawn: of which deed -/
def wordOf (f : Bool) (n : Int) : Str := if f then (if n = 0 then "read" else if n = 1 then "write" else "fence") else (if n % 2 = 0 then "read" else "write")
theorem words_at (f : Bool) {n : Int} (h0 : 0 ≤ n) (h1 : n < wsz f) : atI (words f) n = some (.str (wordOf f n)) := by
  cases f with
  | true =>
    have h1 : n < 3 := h1
    obtain rfl | rfl | rfl : n = 0 ∨ n = 1 ∨ n = 2 := by omega
    · rfl
    · rfl
    · rfl
  | false =>
    have h1 : n < 6 := h1
    obtain rfl | rfl | rfl | rfl | rfl | rfl : n = 0 ∨ n = 1 ∨ n = 2 ∨ n = 3 ∨ n = 4 ∨ n = 5 := by omega
    all_goals rfl
theorem deed_of (f : Bool) (a : Pile) : (drawDeed f a).1 = (if wordOf f (draw a (wsz f)).1 = "read" then .rd (draw (draw a (wsz f)).2 2).1 else if wordOf f (draw a (wsz f)).1 = "write" then .wr (draw (draw a (wsz f)).2 2).1 else .fe) := by
  have n1 : ¬ (("write" : Str) = "read") := by decide +kernel
  have n2 : ¬ (("fence" : Str) = "read") := by decide +kernel
  have n3 : ¬ (("fence" : Str) = "write") := by decide +kernel
  cases f with
  | true =>
    show (if (draw a 3).1 = 0 then Deed.rd (draw (draw a 3).2 2).1 else if (draw a 3).1 = 1 then .wr (draw (draw a 3).2 2).1 else .fe) = (if (if (draw a 3).1 = 0 then ("read" : Str) else if (draw a 3).1 = 1 then "write" else "fence") = "read" then _ else if (if (draw a 3).1 = 0 then ("read" : Str) else if (draw a 3).1 = 1 then "write" else "fence") = "write" then _ else _)
    by_cases h : (draw a 3).1 = 0
    · simp only [if_pos h, if_true]; rfl
    · by_cases h2 : (draw a 3).1 = 1
      · simp only [if_neg h, if_pos h2, if_neg n1, if_true]; rfl
      · simp only [if_neg h, if_neg h2, if_neg n2, if_neg n3]
  | false =>
    show (if (draw a 6).1 % 2 = 0 then Deed.rd (draw (draw a 6).2 2).1 else .wr (draw (draw a 6).2 2).1) = (if (if (draw a 6).1 % 2 = 0 then ("read" : Str) else "write") = "read" then _ else if (if (draw a 6).1 % 2 = 0 then ("read" : Str) else "write") = "write" then _ else _)
    by_cases h : (draw a 6).1 % 2 = 0
    · simp only [if_pos h, if_true]; rfl
    · simp only [if_neg h, if_neg n1, if_true]; rfl
theorem wordOf_is (f : Bool) (n : Int) : wordOf f n = "read" ∨ wordOf f n = "write" ∨ wordOf f n = "fence" := by
  unfold wordOf
  cases f with
  | true =>
    simp only [if_true]
    split
    · exact .inl rfl
    · split
      · exact .inr (.inl rfl)
      · exact .inr (.inr rfl)
  | false =>
    simp only [Bool.false_eq_true, if_false]
    split
    · exact .inl rfl
    · exact .inr (.inl rfl)
/-- a turn of the loop that fills the rows -/
theorem run_fill {f : Bool} {many size : Int} {b : Prog × Pile} {x5 : D} (hl : ((b.1.length : Nat) : Int) = many) (h0 : 0 < many) (h1 : many < 1000) (hk : 0 ≤ b.2.k) (hk1 : b.2.k ≤ 990) (hn : b.2.ns.length ≤ 1000) (hr : ∀ r ∈ b.1, r.length ≤ 1000) :
    DL.Run c B (tSeq (tAsg (tOp (rIxL c.K) (tVar 3) (tCall (SpM c (R__law_draw c)) [] E0 (tCons (tVar 0) (tCons (tCB (rLenV c.K) (tCons (tVar 3) tNil)) tNil)))) (gName 6)) (tSeq (tAsg (tTup (tCons (tVar 6) (tCons (tCall (SpM c (R__law_draw c)) [] E0 (tCons (tVar 0) (tCons (tC (.int 2)) tNil))) tNil))) (gName 7)) (tSeq (tIfS (tTest (tOp rEq (tVar 6) (tC (.str "fence")))) (tAsg (tTup (tCons (tC (.str "fence")) tNil)) (gName 7)) tNext) (tDrop (tBM c.K "list" rAppend (tOp (rIxL c.K) (tVar 4) (tCall (SpM c (R__law_draw c)) [] E0 (tCons (tVar 0) (tCons (tVar 1) tNil)))) (tCons (tVar 7) tNil))))))
      [b.2.sl, .d (.int many), .d (.int size), .ol (words f), .oll (b.1.map fun r => r.map dDeed), .d x5, .un, .un, .un] (.nx [(fstep f b).2.sl, .d (.int many), .d (.int size), .ol (words f), .oll ((fstep f b).1.map fun r => r.map dDeed), .un, .un, .un, .un]) := by
  have wpos : 0 < wsz f := by cases f <;> decide
  have wlt : wsz f < 1000 := by cases f <;> decide
  obtain ⟨d0, d1⟩ := draw_lt (a := b.2) wpos
  have k1 : (draw b.2 (wsz f)).2.k = b.2.k + 1 := draw_k
  have n1 : (draw b.2 (wsz f)).2.ns = b.2.ns := draw_ns
  have k2 : (draw (draw b.2 (wsz f)).2 2).2.k = b.2.k + 2 := by rw [draw_k, k1]; omega
  have n2 : (draw (draw b.2 (wsz f)).2 2).2.ns = b.2.ns := by rw [draw_ns, n1]
  have x2 : (drawDeed f b.2).2 = (draw (draw b.2 (wsz f)).2 2).2 := by cases f <;> rfl
  obtain ⟨i0, i1⟩ := draw_lt (a := (drawDeed f b.2).2) h0
  have hw := wordOf_is f (draw b.2 (wsz f)).1
  have hd := deed_of f b.2
  generalize hwd : wordOf f (draw b.2 (wsz f)).1 = wd at hw hd
  have e1 : DL.Run c B (tAsg (tOp (rIxL c.K) (tVar 3) (tCall (SpM c (R__law_draw c)) [] E0 (tCons (tVar 0) (tCons (tCB (rLenV c.K) (tCons (tVar 3) tNil)) tNil)))) (gName 6)) [b.2.sl, .d (.int many), .d (.int size), .ol (words f), .oll (b.1.map fun r => r.map dDeed), .d x5, .un, .un, .un]
      (.nx [(draw b.2 (wsz f)).2.sl, .d (.int many), .d (.int size), .ol (words f), .oll (b.1.map fun r => r.map dDeed), .d x5, .d (.str wd), .un, .un]) :=
    run_to (run_asg (ev_ixOL rfl (ev_draw rfl (eva_cons (ev_is (ev_lenO rfl) (by rw [words_len])) eva_nil) wpos wlt hk (by omega) hn) rfl (by rw [← hwd]; exact words_at f d0 d1))) rfl
  have e2 : DL.Run c B (tAsg (tTup (tCons (tVar 6) (tCons (tCall (SpM c (R__law_draw c)) [] E0 (tCons (tVar 0) (tCons (tC (.int 2)) tNil))) tNil))) (gName 7)) [(draw b.2 (wsz f)).2.sl, .d (.int many), .d (.int size), .ol (words f), .oll (b.1.map fun r => r.map dDeed), .d x5, .d (.str wd), .un, .un]
      (.nx [(draw (draw b.2 (wsz f)).2 2).2.sl, .d (.int many), .d (.int size), .ol (words f), .oll (b.1.map fun r => r.map dDeed), .d x5, .d (.str wd), .d (.tup [.str wd, .int (draw (draw b.2 (wsz f)).2 2).1]), .un]) :=
    run_to (run_asg (ev_tup (eva_cons (ev_var rfl) (eva_cons (ev_draw rfl (eva_cons ev_int eva_nil) (by decide) (by decide) (by omega) (by omega) (by rw [n1]; exact hn)) eva_nil)) (by simp))) rfl
  have e3 : DL.Run c B (tIfS (tTest (tOp rEq (tVar 6) (tC (.str "fence")))) (tAsg (tTup (tCons (tC (.str "fence")) tNil)) (gName 7)) tNext) [(draw (draw b.2 (wsz f)).2 2).2.sl, .d (.int many), .d (.int size), .ol (words f), .oll (b.1.map fun r => r.map dDeed), .d x5, .d (.str wd), .d (.tup [.str wd, .int (draw (draw b.2 (wsz f)).2 2).1]), .un]
      (.nx [(drawDeed f b.2).2.sl, .d (.int many), .d (.int size), .ol (words f), .oll (b.1.map fun r => r.map dDeed), .d x5, .d (.str wd), .d (dDeed (drawDeed f b.2).1), .un]) := by
    rw [x2]
    refine run_if (evt_T (ev_eqS (ev_var rfl) ev_str)) (fun z => ?_) (fun z => ?_)
    · have z := of_decide_eq_true z
      refine run_to (run_asg (ev_tup (eva_cons ev_str eva_nil) (by simp))) ?_
      rw [hd, z, if_neg (by decide +kernel), if_neg (by decide +kernel)]
      rfl
    · have z := of_decide_eq_false z
      refine run_to run_next ?_
      rw [hd]
      rcases hw with rfl | rfl | rfl
      · rw [if_pos rfl]; rfl
      · rw [if_neg (by decide +kernel), if_pos rfl]; rfl
      · exact absurd rfl z
  have hk' : (draw (drawDeed f b.2).2 many).1.toNat < b.1.length := by omega
  have hx : (b.1.map fun r => r.map dDeed)[(draw (drawDeed f b.2).2 many).1.toNat]? = some ((b.1.getD (draw (drawDeed f b.2).2 many).1.toNat []).map dDeed) := by
    rw [List.getElem?_map, getD_some (d := []) hk']
    rfl
  refine run_end [5, 6, 7] (run_seq e1 (run_seq e2 (run_seq e3 (run_appLL ⟨_, rfl⟩ (ev_draw rfl (eva_cons (ev_var rfl) eva_nil) h0 h1 (by rw [drawDeed_k]; omega) (by rw [drawDeed_k]; omega) (by rw [drawDeed_ns]; exact hn)) rfl (ixN_Z i0 (by rw [List.length_map]; exact hk')) hx (at_var rfl) ?_)))) ?_
  · rw [List.length_map]
    exact Nat.le_trans (hr _ (by rw [List.getD_eq_getElem?_getD, List.getElem?_eq_getElem hk']; exact List.getElem_mem hk')) (by decide)
  · subst hl
    show [(draw (drawDeed f b.2).2 b.1.length).2.sl, Sl.d (.int _), .d (.int size), .ol (words f), .oll ((b.1.map fun r => r.map dDeed).set _ (_ ++ [dDeed (drawDeed f b.2).1])), .un, .un, .un, .un] = [_, _, _, _, .oll ((b.1.set _ (_ ++ [(drawDeed f b.2).1])).map fun r => r.map dDeed), _, _, _, _]
    rw [List.map_set, List.map_append]
    rfl
end
end KM
set_option Elab.async false
set_option linter.all false
set_option maxRecDepth 100000
set_option maxHeartbeats 1000000
namespace KM
open PySem PySem.Spec PyProof.Rows L2 DL
section
variable {c : Cn} {mg : Str → Option Value} {δ δ1 δ2 : DE} {ta tb te : TE} {B : Bx} {t u w : TS} {tt : TT} {d : D} {s s2 : Sl}
theorem len__law_program : ∀ s ds s' r, R__law_program c s ds s' r → ds.length + 1 = 1 := by rintro _ _ _ _ ⟨a, _, _, _, _, rfl, _⟩; rfl
theorem wordsF : (if (false : Bool) = true then [D.str "read", D.str "write", D.str "fence"] else [D.str "read", D.str "write", D.str "read", D.str "write", D.str "read", D.str "write"]) = words false := rfl
theorem run__law_program (c : Cn) {mg : Str → Option Value} (T : TX c.w c.K mg) : ∀ s ds s' r, R__law_program c s ds s' r → RunsM c (t__law_program c) 9 s ds s' r := by
  rintro _ _ _ _ ⟨a, hk0, hk1, hn, rfl, rfl, rfl, rfl⟩
  intro B hJ
  refine .inl ?_
  show RM c B (t__law_program c) [a.sl, .un, .un, .un, .un, .un, .un, .un, .un] (mkProg a).2.sl (dProg (mkProg a).1)
  obtain ⟨m0, m1⟩ := draw_lt (a := a) (m := 3) (by decide)
  have k1 : (draw a 3).2.k = a.k + 1 := draw_k
  have n1 : (draw a 3).2.ns = a.ns := draw_ns
  generalize hx1 : draw a 3 = y1 at m0 m1 k1 n1
  obtain ⟨m, a1⟩ := y1
  simp only at m0 m1 k1 n1
  obtain ⟨z0, z1⟩ := draw_lt (a := a1) (m := 7) (by decide)
  have k2 : (draw a1 7).2.k = a.k + 2 := by rw [draw_k, k1]; omega
  have n2 : (draw a1 7).2.ns = a.ns := by rw [draw_ns, n1]
  generalize hx2 : draw a1 7 = y2 at z0 z1 k2 n2
  obtain ⟨z, a2⟩ := y2
  simp only at z0 z1 k2 n2
  have k3 : (draw a2 3).2.k = a.k + 3 := by rw [draw_k, k2]; omega
  have n3 : (draw a2 3).2.ns = a.ns := by rw [draw_ns, n2]
  generalize hx3 : draw a2 3 = y3 at k3 n3
  obtain ⟨f, a3⟩ := y3
  simp only at k3 n3
  have em : mkProg a = fill (decide (f = 0)) z.toNat (List.replicate (1 + m).toNat []) a3 := by
    unfold mkProg
    simp only [hx1, hx2, hx3]
  rw [em]
  have s1 : DL.Run c B (tAsg (tOp rAddI (tC (.int 1)) (tCall (SpM c (R__law_draw c)) [] E0 (tCons (tVar 0) (tCons (tC (.int 3)) tNil)))) (gName 1)) [a.sl, .un, .un, .un, .un, .un, .un, .un, .un] (.nx [a1.sl, .d (.int (1 + m)), .un, .un, .un, .un, .un, .un, .un]) := by
    have := ev_draw (c := c) (δ := [a.sl, .un, .un, .un, .un, .un, .un, .un, .un]) (ts := tCons (tC (.int 3)) tNil) (a := a) (m := 3) rfl (eva_cons ev_int eva_nil) (by decide) (by decide) hk0 (by omega) hn
    rw [hx1] at this
    exact run_to (run_asg (ev_add ev_int this)) rfl
  have s2 : DL.Run c B (tAsg (tCall (SpM c (R__law_draw c)) [] E0 (tCons (tVar 0) (tCons (tC (.int 7)) tNil))) (gName 2)) [a1.sl, .d (.int (1 + m)), .un, .un, .un, .un, .un, .un, .un] (.nx [a2.sl, .d (.int (1 + m)), .d (.int z), .un, .un, .un, .un, .un, .un]) := by
    have := ev_draw (c := c) (δ := [a1.sl, .d (.int (1 + m)), .un, .un, .un, .un, .un, .un, .un]) (ts := tCons (tC (.int 7)) tNil) (a := a1) (m := 7) rfl (eva_cons ev_int eva_nil) (by decide) (by decide) (by omega) (by omega) (by rw [n1]; exact hn)
    rw [hx2] at this
    exact run_to (run_asg this) rfl
  have s3 : DL.Run c B (tIfS (tTest (tOp rEq (tCall (SpM c (R__law_draw c)) [] E0 (tCons (tVar 0) (tCons (tC (.int 3)) tNil))) (tC (.int 0)))) (tAsg (tLst (tCons (tC (.str "read")) (tCons (tC (.str "write")) (tCons (tC (.str "fence")) tNil)))) (gName 3)) tNext) [a2.sl, .d (.int (1 + m)), .d (.int z), .ol (words false), .un, .un, .un, .un, .un]
      (.nx [a3.sl, .d (.int (1 + m)), .d (.int z), .ol (words (decide (f = 0))), .un, .un, .un, .un, .un]) := by
    have := ev_draw (c := c) (δ := [a2.sl, .d (.int (1 + m)), .d (.int z), .ol (words false), .un, .un, .un, .un, .un]) (ts := tCons (tC (.int 3)) tNil) (a := a2) (m := 3) rfl (eva_cons ev_int eva_nil) (by decide) (by decide) (by omega) (by omega) (by rw [n2]; exact hn)
    rw [hx3] at this
    refine run_if (evt_T (ev_eqI this ev_int)) (fun h => ?_) (fun h => ?_)
    · rw [h]
      exact run_to (run_asgN (evn_lst (eva_cons ev_str (eva_cons ev_str (eva_cons ev_str eva_nil))) (by simp))) rfl
    · rw [h]
      exact run_to run_next rfl
  have hr0 : ∀ r ∈ List.replicate (1 + m).toNat ([] : List Deed), r.length ≤ 0 := fun r h => by rw [(List.mem_replicate.mp h).2]; exact Nat.le_refl _
  refine rm_seq s1 (rm_seq s2 (rm_seq (δ1 := [a2.sl, .d (.int (1 + m)), .d (.int z), .ol (words false), .un, .un, .un, .un, .un]) (run_to (run_asgN (evn_lst (eva_cons ev_str (eva_cons ev_str (eva_cons ev_str (eva_cons ev_str (eva_cons ev_str (eva_cons ev_str eva_nil)))))) (by simp))) rfl) (rm_seq s3 (rm_seq (δ1 := [a3.sl, .d (.int (1 + m)), .d (.int z), .ol (words (decide (f = 0))), .oll ((List.replicate (1 + m).toNat ([] : List Deed)).map fun r => r.map dDeed), .un, .un, .un, .un])
    (run_to (run_asgN (evn_lcO (fun _ => []) (evi_range1 (eva_cons (ev_var rfl) eva_nil) (by omega) (by omega)) (by rw [List.length_map, List.length_range]; omega) (by decide) (own_of rfl) fun d hd => ⟨[a3.sl, .d (.int (1 + m)), .d (.int z), .ol (words (decide (f = 0))), .un, .d d, .un, .un, .un], ?_, fun j hj => ?_, evn_lst eva_nil (by simp)⟩)) ?_)
    (rm_seq (run_foldI (xs := List.range z.toNat) (fun (k : Nat) => D.int (k : Int)) (fun b => [b.2.sl, .d (.int (1 + m)), .d (.int z), .ol (words (decide (f = 0))), .oll (b.1.map fun r => r.map dDeed), .un, .un, .un, .un]) (fun b _ => fstep (decide (f = 0)) b) (fun i b => ((b.1.length : Nat) : Int) = 1 + m ∧ b.2.k = a.k + 3 + 3 * (i : Int) ∧ b.2.ns = a.ns ∧ ∀ r ∈ b.1, r.length ≤ i) (List.replicate (1 + m).toNat [], a3) (evi_range1 (eva_cons (ev_var rfl) eva_nil) (by omega) (by omega)) ⟨by rw [List.length_replicate]; omega, by simp; exact k3, n3, hr0⟩ fun i b x hb hx => ?_) ?_)))))
  · exact tgtw_name (δ := wipeD [a3.sl, .d (.int (1 + m)), .d (.int z), .ol (words (decide (f = 0))), .un, .un, .un, .un, .un] [5]) (by decide) (by rw [wipeD_len]; simp) (by decide)
  · match j, hj with
    | 0, _ => rfl
    | 1, _ => rfl
    | 2, _ => rfl
    | 3, _ => rfl
    | 4, _ => rfl
    | 5, hj => exact absurd (by decide) hj
    | j + 6, _ => rfl
  · rw [List.map_map, List.map_replicate]
    have : ∀ n : Nat, (List.range n).map ((fun (_ : D) => ([] : List D)) ∘ fun (k : Nat) => D.int (k : Int)) = List.replicate n [] := fun n => by
      rw [show ((fun (_ : D) => ([] : List D)) ∘ fun (k : Nat) => D.int (k : Int)) = fun _ => [] from rfl, List.map_const', List.length_range]
    rw [this]
    rfl
  · obtain ⟨b1, b2, b3, b4⟩ := hb
    have hi : i < z.toNat := by have := (List.getElem?_eq_some_iff.mp hx).1; rwa [List.length_range] at this
    refine ⟨⟨by rw [fstep_len]; exact b1, by rw [fstep_k, b2]; push_cast; omega, by rw [fstep_ns]; exact b3, fstep_rows _ b4⟩, _, tgt_name, ?_⟩
    exact run_to (run_fill b1 (by omega) (by omega) (by omega) (by omega) (by rw [b3]; exact hn) fun r hr => Nat.le_trans (b4 r hr) (by omega)) rfl
  · rw [fill_fold, List.length_range]
    have hP := foldl_P (fun b (_ : Nat) => fstep (decide (f = 0)) b) (List.range z.toNat) (fun i b => ((b.1.length : Nat) : Int) = 1 + m ∧ ∀ r ∈ b.1, r.length ≤ i) (List.replicate (1 + m).toNat [], a3) ⟨by rw [List.length_replicate]; omega, hr0⟩ fun i b x hb _ => ⟨by rw [fstep_len]; exact hb.1, fstep_rows _ hb.2⟩
    rw [fill_fold, List.length_range] at hP
    generalize fill (decide (f = 0)) z.toNat (List.replicate (1 + m).toNat []) a3 = q at hP
    obtain ⟨p, a4⟩ := q
    obtain ⟨hP1, hP2⟩ := hP
    refine rm_freeze 4 (.inr (hJ 4 (by decide))) rfl (rm_is (rm_ret (ev_tupN (evn_map1 (xs := p) (fun r => D.lst (r.map dDeed)) dRow (DLevi_is (evi_list (ev_var rfl)) (by rw [List.map_map]; rfl)) (by simp only at hP1; omega) fun r hr => ev_tupL (eva_cons (ev_var rfl) eva_nil))) rfl) rfl)
end
end KM
set_option Elab.async false
set_option linter.all false
set_option maxRecDepth 100000
set_option maxHeartbeats 1000000
namespace KM
open PySem PySem.Spec PyProof.Rows L2 DL
section
variable {c : Cn} {mg : Str → Option Value} {δ δ1 δ2 : DE} {ta tb te : TE} {B : Bx} {t u w : TS} {tt : TT} {d : D} {s s2 : Sl}
/-! ### data of ints -/
def pyI (ns : List Int) : PyData := .tuple (ns.map .int)
theorem pys_ints : ∀ ns : List Int, pys (ns.map .int) = some (ns.map .int)
  | [] => rfl
  | n :: ns => by
    rw [List.map_cons]
    unfold pys
    rw [pys_ints ns]
    rfl
theorem lay_ints : ∀ ns : List Int, PyData.canLayAll0 (ns.map .int) = true
  | [] => rfl
  | n :: ns => by
    rw [List.map_cons]
    show (PyData.canLay0 (.int n) && PyData.canLayAll0 (ns.map .int)) = true
    rw [lay_ints ns]
    rfl
theorem depth_ints : ∀ ns : List Int, PyData.depthAll (ns.map .int) = 0
  | [] => rfl
  | n :: ns => by
    rw [List.map_cons]
    show max (PyData.depth (.int n)) (PyData.depthAll (ns.map .int)) = 0
    rw [depth_ints ns]
    rfl
theorem shaped_pyI (ns : List Int) : SeqAt.shaped (pyI ns) = true := by
  show (PyData.canLayAll0 (ns.map .int) && decide (PyData.depthAll (ns.map .int) + 1 ≤ 64)) = true
  rw [lay_ints, depth_ints]
  rfl
theorem count_ints (i : Int) : ∀ ns : List Int, ((ns.map PyData.int).countP fun z => PyData.eqv z (.int i)) = ns.count i
  | [] => rfl
  | n :: ns => by
    rw [List.map_cons, List.countP_cons, count_ints i ns, List.count_cons]
    rfl
/-! ### _law_orders -/
def xo (o : List Int) : D := .xt (o.map .int)
theorem ext_xo (p : Prog) (o : List Int) : ((List.range p.length).filterMap fun (i : Nat) => if o.count (i : Int) < (p.getD i []).length then some (xo (o ++ [(i : Int)])) else none) = (ext p o).map xo := by
  unfold ext
  rw [List.map_filterMap]
  congr 1
  funext i
  split <;> rfl
theorem len__law_orders : ∀ ds r, R__law_orders c ds r → ds.length = 1 := by rintro _ _ ⟨p, _, rfl, _⟩; rfl
theorem ev_deeds {p : Prog} (hp : Ok p) {i : Nat} (h : δ[i]? = some (.d (dProg p))) (hi : 0 < i ∨ i = 0) : ∀ {wi : Nat}, True := trivial
theorem run__law_orders (c : Cn) {mg : Str → Option Value} (T : TX c.w c.K mg) : ∀ ds r, R__law_orders c ds r → RunsTo c (t__law_orders c) 6 ds (.d r) := by
  rintro _ _ ⟨p, hp, rfl, rfl⟩
  have h3 := hp.len
  have h6 := hp.tot
  have tot : (p.map fun r => (r.length : Int)).sum = ((total p : Nat) : Int) := by
    have : ∀ q : Prog, (q.map fun r => (r.length : Int)).sum = ((total q : Nat) : Int) := fun q => by
      induction q with
      | nil => rfl
      | cons r q ih =>
        have e : total (r :: q) = r.length + total q := List.sum_cons
        rw [List.map_cons, List.sum_cons, ih, e]
        push_cast
        rfl
    exact this p
  refine runs_rt (δ := [.d (dProg p), .un, .un, .un, .un, .un]) rfl fun B hM => rr_seq (δ1 := [.d (dProg p), .ol ((orders p 0).map xo), .un, .un, .un, .un]) (run_to (run_asgN (evn_lst (eva_cons (ev_tupX eva_nil (by simp)) eva_nil) (by simp))) rfl)
    (rr_seq (run_foldI (xs := List.range (total p)) (fun (k : Nat) => D.int (k : Int)) (fun os => [.d (dProg p), .ol (os.map xo), .un, .un, .un, .un]) (fun os _ => os.flatMap (ext p)) (fun k os => os = orders p k) (orders p 0)
      (DLevi_is (evi_range1 (eva_cons (ev_is (ev_sum (ns := p.map fun r => (r.length : Int)) (eva_cons (ev_is (ev_lstN (evn_map1 (xs := p) dRow (fun r => .int r.length) (evi_tup (ev_var rfl)) (prog_len hp) fun a m => ev_len1 (ev_var (d := dRow a) rfl) (by show some (a.map dDeed).length = _; rw [List.length_map]) (Nat.le_trans (row_len hp m) (by decide)))) (by rw [List.map_map]; rfl)) eva_nil)) (by rw [tot])) eva_nil) (by omega) (by omega)) (range_ints _)) rfl fun k os x hk hx => ?_) ?_)
  · subst hk
    have hk : k < total p := by have := (List.getElem?_eq_some_iff.mp hx).1; rwa [List.length_range] at this
    have hz := orders_le hp (n := k) (by omega)
    refine ⟨rfl, _, tgt_name, ?_⟩
    refine run_end [2, 3] (run_seq (run_asgN (evn_lst eva_nil (by simp))) (run_freeze 1 hM rfl (run_seq (run_foldI (xs := orders p k) xo (fun ns => [.d (dProg p), .d (.lst ((orders p k).map xo)), .d (.int (x : Int)), .un, .ol (ns.map xo), .un]) (fun ns o => ns ++ ext p o) (fun j ns => ns.length ≤ 3 * j) [] (evi_list (ev_var rfl)) (by simp) fun j ns o hn ho => ?_) (run_asgM (evn_move hM rfl))))) ?_
    · have hj : j < (orders p k).length := (List.getElem?_eq_some_iff.mp ho).1
      have hol := orders_length (List.mem_of_getElem? ho)
      have he := ext_len p o
      refine ⟨by rw [List.length_append]; omega, _, tgt_name, ?_⟩
      refine run_end [3] (run_asgN (evn_catL rfl (evn_fmap1 (xs := List.range p.length) (fun (i : Nat) => D.int (i : Int)) (fun (i : Nat) => if o.count (i : Int) < (p.getD i []).length then some (xo (o ++ [(i : Int)])) else none) (DLevi_is (evi_range1 (eva_cons (ev_len1 (ev_var (d := dProg p) rfl) (by show some (p.map dRow).length = _; rw [List.length_map]) (by omega)) eva_nil) (by omega) (by omega)) (range_ints _)) (by rw [List.length_range]; omega) fun i hi => ?_) rfl ?_)) ?_
      · have hi' : i < p.length := List.mem_range.mp hi
        have hlen : ((p.getD i []).map dDeed).length ≤ 100000 := by
          rw [List.length_map]
          exact Nat.le_trans (row_len hp (rowOf_mem hi')) (by decide)
        have test : EvT c (tTest (tOp rLtI (tCnt c.K (tVar 3) (tCons (tVar 5) tNil)) (tCB (rLenV c.K) (tCons (tOp (rIxT c.K) (tVar 0) (tVar 5)) tNil)))) ([Sl.d (dProg p), .d (.lst ((orders p k).map xo)), .d (.int (x : Int)), .d (xo o), .ol (ns.map xo), .d (.int (i : Int))]) (decide (o.count (i : Int) < (p.getD i []).length)) ([Sl.d (dProg p), .d (.lst ((orders p k).map xo)), .d (.int (x : Int)), .d (xo o), .ol (ns.map xo), .d (.int (i : Int))]) := by
          refine evt_T (ev_is (ev_lt (ev_is (ev_cnt (ds := o.map .int) (ev_var rfl) (eva_cons (ev_var rfl) eva_nil) (pys_ints o) rfl (shaped_pyI o) rfl) (by rw [count_ints])) (ev_len1 (ev_ixT (ev_var (d := .tup (p.map dRow)) rfl) (ev_var rfl) (atI_map (f := dRow) (d := []) hi')) rfl hlen)) ?_)
          rw [List.length_map]
          congr 1
          rw [decide_eq_decide]
          omega
        by_cases hc : o.count (i : Int) < (p.getD i []).length
        · refine .inr ⟨xo (o ++ [(i : Int)]), if_pos hc, ?_, ?_⟩
          · rw [decide_eq_true hc] at test
            exact test
          · exact ev_is (ev_catX (ev_var rfl) (ev_tupX (eva_cons (ev_var rfl) eva_nil) (by simp)) (by rw [List.length_map]; simp; omega)) (by unfold xo; rw [List.map_append]; rfl)
        · refine .inl ⟨if_neg hc, ?_⟩
          rw [decide_eq_false hc] at test
          exact test
      · rw [ext_xo, List.length_map, List.length_map]
        omega
      · rw [ext_xo, List.map_append]
        rfl
    · rw [fold_app, List.nil_append]
      rfl
  · have e : (List.range (total p)).foldl (fun os _ => os.flatMap (ext p)) (orders p 0) = orders p (total p) := by
      have := foldl_P (fun os (_ : Nat) => os.flatMap (ext p)) (List.range (total p)) (fun k os => os = orders p k) (orders p 0) rfl fun k b a hb _ => by rw [hb]; rfl
      rw [List.length_range] at this
      exact this
    rw [e]
    obtain ⟨δ', h⟩ := (show RR c B (tRet (tVar 1)) [.d (dProg p), .d (.lst ((orders p (total p)).map xo)), .un, .un, .un, .un] (.lst ((orders p (total p)).map xo)) from rr_ret (ev_var rfl))
    exact ⟨δ', run_freeze 1 hM rfl h⟩
end
end KM
set_option Elab.async false
set_option linter.all false
set_option maxRecDepth 100000
set_option maxHeartbeats 1000000
namespace KM
open PySem PySem.Spec PyProof.Rows L2 DL
section
variable {c : Cn} {mg : Str → Option Value} {δ δ1 δ2 : DE} {ta tb te : TE} {B : Bx} {t u w : TS} {tt : TT} {d : D} {s s2 : Sl}
/-! ### _law_done -/
theorem firsts_fold : ∀ (p : Prog) (b : List Int × Int), (p.foldl (fun b r => (b.1 ++ [b.2], b.2 + wcount r)) b).1 = b.1 ++ firsts b.2 p
  | [], b => by simp [firsts]
  | r :: p, b => by
    rw [List.foldl_cons, firsts_fold p, show firsts b.2 (r :: p) = b.2 :: firsts (b.2 + wcount r) p from rfl]
    simp
theorem firsts_len : ∀ (p : Prog) (n : Int), (firsts n p).length = p.length
  | [], _ => rfl
  | r :: p, n => by
    show (n :: firsts (n + wcount r) p).length = _
    rw [List.length_cons, List.length_cons, firsts_len p]
/-- the shape of a state -/
structure LsOk (p : Prog) (s : Ls) (k : Nat) : Prop where
  f : s.first.length = p.length
  a : s.at_.length = p.length
  n : s.ans.length = p.length
  c : s.cells.length = 2
  z : ∀ x ∈ s.ans, x.length ≤ k
theorem ls0_ok (p : Prog) : LsOk p (ls0 p) 0 := ⟨firsts_len p 0, List.length_map _, List.length_map _, rfl, fun x h => by
  obtain ⟨_, _, rfl⟩ := List.mem_map.mp h
  exact Nat.le_refl _⟩
theorem lstep_ok {p : Prog} {s : Ls} {k i : Nat} (h : LsOk p s k) : LsOk p (lstep p s i) (k + 1) := by
  have hz : ∀ x ∈ s.ans, x.length ≤ k + 1 := fun x hx => Nat.le_succ_of_le (h.z x hx)
  unfold lstep
  simp only
  split
  · exact ⟨by rw [List.length_set]; exact h.f, by rw [List.length_set]; exact h.a, h.n, by rw [List.length_set]; exact h.c, hz⟩
  · refine ⟨h.f, by rw [List.length_set]; exact h.a, by rw [List.length_set]; exact h.n, h.c, fun x hx => ?_⟩
    rcases List.mem_or_eq_of_mem_set hx with z | z
    · exact hz x z
    · rw [z, List.length_append]
      have : (s.ans.getD i []).length ≤ k := by
        rw [List.getD_eq_getElem?_getD]
        cases e : s.ans[i]? with
        | none => exact Nat.zero_le _
        | some q => exact h.z q (List.mem_of_getElem? e)
      exact Nat.succ_le_succ this
  · exact ⟨h.f, by rw [List.length_set]; exact h.a, h.n, h.c, hz⟩
theorem lstep_at {p : Prog} {s : Ls} {i j : Nat} (hi : i < s.at_.length) : (lstep p s i).at_.getD j 0 = if i = j then s.at_.getD i 0 + 1 else s.at_.getD j 0 := by
  have e : (lstep p s i).at_ = s.at_.set i (s.at_.getD i 0 + 1) := by
    unfold lstep
    simp only
    split <;> rfl
  rw [e, getD_set hi]
def dLs (p : Prog) (o : List Int) (n : Int) (s : Ls) : DE := [.d (dProg p), .d (xo o), .ol (s.first.map .int), .d (.int n), .un, .un, .ol (s.at_.map .int), .ol (s.ans.map dI), .ol (s.cells.map .int), .un]
theorem run_lstep (hp : Ok p) (h2 : Two p) {o : List Int} {n : Int} {s : Ls} {k : Nat} {x : Int} (hk : k ≤ 1000) (hs : LsOk p s k) (x0 : 0 ≤ x) (x1 : x.toNat < p.length) (a0 : 0 ≤ s.at_.getD x.toNat 0) (a1 : (s.at_.getD x.toNat 0).toNat < (rowOf p x.toNat).length) :
    DL.Run c B (tSeq (tAsg (tOp (rIxT c.K) (tOp (rIxT c.K) (tVar 0) (tVar 9)) (tOp (rIxL c.K) (tVar 6) (tVar 9))) (gName 5)) (tSeq (tAsg (tOp rAddI (tOp (rIxL c.K) (tVar 6) (tVar 9)) (tC (.int 1))) (gSub (tVar 6) (tVar 9) rSetL)) (tIfS (tTest (tOp rEq (tOp (rIxT c.K) (tVar 5) (tC (.int 0))) (tC (.str "write")))) (tSeq (tAsg (tOp rAddI (tOp (rIxL c.K) (tVar 2) (tVar 9)) (tC (.int 1))) (gSub (tVar 2) (tVar 9) rSetL)) (tAsg (tOp (rIxL c.K) (tVar 2) (tVar 9)) (gSub (tVar 8) (tOp (rIxT c.K) (tVar 5) (tC (.int 1))) rSetL))) (tIfS (tTest (tOp rEq (tOp (rIxT c.K) (tVar 5) (tC (.int 0))) (tC (.str "read")))) (tAsg (tOp (rCatA c.K) (tOp (rIxL c.K) (tVar 7) (tVar 9)) (tTup (tCons (tOp (rIxL c.K) (tVar 8) (tOp (rIxT c.K) (tVar 5) (tC (.int 1)))) tNil))) (gSub (tVar 7) (tVar 9) rSetL)) tNext))))
      ((dLs p o n s).set 9 (.d (.int x))) (.nx (dLs p o n (lstep p s x.toNat))) := by
  have hd : (rowOf p x.toNat)[(s.at_.getD x.toNat 0).toNat]? = some (rowOf p x.toNat)[(s.at_.getD x.toNat 0).toNat] := List.getElem?_eq_getElem a1
  have hde : (p.getD x.toNat []).getD (s.at_.getD x.toNat 0).toNat .fe = (rowOf p x.toNat)[(s.at_.getD x.toNat 0).toNat] := by
    show (rowOf p x.toNat).getD _ _ = _
    rw [List.getD_eq_getElem?_getD, hd]
    rfl
  have hmem : (rowOf p x.toNat)[(s.at_.getD x.toNat 0).toNat] ∈ rowOf p x.toNat := List.getElem_mem a1
  have h2' := h2 _ (rowOf_mem x1) _ hmem
  have eat : atI (s.at_.map D.int) x = some (.int (s.at_.getD x.toNat 0)) := atI_mapZ (f := D.int) (d := 0) x0 (by rw [hs.a]; exact x1)
  have efi : ∀ l : List Int, l.length = p.length → atI (l.map D.int) x = some (.int (l.getD x.toNat 0)) := fun l hl => atI_mapZ (f := D.int) (d := 0) x0 (by rw [hl]; exact x1)
  have ean : atI (s.ans.map dI) x = some (dI (s.ans.getD x.toNat [])) := atI_mapZ (f := dI) (d := []) x0 (by rw [hs.n]; exact x1)
  have e1 : DL.Run c B (tAsg (tOp (rIxT c.K) (tOp (rIxT c.K) (tVar 0) (tVar 9)) (tOp (rIxL c.K) (tVar 6) (tVar 9))) (gName 5)) [.d (dProg p), .d (xo o), .ol (s.first.map .int), .d (.int n), .un, .un, .ol (s.at_.map .int), .ol (s.ans.map dI), .ol (s.cells.map .int), .d (.int x)] (.nx [.d (dProg p), .d (xo o), .ol (s.first.map .int), .d (.int n), .un, .d (dDeed (rowOf p x.toNat)[(s.at_.getD x.toNat 0).toNat]), .ol (s.at_.map .int), .ol (s.ans.map dI), .ol (s.cells.map .int), .d (.int x)]) := by
    refine run_to (run_asg (ev_ixT (ds := (rowOf p x.toNat).map dDeed) (ev_ixT (ev_var (d := .tup (p.map dRow)) rfl) (ev_var rfl) (atI_mapZ (f := dRow) (d := []) x0 x1)) (ev_ixOL rfl (ev_var rfl) rfl eat) (atI_mapZ (f := dDeed) (d := .fe) a0 a1))) ?_
    rw [show (rowOf p x.toNat).getD (s.at_.getD x.toNat 0).toNat .fe = (rowOf p x.toNat)[(s.at_.getD x.toNat 0).toNat] by rw [List.getD_eq_getElem?_getD, hd]; rfl]
    rfl
  have hx : ∀ m : Nat, m = p.length → ixN m x = some x.toNat := fun m hm => ixN_Z x0 (by omega)
  have e2 : ∀ y : D, DL.Run c B (tAsg (tOp rAddI (tOp (rIxL c.K) (tVar 6) (tVar 9)) (tC (.int 1))) (gSub (tVar 6) (tVar 9) rSetL)) [.d (dProg p), .d (xo o), .ol (s.first.map .int), .d (.int n), .un, .d y, .ol (s.at_.map .int), .ol (s.ans.map dI), .ol (s.cells.map .int), .d (.int x)]
      (.nx [.d (dProg p), .d (xo o), .ol (s.first.map .int), .d (.int n), .un, .d y, .ol ((s.at_.set x.toNat (s.at_.getD x.toNat 0 + 1)).map .int), .ol (s.ans.map dI), .ol (s.cells.map .int), .d (.int x)]) := fun y =>
    run_to (run_setL (ev_add (ev_ixOL rfl (ev_var rfl) rfl eat) ev_int) rfl (ev_var rfl) (hx _ (by rw [List.length_map]; exact hs.a))) (by rw [set_map]; rfl)
  cases ed : (rowOf p x.toNat)[(s.at_.getD x.toNat 0).toNat] with
  | fe =>
    rw [ed] at e1 hde
    refine run_end [5, 9] (run_seq e1 (run_seq (e2 _) (run_if (evt_T (ev_is (ev_eqS (ev_word (d := .fe) (ev_var rfl)) ev_str) (by rw [word_write]))) (fun z => by cases z) fun _ => run_if (evt_T (ev_is (ev_eqS (ev_word (d := .fe) (ev_var rfl)) ev_str) (by rw [word_read]))) (fun z => by cases z) fun _ => run_next))) ?_
    unfold lstep
    rw [hde]
    rfl
  | rd l =>
    rw [ed] at e1 hde h2'
    have hl := h2' l rfl
    have ec : atI (s.cells.map D.int) l = some (.int (s.cells.getD l.toNat 0)) := atI_mapZ (f := D.int) (d := 0) (by omega) (by rw [hs.c]; omega)
    refine run_end [5, 9] (run_seq e1 (run_seq (e2 _) (run_if (evt_T (ev_is (ev_eqS (ev_word (d := .rd l) (ev_var rfl)) ev_str) (by rw [word_write]))) (fun z => by cases z) fun _ => run_if (evt_T (ev_is (ev_eqS (ev_word (d := .rd l) (ev_var rfl)) ev_str) (by rw [word_read]))) (fun _ => run_setL (ev_catT (ev_ixOL rfl (ev_var rfl) rfl ean) (ev_tup (eva_cons (ev_ixOL rfl (ev_tail (d := .rd l) (ev_var rfl) rfl) rfl ec) eva_nil) (by simp)) ?_) rfl (ev_var rfl) (hx _ (by rw [List.length_map]; exact hs.n))) fun z => by cases z))) ?_
    · have : (s.ans.getD x.toNat []).length ≤ k := by
        rw [List.getD_eq_getElem?_getD]
        cases e : s.ans[x.toNat]? with
        | none => exact Nat.zero_le _
        | some q => exact hs.z q (List.mem_of_getElem? e)
      rw [List.length_map]
      show _ + 1 ≤ 100000
      omega
    · unfold lstep
      rw [hde]
      have : D.tup ((s.ans.getD x.toNat []).map D.int ++ [D.int (s.cells.getD l.toNat 0)]) = dI (s.ans.getD x.toNat [] ++ [s.cells.getD l.toNat 0]) := by
        unfold dI
        rw [List.map_append]
        rfl
      rw [this, set_map]
      rfl
  | wr l =>
    rw [ed] at e1 hde h2'
    have hl := h2' l rfl
    have ef2 : atI ((s.first.set x.toNat (s.first.getD x.toNat 0 + 1)).map D.int) x = some (.int (s.first.getD x.toNat 0 + 1)) := by
      rw [efi _ (by rw [List.length_set]; exact hs.f), getD_set (by rw [hs.f]; exact x1), if_pos rfl]
    refine run_end [5, 9] (run_seq e1 (run_seq (e2 _) (run_if (evt_T (ev_is (ev_eqS (ev_word (d := .wr l) (ev_var rfl)) ev_str) (by rw [word_write]))) (fun _ => run_seq (run_to (δ2 := [.d (dProg p), .d (xo o), .ol ((s.first.set x.toNat (s.first.getD x.toNat 0 + 1)).map .int), .d (.int n), .un, .d (dDeed (.wr l)), .ol ((s.at_.set x.toNat (s.at_.getD x.toNat 0 + 1)).map .int), .ol (s.ans.map dI), .ol (s.cells.map .int), .d (.int x)]) (run_setL (ev_add (ev_ixOL rfl (ev_var rfl) rfl (efi _ hs.f)) ev_int) rfl (ev_var rfl) (hx _ (by rw [List.length_map]; exact hs.f))) (by rw [set_map]; rfl)) (run_setL (k := l.toNat) (ev_ixOL rfl (ev_var rfl) rfl ef2) rfl (ev_tail (d := .wr l) (ev_var rfl) rfl) (ixN_Z (by omega) (by rw [List.length_map, hs.c]; omega)))) fun z => by cases z))) ?_
    unfold lstep
    rw [hde, set_map]
    rfl
theorem len__law_done : ∀ ds r, R__law_done c ds r → ds.length = 2 := by rintro _ _ ⟨p, o, _, _, _, rfl, _⟩; rfl
theorem run__law_done (c : Cn) {mg : Str → Option Value} (T : TX c.w c.K mg) : ∀ ds r, R__law_done c ds r → RunsTo c (t__law_done c) 10 ds (.d r) := by
  rintro _ _ ⟨p, o, hp, h2, ho, rfl, rfl⟩
  have h3 := hp.len
  have h6 := hp.tot
  have hol := orders_length ho
  refine runs_rt (δ := [.d (dProg p), .d (xo o), .un, .un, .un, .un, .un, .un, .un, .un]) rfl fun B hM => rr_seq (run_asgN (evn_lst eva_nil (by simp))) (rr_seq (run_asg ev_int)
    (rr_seq (run_foldI (xs := p) dRow (fun b => [.d (dProg p), .d (xo o), .ol (b.1.map .int), .d (.int b.2), .un, .un, .un, .un, .un, .un]) (fun b r => (b.1 ++ [b.2], b.2 + wcount r)) (fun i b => b.1.length ≤ i) ([], 0) (evi_tup (ev_var rfl)) (by simp) fun i b r hb hr => ?_) ?_))
  · have hm := List.mem_of_getElem? hr
    have h6' := row_len hp hm
    have hi : i < p.length := (List.getElem?_eq_some_iff.mp hr).1
    refine ⟨by rw [List.length_append]; exact Nat.succ_le_succ hb, _, tgt_name, ?_⟩
    refine run_end [4] (run_seq (run_app rfl (ev_var rfl) rfl (by rw [List.length_map]; omega)) (run_asg (ev_add (ev_var rfl) (ev_lenN (evn_filt1 (xs := r) dDeed dDeed Deed.isW (evi_tup (ev_var rfl)) (by omega) (fun d _ => evt_T (ev_is (ev_eqS (ev_word (ev_var rfl)) ev_str) (by rw [word_write]))) fun d _ _ => ev_var rfl) ?_)))) ?_
    · rw [List.length_map]
      exact Nat.le_trans (List.length_filter_le _ _) (by omega)
    · have : (((r.filter Deed.isW).map dDeed).length : Int) = wcount r := by
        unfold wcount
        rw [List.length_map, List.countP_eq_length_filter]
      rw [this, List.map_append]
      rfl
  · generalize hb : p.foldl (fun b r => (b.1 ++ [b.2], b.2 + wcount r)) (([] : List Int), (0 : Int)) = bb
    have hb1 : bb.1 = firsts 0 p := by rw [← hb, firsts_fold]; rfl
    obtain ⟨b1, b2⟩ := bb
    simp only at hb1
    subst hb1
    refine rr_seq (run_asgN (evn_map1 (xs := p) dRow (fun _ => .int 0) (evi_tup (ev_var rfl)) (by omega) fun a _ => ev_int)) (rr_seq (run_asgN (evn_map1 (xs := p) dRow (fun _ => .tup []) (evi_tup (ev_var rfl)) (by omega) fun a _ => ev_tup eva_nil (by simp))) (rr_seq (δ1 := dLs p o b2 (ls0 p)) (run_to (run_asgN (evn_lst (eva_cons ev_int (eva_cons ev_int eva_nil)) (by simp))) ?_)
      (rr_seq (run_foldI (xs := o) D.int (dLs p o b2) (fun s i => lstep p s i.toNat) (fun k s => LsOk p s k ∧ ∀ i, i < p.length → s.at_.getD i 0 = (((o.take k).count (i : Int) : Nat) : Int)) (ls0 p) (evi_seq (ev_var rfl)) ⟨ls0_ok p, fun i hi => ?_⟩ fun k s x hk hx => ?_) (rr_ret (ev_tupO rfl)))))
    · show [Sl.d (dProg p), .d (xo o), .ol ((firsts 0 p).map .int), .d (.int b2), .un, .un, .ol (p.map fun _ => D.int 0), .ol (p.map fun _ => D.tup []), .ol [.int 0, .int 0], .un] = [_, _, _, _, _, _, .ol ((p.map fun _ => (0 : Int)).map .int), .ol ((p.map fun _ => ([] : List Int)).map dI), _, _]
      rw [List.map_map, List.map_map]
      rfl
    · show (p.map fun _ => (0 : Int)).getD i 0 = _
      rw [List.getD_eq_getElem?_getD, List.getElem?_map, List.getElem?_eq_getElem hi]
      simp
    · obtain ⟨k1, k2⟩ := hk
      obtain ⟨x0, x1, x2⟩ := orders_at ho k x hx
      have hkl : k < o.length := (List.getElem?_eq_some_iff.mp hx).1
      have ex : ((x.toNat : Nat) : Int) = x := Int.toNat_of_nonneg x0
      have ea := k2 x.toNat x1
      rw [ex] at ea
      refine ⟨⟨lstep_ok k1, fun i hi => ?_⟩, _, tgt_name (hi := by show 9 < 10; decide), run_lstep hp h2 (by omega) k1 x0 x1 (by omega) (by omega)⟩
      rw [lstep_at (by rw [k1.a]; exact x1), List.take_add_one, hx]
      show _ = (((o.take k ++ [x]).count (i : Int) : Nat) : Int)
      rw [List.count_append, List.count_singleton]
      by_cases e : x.toNat = i
      · subst e
        rw [if_pos rfl, ea, ex]
        simp
      · rw [if_neg e, k2 i hi, if_neg (by
          intro z
          have := beq_iff_eq.mp z
          omega)]
        simp
end
end KM
set_option Elab.async false
set_option linter.all false
set_option maxRecDepth 100000
set_option maxHeartbeats 1000000
namespace KM
open PySem PySem.Spec PyProof.Rows L2 DL
section
variable {c : Cn} {mg : Str → Option Value} {δ δ1 δ2 : DE} {ta tb te : TE} {B : Bx} {t u w : TS} {tt : TT} {d : D} {s s2 : Sl}
/-! ### _law_due -/
def nR (rs : List (List Int)) : NestedKey := .tup (rs.map fun r => .tup (r.map .num))
theorem nks_rows : ∀ rs : List (List Int), nks (rs.map dI) = some (rs.map fun r => .tup (r.map .num))
  | [] => rfl
  | r :: rs => by
    rw [List.map_cons]
    unfold nks
    rw [nks_rows rs, nk_dI]
    rfl
theorem nk_dR (rs : List (List Int)) : D.nk (dR rs) = some (nR rs) := by
  unfold dR D.nk
  rw [nks_rows]
  rfl
theorem nR_inj : ∀ {a b : List (List Int)}, (a.map fun r => NestedKey.tup (r.map .num)) = (b.map fun r => NestedKey.tup (r.map .num)) → a = b
  | [], [], _ => rfl
  | [], _ :: _, h => by cases h
  | _ :: _, [], h => by cases h
  | x :: a, y :: b, h => by
    rw [List.map_cons, List.map_cons] at h
    injection h with h1 h2
    rw [map_num_inj (NestedKey.tup.inj h1), nR_inj h2]
theorem sameK_dR (a b : List (List Int)) : sameK (dR a) (dR b) = decide (a = b) := by
  unfold sameK
  rw [nk_dR, nk_dR]
  show decide (nR a = nR b) = _
  by_cases h : a = b
  · rw [decide_eq_true h, h, decide_eq_true rfl]
  · rw [decide_eq_false h, decide_eq_false (show ¬ nR a = nR b from fun e => h (nR_inj (NestedKey.tup.inj e)))]
theorem depth_dR (rs : List (List Int)) : (nR rs).depth ≤ 8 := by
  have : ∀ rs : List (List Int), NestedKey.depthAll (rs.map fun r => .tup (r.map .num)) ≤ 1 := fun rs => by
    induction rs with
    | nil => exact Nat.zero_le _
    | cons r rs ih =>
      rw [List.map_cons]
      show max (NestedKey.depthAll (r.map .num) + 1) (NestedKey.depthAll (rs.map fun r => .tup (r.map .num))) ≤ 1
      rw [depth_nums]
      omega
  have := this rs
  show NestedKey.depthAll (rs.map fun r => .tup (r.map .num)) + 1 ≤ 8
  omega
def tdR (acc : List (List (List Int))) : List (D × D) := acc.map fun x => (dR x, .bl true)
theorem tdR_put (acc : List (List (List Int))) (x : List (List Int)) : putT (tdR acc) (dR x) (.bl true) = tdR (putR acc x) := by
  unfold putT putR
  have e : (tdR acc).any (fun p => sameK p.1 (dR x)) = decide (x ∈ acc) := by
    unfold tdR
    rw [List.any_map, Bool.eq_iff_iff, List.any_eq_true, decide_eq_true_eq]
    constructor
    · rintro ⟨y, hy, h⟩
      have h : sameK (dR y) (dR x) = true := h
      rw [sameK_dR] at h
      rw [← of_decide_eq_true h]
      exact hy
    · intro h
      refine ⟨x, h, ?_⟩
      show sameK (dR x) (dR x) = true
      rw [sameK_dR, decide_eq_true rfl]
  rw [e]
  by_cases h : x ∈ acc
  · rw [decide_eq_true h, if_pos rfl, if_pos h]
    unfold tdR
    rw [List.map_map]
    refine List.map_congr_left fun y _ => ?_
    show (if sameK (dR y) (dR x) = true then (dR y, D.bl true) else (dR y, D.bl true)) = _
    split <;> rfl
  · rw [decide_eq_false h, if_neg Bool.false_ne_true, if_neg h]
    unfold tdR
    rw [List.map_append]
    rfl
theorem tdR_len (acc : List (List (List Int))) : (tdR acc).length = acc.length := by unfold tdR; rw [List.length_map]
theorem tdR_keys (acc : List (List (List Int))) : (tdR acc).map (·.1) = acc.map dR := by unfold tdR; rw [List.map_map]; rfl
theorem putR_len (acc : List (List (List Int))) (x : List (List Int)) : (putR acc x).length ≤ acc.length + 1 := by
  unfold putR
  split
  · exact Nat.le_succ _
  · rw [List.length_append]; exact Nat.le_refl _
theorem leR_trans (a b c : List (List Int)) (h1 : leR a b = true) (h2 : leR b c = true) : leR a c = true := by
  unfold leR at *
  simp only [Bool.not_eq_true'] at *
  cases h : ltR c a with
  | false => rfl
  | true =>
    cases h3 : ltR a b with
    | true =>
      have := totR.trans _ _ _ h h3
      rw [this] at h2
      cases h2
    | false =>
      have e := totR.tot _ _ h3 h1
      subst e
      rw [h] at h2
      cases h2
theorem leR_total (a b : List (List Int)) : (leR a b || leR b a) = true := by
  unfold leR
  cases h : ltR b a with
  | false => rfl
  | true => rw [totR.asym _ _ h]; rfl
theorem due_perm (p : Prog) : (due p).Perm (found p) := List.mergeSort_perm _ _
theorem due_le (p : Prog) : (due p).Pairwise (fun x y => ltR y x = false) := (List.pairwise_mergeSort (le := leR) leR_trans leR_total (found p)).imp fun {a b} h => by
  unfold leR at h
  simpa using h
theorem mem_putR {acc : List (List (List Int))} {x y : List (List Int)} : y ∈ putR acc x ↔ y ∈ acc ∨ y = x := by
  unfold putR
  by_cases h : x ∈ acc
  · rw [if_pos h]
    exact ⟨.inl, fun z => z.elim id fun e => e ▸ h⟩
  · rw [if_neg h]; simp
theorem nodup_putR {acc : List (List (List Int))} {x : List (List Int)} (h : acc.Nodup) : (putR acc x).Nodup := by
  unfold putR
  by_cases hx : x ∈ acc
  · rw [if_pos hx]; exact h
  · rw [if_neg hx]
    exact List.nodup_append.mpr ⟨h, by simp, fun a ha b hb e => hx (by rw [List.mem_singleton.mp hb] at e; rw [← e]; exact ha)⟩
theorem mem_found_fold {p : Prog} {x : List (List Int)} : ∀ (os : List (List Int)) (acc : List (List (List Int))), x ∈ os.foldl (fun acc o => putR acc (done p o)) acc ↔ x ∈ acc ∨ ∃ o ∈ os, x = done p o
  | [], acc => by simp
  | o :: os, acc => by
    rw [List.foldl_cons, mem_found_fold os, mem_putR]
    simp [or_assoc]
theorem nodup_found_fold {p : Prog} : ∀ (os : List (List Int)) (acc : List (List (List Int))), acc.Nodup → (os.foldl (fun acc o => putR acc (done p o)) acc).Nodup
  | [], acc, h => h
  | o :: os, acc, h => nodup_found_fold os _ (nodup_putR h)
theorem found_fold_len {p : Prog} : ∀ (os : List (List Int)) (acc : List (List (List Int))), (os.foldl (fun acc o => putR acc (done p o)) acc).length ≤ acc.length + os.length
  | [], acc => Nat.le_refl _
  | o :: os, acc => by
    have h1 := found_fold_len (p := p) os (putR acc (done p o))
    have h2 := putR_len acc (done p o)
    rw [List.foldl_cons, List.length_cons]
    omega
theorem mem_found {p : Prog} {x : List (List Int)} : x ∈ found p ↔ ∃ o ∈ orders p (total p), x = done p o := by
  unfold found
  rw [mem_found_fold]
  simp
theorem lrun_ok {p : Prog} : ∀ (o : List Int) (s : Ls) (k : Nat), LsOk p s k → LsOk p (o.foldl (fun s i => lstep p s i.toNat) s) (k + o.length)
  | [], s, k, h => h
  | i :: o, s, k, h => by
    have := lrun_ok o _ _ (lstep_ok (i := i.toNat) h)
    rw [List.foldl_cons, List.length_cons, show k + (o.length + 1) = k + 1 + o.length by omega]
    exact this
theorem done_ok {p : Prog} {o : List Int} : (done p o).length = p.length ∧ ∀ x ∈ done p o, x.length ≤ o.length := by
  have := lrun_ok o (ls0 p) 0 (ls0_ok p)
  exact ⟨this.n, fun x hx => by have := this.z x hx; omega⟩
theorem found_le {p : Prog} (hp : Ok p) : (found p).length ≤ 729 := by
  have h1 := found_fold_len (p := p) (orders p (total p)) []
  have h2 := orders_le hp hp.tot
  simp at h1
  unfold found
  omega
theorem len__law_due : ∀ ds r, R__law_due c ds r → ds.length = 1 := by rintro _ _ ⟨p, _, _, _, rfl, _⟩; rfl
theorem run__law_due (c : Cn) {mg : Str → Option Value} (T : TX c.w c.K mg) : ∀ ds r, R__law_due c ds r → RunsTo c (t__law_due c) 3 ds (.d r) := by
  rintro _ _ ⟨p, hp, h2, h1, rfl, rfl⟩
  have hz := orders_le hp hp.tot
  refine runs_rt (δ := [.d (dProg p), .un, .un]) rfl fun B hM => rr_seq (run_asgN evn_dnewT) (rr_seq (run_foldI (xs := orders p (total p)) xo (fun acc => [.d (dProg p), .odt (tdR acc), .un]) (fun acc o => putR acc (done p o)) (fun k acc => acc.length ≤ k) [] (evi_list (ev_call (eva_cons (ev_var rfl) eva_nil) ⟨p, hp, rfl, rfl⟩)) (by simp) fun k acc o hk ho => ?_) ?_)
  · have hk' : k < (orders p (total p)).length := (List.getElem?_eq_some_iff.mp ho).1
    refine ⟨by have := putR_len acc (done p o); omega, _, tgt_name, ?_⟩
    refine run_end [2] (run_setT ev_bl rfl (ev_call (eva_cons (ev_var rfl) (eva_cons (ev_var rfl) eva_nil)) ⟨p, o, hp, h2, List.mem_of_getElem? ho, rfl, rfl⟩) rfl (nk_dR _) ⟨_, rfl⟩ (depth_dR _) (by rw [tdR_len]; omega)) ?_
    rw [tdR_put]
    rfl
  · refine rr_ret (ev_lstN (evn_sortS (S := sdR c) (ds := found p) (eva_cons (ev_is (ev_lstN (evn_listOT rfl)) (by rw [tdR_keys]; rfl)) eva_nil) (fun _ d hd => ?_) (due_perm p) (due_le p)))
    obtain ⟨o, _, rfl⟩ := mem_found.mp hd
    intro e
    have := (done_ok (p := p) (o := o)).1
    rw [e] at this
    simp at this
    omega
/-! ### _law_holds -/
def pyR (rs : List (List Int)) : PyData := .tuple (rs.map pyI)
theorem py_dI (ns : List Int) : (dI ns).py = some (pyI ns) := by
  unfold dI D.py
  rw [pys_ints]
  rfl
theorem pys_rows : ∀ rs : List (List Int), pys (rs.map dI) = some (rs.map pyI)
  | [] => rfl
  | r :: rs => by
    rw [List.map_cons]
    unfold pys
    rw [pys_rows rs, py_dI]
    rfl
theorem py_dR (rs : List (List Int)) : (dR rs).py = some (pyR rs) := by
  unfold dR D.py
  rw [pys_rows]
  rfl
theorem shaped_pyR (rs : List (List Int)) : SeqAt.shaped (pyR rs) = true := by
  have h1 : ∀ rs : List (List Int), PyData.canLayAll0 (rs.map pyI) = true := fun rs => by
    induction rs with
    | nil => rfl
    | cons r rs ih =>
      rw [List.map_cons]
      show (PyData.canLayAll0 (r.map .int) && PyData.canLayAll0 (rs.map pyI)) = true
      rw [lay_ints, ih]
      rfl
  have h2 : ∀ rs : List (List Int), PyData.depthAll (rs.map pyI) ≤ 1 := fun rs => by
    induction rs with
    | nil => exact Nat.zero_le _
    | cons r rs ih =>
      rw [List.map_cons]
      show max (PyData.depthAll (r.map .int) + 1) (PyData.depthAll (rs.map pyI)) ≤ 1
      rw [depth_ints]
      omega
  show (PyData.canLayAll0 (rs.map pyI) && decide (PyData.depthAll (rs.map pyI) + 1 ≤ 64)) = true
  rw [h1, decide_eq_true (by have := h2 rs; omega)]
  rfl
theorem eqv_ints : ∀ ns : List Int, PyData.eqvAll (ns.map .int) (ns.map .int) = true
  | [] => rfl
  | n :: ns => by
    rw [List.map_cons]
    show ((n == n) && PyData.eqvAll (ns.map .int) (ns.map .int)) = true
    rw [eqv_ints ns, beq_self_eq_true]
    rfl
theorem eqv_pyR (rs : List (List Int)) : PyData.eqv (pyR rs) (pyR rs) = true := by
  have : ∀ rs : List (List Int), PyData.eqvAll (rs.map pyI) (rs.map pyI) = true := fun rs => by
    induction rs with
    | nil => rfl
    | cons r rs ih =>
      rw [List.map_cons]
      show (PyData.eqvAll (r.map .int) (r.map .int) && PyData.eqvAll (rs.map pyI) (rs.map pyI)) = true
      rw [eqv_ints, ih]
      rfl
  exact this rs
theorem len__law_holds : ∀ ds r, R__law_holds c ds r → ds.length = 2 := by rintro _ _ ⟨rs, _, _, rfl, _⟩; rfl
theorem run__law_holds (c : Cn) {mg : Str → Option Value} (T : TX c.w c.K mg) : ∀ ds r, R__law_holds c ds r → RunsTo c (t__law_holds c) 5 ds (.d r) := by
  rintro _ _ ⟨rs, hl, hx, rfl, rfl⟩
  have e1 : ((rs.map dR).length : Nat) ≤ 100000 := by rw [List.length_map]; omega
  refine runs_rt (δ := [.d (.tup (rs.map dR)), .d (.lst (rs.map dR)), .un, .un, .un]) rfl fun B hM => rr_no (evt_is (evt_or (b := false) (evt_not (evt_B (ev_isi (b := true) (ev_var rfl)))) fun _ => evt_T (ev_is (ev_neI (ev_len1 (ev_var (d := .tup (rs.map dR)) rfl) rfl e1) (ev_len1 (ev_var (d := .lst (rs.map dR)) rfl) rfl e1)) (by rw [decide_eq_true rfl]; rfl))) rfl)
    (rr_seq (run_foldS (xs := List.range rs.length) (fun (k : Nat) => D.int (k : Int)) (fun (_ : Unit) => [.d (.tup (rs.map dR)), .d (.lst (rs.map dR)), .un, .un, .un]) (fun b _ => b) () (DLevi_is (evi_range1 (eva_cons (ev_len1 (ev_var (d := .lst (rs.map dR)) rfl) rfl e1) eva_nil) (by rw [List.length_map]; omega) (by rw [List.length_map]; omega)) (by rw [List.length_map]; exact range_ints _)) fun b k hk => ⟨_, tgt_name, ?_⟩) (rr_ret ev_bl))
  have hk : k < rs.length := List.mem_range.mp hk
  have hm : rs.getD k [] ∈ rs := by rw [List.getD_eq_getElem?_getD, List.getElem?_eq_getElem hk]; exact List.getElem_mem hk
  obtain ⟨hx1, hx2⟩ := hx _ hm
  have at1 : ∀ {δ : DE}, δ[0]? = some (.d (.tup (rs.map dR))) → δ[2]? = some (.d (.int (k : Int))) → Ev c (tOp (rIxT c.K) (tVar 0) (tVar 2)) δ (dR (rs.getD k [])) δ := fun a b => ev_ixT (ev_var a) (ev_var b) (atI_map (f := dR) (d := []) hk)
  have at2 : ∀ {δ : DE}, δ[1]? = some (.d (.lst (rs.map dR))) → δ[2]? = some (.d (.int (k : Int))) → Ev c (tOp (rIxL c.K) (tVar 1) (tVar 2)) δ (dR (rs.getD k [])) δ := fun a b => ev_ixL (ev_var a) (ev_var b) (atI_map (f := dR) (d := []) hk)
  refine run_end [2] (run_no (evt_is (evt_or (b := false) (evt_not (evt_B (ev_isi (b := true) (at1 rfl rfl)))) fun _ => evt_T (ev_is (ev_neD (at1 rfl rfl) (at2 rfl rfl) (py_dR _) (py_dR _) (shaped_pyR _) (shaped_pyR _)) (by rw [eqv_pyR]; rfl))) rfl)
    (run_foldS (xs := rs.getD k []) dI (fun (_ : Unit) => [.d (.tup (rs.map dR)), .d (.lst (rs.map dR)), .d (.int (k : Int)), .un, .un]) (fun b _ => b) () (evi_tup (at1 rfl rfl)) fun b row hrow => ⟨_, tgt_name, ?_⟩)) rfl
  have hr := hx2 row hrow
  refine run_end (δ1 := [.d (.tup (rs.map dR)), .d (.lst (rs.map dR)), .d (.int (k : Int)), .d (dI row), .un]) [3] (run_if (b := false) ?_ (fun z => by cases z) fun _ => run_next) rfl
  refine evt_is (evt_or (b := false) (evt_not (evt_B (ev_isi (b := true) (ev_var rfl)))) fun _ => evt_T (ev_is (ev_gt (ev_lenN (evn_filt1 (xs := row) D.int D.int (fun _ => false) (evi_tup (ev_var rfl)) (by omega) (fun x _ => evt_is (evt_or (b := false) (evt_B (ev_isi (b := false) (ev_var rfl))) fun _ => evt_not (evt_B (ev_isi (b := true) (ev_var rfl)))) rfl) fun x _ z => by cases z) ?_) ev_int) ?_)) rfl
  · rw [List.length_map]
    exact Nat.le_trans (List.length_filter_le _ _) (by omega)
  · have : row.filter (fun _ => false) = [] := by simp
    rw [this]
    rfl
end
end KM
set_option Elab.async false
set_option linter.all false
set_option maxRecDepth 100000
set_option maxHeartbeats 1000000
/-! K71q: the plain law: the walk's answers are the law's own. -/
namespace KM
open PySem DL
/-! ### flat answers -/
def padR (n : Nat) (xs : List Int) : List Int := xs ++ List.replicate (n - xs.length) (-1)
theorem padR_len {n : Nat} {xs : List Int} (h : xs.length ≤ n) : (padR n xs).length = n := by
  unfold padR
  rw [List.length_append, List.length_replicate]
  omega
def flat : List Int → List (List Int) → List Int
  | c :: cs, a :: as => padR c.toNat a ++ flat cs as
  | _, _ => []
theorem flat_set : ∀ (cs : List Int) (as : List (List Int)) (i : Nat) (v : Int), cs.length = as.length → i < as.length → (∀ c ∈ cs, 0 ≤ c) → (∀ j, j < as.length → (as.getD j []).length ≤ (cs.getD j 0).toNat) → (as.getD i []).length < (cs.getD i 0).toNat →
    (flat cs as).set ((cs.take i).sum.toNat + (as.getD i []).length) v = flat cs (as.set i (as.getD i [] ++ [v]))
  | [], [], i, v, _, h, _, _, _ => by simp at h
  | [], _ :: _, _, _, h, _, _, _, _ => by simp at h
  | _ :: _, [], _, _, h, _, _, _, _ => by simp at h
  | c :: cs, a :: as, 0, v, hl, hi, h0, hle, hlt => by
    have hlt : a.length < c.toNat := hlt
    show (padR c.toNat a ++ flat cs as).set (([] : List Int).sum.toNat + a.length) v = padR c.toNat (a ++ [v]) ++ flat cs as
    have e1 : padR c.toNat a = a ++ (-1 : Int) :: List.replicate (c.toNat - (a.length + 1)) (-1) := by
      unfold padR
      rw [show c.toNat - a.length = (c.toNat - (a.length + 1)) + 1 by omega, List.replicate_succ]
    have e2 : padR c.toNat (a ++ [v]) = a ++ v :: List.replicate (c.toNat - (a.length + 1)) (-1) := by
      unfold padR
      rw [List.length_append, List.append_assoc]
      rfl
    rw [e1, e2, show ([] : List Int).sum.toNat + a.length = a.length by simp, List.append_assoc, List.append_assoc]
    rw [List.set_append_right _ _ (Nat.le_refl _), Nat.sub_self]
    rfl
  | c :: cs, a :: as, i + 1, v, hl, hi, h0, hle, hlt => by
    have ih := flat_set cs as i v (by simpa using hl) (by simpa using hi) (fun x hx => h0 x (List.mem_cons_of_mem _ hx)) (fun j hj => hle (j + 1) (by simpa using hj)) hlt
    have hc := h0 c List.mem_cons_self
    have hsum : 0 ≤ (cs.take i).sum := sum_nonneg fun x hx => h0 x (List.mem_cons_of_mem _ (List.mem_of_mem_take hx))
    have ha : a.length ≤ c.toNat := hle 0 (by simp)
    show (padR c.toNat a ++ flat cs as).set (((c :: cs.take i).sum).toNat + (as.getD i []).length) v = padR c.toNat a ++ flat cs (as.set i (as.getD i [] ++ [v]))
    rw [← ih, List.sum_cons, List.set_append_right _ _ (by rw [padR_len ha]; omega), padR_len ha, show (c + (cs.take i).sum).toNat + (as.getD i []).length - c.toNat = (cs.take i).sum.toNat + (as.getD i []).length by omega]
theorem split_flat : ∀ (cs : List Int) (as : List (List Int)), cs.length = as.length → (∀ j, j < as.length → (as.getD j []).length = (cs.getD j 0).toNat) → split cs (flat cs as) = as
  | [], [], _, _ => rfl
  | [], _ :: _, h, _ => by simp at h
  | _ :: _, [], h, _ => by simp at h
  | c :: cs, a :: as, hl, h => by
    have ha : a.length = c.toNat := h 0 (by simp)
    have ih := split_flat cs as (by simpa using hl) fun j hj => h (j + 1) (by simpa using hj)
    show (padR c.toNat a ++ flat cs as).take c.toNat :: split cs ((padR c.toNat a ++ flat cs as).drop c.toNat) = a :: as
    have e : padR c.toNat a = a := by
      unfold padR
      rw [show c.toNat - a.length = 0 by omega]
      simp
    rw [e, ← ha, List.take_left, List.drop_left, ih]
theorem flat_nil : ∀ (p : Prog), flat (counts p) (p.map fun _ => []) = List.replicate (counts p).sum.toNat (-1)
  | [] => rfl
  | r :: p => by
    have h1 := rcount_nonneg r
    have h2 : 0 ≤ (counts p).sum := sum_nonneg (counts_nonneg (p := p))
    show padR (rcount r).toNat [] ++ flat (counts p) (p.map fun _ => []) = List.replicate ((rcount r :: counts p).sum).toNat (-1)
    rw [flat_nil p, List.sum_cons, show (rcount r + (counts p).sum).toNat = (rcount r).toNat + (counts p).sum.toNat by omega, ← List.replicate_append_replicate]
    rfl
/-! ### a stand of a state -/
def mem (p : Prog) (l : Ls) : List Int := (linesOf p).map fun x => l.cells.getD x.toNat 0
def absS (p : Prog) (l : Ls) : List Int := l.at_ ++ mem p l ++ flat (counts p) l.ans
theorem abs_start (p : Prog) : absS p (ls0 p) = start p := by
  unfold absS start mem
  have e1 : (ls0 p).at_ = List.replicate p.length 0 := by
    show (p.map fun _ => (0 : Int)) = _
    rw [List.map_const']
  have e2 : ((linesOf p).map fun x => (ls0 p).cells.getD x.toNat 0) = List.replicate (linesOf p).length 0 := by
    have : ∀ n : Nat, ([0, 0] : List Int).getD n 0 = 0 := fun n => by
      match n with
      | 0 => rfl
      | 1 => rfl
      | n + 2 => rfl
    rw [show (fun x : Int => (ls0 p).cells.getD x.toNat 0) = fun _ => (0 : Int) from funext fun x => this _, List.map_const']
  rw [e1, e2]
  show _ ++ _ ++ flat (counts p) (p.map fun _ => []) = _
  rw [flat_nil, ← List.replicate_append_replicate]
/-- what holds along an order -/
structure LInv (p : Prog) (l : Ls) (o : List Int) : Prop where
  ok : LsOk p l o.length
  at_ : ∀ i, i < p.length → l.at_.getD i 0 = ((o.count (i : Int) : Nat) : Int)
  first : ∀ i, i < p.length → l.first.getD i 0 = wb p i + wcount ((rowOf p i).take (o.count (i : Int)))
  ans : ∀ i, i < p.length → (((l.ans.getD i []).length : Nat) : Int) = rcount ((rowOf p i).take (o.count (i : Int)))
theorem wb_firsts : ∀ (p : Prog) (n : Int) (i : Nat), i < p.length → (firsts n p).getD i 0 = n + wb p i
  | [], _, i, h => by simp at h
  | r :: p, n, 0, _ => by
    show n = _
    simp [wb]
  | r :: p, n, i + 1, h => by
    show (firsts (n + wcount r) p).getD i 0 = _
    rw [wb_firsts p _ i (by simpa using h)]
    unfold wb
    rw [List.take_succ_cons, List.map_cons, List.sum_cons]
    omega
theorem linv0 (p : Prog) : LInv p (ls0 p) [] := ⟨ls0_ok p, fun i hi => by
    show (p.map fun _ => (0 : Int)).getD i 0 = _
    rw [List.getD_eq_getElem?_getD, List.getElem?_map, List.getElem?_eq_getElem hi]
    rfl, fun i hi => by
    show (firsts 0 p).getD i 0 = _
    rw [wb_firsts p 0 i hi]
    simp [wcount], fun i hi => by
    show (((p.map fun _ => ([] : List Int)).getD i []).length : Int) = _
    rw [List.getD_eq_getElem?_getD, List.getElem?_map, List.getElem?_eq_getElem hi]
    simp [rcount]⟩
theorem take_succ_w {r : List Deed} {j : Nat} {d : Deed} (h : r[j]? = some d) : wcount (r.take (j + 1)) = wcount (r.take j) + (if d.isW then 1 else 0) := by
  rw [List.take_add_one, h]
  unfold wcount
  show (((r.take j ++ [d]).countP Deed.isW : Nat) : Int) = _
  rw [List.countP_append, List.countP_singleton]
  cases d.isW <;> simp
theorem take_succ_r {r : List Deed} {j : Nat} {d : Deed} (h : r[j]? = some d) : rcount (r.take (j + 1)) = rcount (r.take j) + (if d.isR then 1 else 0) := by
  rw [List.take_add_one, h]
  unfold rcount
  show (((r.take j ++ [d]).countP Deed.isR : Nat) : Int) = _
  rw [List.countP_append, List.countP_singleton]
  cases d.isR <;> simp
theorem count_snoc (o : List Int) (i j : Nat) : (o ++ [(i : Int)]).count (j : Int) = o.count (j : Int) + (if i = j then 1 else 0) := by
  rw [List.count_append, List.count_singleton]
  by_cases h : i = j
  · subst h; simp
  · rw [if_neg h, if_neg (by intro z; have := beq_iff_eq.mp z; omega)]
section
variable {p : Prog} {l : Ls} {o : List Int} {i : Nat}
theorem deed_at (h : LInv p l o) (hi : i < p.length) (hc : o.count (i : Int) < (rowOf p i).length) : (p.getD i []).getD (l.at_.getD i 0).toNat .fe = (rowOf p i)[o.count (i : Int)] := by
  rw [h.at_ i hi, Int.toNat_natCast]
  show (rowOf p i).getD _ _ = _
  rw [List.getD_eq_getElem?_getD, List.getElem?_eq_getElem hc]
  rfl
theorem linv_step (h : LInv p l o) (hi : i < p.length) (hc : o.count (i : Int) < (rowOf p i).length) : LInv p (lstep p l i) (o ++ [(i : Int)]) := by
  have hd : (rowOf p i)[o.count (i : Int)]? = some (rowOf p i)[o.count (i : Int)] := List.getElem?_eq_getElem hc
  have hde := deed_at h hi hc
  have ok := lstep_ok (i := i) h.ok
  refine ⟨by rw [List.length_append]; exact ok, fun j hj => ?_, fun j hj => ?_, fun j hj => ?_⟩
  · rw [lstep_at (by rw [h.ok.a]; exact hi), count_snoc]
    by_cases e : i = j
    · subst e; rw [if_pos rfl, if_pos rfl, h.at_ i hi]; push_cast; rfl
    · rw [if_neg e, if_neg e, h.at_ j hj]; rfl
  · have hj' := h.first j hj
    rw [count_snoc]
    cases ed : (rowOf p i)[o.count (i : Int)] with
    | wr l0 =>
      have e1 : (lstep p l i).first = l.first.set i (l.first.getD i 0 + 1) := by unfold lstep; rw [hde, ed]
      rw [e1, getD_set (by rw [h.ok.f]; exact hi)]
      by_cases e : i = j
      · subst e
        rw [if_pos rfl, if_pos rfl, take_succ_w hd, ed, hj']
        simp [Deed.isW]
        omega
      · rw [if_neg e, if_neg e, hj']; rfl
    | rd l0 =>
      have e1 : (lstep p l i).first = l.first := by unfold lstep; rw [hde, ed]
      rw [e1, hj']
      by_cases e : i = j
      · subst e
        rw [if_pos rfl, take_succ_w hd, ed]
        simp [Deed.isW]
      · rw [if_neg e]; rfl
    | fe =>
      have e1 : (lstep p l i).first = l.first := by unfold lstep; rw [hde, ed]
      rw [e1, hj']
      by_cases e : i = j
      · subst e
        rw [if_pos rfl, take_succ_w hd, ed]
        simp [Deed.isW]
      · rw [if_neg e]; rfl
  · have hj' := h.ans j hj
    rw [count_snoc]
    cases ed : (rowOf p i)[o.count (i : Int)] with
    | rd l0 =>
      have e1 : (lstep p l i).ans = l.ans.set i (l.ans.getD i [] ++ [l.cells.getD l0.toNat 0]) := by unfold lstep; rw [hde, ed]
      rw [e1, getD_set (by rw [h.ok.n]; exact hi)]
      by_cases e : i = j
      · subst e
        rw [if_pos rfl, if_pos rfl, take_succ_r hd, ed, ← hj', List.length_append]
        simp [Deed.isR]
      · rw [if_neg e, if_neg e, hj']; rfl
    | wr l0 =>
      have e1 : (lstep p l i).ans = l.ans := by unfold lstep; rw [hde, ed]
      rw [e1, hj']
      by_cases e : i = j
      · subst e
        rw [if_pos rfl, take_succ_r hd, ed]
        simp [Deed.isR]
      · rw [if_neg e]; rfl
    | fe =>
      have e1 : (lstep p l i).ans = l.ans := by unfold lstep; rw [hde, ed]
      rw [e1, hj']
      by_cases e : i = j
      · subst e
        rw [if_pos rfl, take_succ_r hd, ed]
        simp [Deed.isR]
      · rw [if_neg e]; rfl
theorem abs_getD (h : LInv p l o) (hi : i < p.length) : (absS p l).getD i 0 = l.at_.getD i 0 := by
  unfold absS
  rw [List.getD_eq_getElem?_getD, List.getD_eq_getElem?_getD, List.getElem?_append_left (by rw [List.length_append, h.ok.a]; omega), List.getElem?_append_left (by rw [h.ok.a]; exact hi)]
theorem abs_can (h : LInv p l o) (hi : i < p.length) : canGo p (absS p l) i = decide (o.count (i : Int) < (rowOf p i).length) := by
  unfold canGo
  rw [abs_getD h hi, h.at_ i hi, numd_row_length hi, decide_eq_decide]
  omega
theorem mem_len : (mem p l).length = (linesOf p).length := List.length_map _
theorem abs_mem (h : LInv p l o) {k : Nat} (hk : k < (linesOf p).length) : (absS p l).getD (p.length + k) 0 = (mem p l).getD k 0 := by
  unfold absS
  rw [List.getD_eq_getElem?_getD, List.getD_eq_getElem?_getD, List.getElem?_append_left (by rw [List.length_append, h.ok.a, mem_len]; omega), List.getElem?_append_right (by rw [h.ok.a]; omega), h.ok.a, show p.length + k - p.length = k by omega]
theorem mem_at {x : Int} (hx : x ∈ linesOf p) : (mem p l).getD ((linesOf p).idxOf x) 0 = l.cells.getD x.toNat 0 := by
  have hk : (linesOf p).idxOf x < (linesOf p).length := List.idxOf_lt_length_iff.mpr hx
  unfold mem
  rw [List.getD_eq_getElem?_getD, List.getElem?_map, List.getElem?_eq_getElem hk, List.getElem_idxOf]
  rfl
theorem mem_set (hn : ∀ x ∈ linesOf p, 0 ≤ x) {l0 v : Int} (hl : l0 ∈ linesOf p) (hc : l0.toNat < l.cells.length) {f a : List Int} {r : List (List Int)} : mem p ⟨f, a, r, l.cells.set l0.toNat v⟩ = (mem p l).set ((linesOf p).idxOf l0) v := by
  have hk : (linesOf p).idxOf l0 < (linesOf p).length := List.idxOf_lt_length_iff.mpr hl
  unfold mem
  apply List.ext_getElem?
  intro j
  rw [List.getElem?_map, List.getElem?_set, List.getElem?_map]
  by_cases hj : (linesOf p).idxOf l0 = j
  · subst hj
    rw [if_pos rfl, if_pos (by rw [List.length_map]; exact hk), List.getElem?_eq_getElem hk, List.getElem_idxOf]
    show some ((l.cells.set l0.toNat v).getD l0.toNat 0) = _
    rw [getD_set hc, if_pos rfl]
  · rw [if_neg hj]
    cases e : (linesOf p)[j]? with
    | none => rfl
    | some x =>
      have hx := List.mem_of_getElem? e
      have hne : x ≠ l0 := fun z => hj (by
        subst z
        obtain ⟨hj', ej⟩ := List.getElem?_eq_some_iff.mp e
        have h1 : (linesOf p)[(linesOf p).idxOf x] = x := List.getElem_idxOf hk
        exact (List.getElem_inj (nodup_lines p)).mp (h1.trans ej.symm))
      have h0 := hn x hx
      have h1 := hn l0 hl
      show some ((l.cells.set l0.toNat v).getD x.toNat 0) = some (l.cells.getD x.toNat 0)
      rw [getD_set_ne (by omega)]
theorem flat_len (h : LInv p l o) : True := trivial
theorem counts_getD {j : Nat} (hj : j < p.length) : (counts p).getD j 0 = rcount (rowOf p j) := by
  unfold counts rowOf
  rw [List.getD_eq_getElem?_getD, List.getD_eq_getElem?_getD, List.getElem?_map, List.getElem?_eq_getElem hj]
  rfl
theorem rcount_take_le (r : List Deed) (n : Nat) : rcount (r.take n) ≤ rcount r := by
  have h : ∀ (r : List Deed) (n : Nat), rcount (r.take n) ≤ rcount r := fun r => by
    induction r with
    | nil => intro n; simp
    | cons d r ih =>
      intro n
      cases n with
      | zero =>
        have := rcount_nonneg (d :: r)
        simp [rcount] at *
      | succ n =>
        rw [List.take_succ_cons, rcount_cons, rcount_cons]
        have := ih n
        omega
  exact h r n
/-- a step of the walk is a step of the machine -/
theorem behind_abs (hp : Ok p) (h2 : Two p) (h : LInv p l o) (hi : i < p.length) (hc : o.count (i : Int) < (rowOf p i).length) : behind p (absS p l) i = absS p (lstep p l i) := by
  have hn : ∀ x ∈ linesOf p, 0 ≤ x := fun x hx => by
    obtain ⟨r, hr, d, hd, e⟩ := mem_lines.mp hx
    exact hp.ln r hr d hd x e
  have ha : (absS p l).getD i 0 = l.at_.getD i 0 := abs_getD h hi
  have hai := h.at_ i hi
  have hcan : canGo p (absS p l) i = true := by rw [abs_can h hi]; exact decide_eq_true hc
  obtain ⟨hj, he⟩ := next_entry hi (by rw [ha, hai]; omega) hcan
  rw [ha, hai, Int.toNat_natCast] at he
  have hd : (rowOf p i)[o.count (i : Int)]? = some (rowOf p i)[o.count (i : Int)] := List.getElem?_eq_getElem hc
  have hde := deed_at h hi hc
  have s1 : (absS p l).set i ((absS p l).getD i 0 + 1) = l.at_.set i (l.at_.getD i 0 + 1) ++ (mem p l ++ flat (counts p) l.ans) := by
    rw [ha]
    unfold absS
    rw [List.append_assoc, List.set_append_left _ _ (by rw [h.ok.a]; exact hi)]
  have la : (l.at_.set i (l.at_.getD i 0 + 1)).length = p.length := by rw [List.length_set, h.ok.a]
  cases ed : (rowOf p i)[o.count (i : Int)] with
  | fe =>
    have ee : entry p i (o.count (i : Int)) = [2, -1, -1] := by unfold entry; rw [hd, ed]
    have el : lstep p l i = ⟨l.first, l.at_.set i (l.at_.getD i 0 + 1), l.ans, l.cells⟩ := by unfold lstep; rw [hde, ed]
    unfold behind
    rw [he, ee, el]
    show (absS p l).set i ((absS p l).getD i 0 + 1) = _
    rw [s1]
    unfold absS
    rw [List.append_assoc]
    rfl
  | wr l0 =>
    have hl0 : l0 ∈ linesOf p := mem_lines.mpr ⟨_, rowOf_mem hi, _, List.getElem_mem hc, by rw [ed]; rfl⟩
    have h01 := h2 _ (rowOf_mem hi) _ (List.getElem_mem hc) l0 (by rw [ed]; rfl)
    have hk : (linesOf p).idxOf l0 < (linesOf p).length := List.idxOf_lt_length_iff.mpr hl0
    have ee : entry p i (o.count (i : Int)) = [1, (((linesOf p).idxOf l0 : Nat) : Int), wb p i + wcount ((rowOf p i).take (o.count (i : Int) + 1))] := by unfold entry; rw [hd, ed]
    have el : lstep p l i = ⟨l.first.set i (l.first.getD i 0 + 1), l.at_.set i (l.at_.getD i 0 + 1), l.ans, l.cells.set l0.toNat (l.first.getD i 0 + 1)⟩ := by unfold lstep; rw [hde, ed]
    have ef : wb p i + wcount ((rowOf p i).take (o.count (i : Int) + 1)) = l.first.getD i 0 + 1 := by
      rw [take_succ_w hd, ed, h.first i hi]
      simp [Deed.isW]
      omega
    unfold behind
    rw [he, ee, el]
    show ((absS p l).set i ((absS p l).getD i 0 + 1)).set (p.length + (((linesOf p).idxOf l0 : Nat) : Int).toNat) (wb p i + wcount ((rowOf p i).take (o.count (i : Int) + 1))) = _
    rw [s1, ef, Int.toNat_natCast, List.set_append_right _ _ (by rw [la]; omega), la, show p.length + (linesOf p).idxOf l0 - p.length = (linesOf p).idxOf l0 by omega, List.set_append_left _ _ (by rw [mem_len]; exact hk)]
    show _ = l.at_.set i (l.at_.getD i 0 + 1) ++ mem p ⟨_, _, _, l.cells.set l0.toNat (l.first.getD i 0 + 1)⟩ ++ flat (counts p) l.ans
    rw [mem_set hn hl0 (by rw [h.ok.c]; omega), List.append_assoc]
  | rd l0 =>
    have hl0 : l0 ∈ linesOf p := mem_lines.mpr ⟨_, rowOf_mem hi, _, List.getElem_mem hc, by rw [ed]; rfl⟩
    have hk : (linesOf p).idxOf l0 < (linesOf p).length := List.idxOf_lt_length_iff.mpr hl0
    have ee : entry p i (o.count (i : Int)) = [0, (((linesOf p).idxOf l0 : Nat) : Int), rb p i + rcount ((rowOf p i).take (o.count (i : Int)))] := by unfold entry; rw [hd, ed]
    have el : lstep p l i = ⟨l.first, l.at_.set i (l.at_.getD i 0 + 1), l.ans.set i (l.ans.getD i [] ++ [l.cells.getD l0.toNat 0]), l.cells⟩ := by unfold lstep; rw [hde, ed]
    have hr0 := rb_nonneg p i
    have hr1 := h.ans i hi
    unfold behind
    rw [he, ee, el]
    show ((absS p l).set i ((absS p l).getD i 0 + 1)).set (p.length + (linesOf p).length + (rb p i + rcount ((rowOf p i).take (o.count (i : Int)))).toNat) ((absS p l).getD (p.length + (((linesOf p).idxOf l0 : Nat) : Int).toNat) 0) = _
    have en : (rb p i + rcount ((rowOf p i).take (o.count (i : Int)))).toNat = ((counts p).take i).sum.toNat + (l.ans.getD i []).length := by
      have : ((counts p).take i).sum = rb p i := by
        unfold counts rb
        rw [← List.map_take]
      rw [this, ← hr1]
      omega
    rw [s1, Int.toNat_natCast, abs_mem h hk, mem_at hl0, List.set_append_right _ _ (by rw [la]; omega), la, List.set_append_right _ _ (by rw [mem_len]; omega), mem_len, en,
      show p.length + (linesOf p).length + (((counts p).take i).sum.toNat + (l.ans.getD i []).length) - p.length - (linesOf p).length = ((counts p).take i).sum.toNat + (l.ans.getD i []).length by omega]
    have hA : ∀ j, j < l.ans.length → (l.ans.getD j []).length ≤ ((counts p).getD j 0).toNat := fun j hj => by
      rw [h.ok.n] at hj
      have := h.ans j hj
      have := rcount_take_le (rowOf p j) (o.count (j : Int))
      rw [counts_getD hj]
      omega
    have hB : (l.ans.getD i []).length < ((counts p).getD i 0).toNat := by
      have := rcount_take_lt (r := rowOf p i) (j := o.count (i : Int)) (l := l0) (by rw [hd, ed])
      rw [counts_getD hi]
      omega
    rw [flat_set (counts p) l.ans i _ (by unfold counts; rw [List.length_map, h.ok.n]) (by rw [h.ok.n]; exact hi) counts_nonneg hA hB]
    show _ = l.at_.set i (l.at_.getD i 0 + 1) ++ mem p l ++ flat (counts p) (l.ans.set i (l.ans.getD i [] ++ [l.cells.getD l0.toNat 0]))
    rw [List.append_assoc]
theorem linv_all (hn : ∀ {n : Nat} {o : List Int}, o ∈ orders p n → LInv p (lrun p o) o → True) : True := trivial
theorem lrun_snoc (o : List Int) (x : Int) : lrun p (o ++ [x]) = lstep p (lrun p o) x.toNat := by
  unfold lrun
  rw [List.foldl_append]
  rfl
theorem linv_of : ∀ {n : Nat} {o : List Int}, o ∈ orders p n → LInv p (lrun p o) o
  | 0, o, h => by
    rw [List.mem_singleton.mp h]
    exact linv0 p
  | n + 1, o, h => by
    rw [orders_succ] at h
    obtain ⟨o', h1, h2⟩ := List.mem_flatMap.mp h
    obtain ⟨i, hi, hc, rfl⟩ := mem_ext.mp h2
    rw [lrun_snoc, Int.toNat_natCast]
    exact linv_step (linv_of h1) hi hc
/-- the stands are the states of the orders -/
theorem stands_orders (hp : Ok p) (h2 : Two p) : ∀ (n : Nat) (s : List Int), s ∈ standsAt p n ↔ ∃ o ∈ orders p n, s = absS p (lrun p o)
  | 0, s => by
    constructor
    · intro h
      rw [List.mem_singleton.mp h]
      exact ⟨[], List.mem_singleton.mpr rfl, (abs_start p).symm⟩
    · rintro ⟨o, ho, rfl⟩
      rw [List.mem_singleton.mp ho]
      exact List.mem_singleton.mpr (abs_start p)
  | n + 1, s => by
    have ih := stands_orders hp h2 n
    constructor
    · intro h
      rcases (mem_stepAll _ _ _).mp h with z | ⟨s', hs', i, hi, hg, rfl⟩
      · cases z
      · obtain ⟨o, ho, rfl⟩ := (ih s').mp hs'
        have inv := linv_of ho
        rw [abs_can inv hi] at hg
        have hc := of_decide_eq_true hg
        refine ⟨o ++ [(i : Int)], ?_, ?_⟩
        · rw [orders_succ]
          exact List.mem_flatMap.mpr ⟨o, ho, mem_ext.mpr ⟨i, hi, hc, rfl⟩⟩
        · rw [behind_abs hp h2 inv hi hc, lrun_snoc, Int.toNat_natCast]
    · rintro ⟨o, ho, rfl⟩
      rw [orders_succ] at ho
      obtain ⟨o', h1, h3⟩ := List.mem_flatMap.mp ho
      obtain ⟨i, hi, hc, rfl⟩ := mem_ext.mp h3
      have inv := linv_of h1
      refine (mem_stepAll _ _ _).mpr (.inr ⟨absS p (lrun p o'), (ih _).mpr ⟨o', h1, rfl⟩, i, hi, ?_, ?_⟩)
      · rw [abs_can inv hi]; exact decide_eq_true hc
      · rw [behind_abs hp h2 inv hi hc, lrun_snoc, Int.toNat_natCast]
end
end KM
set_option Elab.async false
set_option linter.all false
set_option maxRecDepth 100000
set_option maxHeartbeats 1000000
namespace KM
open PySem DL
section
variable {p : Prog} {o : List Int}
/-! ### whole orders -/
theorem sum_eq {α : Type} {f g : α → Nat} : ∀ (l : List α), (∀ x ∈ l, f x ≤ g x) → (l.map f).sum = (l.map g).sum → ∀ x ∈ l, f x = g x
  | [], _, _, x, h => by cases h
  | y :: l, h1, h2, x, hx => by
    rw [List.map_cons, List.map_cons, List.sum_cons, List.sum_cons] at h2
    have hy := h1 y List.mem_cons_self
    have le : (l.map f).sum ≤ (l.map g).sum := by
      have : ∀ l : List α, (∀ x ∈ l, f x ≤ g x) → (l.map f).sum ≤ (l.map g).sum := fun l => by
        induction l with
        | nil => intro _; exact Nat.le_refl _
        | cons z l ih =>
          intro h
          rw [List.map_cons, List.map_cons, List.sum_cons, List.sum_cons]
          have := h z List.mem_cons_self
          have := ih fun x hx => h x (List.mem_cons_of_mem _ hx)
          omega
      exact this l fun x hx => h1 x (List.mem_cons_of_mem _ hx)
    rcases List.mem_cons.mp hx with rfl | hx
    · omega
    · exact sum_eq l (fun x hx => h1 x (List.mem_cons_of_mem _ hx)) (by omega) x hx
theorem count_le : ∀ {n : Nat} {o : List Int}, o ∈ orders p n → ∀ j, j < p.length → o.count (j : Int) ≤ (rowOf p j).length
  | 0, o, h, j, _ => by
    rw [List.mem_singleton.mp h]
    simp
  | n + 1, o, h, j, hj => by
    rw [orders_succ] at h
    obtain ⟨o', h1, h2⟩ := List.mem_flatMap.mp h
    obtain ⟨i, hi, hc, rfl⟩ := mem_ext.mp h2
    rw [count_snoc]
    have := count_le h1 j hj
    by_cases e : i = j
    · subst e; rw [if_pos rfl]; omega
    · rw [if_neg e]; exact this
theorem range_one {m i : Nat} (h : i < m) (f : Nat → Nat) : ((List.range m).map fun j => f j + (if i = j then 1 else 0)).sum = ((List.range m).map f).sum + 1 := by
  have key : ∀ l : List Nat, l.Nodup → ((l.map fun j => f j + (if i = j then 1 else 0)).sum = (l.map f).sum + (if i ∈ l then 1 else 0)) := fun l => by
    induction l with
    | nil => intro _; rfl
    | cons x l ih =>
      intro hn
      obtain ⟨n1, n2⟩ := List.nodup_cons.mp hn
      rw [List.map_cons, List.sum_cons, ih n2, List.map_cons, List.sum_cons]
      by_cases e : i = x
      · subst e
        rw [if_pos rfl, if_neg n1, if_pos List.mem_cons_self]
        omega
      · rw [if_neg e]
        have : (i ∈ x :: l) ↔ i ∈ l := by simp [e]
        by_cases hm : i ∈ l
        · rw [if_pos hm, if_pos (this.mpr hm)]; omega
        · rw [if_neg hm, if_neg (fun z => hm (this.mp z))]; omega
  rw [key _ List.nodup_range, if_pos (List.mem_range.mpr h)]
theorem count_sum : ∀ {n : Nat} {o : List Int}, o ∈ orders p n → ((List.range p.length).map fun (i : Nat) => o.count (i : Int)).sum = n
  | 0, o, h => by
    rw [List.mem_singleton.mp h]
    have : ∀ l : List Nat, (l.map fun (i : Nat) => ([] : List Int).count (i : Int)).sum = 0 := fun l => by
      induction l with
      | nil => rfl
      | cons x l ih => rw [List.map_cons, List.sum_cons, ih]; rfl
    exact this _
  | n + 1, o, h => by
    rw [orders_succ] at h
    obtain ⟨o', h1, h2⟩ := List.mem_flatMap.mp h
    obtain ⟨i, hi, hc, rfl⟩ := mem_ext.mp h2
    have e : (fun (j : Nat) => (o' ++ [(i : Int)]).count (j : Int)) = fun (j : Nat) => o'.count (j : Int) + (if i = j then 1 else 0) := funext fun j => count_snoc o' i j
    rw [e, range_one hi, count_sum h1]
theorem total_range (p : Prog) : ((List.range p.length).map fun i => (rowOf p i).length).sum = total p := by
  have : (List.range p.length).map (fun i => (rowOf p i).length) = p.map List.length := by
    apply List.ext_getElem?
    intro j
    rw [List.getElem?_map, List.getElem?_map]
    by_cases hj : j < p.length
    · rw [List.getElem?_range hj, List.getElem?_eq_getElem hj]
      unfold rowOf
      rw [show (Option.map (fun i => (p.getD i []).length) (some j)) = some ((p.getD j []).length) from rfl, List.getD_eq_getElem?_getD, List.getElem?_eq_getElem hj]
      rfl
    · rw [List.getElem?_eq_none (by rw [List.length_range]; omega), List.getElem?_eq_none (by omega)]
      rfl
  rw [this]
  rfl
theorem count_all (h : o ∈ orders p (total p)) {j : Nat} (hj : j < p.length) : o.count (j : Int) = (rowOf p j).length :=
  sum_eq (f := fun (i : Nat) => o.count (i : Int)) (g := fun i => (rowOf p i).length) (List.range p.length) (fun i hi => count_le h i (List.mem_range.mp hi)) (by rw [count_sum h, total_range]) j (List.mem_range.mpr hj)
theorem split_done (h : o ∈ orders p (total p)) : split (counts p) (flat (counts p) (done p o)) = done p o := by
  have inv := linv_of h
  have hl : (done p o).length = p.length := inv.ok.n
  refine split_flat _ _ (by unfold counts; rw [List.length_map, hl]) fun j hj => ?_
  rw [hl] at hj
  have h1 := inv.ans j hj
  rw [count_all h hj, List.take_length] at h1
  rw [counts_getD hj, ← h1]
  rfl
theorem mem_told_orders (hp : Ok p) (h2 : Two p) {x : List Int} : x ∈ told p ↔ ∃ o ∈ orders p (total p), x = flat (counts p) (done p o) := by
  have drop : ∀ o ∈ orders p (total p), (absS p (lrun p o)).drop (p.length + (linesOf p).length) = flat (counts p) (done p o) := fun o ho => by
    have inv := linv_of ho
    unfold absS
    rw [List.drop_append_of_le_length (by rw [List.length_append, inv.ok.a, mem_len]; exact Nat.le_refl _), List.drop_eq_nil_of_le (by rw [List.length_append, inv.ok.a, mem_len]; exact Nat.le_refl _)]
    rfl
  unfold told
  rw [mem_told]
  constructor
  · rintro (z | ⟨s, hs, rfl⟩)
    · cases z
    · obtain ⟨o, ho, rfl⟩ := (stands_orders hp h2 _ s).mp hs
      exact ⟨o, ho, drop o ho⟩
  · rintro ⟨o, ho, rfl⟩
    exact .inr ⟨_, (stands_orders hp h2 _ _).mpr ⟨o, ho, rfl⟩, (drop o ho).symm⟩
/-! ### the order of rows is the order of what they make -/
theorem ltI_app : ∀ (a1 b1 a2 b2 : List Int), a1.length = b1.length → ltI (a1 ++ a2) (b1 ++ b2) = if a1 = b1 then ltI a2 b2 else ltI a1 b1
  | [], [], a2, b2, _ => by rw [if_pos rfl]; rfl
  | [], _ :: _, _, _, h => by simp at h
  | _ :: _, [], _, _, h => by simp at h
  | x :: a1, y :: b1, a2, b2, h => by
    rw [List.cons_append, List.cons_append, ltI_cons, ltI_app a1 b1 a2 b2 (by simpa using h)]
    by_cases e : x = y
    · subst e
      rw [if_pos rfl, ltI_cons, if_pos rfl]
      by_cases e2 : a1 = b1
      · subst e2; rw [if_pos rfl, if_pos rfl]
      · rw [if_neg e2, if_neg (fun z => e2 (List.cons.inj z).2)]
    · rw [if_neg e, if_neg (fun z => e (List.cons.inj z).1), ltI_cons, if_neg e]
theorem ltR_split : ∀ (cs a b : List Int), (∀ c ∈ cs, 0 ≤ c) → a.length = cs.sum.toNat → b.length = cs.sum.toNat → ltR (split cs a) (split cs b) = ltI a b
  | [], a, b, _, ha, hb => by
    have ea : a = [] := List.eq_nil_of_length_eq_zero ha
    have eb : b = [] := List.eq_nil_of_length_eq_zero hb
    subst ea eb
    rfl
  | c :: cs, a, b, h0, ha, hb => by
    have hc := h0 c List.mem_cons_self
    have hs : 0 ≤ cs.sum := sum_nonneg fun x hx => h0 x (List.mem_cons_of_mem _ hx)
    rw [List.sum_cons] at ha hb
    have ih := ltR_split cs (a.drop c.toNat) (b.drop c.toNat) (fun x hx => h0 x (List.mem_cons_of_mem _ hx)) (by rw [List.length_drop]; omega) (by rw [List.length_drop]; omega)
    show ltR (a.take c.toNat :: split cs (a.drop c.toNat)) (b.take c.toNat :: split cs (b.drop c.toNat)) = _
    rw [ltR_cons, ih]
    conv => rhs; rw [← List.take_append_drop c.toNat a, ← List.take_append_drop c.toNat b]
    rw [ltI_app _ _ _ _ (by rw [List.length_take, List.length_take]; omega)]
/-- THE PLAIN LAW -/
theorem main_eq (hp : Ok p) (h2 : Two p) : (answers p).map (split (counts p)) = due p := by
  have memA : ∀ {a : List Int}, a ∈ answers p ↔ ∃ o ∈ orders p (total p), a = flat (counts p) (done p o) := fun {a} => by
    rw [(answers_perm p).mem_iff, mem_told_orders hp h2]
  refine totR.uniq ?_ ?_ (due_le p)
  · refine (List.perm_ext_iff_of_nodup ?_ ?_).mpr fun y => ?_
    · have hn : (answers p).Nodup := (answers_perm p).nodup_iff.mpr (nodup_told _ _ _ List.nodup_nil)
      refine List.pairwise_map.mpr (hn.imp_of_mem fun {a b} ha hb hne e => hne ?_)
      obtain ⟨o, ho, rfl⟩ := memA.mp ha
      obtain ⟨o', ho', rfl⟩ := memA.mp hb
      rw [split_done ho, split_done ho'] at e
      rw [e]
    · exact (due_perm p).nodup_iff.mpr (nodup_found_fold _ _ List.nodup_nil)
    · rw [(due_perm p).mem_iff, mem_found, List.mem_map]
      constructor
      · rintro ⟨a, ha, rfl⟩
        obtain ⟨o, ho, rfl⟩ := memA.mp ha
        exact ⟨o, ho, split_done ho⟩
      · rintro ⟨o, ho, rfl⟩
        exact ⟨_, memA.mpr ⟨o, ho, rfl⟩, split_done ho⟩
  · refine List.pairwise_map.mpr ((answers_le p).imp_of_mem fun {a b} ha hb h => ?_)
    have la : ∀ {x : List Int}, x ∈ answers p → x.length = (counts p).sum.toNat := fun hx => told_len ((answers_perm p).mem_iff.mp hx)
    rw [ltR_split _ _ _ counts_nonneg (la hb) (la ha)]
    exact h
end
end KM
set_option Elab.async false
set_option linter.all false
set_option maxRecDepth 100000
set_option maxHeartbeats 1000000
namespace KM
open PySem PySem.Spec PyProof.Rows L2 DL
section
variable {c : Cn} {mg : Str → Option Value} {δ δ1 δ2 : DE} {ta tb te : TE} {B : Bx} {t u w : TS} {tt : TT} {d : D} {s s2 : Sl}
/-! ### what is drawn is a program -/
theorem total_set : ∀ (p : Prog) (i : Nat) (d : Deed), total (p.set i (p.getD i [] ++ [d])) ≤ total p + 1
  | [], i, d => by simp [total]
  | r :: p, 0, d => by
    show total ((r ++ [d]) :: p) ≤ total (r :: p) + 1
    unfold total
    rw [List.map_cons, List.map_cons, List.sum_cons, List.sum_cons, List.length_append]
    simp
    omega
  | r :: p, i + 1, d => by
    have := total_set p i d
    show total (r :: p.set i (p.getD i [] ++ [d])) ≤ total (r :: p) + 1
    unfold total at *
    rw [List.map_cons, List.map_cons, List.sum_cons, List.sum_cons]
    omega
theorem drawDeed_two (f : Bool) (a : Pile) (l : Int) (h : (drawDeed f a).1.ln = some l) : l = 0 ∨ l = 1 := by
  obtain ⟨h0, h1⟩ := draw_lt (a := (draw a (wsz f)).2) (m := 2) (by decide)
  rw [deed_of] at h
  have : l = (draw (draw a (wsz f)).2 2).1 := by
    split at h
    · cases h; rfl
    · split at h
      · cases h; rfl
      · cases h
  omega
theorem fstep_two (f : Bool) {b : Prog × Pile} (h : Two b.1) : Two (fstep f b).1 := fun r hr d hd l hl => by
  have hr : r ∈ b.1.set _ _ := hr
  rcases List.mem_or_eq_of_mem_set hr with z | z
  · exact h r z d hd l hl
  · rw [z] at hd
    rcases List.mem_append.mp hd with hd | hd
    · by_cases hi : (draw (drawDeed f b.2).2 b.1.length).1.toNat < b.1.length
      · rw [List.getD_eq_getElem?_getD, List.getElem?_eq_getElem hi] at hd
        exact h _ (List.getElem_mem hi) d hd l hl
      · rw [List.getD_eq_getElem?_getD, List.getElem?_eq_none (by omega)] at hd
        cases hd
    · rw [List.mem_singleton.mp hd] at hl
      exact drawDeed_two f b.2 l hl
theorem mkProg_ok (a : Pile) : Ok (mkProg a).1 ∧ Two (mkProg a).1 ∧ 1 ≤ (mkProg a).1.length ∧ (mkProg a).2.ns = a.ns ∧ a.k ≤ (mkProg a).2.k ∧ (mkProg a).2.k ≤ a.k + 21 := by
  obtain ⟨m0, m1⟩ := draw_lt (a := a) (m := 3) (by decide)
  obtain ⟨z0, z1⟩ := draw_lt (a := (draw a 3).2) (m := 7) (by decide)
  have hk : (draw (draw (draw a 3).2 7).2 3).2.k = a.k + 3 := by rw [draw_k, draw_k, draw_k]; omega
  have hns : (draw (draw (draw a 3).2 7).2 3).2.ns = a.ns := by rw [draw_ns, draw_ns, draw_ns]
  have e : mkProg a = fill (decide ((draw (draw (draw a 3).2 7).2 3).1 = 0)) (draw (draw a 3).2 7).1.toNat (List.replicate (1 + (draw a 3).1).toNat []) (draw (draw (draw a 3).2 7).2 3).2 := rfl
  rw [e]
  generalize (draw (draw (draw a 3).2 7).2 3).2 = a3 at hk hns
  generalize decide ((draw (draw (draw a 3).2 7).2 3).1 = 0) = f
  generalize (draw a 3).1 = m at m0 m1
  generalize (draw (draw a 3).2 7).1 = z at z0 z1
  have t0 : ∀ n : Nat, total (List.replicate n []) = 0 := fun n => by
    induction n with
    | zero => rfl
    | succ n ih =>
      rw [List.replicate_succ]
      show (0 + total (List.replicate n []) : Nat) = 0
      omega
  have t1 : Two (List.replicate (1 + m).toNat []) := fun r hr d hd => by rw [(List.mem_replicate.mp hr).2] at hd; cases hd
  have hP := foldl_P (fun b (_ : Nat) => fstep f b) (List.range z.toNat) (fun i b => b.1.length = (1 + m).toNat ∧ total b.1 ≤ i ∧ Two b.1 ∧ b.2.ns = a.ns ∧ b.2.k = a.k + 3 + 3 * (i : Int)) (List.replicate (1 + m).toNat [], a3)
    ⟨by rw [List.length_replicate], by rw [t0]; exact Nat.le_refl _, t1, hns, by simp; exact hk⟩
    fun i b x ⟨p1, p2, p3, p4, p5⟩ _ => ⟨by rw [fstep_len]; exact p1, Nat.le_trans (total_set _ _ _) (Nat.succ_le_succ p2), fstep_two f p3, by rw [fstep_ns]; exact p4, by rw [fstep_k, p5]; push_cast; omega⟩
  rw [fill_fold, List.length_range] at hP
  obtain ⟨p1, p2, p3, p4, p5⟩ := hP
  simp only at p1 p2 p3 p4 p5
  exact ⟨⟨by omega, by omega, fun r hr d hd l hl => by rcases p3 r hr d hd l hl with h | h <;> omega⟩, p3, by omega, p4, by omega, by omega⟩
theorem take_ok {p : Prog} (h : Ok p) (n : Nat) : Ok (p.take n) := by
  have tl : ∀ (p : Prog) (n : Nat), total (p.take n) ≤ total p := fun p => by
    induction p with
    | nil => intro n; simp
    | cons r p ih =>
      intro n
      cases n with
      | zero => simp [total]
      | succ n =>
        have := ih n
        rw [List.take_succ_cons]
        unfold total at *
        rw [List.map_cons, List.map_cons, List.sum_cons, List.sum_cons]
        omega
  exact ⟨by rw [List.length_take]; have := h.len; omega, Nat.le_trans (tl p n) h.tot, fun r hr => h.ln r (List.mem_of_mem_take hr)⟩
theorem take_two {p : Prog} (h : Two p) (n : Nat) : Two (p.take n) := fun r hr => h r (List.mem_of_mem_take hr)
/-! ### law -/
theorem due_small {p : Prog} (hp : Ok p) : (due p).length ≤ 1000 ∧ ∀ x ∈ due p, x.length ≤ 10 ∧ ∀ y ∈ x, y.length ≤ 10 := by
  refine ⟨by rw [(due_perm p).length_eq]; have := found_le hp; omega, fun x hx => ?_⟩
  obtain ⟨o, ho, rfl⟩ := mem_found.mp ((due_perm p).mem_iff.mp hx)
  obtain ⟨h1, h2⟩ := done_ok (p := p) (o := o)
  have := hp.len
  have := hp.tot
  have hl := orders_length ho
  exact ⟨by omega, fun y hy => by have := h2 y hy; omega⟩
theorem ev_outcomes {p : Prog} (hp : Ok p) (h2 : Two p) (h : Ev c te δ (dProg p) δ1) : Ev c (tCall (SpD c (R_plain_outcomes c)) [] E0 (tCons te tNil)) δ (.tup ((due p).map dR)) δ1 :=
  ev_call (eva_cons h eva_nil) ⟨p, hp, rfl, by rw [main_eq hp h2]⟩
theorem ev_due {p : Prog} (hp : Ok p) (h2 : Two p) (h1 : 1 ≤ p.length) (h : Ev c te δ (dProg p) δ1) : Ev c (tCall (SpD c (R__law_due c)) [] E0 (tCons te tNil)) δ (.lst ((due p).map dR)) δ1 :=
  ev_call (eva_cons h eva_nil) ⟨p, hp, h2, h1, rfl, rfl⟩
theorem ev_holds {p : Prog} (hp : Ok p) (h : Ev c ta δ (.tup ((due p).map dR)) δ1) (h' : Ev c tb δ1 (.lst ((due p).map dR)) δ2) : Ev c (tCall (SpD c (R__law_holds c)) [] E0 (tCons ta (tCons tb tNil))) δ (.bl true) δ2 :=
  ev_call (eva_cons h (eva_cons h' eva_nil)) ⟨due p, (due_small hp).1, (due_small hp).2, rfl, rfl⟩
theorem len_law : ∀ ds r, R_law c ds r → ds.length = 1 := by rintro _ _ ⟨ns, _, rfl, _⟩; rfl
theorem run_law (c : Cn) {mg : Str → Option Value} (T : TX c.w c.K mg) : ∀ ds r, R_law c ds r → RunsTo c (t_law c) 5 ds (.d r) := by
  rintro _ _ ⟨ns, hns, rfl, rfl⟩
  have hm1 := mkProg_ok ⟨ns, 0, 0⟩
  have r1 : R__law_program c (Pile.sl ⟨ns, 0, 0⟩) [] (mkProg ⟨ns, 0, 0⟩).2.sl (dProg (mkProg ⟨ns, 0, 0⟩).1) := ⟨⟨ns, 0, 0⟩, by show (0 : Int) ≤ 0; decide, by show (0 : Int) ≤ 500; decide, by show ns.length ≤ 1000; omega, rfl, rfl, rfl, rfl⟩
  generalize mkProg ⟨ns, 0, 0⟩ = q1 at hm1 r1
  obtain ⟨p, a1⟩ := q1
  obtain ⟨o1, o2, o3, o4, o5, o6⟩ := hm1
  simp only at o1 o2 o3 o4 o5 o6 r1
  have hm2 := mkProg_ok a1
  have r2 : R__law_program c a1.sl [] (mkProg a1).2.sl (dProg (mkProg a1).1) := ⟨a1, by omega, by omega, by rw [o4]; omega, rfl, rfl, rfl, rfl⟩
  generalize mkProg a1 = q2 at hm2 r2
  obtain ⟨q, a2⟩ := q2
  obtain ⟨u1, u2, u3, _⟩ := hm2
  simp only at u1 u2 u3 r2
  have ht1 := take_ok u1 2
  have ht2 := take_two u2 2
  have ht3 : 1 ≤ (q.take 2).length := by rw [List.length_take]; omega
  have cut : ∀ {δ : DE}, δ[3]? = some (.d (dProg q)) → Ev c (tSl (rSlA c.K) (tVar 3) tNoPart (tPart (tC (.int 2)))) δ (dProg (q.take 2)) δ := fun h => by
    refine ev_is (ev_slT (ds := q.map dRow) (ev_var h) evo_no (evo_some ev_int)) ?_
    unfold DL.cutD
    have e1 : HT.sIx (q.map dRow).length (q.map dRow).length (some ((2 : Nat) : Int)) = min 2 (q.map dRow).length := HT.sIx_nat _ _ _
    have e2 : HT.sIx (q.map dRow).length 0 none = 0 := rfl
    show D.tup (((q.map dRow).drop (HT.sIx (q.map dRow).length 0 none)).take (HT.sIx (q.map dRow).length (q.map dRow).length (some ((2 : Nat) : Int)) - HT.sIx (q.map dRow).length 0 none)) = D.tup ((q.take 2).map dRow)
    rw [e1, e2, List.drop_zero, Nat.sub_zero, List.map_take]
    congr 1
    by_cases h2 : 2 ≤ (q.map dRow).length
    · rw [Nat.min_eq_left h2]
    · rw [Nat.min_eq_right (by omega), List.take_of_length_le (Nat.le_refl _), List.take_of_length_le (by omega)]
  refine runs_rt (δ := [.d (.lst (ns.map .int)), .un, .un, .un, .un]) rfl fun B hM => rr_seq (δ1 := [.d (.lst (ns.map .int)), Pile.sl ⟨ns, 0, 0⟩, .un, .un, .un]) (run_to (run_asgN (evn_lst (eva_cons (ev_lstN (evn_listL (eva_cons (ev_var rfl) eva_nil))) (eva_cons ev_int (eva_cons ev_int eva_nil))) (by simp))) rfl)
    (rr_seq (δ1 := [.d (.lst (ns.map .int)), a1.sl, .d (dProg p), .un, .un]) (run_to (run_asg (ev_callM rfl rfl eva_nil r1)) rfl) (rr_seq (δ1 := [.d (.lst (ns.map .int)), a2.sl, .d (dProg p), .d (dProg q), .un]) (run_to (run_asg (ev_callM rfl rfl eva_nil r2)) rfl)
    (rr_seq (δ1 := [.d (.lst (ns.map .int)), a2.sl, .d (dProg p), .d (dProg q), .d (.lst ((due p).map dR))]) (run_to (run_asg (ev_due o1 o2 o3 (ev_var rfl))) rfl)
    (rr_no (evt_is (evt_or (b := false) (evt_T (ev_isNB (b := true) (ev_call (eva_cons (ev_var rfl) eva_nil) ⟨p, o1, rfl, rfl⟩) ev_bl)) fun _ => evt_not (evt_B (ev_holds o1 (ev_outcomes o1 o2 (ev_var rfl)) (ev_var rfl)))) rfl)
    (rr_no (evt_is (evt_not (evt_B (ev_holds ht1 (ev_outcomes ht1 ht2 (cut rfl)) (ev_due ht1 ht2 ht3 (cut rfl))))) rfl) (rr_ret (ev_holds o1 (ev_outcomes o1 o2 (ev_var rfl)) (ev_var rfl))))))))
end
end KM
set_option Elab.async false
set_option linter.all false
set_option maxRecDepth 100000
set_option maxHeartbeats 1000000
/-! K71d (printed by gen.py): each def keeps its promise. -/
namespace KM
open PySem PySem.Spec PyProof.Rows L2 DL
theorem kd_KINDS {w : World} {K : PySem.W.Frag} {mg : Str → Option Value} (T : TX w K mg) : KDict K w (He.ga K "KINDS") (T.says.tab 0).choose (T.says.tab 0).choose_spec.choose := (T.says.tab 0).choose_spec.choose_spec
section
variable {P : Program} {w : World} {K : PySem.W.Frag} {mg : Str → Option Value} {base : Heap}
theorem F_is_integer (T : TX w K mg) : FunD K "is_integer" "is_integer" (defArgs s_is_integer) (defBody s_is_integer) (defScope s_is_integer) [] [] (He.fAd K ("is_integer", none)) (fdOf K ("is_integer", none)) := T.def_ 0 (d := d_is_integer)
theorem F_is_number (T : TX w K mg) : FunD K "is_number" "is_number" (defArgs s_is_number) (defBody s_is_number) (defScope s_is_number) [] [] (He.fAd K ("is_number", none)) (fdOf K ("is_number", none)) := T.def_ 1 (d := d_is_number)
theorem F_lines_of (T : TX w K mg) : FunD K "lines_of" "lines_of" (defArgs s_lines_of) (defBody s_lines_of) (defScope s_lines_of) [] [] (He.fAd K ("lines_of", none)) (fdOf K ("lines_of", none)) := T.def_ 2 (d := d_lines_of)
theorem F_write_numbers (T : TX w K mg) : FunD K "write_numbers" "write_numbers" (defArgs s_write_numbers) (defBody s_write_numbers) (defScope s_write_numbers) [] [] (He.fAd K ("write_numbers", none)) (fdOf K ("write_numbers", none)) := T.def_ 3 (d := d_write_numbers)
theorem F_read_counts (T : TX w K mg) : FunD K "read_counts" "read_counts" (defArgs s_read_counts) (defBody s_read_counts) (defScope s_read_counts) [] [] (He.fAd K ("read_counts", none)) (fdOf K ("read_counts", none)) := T.def_ 4 (d := d_read_counts)
theorem F_deed_count (T : TX w K mg) : FunD K "deed_count" "deed_count" (defArgs s_deed_count) (defBody s_deed_count) (defScope s_deed_count) [] [] (He.fAd K ("deed_count", none)) (fdOf K ("deed_count", none)) := T.def_ 5 (d := d_deed_count)
theorem F_numbered (T : TX w K mg) : FunD K "numbered" "numbered" (defArgs s_numbered) (defBody s_numbered) (defScope s_numbered) [] [] (He.fAd K ("numbered", none)) (fdOf K ("numbered", none)) := T.def_ 6 (d := d_numbered)
theorem F_rows_of (T : TX w K mg) : FunD K "rows_of" "rows_of" (defArgs s_rows_of) (defBody s_rows_of) (defScope s_rows_of) [] [] (He.fAd K ("rows_of", none)) (fdOf K ("rows_of", none)) := T.def_ 7 (d := d_rows_of)
theorem F_PlainPlan_init (T : TX w K mg) : FunD K "__init__" "PlainPlan.__init__" (defArgs s_PlainPlan_init) (defBody s_PlainPlan_init) (defScope s_PlainPlan_init) [] [] (He.fAd K ("PlainPlan", some "__init__")) (fdOf K ("PlainPlan", some "__init__")) := T.def_ 8 (d := d_PlainPlan_init)
theorem F_PlainPlan_first_stand (T : TX w K mg) : FunD K "first_stand" "PlainPlan.first_stand" (defArgs s_PlainPlan_first_stand) (defBody s_PlainPlan_first_stand) (defScope s_PlainPlan_first_stand) [] [] (He.fAd K ("PlainPlan", some "first_stand")) (fdOf K ("PlainPlan", some "first_stand")) := T.def_ 9 (d := d_PlainPlan_first_stand)
theorem F_PlainPlan_can_go_on (T : TX w K mg) : FunD K "can_go_on" "PlainPlan.can_go_on" (defArgs s_PlainPlan_can_go_on) (defBody s_PlainPlan_can_go_on) (defScope s_PlainPlan_can_go_on) [] [] (He.fAd K ("PlainPlan", some "can_go_on")) (fdOf K ("PlainPlan", some "can_go_on")) := T.def_ 10 (d := d_PlainPlan_can_go_on)
theorem F_PlainPlan_next_deed (T : TX w K mg) : FunD K "next_deed" "PlainPlan.next_deed" (defArgs s_PlainPlan_next_deed) (defBody s_PlainPlan_next_deed) (defScope s_PlainPlan_next_deed) [] [] (He.fAd K ("PlainPlan", some "next_deed")) (fdOf K ("PlainPlan", some "next_deed")) := T.def_ 11 (d := d_PlainPlan_next_deed)
theorem F_PlainPlan_memory_has (T : TX w K mg) : FunD K "memory_has" "PlainPlan.memory_has" (defArgs s_PlainPlan_memory_has) (defBody s_PlainPlan_memory_has) (defScope s_PlainPlan_memory_has) [] [] (He.fAd K ("PlainPlan", some "memory_has")) (fdOf K ("PlainPlan", some "memory_has")) := T.def_ 12 (d := d_PlainPlan_memory_has)
theorem F_PlainPlan_behind (T : TX w K mg) : FunD K "behind" "PlainPlan.behind" (defArgs s_PlainPlan_behind) (defBody s_PlainPlan_behind) (defScope s_PlainPlan_behind) [] [] (He.fAd K ("PlainPlan", some "behind")) (fdOf K ("PlainPlan", some "behind")) := T.def_ 13 (d := d_PlainPlan_behind)
theorem F_plain_answers (T : TX w K mg) : FunD K "plain_answers" "plain_answers" (defArgs s_plain_answers) (defBody s_plain_answers) (defScope s_plain_answers) [] [] (He.fAd K ("plain_answers", none)) (fdOf K ("plain_answers", none)) := T.def_ 14 (d := d_plain_answers)
theorem F_is_deed_of_program (T : TX w K mg) : FunD K "is_deed_of_program" "is_deed_of_program" (defArgs s_is_deed_of_program) (defBody s_is_deed_of_program) (defScope s_is_deed_of_program) [] [] (He.fAd K ("is_deed_of_program", none)) (fdOf K ("is_deed_of_program", none)) := T.def_ 15 (d := d_is_deed_of_program)
theorem F_is_program (T : TX w K mg) : FunD K "is_program" "is_program" (defArgs s_is_program) (defBody s_is_program) (defScope s_is_program) [] [] (He.fAd K ("is_program", none)) (fdOf K ("is_program", none)) := T.def_ 16 (d := d_is_program)
theorem F_check_program (T : TX w K mg) : FunD K "check_program" "check_program" (defArgs s_check_program) (defBody s_check_program) (defScope s_check_program) [] [] (He.fAd K ("check_program", none)) (fdOf K ("check_program", none)) := T.def_ 17 (d := d_check_program)
theorem F_plain_outcomes (T : TX w K mg) : FunD K "plain_outcomes" "plain_outcomes" (defArgs s_plain_outcomes) (defBody s_plain_outcomes) (defScope s_plain_outcomes) [] [] (He.fAd K ("plain_outcomes", none)) (fdOf K ("plain_outcomes", none)) := T.def_ 18 (d := d_plain_outcomes)
theorem F__law_draw (T : TX w K mg) : FunD K "_law_draw" "_law_draw" (defArgs s__law_draw) (defBody s__law_draw) (defScope s__law_draw) [] [] (He.fAd K ("_law_draw", none)) (fdOf K ("_law_draw", none)) := T.def_ 19 (d := d__law_draw)
theorem F__law_program (T : TX w K mg) : FunD K "_law_program" "_law_program" (defArgs s__law_program) (defBody s__law_program) (defScope s__law_program) [] [] (He.fAd K ("_law_program", none)) (fdOf K ("_law_program", none)) := T.def_ 20 (d := d__law_program)
theorem F__law_orders (T : TX w K mg) : FunD K "_law_orders" "_law_orders" (defArgs s__law_orders) (defBody s__law_orders) (defScope s__law_orders) [] [] (He.fAd K ("_law_orders", none)) (fdOf K ("_law_orders", none)) := T.def_ 21 (d := d__law_orders)
theorem F__law_done (T : TX w K mg) : FunD K "_law_done" "_law_done" (defArgs s__law_done) (defBody s__law_done) (defScope s__law_done) [] [] (He.fAd K ("_law_done", none)) (fdOf K ("_law_done", none)) := T.def_ 22 (d := d__law_done)
theorem F__law_due (T : TX w K mg) : FunD K "_law_due" "_law_due" (defArgs s__law_due) (defBody s__law_due) (defScope s__law_due) [] [] (He.fAd K ("_law_due", none)) (fdOf K ("_law_due", none)) := T.def_ 23 (d := d__law_due)
theorem F__law_holds (T : TX w K mg) : FunD K "_law_holds" "_law_holds" (defArgs s__law_holds) (defBody s__law_holds) (defScope s__law_holds) [] [] (He.fAd K ("_law_holds", none)) (fdOf K ("_law_holds", none)) := T.def_ 24 (d := d__law_holds)
theorem F_law (T : TX w K mg) : FunD K "law" "law" (defArgs s_law) (defBody s_law) (defScope s_law) [] [] (He.fAd K ("law", none)) (fdOf K ("law", none)) := T.def_ 25 (d := d_law)
theorem b_is_integer (T : TX w K mg) : Binds K (fdOf K ("is_integer", none)) ["value"] [] := (F_is_integer T).bindsN fun _ _ _ _ _ _ us hl => match us, hl with | [_], _ => rfl
theorem ok_is_integer (T : TX w K mg) : FnOk P w K mg base CX0 1 (He.fAd K ("is_integer", none)) (fdOf K ("is_integer", none)) ["value"] (SpD ⟨P, w, K⟩ (R_is_integer ⟨P, w, K⟩)) := by
  refine (F_is_integer T).ok sc_is_integer (fun vs H Q E h => lenD (len_is_integer) h) (fun cdv A outer s H vs Q E hr h => ?_)
  have hu65 := hu65_of hr
  have hu20 := hu20_of hr
  have hu1 := hu_of hr
  refine ⟨t_is_integer ⟨P, w, K⟩, PSs.nox ?_, useD (N := ["value"]) (leD len_is_integer (by decide)) (run_is_integer ⟨P, w, K⟩ T) vs H Q E h⟩
  exact pss_one (ps_ret (pe_and (pe_callB call_isi rfl (T.free 1) bt_isinstance (pa_cons (pv 0) (pa_cons (pe_bltn rfl (T.free 0) bt_int rfl) pa_nil))) (pe_one (pe_not (pe_callB call_isi rfl (T.free 1) bt_isinstance (pa_cons (pv 0) (pa_cons (pe_bltn rfl (T.free 2) bt_bool rfl) pa_nil)))))))
theorem b_is_number (T : TX w K mg) : Binds K (fdOf K ("is_number", none)) ["value"] [] := (F_is_number T).bindsN fun _ _ _ _ _ _ us hl => match us, hl with | [_], _ => rfl
theorem ok_is_number (T : TX w K mg) : FnOk P w K mg base CX0 2 (He.fAd K ("is_number", none)) (fdOf K ("is_number", none)) ["value"] (SpD ⟨P, w, K⟩ (R_is_number ⟨P, w, K⟩)) := by
  refine (F_is_number T).ok sc_is_number (fun vs H Q E h => lenD (len_is_number) h) (fun cdv A outer s H vs Q E hr h => ?_)
  have hu65 := hu65_of hr
  have hu20 := hu20_of hr
  have hu1 := hu_of hr
  refine ⟨t_is_number ⟨P, w, K⟩, PSs.nox ?_, useD (N := ["value"]) (leD len_is_number (by decide)) (run_is_number ⟨P, w, K⟩ T) vs H Q E h⟩
  exact pss_one (ps_ret (pe_and (pe_call (ok_is_integer T) (hr.mono (by decide)) rfl (T.glo 3) (F_is_integer T).kp (b_is_integer T) .nil pass0 (pa_cons (pv 0) pa_nil)) (pe_one (pe_cmpR op_ge (pv 0) pe_int (nomark _)))))
theorem b_lines_of (T : TX w K mg) : Binds K (fdOf K ("lines_of", none)) ["program"] [] := (F_lines_of T).bindsN fun _ _ _ _ _ _ us hl => match us, hl with | [_], _ => rfl
theorem ok_lines_of (T : TX w K mg) : FnOk P w K mg base CX0 1 (He.fAd K ("lines_of", none)) (fdOf K ("lines_of", none)) ["program"] (SpD ⟨P, w, K⟩ (R_lines_of ⟨P, w, K⟩)) := by
  refine (F_lines_of T).ok sc_lines_of (fun vs H Q E h => lenD (len_lines_of) h) (fun cdv A outer s H vs Q E hr h => ?_)
  have hu65 := hu65_of hr
  have hu20 := hu20_of hr
  have hu1 := hu_of hr
  refine ⟨t_lines_of ⟨P, w, K⟩, PSs.nox ?_, useD (N := ["program", "told", "row", "deed"]) (leD len_lines_of (by decide)) (run_lines_of ⟨P, w, K⟩ T) vs H Q E h⟩
  exact pss_cons (ps_set (i := 1) sc_lines_of.nd rfl (by first | exact Or.inl rfl | exact Or.inr rfl) pe_dnewK) (pss_cons (ps_for PassesOwn.never rfl (pi_tup (pv 0)) (pg_name (i := 2) sc_lines_of.nd rfl (by first | exact Or.inl rfl | exact Or.inr rfl)) (pss_one (ps_for PassesOwn.never rfl (pi_tup (pv 2)) (pg_name (i := 3) sc_lines_of.nd rfl (by first | exact Or.inl rfl | exact Or.inr rfl)) (pss_one (ps_if (pt_cmpR op_eq (pe_callB call_len rfl (T.free 4) bt_len (pa_cons (pv 3) pa_nil)) pe_int (nomark _)) (pss_one (ps_dput hu1 (pv 1) (pe_ix ix_tup (pv 3) pe_int (fun _ _ => rfl)) pe_bl rfl)) pss_nil))))) (pss_one (ps_ret (pe_callTy cr_tupOf rfl (T.free 6) bt_tuple (pa_cons (pe_callB (cr_sortDI rfl) rfl (T.free 5) bt_sorted (pa_cons (pv 1) pa_nil)) pa_nil)))))
theorem b_write_numbers (T : TX w K mg) : Binds K (fdOf K ("write_numbers", none)) ["program"] [] := (F_write_numbers T).bindsN fun _ _ _ _ _ _ us hl => match us, hl with | [_], _ => rfl
theorem ok_write_numbers (T : TX w K mg) : FnOk P w K mg base CX0 1 (He.fAd K ("write_numbers", none)) (fdOf K ("write_numbers", none)) ["program"] (SpD ⟨P, w, K⟩ (R_write_numbers ⟨P, w, K⟩)) := by
  refine (F_write_numbers T).ok sc_write_numbers (fun vs H Q E h => lenD (len_write_numbers) h) (fun cdv A outer s H vs Q E hr h => ?_)
  have hu65 := hu65_of hr
  have hu20 := hu20_of hr
  have hu1 := hu_of hr
  refine ⟨t_write_numbers ⟨P, w, K⟩, PSs.nox ?_, useD (N := ["program", "rows", "last", "row", "numbers", "deed"]) (leD len_write_numbers (by decide)) (run_write_numbers ⟨P, w, K⟩ T) vs H Q E h⟩
  exact pss_cons (ps_set (i := 1) sc_write_numbers.nd rfl (by first | exact Or.inl rfl | exact Or.inr rfl) (pe_lst pa_nil)) (pss_cons (ps_set (i := 2) sc_write_numbers.nd rfl (by first | exact Or.inl rfl | exact Or.inr rfl) pe_int) (pss_cons (ps_for PassesOwn.never rfl (pi_tup (pv 0)) (pg_name (i := 3) sc_write_numbers.nd rfl (by first | exact Or.inl rfl | exact Or.inr rfl)) (pss_cons (ps_set (i := 4) sc_write_numbers.nd rfl (by first | exact Or.inl rfl | exact Or.inr rfl) (pe_lst pa_nil)) (pss_cons (ps_for PassesOwn.never rfl (pi_tup (pv 3)) (pg_name (i := 5) sc_write_numbers.nd rfl (by first | exact Or.inl rfl | exact Or.inr rfl)) (pss_one (ps_if (pt_cmpR op_eq (pe_ix ix_tup (pv 5) pe_int (fun _ _ => rfl)) pe_str (nomark _)) (pss_cons (ps_aug (i := 2) sc_write_numbers.nd rfl (by first | exact Or.inl rfl | exact Or.inr rfl) pe_int ip_add) (pss_one (ps_expr (pe_bm PySem.F.plainAttrs_list PySem.F.slot_list_append PySem.F.type_list_append mt_append (pv 4) (pa_cons (pv 2) pa_nil))))) (pss_one (ps_expr (pe_bm PySem.F.plainAttrs_list PySem.F.slot_list_append PySem.F.type_list_append mt_append (pv 4) (pa_cons pe_int pa_nil))))))) (pss_one (ps_expr (pe_bm PySem.F.plainAttrs_list PySem.F.slot_list_append PySem.F.type_list_append mt_append (pv 1) (pa_cons (pe_callTy cr_tupOf rfl (T.free 6) bt_tuple (pa_cons (pv 4) pa_nil)) pa_nil))))))) (pss_one (ps_ret (pe_callTy cr_tupOf rfl (T.free 6) bt_tuple (pa_cons (pv 1) pa_nil))))))
theorem b_read_counts (T : TX w K mg) : Binds K (fdOf K ("read_counts", none)) ["program"] [] := (F_read_counts T).bindsN fun _ _ _ _ _ _ us hl => match us, hl with | [_], _ => rfl
theorem ok_read_counts (T : TX w K mg) : FnOk P w K mg base CX0 1 (He.fAd K ("read_counts", none)) (fdOf K ("read_counts", none)) ["program"] (SpD ⟨P, w, K⟩ (R_read_counts ⟨P, w, K⟩)) := by
  refine (F_read_counts T).ok sc_read_counts (fun vs H Q E h => lenD (len_read_counts) h) (fun cdv A outer s H vs Q E hr h => ?_)
  have hu65 := hu65_of hr
  have hu20 := hu20_of hr
  have hu1 := hu_of hr
  refine ⟨t_read_counts ⟨P, w, K⟩, PSs.nox ?_, useD (N := ["program", "deed", "row"]) (leD len_read_counts (by decide)) (run_read_counts ⟨P, w, K⟩ T) vs H Q E h⟩
  exact pss_one (ps_ret (pe_callTy cr_tupOf rfl (T.free 6) bt_tuple (pa_cons (pe_lc (own := [("row", 2)]) (g := gName 2) (tt := tYes) rfl sc_read_counts.nd (pi_tup (pv 0)) (blkOk_by (N := ["program", "deed", "row"]) (sc := defScope s_read_counts) (by decide +kernel)) (fun _ _ _ _ _ => pg_name (i := 2) sc_read_counts.nd rfl (Or.inl rfl)) (fun _ _ _ _ _ => pts_nil) (fun _ _ _ _ _ => pe_callB call_len rfl (T.free 4) bt_len (pa_cons (pe_lc (own := [("deed", 1)]) (g := gName 1) (tt := tTest (tOp rEq (tOp (rIxT (⟨P, w, K⟩ : Cn).K) (tVar 1) (tC (.int 0))) (tC (.str "read")))) rfl sc_read_counts.nd (pi_tup (pv 2)) (blkOk_by (N := ["program", "deed", "row"]) (sc := (relS _ (defScope s_read_counts))) (by decide +kernel)) (fun _ _ _ _ _ => pg_name (i := 1) sc_read_counts.nd rfl (Or.inl rfl)) (fun _ _ _ _ _ => pts_one (pt_cmpR op_eq (pe_ix ix_tup (pv 1) pe_int (fun _ _ => rfl)) pe_str (nomark _))) (fun _ _ _ _ _ => pv 1)) pa_nil))) pa_nil)))
theorem b_deed_count (T : TX w K mg) : Binds K (fdOf K ("deed_count", none)) ["program"] [] := (F_deed_count T).bindsN fun _ _ _ _ _ _ us hl => match us, hl with | [_], _ => rfl
theorem ok_deed_count (T : TX w K mg) : FnOk P w K mg base CX0 1 (He.fAd K ("deed_count", none)) (fdOf K ("deed_count", none)) ["program"] (SpD ⟨P, w, K⟩ (R_deed_count ⟨P, w, K⟩)) := by
  refine (F_deed_count T).ok sc_deed_count (fun vs H Q E h => lenD (len_deed_count) h) (fun cdv A outer s H vs Q E hr h => ?_)
  have hu65 := hu65_of hr
  have hu20 := hu20_of hr
  have hu1 := hu_of hr
  refine ⟨t_deed_count ⟨P, w, K⟩, PSs.nox ?_, useD (N := ["program", "row"]) (leD len_deed_count (by decide)) (run_deed_count ⟨P, w, K⟩ T) vs H Q E h⟩
  exact pss_one (ps_ret (pe_callB (cr_sum rfl) rfl (T.free 7) bt_sum (pa_cons (pe_lc (own := [("row", 1)]) (g := gName 1) (tt := tYes) rfl sc_deed_count.nd (pi_tup (pv 0)) (blkOk_by (N := ["program", "row"]) (sc := defScope s_deed_count) (by decide +kernel)) (fun _ _ _ _ _ => pg_name (i := 1) sc_deed_count.nd rfl (Or.inl rfl)) (fun _ _ _ _ _ => pts_nil) (fun _ _ _ _ _ => pe_callB call_len rfl (T.free 4) bt_len (pa_cons (pv 1) pa_nil))) pa_nil)))
theorem b_numbered (T : TX w K mg) : Binds K (fdOf K ("numbered", none)) ["program"] [] := (F_numbered T).bindsN fun _ _ _ _ _ _ us hl => match us, hl with | [_], _ => rfl
theorem ok_numbered (T : TX w K mg) : FnOk P w K mg base CX0 2 (He.fAd K ("numbered", none)) (fdOf K ("numbered", none)) ["program"] (SpD ⟨P, w, K⟩ (R_numbered ⟨P, w, K⟩)) := by
  refine (F_numbered T).ok sc_numbered (fun vs H Q E h => lenD (len_numbered) h) (fun cdv A outer s H vs Q E hr h => ?_)
  have hu65 := hu65_of hr
  have hu20 := hu20_of hr
  have hu1 := hu_of hr
  refine ⟨t_numbered ⟨P, w, K⟩, PSs.nox ?_, useD (N := ["program", "places", "at", "line", "writes", "rows", "reads", "row", "numbers", "made", "deed", "number", "kind"]) (leD len_numbered (by decide)) (run_numbered ⟨P, w, K⟩ T) vs H Q E h⟩
  exact pss_cons (ps_setDg emp_dk (i := 1) (own := [("at", 2), ("line", 3)]) (g := gTup (⟨P, w, K⟩ : Cn).K 2 (gCons (gName 2) (gCons (gName 3) gNil))) (tt := tYes) rfl sc_numbered.nd rfl rfl rfl (pi_enumT rfl (T.free 9) (pa_cons (pe_call (ok_lines_of T) (hr.mono (by decide)) rfl (T.glo 8) (F_lines_of T).kp (b_lines_of T) .nil pass0 (pa_cons (pv 0) pa_nil)) pa_nil)) (blkOk_by (N := ["program", "places", "at", "line", "writes", "rows", "reads", "row", "numbers", "made", "deed", "number", "kind"]) (sc := defScope s_numbered) (by decide +kernel)) (fun _ _ _ _ _ => ds_K) (fun _ _ _ _ _ => pg_tup rfl (pgs_cons (pg_name (i := 2) sc_numbered.nd rfl (Or.inl rfl)) (pgs_cons (pg_name (i := 3) sc_numbered.nd rfl (Or.inl rfl)) pgs_nil))) (fun _ _ _ _ _ => pts_nil) (fun _ _ _ _ _ => pv 3) (fun _ _ _ _ _ => pv 2)) (pss_cons (ps_set (i := 4) sc_numbered.nd rfl (by first | exact Or.inl rfl | exact Or.inr rfl) (pe_call (ok_write_numbers T) (hr.mono (by decide)) rfl (T.glo 10) (F_write_numbers T).kp (b_write_numbers T) .nil pass0 (pa_cons (pv 0) pa_nil))) (pss_cons (ps_set (i := 5) sc_numbered.nd rfl (by first | exact Or.inl rfl | exact Or.inr rfl) (pe_lst pa_nil)) (pss_cons (ps_set (i := 6) sc_numbered.nd rfl (by first | exact Or.inl rfl | exact Or.inr rfl) pe_int) (pss_cons (ps_for PassesOwn.never rfl (RZ.pi_zipA rfl (T.free 11) (pa_cons (pv 0) (pa_cons (pv 4) pa_nil))) (pg_tup rfl (pgs_cons (pg_name (i := 7) sc_numbered.nd rfl (by first | exact Or.inl rfl | exact Or.inr rfl)) (pgs_cons (pg_name (i := 8) sc_numbered.nd rfl (by first | exact Or.inl rfl | exact Or.inr rfl)) pgs_nil))) (pss_cons (ps_set (i := 9) sc_numbered.nd rfl (by first | exact Or.inl rfl | exact Or.inr rfl) (pe_lst pa_nil)) (pss_cons (ps_for PassesOwn.never rfl (RZ.pi_zipA rfl (T.free 11) (pa_cons (pv 7) (pa_cons (pv 8) pa_nil))) (pg_tup rfl (pgs_cons (pg_name (i := 10) sc_numbered.nd rfl (by first | exact Or.inl rfl | exact Or.inr rfl)) (pgs_cons (pg_name (i := 11) sc_numbered.nd rfl (by first | exact Or.inl rfl | exact Or.inr rfl)) pgs_nil))) (pss_cons (ps_set (i := 12) sc_numbered.nd rfl (by first | exact Or.inl rfl | exact Or.inr rfl) (pe_kd (kd_KINDS T) (pe_glob rfl (T.glo 12) rfl) (pe_ix ix_tup (pv 10) pe_int (fun _ _ => rfl)) (fun _ _ => rfl))) (pss_one (ps_if (pt_cmpR op_eq (pv 12) (pe_glob rfl (T.int 13).choose_spec ⟨_, rfl⟩) (nomark _)) (pss_one (ps_expr (pe_bm PySem.F.plainAttrs_list PySem.F.slot_list_append PySem.F.type_list_append mt_append (pv 9) (pa_cons (pe_tup (pa_cons (pv 12) (pa_cons (pe_un un_neg pe_int) (pa_cons (pe_un un_neg pe_int) pa_nil)))) pa_nil)))) (pss_one (ps_if (pt_cmpR op_eq (pv 12) (pe_glob rfl (T.int 14).choose_spec ⟨_, rfl⟩) (nomark _)) (pss_one (ps_expr (pe_bm PySem.F.plainAttrs_list PySem.F.slot_list_append PySem.F.type_list_append mt_append (pv 9) (pa_cons (pe_tup (pa_cons (pv 12) (pa_cons (pe_dget hu1 (pv 1) (pe_ix ix_tup (pv 10) pe_int (fun _ _ => rfl)) (fun _ _ => rfl)) (pa_cons (pv 11) pa_nil)))) pa_nil)))) (pss_cons (ps_expr (pe_bm PySem.F.plainAttrs_list PySem.F.slot_list_append PySem.F.type_list_append mt_append (pv 9) (pa_cons (pe_tup (pa_cons (pv 12) (pa_cons (pe_dget hu1 (pv 1) (pe_ix ix_tup (pv 10) pe_int (fun _ _ => rfl)) (fun _ _ => rfl)) (pa_cons (pv 6) pa_nil)))) pa_nil))) (pss_one (ps_aug (i := 6) sc_numbered.nd rfl (by first | exact Or.inl rfl | exact Or.inr rfl) pe_int ip_add))))))))) (pss_one (ps_expr (pe_bm PySem.F.plainAttrs_list PySem.F.slot_list_append PySem.F.type_list_append mt_append (pv 5) (pa_cons (pe_callTy cr_tupOf rfl (T.free 6) bt_tuple (pa_cons (pv 9) pa_nil)) pa_nil))))))) (pss_one (ps_ret (pe_callTy cr_tupOf rfl (T.free 6) bt_tuple (pa_cons (pv 5) pa_nil))))))))
theorem b_rows_of (T : TX w K mg) : Binds K (fdOf K ("rows_of", none)) ["counts", "answers"] [] := (F_rows_of T).bindsN fun _ _ _ _ _ _ us hl => match us, hl with | [_, _], _ => rfl
theorem ok_rows_of (T : TX w K mg) : FnOk P w K mg base CX0 1 (He.fAd K ("rows_of", none)) (fdOf K ("rows_of", none)) ["counts", "answers"] (SpD ⟨P, w, K⟩ (R_rows_of ⟨P, w, K⟩)) := by
  refine (F_rows_of T).ok sc_rows_of (fun vs H Q E h => lenD (len_rows_of) h) (fun cdv A outer s H vs Q E hr h => ?_)
  have hu65 := hu65_of hr
  have hu20 := hu20_of hr
  have hu1 := hu_of hr
  refine ⟨t_rows_of ⟨P, w, K⟩, PSs.nox ?_, useD (N := ["counts", "answers", "rows", "at", "many"]) (leD len_rows_of (by decide)) (run_rows_of ⟨P, w, K⟩ T) vs H Q E h⟩
  exact pss_cons (ps_set (i := 2) sc_rows_of.nd rfl (by first | exact Or.inl rfl | exact Or.inr rfl) (pe_lst pa_nil)) (pss_cons (ps_set (i := 3) sc_rows_of.nd rfl (by first | exact Or.inl rfl | exact Or.inr rfl) pe_int) (pss_cons (ps_for PassesOwn.never rfl (pi_tup (pv 0)) (pg_name (i := 4) sc_rows_of.nd rfl (by first | exact Or.inl rfl | exact Or.inr rfl)) (pss_cons (ps_expr (pe_bm PySem.F.plainAttrs_list PySem.F.slot_list_append PySem.F.type_list_append mt_append (pv 2) (pa_cons (pe_callTy cr_tupOf rfl (T.free 6) bt_tuple (pa_cons (pe_slice sl_tupA (pv 1) (po_some (pv 3)) (po_some (pe_op op_add (pv 3) (pv 4)))) pa_nil)) pa_nil))) (pss_one (ps_aug (i := 3) sc_rows_of.nd rfl (by first | exact Or.inl rfl | exact Or.inr rfl) (pv 4) ip_add)))) (pss_one (ps_ret (pe_callTy cr_tupOf rfl (T.free 6) bt_tuple (pa_cons (pv 2) pa_nil))))))
theorem b_PlainPlan_init (T : TX w K mg) : Binds K (fdOf K ("PlainPlan", some "__init__")) ["self", "program"] [] := (F_PlainPlan_init T).bindsN fun _ _ _ _ _ _ us hl => match us, hl with | [_, _], _ => rfl
theorem ok_PlainPlan_init (T : TX w K mg) : FnOk P w K mg base CX0 3 (He.fAd K ("PlainPlan", some "__init__")) (fdOf K ("PlainPlan", some "__init__")) ["self", "program"] (SpM ⟨P, w, K⟩ (R_PlainPlan_init ⟨P, w, K⟩)) := by
  refine (F_PlainPlan_init T).ok sc_PlainPlan_init (fun vs H Q E h => lenM (len_PlainPlan_init) h) (fun cdv A outer s H vs Q E hr h => ?_)
  have hu65 := hu65_of hr
  have hu20 := hu20_of hr
  have hu1 := hu_of hr
  refine ⟨t_PlainPlan_init ⟨P, w, K⟩, PSs.nox ?_, useM (N := ["self", "program"]) (leM len_PlainPlan_init (by decide)) (run_PlainPlan_init ⟨P, w, K⟩ T) vs H Q E h⟩
  exact pss_cons (ps_fld (pv 0) (pe_call (ok_numbered T) (hr.mono (by decide)) rfl (T.glo 15) (F_numbered T).kp (b_numbered T) .nil pass0 (pa_cons (pv 1) pa_nil)) rfl) (pss_cons (ps_fld (pv 0) (pe_callB call_len rfl (T.free 4) bt_len (pa_cons (pe_fld (pv 0) rfl) pa_nil)) rfl) (pss_cons (ps_fld (pv 0) (pe_callB call_len rfl (T.free 4) bt_len (pa_cons (pe_call (ok_lines_of T) (hr.mono (by decide)) rfl (T.glo 8) (F_lines_of T).kp (b_lines_of T) .nil pass0 (pa_cons (pv 1) pa_nil)) pa_nil)) rfl) (pss_cons (ps_fld (pv 0) (pe_callB (cr_sumT rfl) rfl (T.free 7) bt_sum (pa_cons (pe_call (ok_read_counts T) (hr.mono (by decide)) rfl (T.glo 20) (F_read_counts T).kp (b_read_counts T) .nil pass0 (pa_cons (pv 1) pa_nil)) pa_nil)) rfl) (pss_one (ps_fld (pv 0) (pe_call (ok_deed_count T) (hr.mono (by decide)) rfl (T.glo 22) (F_deed_count T).kp (b_deed_count T) .nil pass0 (pa_cons (pv 1) pa_nil)) rfl)))))
theorem b_PlainPlan_first_stand (T : TX w K mg) : Binds K (fdOf K ("PlainPlan", some "first_stand")) ["self"] [] := (F_PlainPlan_first_stand T).bindsN fun _ _ _ _ _ _ us hl => match us, hl with | [_], _ => rfl
theorem ok_PlainPlan_first_stand (T : TX w K mg) : FnOk P w K mg base CX0 1 (He.fAd K ("PlainPlan", some "first_stand")) (fdOf K ("PlainPlan", some "first_stand")) ["self"] (SpD ⟨P, w, K⟩ (R_PlainPlan_first_stand ⟨P, w, K⟩)) := by
  refine (F_PlainPlan_first_stand T).ok sc_PlainPlan_first_stand (fun vs H Q E h => lenD (len_PlainPlan_first_stand) h) (fun cdv A outer s H vs Q E hr h => ?_)
  have hu65 := hu65_of hr
  have hu20 := hu20_of hr
  have hu1 := hu_of hr
  refine ⟨t_PlainPlan_first_stand ⟨P, w, K⟩, PSs.nox ?_, useD (N := ["self"]) (leD len_PlainPlan_first_stand (by decide)) (run_PlainPlan_first_stand ⟨P, w, K⟩ T) vs H Q E h⟩
  exact pss_one (ps_ret (pe_op op_mulT (pe_tup (pa_cons pe_int pa_nil)) (pe_op op_add (pe_fld (pv 0) rfl) (pe_fld (pv 0) rfl))))
theorem b_PlainPlan_can_go_on (T : TX w K mg) : Binds K (fdOf K ("PlainPlan", some "can_go_on")) ["self", "stand", "processor"] [] := (F_PlainPlan_can_go_on T).bindsN fun _ _ _ _ _ _ us hl => match us, hl with | [_, _, _], _ => rfl
theorem ok_PlainPlan_can_go_on (T : TX w K mg) : FnOk P w K mg base CX0 1 (He.fAd K ("PlainPlan", some "can_go_on")) (fdOf K ("PlainPlan", some "can_go_on")) ["self", "stand", "processor"] (SpD ⟨P, w, K⟩ (R_PlainPlan_can_go_on ⟨P, w, K⟩)) := by
  refine (F_PlainPlan_can_go_on T).ok sc_PlainPlan_can_go_on (fun vs H Q E h => lenD (len_PlainPlan_can_go_on) h) (fun cdv A outer s H vs Q E hr h => ?_)
  have hu65 := hu65_of hr
  have hu20 := hu20_of hr
  have hu1 := hu_of hr
  refine ⟨t_PlainPlan_can_go_on ⟨P, w, K⟩, PSs.nox ?_, useD (N := ["self", "stand", "processor"]) (leD len_PlainPlan_can_go_on (by decide)) (run_PlainPlan_can_go_on ⟨P, w, K⟩ T) vs H Q E h⟩
  exact pss_one (ps_ret (pe_cmpR op_lt (pe_ix ix_tup (pv 1) (pv 2) (fun _ _ => rfl)) (pe_callB call_len rfl (T.free 4) bt_len (pa_cons (pe_ix ix_tup (pe_fld (pv 0) rfl) (pv 2) (fun _ _ => rfl)) pa_nil)) (nomark _)))
theorem b_PlainPlan_next_deed (T : TX w K mg) : Binds K (fdOf K ("PlainPlan", some "next_deed")) ["self", "stand", "processor"] [] := (F_PlainPlan_next_deed T).bindsN fun _ _ _ _ _ _ us hl => match us, hl with | [_, _, _], _ => rfl
theorem ok_PlainPlan_next_deed (T : TX w K mg) : FnOk P w K mg base CX0 1 (He.fAd K ("PlainPlan", some "next_deed")) (fdOf K ("PlainPlan", some "next_deed")) ["self", "stand", "processor"] (SpD ⟨P, w, K⟩ (R_PlainPlan_next_deed ⟨P, w, K⟩)) := by
  refine (F_PlainPlan_next_deed T).ok sc_PlainPlan_next_deed (fun vs H Q E h => lenD (len_PlainPlan_next_deed) h) (fun cdv A outer s H vs Q E hr h => ?_)
  have hu65 := hu65_of hr
  have hu20 := hu20_of hr
  have hu1 := hu_of hr
  refine ⟨t_PlainPlan_next_deed ⟨P, w, K⟩, PSs.nox ?_, useD (N := ["self", "stand", "processor"]) (leD len_PlainPlan_next_deed (by decide)) (run_PlainPlan_next_deed ⟨P, w, K⟩ T) vs H Q E h⟩
  exact pss_one (ps_ret (pe_ix ix_tup (pe_ix ix_tup (pe_fld (pv 0) rfl) (pv 2) (fun _ _ => rfl)) (pe_ix ix_tup (pv 1) (pv 2) (fun _ _ => rfl)) (fun _ _ => rfl)))
theorem b_PlainPlan_memory_has (T : TX w K mg) : Binds K (fdOf K ("PlainPlan", some "memory_has")) ["self", "stand", "line"] [] := (F_PlainPlan_memory_has T).bindsN fun _ _ _ _ _ _ us hl => match us, hl with | [_, _, _], _ => rfl
theorem ok_PlainPlan_memory_has (T : TX w K mg) : FnOk P w K mg base CX0 1 (He.fAd K ("PlainPlan", some "memory_has")) (fdOf K ("PlainPlan", some "memory_has")) ["self", "stand", "line"] (SpD ⟨P, w, K⟩ (R_PlainPlan_memory_has ⟨P, w, K⟩)) := by
  refine (F_PlainPlan_memory_has T).ok sc_PlainPlan_memory_has (fun vs H Q E h => lenD (len_PlainPlan_memory_has) h) (fun cdv A outer s H vs Q E hr h => ?_)
  have hu65 := hu65_of hr
  have hu20 := hu20_of hr
  have hu1 := hu_of hr
  refine ⟨t_PlainPlan_memory_has ⟨P, w, K⟩, PSs.nox ?_, useD (N := ["self", "stand", "line"]) (leD len_PlainPlan_memory_has (by decide)) (run_PlainPlan_memory_has ⟨P, w, K⟩ T) vs H Q E h⟩
  exact pss_one (ps_ret (pe_ix ix_tup (pv 1) (pe_op op_add (pe_fld (pv 0) rfl) (pv 2)) (fun _ _ => rfl)))
theorem b_PlainPlan_behind (T : TX w K mg) : Binds K (fdOf K ("PlainPlan", some "behind")) ["self", "stand", "processor"] [] := (F_PlainPlan_behind T).bindsN fun _ _ _ _ _ _ us hl => match us, hl with | [_, _, _], _ => rfl
theorem ok_PlainPlan_behind (T : TX w K mg) : FnOk P w K mg base CX0 2 (He.fAd K ("PlainPlan", some "behind")) (fdOf K ("PlainPlan", some "behind")) ["self", "stand", "processor"] (SpD ⟨P, w, K⟩ (R_PlainPlan_behind ⟨P, w, K⟩)) := by
  refine (F_PlainPlan_behind T).ok sc_PlainPlan_behind (fun vs H Q E h => lenD (len_PlainPlan_behind) h) (fun cdv A outer s H vs Q E hr h => ?_)
  have hu65 := hu65_of hr
  have hu20 := hu20_of hr
  have hu1 := hu_of hr
  refine ⟨t_PlainPlan_behind ⟨P, w, K⟩, PSs.nox ?_, useD (N := ["self", "stand", "processor", "kind", "line", "number", "made", "at"]) (leD len_PlainPlan_behind (by decide)) (run_PlainPlan_behind ⟨P, w, K⟩ T) vs H Q E h⟩
  exact pss_cons (ps_asg (pe_meth (pv 0) (T.cls 16) (T.meth 24) (ok_PlainPlan_next_deed T) (hr.mono (by decide)) (b_PlainPlan_next_deed T) .nil pass0 (pa_cons (pv 1) (pa_cons (pv 2) pa_nil))) (pg_tup rfl (pgs_cons (pg_name (i := 3) sc_PlainPlan_behind.nd rfl (by first | exact Or.inl rfl | exact Or.inr rfl)) (pgs_cons (pg_name (i := 4) sc_PlainPlan_behind.nd rfl (by first | exact Or.inl rfl | exact Or.inr rfl)) (pgs_cons (pg_name (i := 5) sc_PlainPlan_behind.nd rfl (by first | exact Or.inl rfl | exact Or.inr rfl)) pgs_nil))))) (pss_cons (ps_set (i := 6) sc_PlainPlan_behind.nd rfl (by first | exact Or.inl rfl | exact Or.inr rfl) (pe_callTy cr_listOf rfl (T.free 25) bt_list (pa_cons (pv 1) pa_nil))) (pss_cons (ps_augS (pv 6) (pv 2) get_ixL pe_int ip_add set_list) (pss_cons (ps_if (pt_cmpR op_eq (pv 3) (pe_glob rfl (T.int 14).choose_spec ⟨_, rfl⟩) (nomark _)) (pss_one (ps_asg (pv 5) (pg_sub (pv 6) (pe_op op_add (pe_fld (pv 0) rfl) (pv 4)) set_list))) pss_nil) (pss_cons (ps_set (i := 7) sc_PlainPlan_behind.nd rfl (by first | exact Or.inl rfl | exact Or.inr rfl) (pe_op op_add (pe_op op_add (pe_fld (pv 0) rfl) (pe_fld (pv 0) rfl)) (pv 5))) (pss_cons (ps_if (PW.pt (pw_and (pt_cmpR op_eq (pv 3) (pe_glob rfl (T.int 26).choose_spec ⟨_, rfl⟩) (nomark _)) (pw_and1 (pt_cmpR op_lt (pv 7) (pe_callB call_len rfl (T.free 4) bt_len (pa_cons (pv 6) pa_nil)) (nomark _))))) (pss_one (ps_asg (pe_meth (pv 0) (T.cls 16) (T.meth 27) (ok_PlainPlan_memory_has T) (hr.mono (by decide)) (b_PlainPlan_memory_has T) .nil pass0 (pa_cons (pv 1) (pa_cons (pv 4) pa_nil))) (pg_sub (pv 6) (pv 7) set_list))) pss_nil) (pss_one (ps_ret (pe_callTy cr_tupOf rfl (T.free 6) bt_tuple (pa_cons (pv 6) pa_nil)))))))))
theorem b_plain_answers (T : TX w K mg) : Binds K (fdOf K ("plain_answers", none)) ["program"] [] := (F_plain_answers T).bindsN fun _ _ _ _ _ _ us hl => match us, hl with | [_], _ => rfl
theorem ok_plain_answers (T : TX w K mg) : FnOk P w K mg base CX0 5 (He.fAd K ("plain_answers", none)) (fdOf K ("plain_answers", none)) ["program"] (SpD ⟨P, w, K⟩ (R_plain_answers ⟨P, w, K⟩)) := by
  refine (F_plain_answers T).ok sc_plain_answers (fun vs H Q E h => lenD (len_plain_answers) h) (fun cdv A outer s H vs Q E hr h => ?_)
  have hu65 := hu65_of hr
  have hu20 := hu20_of hr
  have hu1 := hu_of hr
  refine ⟨t_plain_answers ⟨P, w, K⟩, PSs.nox ?_, useD (N := ["program", "plan", "stands", "_", "ahead", "stand", "processor", "told"]) (leD len_plain_answers (by decide)) (run_plain_answers ⟨P, w, K⟩ T) vs H Q E h⟩
  exact pss_cons (ps_set (i := 1) sc_plain_answers.nd rfl (by first | exact Or.inl rfl | exact Or.inr rfl) (pe_make (T.mkr 28) (ok_PlainPlan_init T) (hr.mono (by decide)) rfl (T.glo 29) (b_PlainPlan_init T) .nil pass0 (pa_cons (pv 0) pa_nil))) (pss_cons (ps_set (i := 2) sc_plain_answers.nd rfl (by first | exact Or.inl rfl | exact Or.inr rfl) (pe_lst (pa_cons (pe_op op_catA (pe_meth0 (pv 1) (T.cls 16) (T.meth 30) (ok_PlainPlan_first_stand T) (hr.mono (by decide)) (b_PlainPlan_first_stand T) .nil pass0) (pe_op op_mulT (pe_tup (pa_cons (pe_un un_neg pe_int) pa_nil)) (pe_fld (pv 1) rfl))) pa_nil))) (pss_cons (ps_for PassesOwn.never rfl (pi_range1 rfl (T.free 31) (pa_cons (pe_fld (pv 1) rfl) pa_nil)) (pg_name (i := 3) sc_plain_answers.nd rfl (by first | exact Or.inl rfl | exact Or.inr rfl)) (pss_cons (ps_set (i := 4) sc_plain_answers.nd rfl (by first | exact Or.inl rfl | exact Or.inr rfl) (pe_dnewN rfl)) (pss_cons (ps_for PassesOwn.never rfl (pi_list (pv 2)) (pg_name (i := 5) sc_plain_answers.nd rfl (by first | exact Or.inl rfl | exact Or.inr rfl)) (pss_one (ps_for PassesOwn.never rfl (pi_range1 rfl (T.free 31) (pa_cons (pe_fld (pv 1) rfl) pa_nil)) (pg_name (i := 6) sc_plain_answers.nd rfl (by first | exact Or.inl rfl | exact Or.inr rfl)) (pss_one (ps_if (pt_val (pe_meth (pv 1) (T.cls 16) (T.meth 32) (ok_PlainPlan_can_go_on T) (hr.mono (by decide)) (b_PlainPlan_can_go_on T) .nil pass0 (pa_cons (pv 5) (pa_cons (pv 6) pa_nil)))) (pss_one (ps_asg pe_bl (pg_sub (pv 4) (pe_meth (pv 1) (T.cls 16) (T.meth 33) (ok_PlainPlan_behind T) (hr.mono (by decide)) (b_PlainPlan_behind T) .nil pass0 (pa_cons (pv 5) (pa_cons (pv 6) pa_nil))) (set_T rfl hu20)))) pss_nil))))) (pss_one (ps_set (i := 2) sc_plain_answers.nd rfl (by first | exact Or.inl rfl | exact Or.inr rfl) (pe_callTy (cr_listT rfl rfl) rfl (T.free 25) bt_list (pa_cons (pv 4) pa_nil))))))) (pss_cons (ps_setDg emp_dt (i := 7) (own := [("stand", 5)]) (g := gName 5) (tt := tYes) rfl sc_plain_answers.nd rfl rfl rfl (pi_list (pv 2)) (blkOk_by (N := ["program", "plan", "stands", "_", "ahead", "stand", "processor", "told"]) (sc := defScope s_plain_answers) (by decide +kernel)) (fun _ _ _ _ _ => ds_T rfl hu20) (fun _ _ _ _ _ => pg_name (i := 5) sc_plain_answers.nd rfl (Or.inl rfl)) (fun _ _ _ _ _ => pts_nil) (fun _ _ _ _ _ => pe_slice sl_tupA (pv 5) (po_some (pe_op op_add (pe_fld (pv 1) rfl) (pe_fld (pv 1) rfl))) po_none) (fun _ _ _ _ _ => pe_bl)) (pss_one (ps_ret (pe_callB (cr_sortT (c := ⟨P, w, K⟩) rfl rfl (sdI ⟨P, w, K⟩) trivial) rfl (T.free 5) bt_sorted (pa_cons (pv 7) pa_nil)))))))
theorem b_is_deed_of_program (T : TX w K mg) : Binds K (fdOf K ("is_deed_of_program", none)) ["value"] [] := (F_is_deed_of_program T).bindsN fun _ _ _ _ _ _ us hl => match us, hl with | [_], _ => rfl
theorem ok_is_deed_of_program (T : TX w K mg) : FnOk P w K mg base CX0 3 (He.fAd K ("is_deed_of_program", none)) (fdOf K ("is_deed_of_program", none)) ["value"] (SpD ⟨P, w, K⟩ (R_is_deed_of_program ⟨P, w, K⟩)) := by
  refine (F_is_deed_of_program T).ok sc_is_deed_of_program (fun vs H Q E h => lenD (len_is_deed_of_program) h) (fun cdv A outer s H vs Q E hr h => ?_)
  have hu65 := hu65_of hr
  have hu20 := hu20_of hr
  have hu1 := hu_of hr
  refine ⟨t_is_deed_of_program ⟨P, w, K⟩, PSs.nox ?_, useD (N := ["value"]) (leD len_is_deed_of_program (by decide)) (run_is_deed_of_program ⟨P, w, K⟩ T) vs H Q E h⟩
  exact pss_cons (ps_if (PW.pt (pw_or (pt_not (pt_val (pe_callB call_isi rfl (T.free 1) bt_isinstance (pa_cons (pv 0) (pa_cons (pe_bltn rfl (T.free 6) bt_tuple rfl) pa_nil))))) (pw_or1 (pt_cmpR (op_notInA hu65) (pe_callB call_len rfl (T.free 4) bt_len (pa_cons (pv 0) pa_nil)) (pe_tup (pa_cons pe_int (pa_cons pe_int pa_nil))) rfl)))) (pss_one (ps_ret pe_bl)) pss_nil) (pss_cons (ps_if (pt_not (pt_val (pe_callB call_isi rfl (T.free 1) bt_isinstance (pa_cons (pe_ix ix_tup (pv 0) pe_int (fun _ _ => rfl)) (pa_cons (pe_bltn rfl (T.free 34) bt_str rfl) pa_nil))))) (pss_one (ps_ret pe_bl)) pss_nil) (pss_cons (ps_if (pt_cmpR op_eq (pe_callB call_len rfl (T.free 4) bt_len (pa_cons (pv 0) pa_nil)) pe_int (nomark _)) (pss_one (ps_ret (pe_cmpR op_eq (pe_ix ix_tup (pv 0) pe_int (fun _ _ => rfl)) pe_str (nomark _)))) pss_nil) (pss_one (ps_ret (pe_and (pe_cmpR (op_inA hu65) (pe_ix ix_tup (pv 0) pe_int (fun _ _ => rfl)) (pe_glob rfl (T.glo 35) rfl) rfl) (pe_one (pe_call (ok_is_number T) (hr.mono (by decide)) rfl (T.glo 36) (F_is_number T).kp (b_is_number T) .nil pass0 (pa_cons (pe_ix ix_tup (pv 0) pe_int (fun _ _ => rfl)) pa_nil))))))))
theorem b_is_program (T : TX w K mg) : Binds K (fdOf K ("is_program", none)) ["value"] [] := (F_is_program T).bindsN fun _ _ _ _ _ _ us hl => match us, hl with | [_], _ => rfl
theorem ok_is_program (T : TX w K mg) : FnOk P w K mg base CX0 4 (He.fAd K ("is_program", none)) (fdOf K ("is_program", none)) ["value"] (SpD ⟨P, w, K⟩ (R_is_program ⟨P, w, K⟩)) := by
  refine (F_is_program T).ok sc_is_program (fun vs H Q E h => lenD (len_is_program) h) (fun cdv A outer s H vs Q E hr h => ?_)
  have hu65 := hu65_of hr
  have hu20 := hu20_of hr
  have hu1 := hu_of hr
  refine ⟨t_is_program ⟨P, w, K⟩, PSs.nox ?_, useD (N := ["value", "row", "deed"]) (leD len_is_program (by decide)) (run_is_program ⟨P, w, K⟩ T) vs H Q E h⟩
  exact pss_cons (ps_if (pt_not (pt_val (pe_callB call_isi rfl (T.free 1) bt_isinstance (pa_cons (pv 0) (pa_cons (pe_bltn rfl (T.free 6) bt_tuple rfl) pa_nil))))) (pss_one (ps_ret pe_bl)) pss_nil) (pss_cons (ps_for PassesOwn.never rfl (pi_tup (pv 0)) (pg_name (i := 1) sc_is_program.nd rfl (by first | exact Or.inl rfl | exact Or.inr rfl)) (pss_cons (ps_if (pt_not (pt_val (pe_callB call_isi rfl (T.free 1) bt_isinstance (pa_cons (pv 1) (pa_cons (pe_bltn rfl (T.free 6) bt_tuple rfl) pa_nil))))) (pss_one (ps_ret pe_bl)) pss_nil) (pss_one (ps_if (pt_not (pt_val (pe_callB (cr_all rfl) rfl (T.free 38) bt_all (pa_cons (pe_lc (own := [("deed", 2)]) (g := gName 2) (tt := tYes) rfl sc_is_program.nd (pi_tup (pv 1)) (blkOk_by (N := ["value", "row", "deed"]) (sc := defScope s_is_program) (by decide +kernel)) (fun _ _ _ _ _ => pg_name (i := 2) sc_is_program.nd rfl (Or.inl rfl)) (fun _ _ _ _ _ => pts_nil) (fun _ _ _ _ _ => pe_call (ok_is_deed_of_program T) (hr.mono (by decide)) rfl (T.glo 37) (F_is_deed_of_program T).kp (b_is_deed_of_program T) .nil pass0 (pa_cons (pv 2) pa_nil))) pa_nil)))) (pss_one (ps_ret pe_bl)) pss_nil)))) (pss_one (ps_ret pe_bl)))
theorem b_check_program (T : TX w K mg) : Binds K (fdOf K ("check_program", none)) ["program"] [] := (F_check_program T).bindsN fun _ _ _ _ _ _ us hl => match us, hl with | [_], _ => rfl
theorem ok_check_program (T : TX w K mg) : FnOk P w K mg base CX0 5 (He.fAd K ("check_program", none)) (fdOf K ("check_program", none)) ["program"] (SpD ⟨P, w, K⟩ (R_check_program ⟨P, w, K⟩)) := by
  refine (F_check_program T).ok sc_check_program (fun vs H Q E h => lenD (len_check_program) h) (fun cdv A outer s H vs Q E hr h => ?_)
  have hu65 := hu65_of hr
  have hu20 := hu20_of hr
  have hu1 := hu_of hr
  refine ⟨t_check_program ⟨P, w, K⟩, PSs.nox ?_, useD (N := ["program"]) (leD len_check_program (by decide)) (run_check_program ⟨P, w, K⟩ T) vs H Q E h⟩
  exact pss_one (ps_if (pt_not (pt_val (pe_call (ok_is_program T) (hr.mono (by decide)) rfl (T.glo 39) (F_is_program T).kp (b_is_program T) .nil pass0 (pa_cons (pv 0) pa_nil)))) (pss_one ps_never) pss_nil)
theorem b_plain_outcomes (T : TX w K mg) : Binds K (fdOf K ("plain_outcomes", none)) ["program"] [] := (F_plain_outcomes T).bindsN fun _ _ _ _ _ _ us hl => match us, hl with | [_], _ => rfl
theorem ok_plain_outcomes (T : TX w K mg) : FnOk P w K mg base CX0 6 (He.fAd K ("plain_outcomes", none)) (fdOf K ("plain_outcomes", none)) ["program"] (SpD ⟨P, w, K⟩ (R_plain_outcomes ⟨P, w, K⟩)) := by
  refine (F_plain_outcomes T).ok sc_plain_outcomes (fun vs H Q E h => lenD (len_plain_outcomes) h) (fun cdv A outer s H vs Q E hr h => ?_)
  have hu65 := hu65_of hr
  have hu20 := hu20_of hr
  have hu1 := hu_of hr
  refine ⟨t_plain_outcomes ⟨P, w, K⟩, PSs.nox ?_, useD (N := ["program", "counts", "answers"]) (leD len_plain_outcomes (by decide)) (run_plain_outcomes ⟨P, w, K⟩ T) vs H Q E h⟩
  exact pss_cons (ps_expr (pe_call (ok_check_program T) (hr.mono (by decide)) rfl (T.glo 40) (F_check_program T).kp (b_check_program T) .nil pass0 (pa_cons (pv 0) pa_nil))) (pss_cons (ps_set (i := 1) sc_plain_outcomes.nd rfl (by first | exact Or.inl rfl | exact Or.inr rfl) (pe_call (ok_read_counts T) (hr.mono (by decide)) rfl (T.glo 20) (F_read_counts T).kp (b_read_counts T) .nil pass0 (pa_cons (pv 0) pa_nil))) (pss_one (ps_ret (pe_callTy cr_tupOf rfl (T.free 6) bt_tuple (pa_cons (pe_lc (own := [("answers", 2)]) (g := gName 2) (tt := tYes) rfl sc_plain_outcomes.nd (pi_list (pe_call (ok_plain_answers T) (hr.mono (by decide)) rfl (T.glo 41) (F_plain_answers T).kp (b_plain_answers T) .nil pass0 (pa_cons (pv 0) pa_nil))) (blkOk_by (N := ["program", "counts", "answers"]) (sc := defScope s_plain_outcomes) (by decide +kernel)) (fun _ _ _ _ _ => pg_name (i := 2) sc_plain_outcomes.nd rfl (Or.inl rfl)) (fun _ _ _ _ _ => pts_nil) (fun _ _ _ _ _ => pe_call (ok_rows_of T) (hr.mono (by decide)) rfl (T.glo 42) (F_rows_of T).kp (b_rows_of T) .nil pass0 (pa_cons (pv 1) (pa_cons (pv 2) pa_nil)))) pa_nil)))))
theorem b__law_draw (T : TX w K mg) : Binds K (fdOf K ("_law_draw", none)) ["pile", "many"] [] := (F__law_draw T).bindsN fun _ _ _ _ _ _ us hl => match us, hl with | [_, _], _ => rfl
theorem ok__law_draw (T : TX w K mg) : FnOk P w K mg base CX0 1 (He.fAd K ("_law_draw", none)) (fdOf K ("_law_draw", none)) ["pile", "many"] (SpM ⟨P, w, K⟩ (R__law_draw ⟨P, w, K⟩)) := by
  refine (F__law_draw T).ok sc__law_draw (fun vs H Q E h => lenM (len__law_draw) h) (fun cdv A outer s H vs Q E hr h => ?_)
  have hu65 := hu65_of hr
  have hu20 := hu20_of hr
  have hu1 := hu_of hr
  refine ⟨t__law_draw ⟨P, w, K⟩, PSs.nox ?_, useM (N := ["pile", "many", "cells", "at", "cell", "part", "seed"]) (leM len__law_draw (by decide)) (run__law_draw ⟨P, w, K⟩ T) vs H Q E h⟩
  exact pss_cons (ps_set (i := 2) sc__law_draw.nd rfl (by first | exact Or.inl rfl | exact Or.inr rfl) (pe_ix ix_list (pv 0) pe_int (fun _ _ => rfl))) (pss_cons (ps_set (i := 3) sc__law_draw.nd rfl (by first | exact Or.inl rfl | exact Or.inr rfl) (pe_op op_fdiv (pe_ix ix_list (pv 0) pe_int (fun _ _ => rfl)) pe_int)) (pss_cons (ps_set (i := 4) sc__law_draw.nd rfl (by first | exact Or.inl rfl | exact Or.inr rfl) pe_int) (pss_cons (ps_if (pt_cmpR op_gt (pe_callB call_len rfl (T.free 4) bt_len (pa_cons (pv 2) pa_nil)) pe_int (nomark _)) (pss_one (ps_set (i := 4) sc__law_draw.nd rfl (by first | exact Or.inl rfl | exact Or.inr rfl) (pe_callTy cr_int1 rfl (T.free 0) bt_int (pa_cons (pe_ix ix_list (pv 2) (pe_op op_mod (pv 3) (pe_callB call_len rfl (T.free 4) bt_len (pa_cons (pv 2) pa_nil))) (fun _ _ => rfl)) pa_nil)))) pss_nil) (pss_cons (ps_if (pt_cmpR op_eq (pe_op op_mod (pe_ix ix_list (pv 0) pe_int (fun _ _ => rfl)) pe_int) pe_int (nomark _)) (pss_one (ps_asg (pv 4) (pg_sub (pv 0) pe_int set_list))) pss_nil) (pss_cons (ps_asg (pe_op op_add (pe_ix ix_list (pv 0) pe_int (fun _ _ => rfl)) pe_int) (pg_sub (pv 0) pe_int set_list)) (pss_cons (ps_if (PW.pt (pw_and (pt_cmpR op_ge (pv 4) (pe_op op_pow pe_int pe_int) (nomark _)) (pw_and1 (pt_cmpR op_lt (pv 3) (pe_callB call_len rfl (T.free 4) bt_len (pa_cons (pv 2) pa_nil)) (nomark _))))) (pss_cons (ps_set (i := 5) sc__law_draw.nd rfl (by first | exact Or.inl rfl | exact Or.inr rfl) (pe_op op_mod (pe_callTy cr_int1 rfl (T.free 0) bt_int (pa_cons (pe_ix ix_list (pv 0) pe_int (fun _ _ => rfl)) pa_nil)) (pv 1))) (pss_cons (ps_asg (pe_op op_fdiv (pe_callTy cr_int1 rfl (T.free 0) bt_int (pa_cons (pe_ix ix_list (pv 0) pe_int (fun _ _ => rfl)) pa_nil)) (pv 1)) (pg_sub (pv 0) pe_int set_list)) (pss_one (ps_ret (pv 5))))) pss_nil) (pss_cons (ps_set (i := 6) sc__law_draw.nd rfl (by first | exact Or.inl rfl | exact Or.inr rfl) (pe_op op_mod (pe_op op_add (pe_op op_add (pe_op op_mul (pe_op op_mod (pe_callTy cr_int1 rfl (T.free 0) bt_int (pa_cons (pv 4) pa_nil)) pe_int) pe_int) (pe_op op_mul (pe_ix ix_list (pv 0) pe_int (fun _ _ => rfl)) pe_int)) pe_int) pe_int)) (pss_one (ps_ret (pe_op op_mod (pe_op op_mod (pe_op op_add (pe_op op_mul (pv 6) pe_int) (pe_op op_mul (pe_op op_mul (pe_ix ix_list (pv 0) pe_int (fun _ _ => rfl)) (pe_ix ix_list (pv 0) pe_int (fun _ _ => rfl))) pe_int)) pe_int) (pv 1)))))))))))
theorem b__law_program (T : TX w K mg) : Binds K (fdOf K ("_law_program", none)) ["pile"] [] := (F__law_program T).bindsN fun _ _ _ _ _ _ us hl => match us, hl with | [_], _ => rfl
theorem ok__law_program (T : TX w K mg) : FnOk P w K mg base CX0 2 (He.fAd K ("_law_program", none)) (fdOf K ("_law_program", none)) ["pile"] (SpM ⟨P, w, K⟩ (R__law_program ⟨P, w, K⟩)) := by
  refine (F__law_program T).ok sc__law_program (fun vs H Q E h => lenM (len__law_program) h) (fun cdv A outer s H vs Q E hr h => ?_)
  have hu65 := hu65_of hr
  have hu20 := hu20_of hr
  have hu1 := hu_of hr
  refine ⟨t__law_program ⟨P, w, K⟩, PSs.nox ?_, useM (N := ["pile", "many", "size", "words", "rows", "k", "word", "deed", "row"]) (leM len__law_program (by decide)) (run__law_program ⟨P, w, K⟩ T) vs H Q E h⟩
  exact pss_cons (ps_set (i := 1) sc__law_program.nd rfl (by first | exact Or.inl rfl | exact Or.inr rfl) (pe_op op_add pe_int (pe_call (ok__law_draw T) (hr.mono (by decide)) rfl (T.glo 43) (F__law_draw T).kp (b__law_draw T) .nil pass0 (pa_cons (pv 0) (pa_cons pe_int pa_nil))))) (pss_cons (ps_set (i := 2) sc__law_program.nd rfl (by first | exact Or.inl rfl | exact Or.inr rfl) (pe_call (ok__law_draw T) (hr.mono (by decide)) rfl (T.glo 43) (F__law_draw T).kp (b__law_draw T) .nil pass0 (pa_cons (pv 0) (pa_cons pe_int pa_nil)))) (pss_cons (ps_set (i := 3) sc__law_program.nd rfl (by first | exact Or.inl rfl | exact Or.inr rfl) (pe_lst (pa_cons pe_str (pa_cons pe_str (pa_cons pe_str (pa_cons pe_str (pa_cons pe_str (pa_cons pe_str pa_nil)))))))) (pss_cons (ps_if (pt_cmpR op_eq (pe_call (ok__law_draw T) (hr.mono (by decide)) rfl (T.glo 43) (F__law_draw T).kp (b__law_draw T) .nil pass0 (pa_cons (pv 0) (pa_cons pe_int pa_nil))) pe_int (nomark _)) (pss_one (ps_set (i := 3) sc__law_program.nd rfl (by first | exact Or.inl rfl | exact Or.inr rfl) (pe_lst (pa_cons pe_str (pa_cons pe_str (pa_cons pe_str pa_nil)))))) pss_nil) (pss_cons (ps_setLc (i := 4) (own := [("k", 5)]) (g := gName 5) (tt := tYes) rfl sc__law_program.nd rfl rfl rfl (pi_range1 rfl (T.free 31) (pa_cons (pv 1) pa_nil)) (blkOk_by (N := ["pile", "many", "size", "words", "rows", "k", "word", "deed", "row"]) (sc := defScope s__law_program) (by decide +kernel)) (fun _ _ _ _ _ => pg_name (i := 5) sc__law_program.nd rfl (Or.inl rfl)) (fun _ _ _ _ _ => pts_nil) (fun _ _ _ _ _ => pe_lst pa_nil)) (pss_cons (ps_for PassesOwn.never rfl (pi_range1 rfl (T.free 31) (pa_cons (pv 2) pa_nil)) (pg_name (i := 5) sc__law_program.nd rfl (by first | exact Or.inl rfl | exact Or.inr rfl)) (pss_cons (ps_set (i := 6) sc__law_program.nd rfl (by first | exact Or.inl rfl | exact Or.inr rfl) (pe_ix ix_list (pv 3) (pe_call (ok__law_draw T) (hr.mono (by decide)) rfl (T.glo 43) (F__law_draw T).kp (b__law_draw T) .nil pass0 (pa_cons (pv 0) (pa_cons (pe_callB call_len rfl (T.free 4) bt_len (pa_cons (pv 3) pa_nil)) pa_nil))) (fun _ _ => rfl))) (pss_cons (ps_set (i := 7) sc__law_program.nd rfl (by first | exact Or.inl rfl | exact Or.inr rfl) (pe_tup (pa_cons (pv 6) (pa_cons (pe_call (ok__law_draw T) (hr.mono (by decide)) rfl (T.glo 43) (F__law_draw T).kp (b__law_draw T) .nil pass0 (pa_cons (pv 0) (pa_cons pe_int pa_nil))) pa_nil)))) (pss_cons (ps_if (pt_cmpR op_eq (pv 6) pe_str (nomark _)) (pss_one (ps_set (i := 7) sc__law_program.nd rfl (by first | exact Or.inl rfl | exact Or.inr rfl) (pe_tup (pa_cons pe_str pa_nil)))) pss_nil) (pss_one (ps_expr (pe_bm PySem.F.plainAttrs_list PySem.F.slot_list_append PySem.F.type_list_append mt_append (pe_ix ix_list (pv 4) (pe_call (ok__law_draw T) (hr.mono (by decide)) rfl (T.glo 43) (F__law_draw T).kp (b__law_draw T) .nil pass0 (pa_cons (pv 0) (pa_cons (pv 1) pa_nil))) (fun _ _ => rfl)) (pa_cons (pv 7) pa_nil)))))))) (pss_one (ps_ret (pe_callTy cr_tupOf rfl (T.free 6) bt_tuple (pa_cons (pe_lc (own := [("row", 8)]) (g := gName 8) (tt := tYes) rfl sc__law_program.nd (pi_list (pv 4)) (blkOk_by (N := ["pile", "many", "size", "words", "rows", "k", "word", "deed", "row"]) (sc := defScope s__law_program) (by decide +kernel)) (fun _ _ _ _ _ => pg_name (i := 8) sc__law_program.nd rfl (Or.inl rfl)) (fun _ _ _ _ _ => pts_nil) (fun _ _ _ _ _ => pe_callTy cr_tupOf rfl (T.free 6) bt_tuple (pa_cons (pv 8) pa_nil))) pa_nil)))))))))
theorem b__law_orders (T : TX w K mg) : Binds K (fdOf K ("_law_orders", none)) ["program"] [] := (F__law_orders T).bindsN fun _ _ _ _ _ _ us hl => match us, hl with | [_], _ => rfl
theorem ok__law_orders (T : TX w K mg) : FnOk P w K mg base CX0 1 (He.fAd K ("_law_orders", none)) (fdOf K ("_law_orders", none)) ["program"] (SpD ⟨P, w, K⟩ (R__law_orders ⟨P, w, K⟩)) := by
  refine (F__law_orders T).ok sc__law_orders (fun vs H Q E h => lenD (len__law_orders) h) (fun cdv A outer s H vs Q E hr h => ?_)
  have hu65 := hu65_of hr
  have hu20 := hu20_of hr
  have hu1 := hu_of hr
  refine ⟨t__law_orders ⟨P, w, K⟩, PSs.nox ?_, useD (N := ["program", "rows", "turn", "row", "news", "p"]) (leD len__law_orders (by decide)) (run__law_orders ⟨P, w, K⟩ T) vs H Q E h⟩
  exact pss_cons (ps_set (i := 1) sc__law_orders.nd rfl (by first | exact Or.inl rfl | exact Or.inr rfl) (pe_lst (pa_cons (pe_tupX pa_nil) pa_nil))) (pss_cons (ps_for PassesOwn.never rfl (pi_range1 rfl (T.free 31) (pa_cons (pe_callB (cr_sum rfl) rfl (T.free 7) bt_sum (pa_cons (pe_lc (own := [("row", 3)]) (g := gName 3) (tt := tYes) rfl sc__law_orders.nd (pi_tup (pv 0)) (blkOk_by (N := ["program", "rows", "turn", "row", "news", "p"]) (sc := defScope s__law_orders) (by decide +kernel)) (fun _ _ _ _ _ => pg_name (i := 3) sc__law_orders.nd rfl (Or.inl rfl)) (fun _ _ _ _ _ => pts_nil) (fun _ _ _ _ _ => pe_callB call_len rfl (T.free 4) bt_len (pa_cons (pv 3) pa_nil))) pa_nil)) pa_nil)) (pg_name (i := 2) sc__law_orders.nd rfl (by first | exact Or.inl rfl | exact Or.inr rfl)) (pss_cons (ps_set (i := 4) sc__law_orders.nd rfl (by first | exact Or.inl rfl | exact Or.inr rfl) (pe_lst pa_nil)) (pss_cons (ps_for PassesOwn.never rfl (pi_list (pv 1)) (pg_name (i := 3) sc__law_orders.nd rfl (by first | exact Or.inl rfl | exact Or.inr rfl)) (pss_one (ps_set (i := 4) sc__law_orders.nd rfl (by first | exact Or.inl rfl | exact Or.inr rfl) (pe_op op_cat (pv 4) (pe_lc (own := [("p", 5)]) (g := gName 5) (tt := tTest (tOp rLtI (tCnt (⟨P, w, K⟩ : Cn).K (tVar 3) (tCons (tVar 5) tNil)) (tCB (rLenV (⟨P, w, K⟩ : Cn).K) (tCons (tOp (rIxT (⟨P, w, K⟩ : Cn).K) (tVar 0) (tVar 5)) tNil)))) rfl sc__law_orders.nd (pi_range1 rfl (T.free 31) (pa_cons (pe_callB call_len rfl (T.free 4) bt_len (pa_cons (pv 0) pa_nil)) pa_nil)) (blkOk_by (N := ["program", "rows", "turn", "row", "news", "p"]) (sc := defScope s__law_orders) (by decide +kernel)) (fun _ _ _ _ _ => pg_name (i := 5) sc__law_orders.nd rfl (Or.inl rfl)) (fun _ _ _ _ _ => pts_one (pt_cmpR op_lt (pe_cnt hu65 (pv 3) (pa_cons (pv 5) pa_nil)) (pe_callB call_len rfl (T.free 4) bt_len (pa_cons (pe_ix ix_tup (pv 0) (pv 5) (fun _ _ => rfl)) pa_nil)) (nomark _))) (fun _ _ _ _ _ => pe_op op_catX (pv 3) (pe_tupX (pa_cons (pv 5) pa_nil)))))))) (pss_one (ps_set (i := 1) sc__law_orders.nd rfl (by first | exact Or.inl rfl | exact Or.inr rfl) (pv 4)))))) (pss_one (ps_ret (pv 1))))
theorem b__law_done (T : TX w K mg) : Binds K (fdOf K ("_law_done", none)) ["program", "order"] [] := (F__law_done T).bindsN fun _ _ _ _ _ _ us hl => match us, hl with | [_, _], _ => rfl
theorem ok__law_done (T : TX w K mg) : FnOk P w K mg base CX0 1 (He.fAd K ("_law_done", none)) (fdOf K ("_law_done", none)) ["program", "order"] (SpD ⟨P, w, K⟩ (R__law_done ⟨P, w, K⟩)) := by
  refine (F__law_done T).ok sc__law_done (fun vs H Q E h => lenD (len__law_done) h) (fun cdv A outer s H vs Q E hr h => ?_)
  have hu65 := hu65_of hr
  have hu20 := hu20_of hr
  have hu1 := hu_of hr
  refine ⟨t__law_done ⟨P, w, K⟩, PSs.nox ?_, useD (N := ["program", "order", "first", "number", "row", "deed", "at", "answers", "cells", "p"]) (leD len__law_done (by decide)) (run__law_done ⟨P, w, K⟩ T) vs H Q E h⟩
  exact pss_cons (ps_set (i := 2) sc__law_done.nd rfl (by first | exact Or.inl rfl | exact Or.inr rfl) (pe_lst pa_nil)) (pss_cons (ps_set (i := 3) sc__law_done.nd rfl (by first | exact Or.inl rfl | exact Or.inr rfl) pe_int) (pss_cons (ps_for PassesOwn.never rfl (pi_tup (pv 0)) (pg_name (i := 4) sc__law_done.nd rfl (by first | exact Or.inl rfl | exact Or.inr rfl)) (pss_cons (ps_expr (pe_bm PySem.F.plainAttrs_list PySem.F.slot_list_append PySem.F.type_list_append mt_append (pv 2) (pa_cons (pv 3) pa_nil))) (pss_one (ps_set (i := 3) sc__law_done.nd rfl (by first | exact Or.inl rfl | exact Or.inr rfl) (pe_op op_add (pv 3) (pe_callB call_len rfl (T.free 4) bt_len (pa_cons (pe_lc (own := [("deed", 5)]) (g := gName 5) (tt := tTest (tOp rEq (tOp (rIxT (⟨P, w, K⟩ : Cn).K) (tVar 5) (tC (.int 0))) (tC (.str "write")))) rfl sc__law_done.nd (pi_tup (pv 4)) (blkOk_by (N := ["program", "order", "first", "number", "row", "deed", "at", "answers", "cells", "p"]) (sc := defScope s__law_done) (by decide +kernel)) (fun _ _ _ _ _ => pg_name (i := 5) sc__law_done.nd rfl (Or.inl rfl)) (fun _ _ _ _ _ => pts_one (pt_cmpR op_eq (pe_ix ix_tup (pv 5) pe_int (fun _ _ => rfl)) pe_str (nomark _))) (fun _ _ _ _ _ => pv 5)) pa_nil))))))) (pss_cons (ps_setLc (i := 6) (own := [("row", 4)]) (g := gName 4) (tt := tYes) rfl sc__law_done.nd rfl rfl rfl (pi_tup (pv 0)) (blkOk_by (N := ["program", "order", "first", "number", "row", "deed", "at", "answers", "cells", "p"]) (sc := defScope s__law_done) (by decide +kernel)) (fun _ _ _ _ _ => pg_name (i := 4) sc__law_done.nd rfl (Or.inl rfl)) (fun _ _ _ _ _ => pts_nil) (fun _ _ _ _ _ => pe_int)) (pss_cons (ps_setLc (i := 7) (own := [("row", 4)]) (g := gName 4) (tt := tYes) rfl sc__law_done.nd rfl rfl rfl (pi_tup (pv 0)) (blkOk_by (N := ["program", "order", "first", "number", "row", "deed", "at", "answers", "cells", "p"]) (sc := defScope s__law_done) (by decide +kernel)) (fun _ _ _ _ _ => pg_name (i := 4) sc__law_done.nd rfl (Or.inl rfl)) (fun _ _ _ _ _ => pts_nil) (fun _ _ _ _ _ => pe_tup pa_nil)) (pss_cons (ps_set (i := 8) sc__law_done.nd rfl (by first | exact Or.inl rfl | exact Or.inr rfl) (pe_lst (pa_cons pe_int (pa_cons pe_int pa_nil)))) (pss_cons (ps_for PassesOwn.never rfl (pi_tup (pv 1)) (pg_name (i := 9) sc__law_done.nd rfl (by first | exact Or.inl rfl | exact Or.inr rfl)) (pss_cons (ps_set (i := 5) sc__law_done.nd rfl (by first | exact Or.inl rfl | exact Or.inr rfl) (pe_ix ix_tup (pe_ix ix_tup (pv 0) (pv 9) (fun _ _ => rfl)) (pe_ix ix_list (pv 6) (pv 9) (fun _ _ => rfl)) (fun _ _ => rfl))) (pss_cons (ps_asg (pe_op op_add (pe_ix ix_list (pv 6) (pv 9) (fun _ _ => rfl)) pe_int) (pg_sub (pv 6) (pv 9) set_list)) (pss_one (ps_if (pt_cmpR op_eq (pe_ix ix_tup (pv 5) pe_int (fun _ _ => rfl)) pe_str (nomark _)) (pss_cons (ps_asg (pe_op op_add (pe_ix ix_list (pv 2) (pv 9) (fun _ _ => rfl)) pe_int) (pg_sub (pv 2) (pv 9) set_list)) (pss_one (ps_asg (pe_ix ix_list (pv 2) (pv 9) (fun _ _ => rfl)) (pg_sub (pv 8) (pe_ix ix_tup (pv 5) pe_int (fun _ _ => rfl)) set_list)))) (pss_one (ps_if (pt_cmpR op_eq (pe_ix ix_tup (pv 5) pe_int (fun _ _ => rfl)) pe_str (nomark _)) (pss_one (ps_asg (pe_op op_catA (pe_ix ix_list (pv 7) (pv 9) (fun _ _ => rfl)) (pe_tup (pa_cons (pe_ix ix_list (pv 8) (pe_ix ix_tup (pv 5) pe_int (fun _ _ => rfl)) (fun _ _ => rfl)) pa_nil))) (pg_sub (pv 7) (pv 9) set_list))) pss_nil))))))) (pss_one (ps_ret (pe_callTy cr_tupOf rfl (T.free 6) bt_tuple (pa_cons (pv 7) pa_nil))))))))))
theorem b__law_due (T : TX w K mg) : Binds K (fdOf K ("_law_due", none)) ["program"] [] := (F__law_due T).bindsN fun _ _ _ _ _ _ us hl => match us, hl with | [_], _ => rfl
theorem ok__law_due (T : TX w K mg) : FnOk P w K mg base CX0 2 (He.fAd K ("_law_due", none)) (fdOf K ("_law_due", none)) ["program"] (SpD ⟨P, w, K⟩ (R__law_due ⟨P, w, K⟩)) := by
  refine (F__law_due T).ok sc__law_due (fun vs H Q E h => lenD (len__law_due) h) (fun cdv A outer s H vs Q E hr h => ?_)
  have hu65 := hu65_of hr
  have hu20 := hu20_of hr
  have hu1 := hu_of hr
  refine ⟨t__law_due ⟨P, w, K⟩, PSs.nox ?_, useD (N := ["program", "found", "order"]) (leD len__law_due (by decide)) (run__law_due ⟨P, w, K⟩ T) vs H Q E h⟩
  exact pss_cons (ps_set (i := 1) sc__law_due.nd rfl (by first | exact Or.inl rfl | exact Or.inr rfl) (pe_dnewN rfl)) (pss_cons (ps_for PassesOwn.never rfl (pi_list (pe_call (ok__law_orders T) (hr.mono (by decide)) rfl (T.glo 44) (F__law_orders T).kp (b__law_orders T) .nil pass0 (pa_cons (pv 0) pa_nil))) (pg_name (i := 2) sc__law_due.nd rfl (by first | exact Or.inl rfl | exact Or.inr rfl)) (pss_one (ps_asg pe_bl (pg_sub (pv 1) (pe_call (ok__law_done T) (hr.mono (by decide)) rfl (T.glo 45) (F__law_done T).kp (b__law_done T) .nil pass0 (pa_cons (pv 0) (pa_cons (pv 2) pa_nil))) (set_T rfl hu20))))) (pss_one (ps_ret (pe_callB (cr_sortS (c := ⟨P, w, K⟩) rfl (sdR ⟨P, w, K⟩) (sdR_room hr)) rfl (T.free 5) bt_sorted (pa_cons (pe_callTy (cr_listT rfl rfl) rfl (T.free 25) bt_list (pa_cons (pv 1) pa_nil)) pa_nil)))))
theorem b__law_holds (T : TX w K mg) : Binds K (fdOf K ("_law_holds", none)) ["told", "due"] [] := (F__law_holds T).bindsN fun _ _ _ _ _ _ us hl => match us, hl with | [_, _], _ => rfl
theorem ok__law_holds (T : TX w K mg) : FnOk P w K mg base CX0 1 (He.fAd K ("_law_holds", none)) (fdOf K ("_law_holds", none)) ["told", "due"] (SpD ⟨P, w, K⟩ (R__law_holds ⟨P, w, K⟩)) := by
  refine (F__law_holds T).ok sc__law_holds (fun vs H Q E h => lenD (len__law_holds) h) (fun cdv A outer s H vs Q E hr h => ?_)
  have hu65 := hu65_of hr
  have hu20 := hu20_of hr
  have hu1 := hu_of hr
  refine ⟨t__law_holds ⟨P, w, K⟩, PSs.nox ?_, useD (N := ["told", "due", "k", "row", "x"]) (leD len__law_holds (by decide)) (run__law_holds ⟨P, w, K⟩ T) vs H Q E h⟩
  exact pss_cons (ps_if (PW.pt (pw_or (pt_not (pt_val (pe_callB call_isi rfl (T.free 1) bt_isinstance (pa_cons (pv 0) (pa_cons (pe_bltn rfl (T.free 6) bt_tuple rfl) pa_nil))))) (pw_or1 (pt_cmpR op_ne (pe_callB call_len rfl (T.free 4) bt_len (pa_cons (pv 0) pa_nil)) (pe_callB call_len rfl (T.free 4) bt_len (pa_cons (pv 1) pa_nil)) (nomark _))))) (pss_one (ps_ret pe_bl)) pss_nil) (pss_cons (ps_for PassesOwn.never rfl (pi_range1 rfl (T.free 31) (pa_cons (pe_callB call_len rfl (T.free 4) bt_len (pa_cons (pv 1) pa_nil)) pa_nil)) (pg_name (i := 2) sc__law_holds.nd rfl (by first | exact Or.inl rfl | exact Or.inr rfl)) (pss_cons (ps_if (PW.pt (pw_or (pt_not (pt_val (pe_callB call_isi rfl (T.free 1) bt_isinstance (pa_cons (pe_ix ix_tup (pv 0) (pv 2) (fun _ _ => rfl)) (pa_cons (pe_bltn rfl (T.free 6) bt_tuple rfl) pa_nil))))) (pw_or1 (pt_cmpR (op_neD hr.units) (pe_ix ix_tup (pv 0) (pv 2) (fun _ _ => rfl)) (pe_ix ix_list (pv 1) (pv 2) (fun _ _ => rfl)) (nomark _))))) (pss_one (ps_ret pe_bl)) pss_nil) (pss_one (ps_for PassesOwn.never rfl (pi_tup (pe_ix ix_tup (pv 0) (pv 2) (fun _ _ => rfl))) (pg_name (i := 3) sc__law_holds.nd rfl (by first | exact Or.inl rfl | exact Or.inr rfl)) (pss_one (ps_if (PW.pt (pw_or (pt_not (pt_val (pe_callB call_isi rfl (T.free 1) bt_isinstance (pa_cons (pv 3) (pa_cons (pe_bltn rfl (T.free 6) bt_tuple rfl) pa_nil))))) (pw_or1 (pt_cmpR op_gt (pe_callB call_len rfl (T.free 4) bt_len (pa_cons (pe_lc (own := [("x", 4)]) (g := gName 4) (tt := tOr (tB (tCB (rIsi (⟨P, w, K⟩ : Cn).K) (tCons (tVar 4) (tCons (tC (.ty "bool")) tNil)))) (tNot (tB (tCB (rIsi (⟨P, w, K⟩ : Cn).K) (tCons (tVar 4) (tCons (tC (.ty "int")) tNil)))))) rfl sc__law_holds.nd (pi_tup (pv 3)) (blkOk_by (N := ["told", "due", "k", "row", "x"]) (sc := defScope s__law_holds) (by decide +kernel)) (fun _ _ _ _ _ => pg_name (i := 4) sc__law_holds.nd rfl (Or.inl rfl)) (fun _ _ _ _ _ => pts_one (PW.pt (pw_or (pt_val (pe_callB call_isi rfl (T.free 1) bt_isinstance (pa_cons (pv 4) (pa_cons (pe_bltn rfl (T.free 2) bt_bool rfl) pa_nil)))) (pw_or1 (pt_not (pt_val (pe_callB call_isi rfl (T.free 1) bt_isinstance (pa_cons (pv 4) (pa_cons (pe_bltn rfl (T.free 0) bt_int rfl) pa_nil))))))))) (fun _ _ _ _ _ => pv 4)) pa_nil)) pe_int (nomark _))))) (pss_one (ps_ret pe_bl)) pss_nil)))))) (pss_one (ps_ret pe_bl)))
theorem b_law (T : TX w K mg) : Binds K (fdOf K ("law", none)) ["script"] [] := (F_law T).bindsN fun _ _ _ _ _ _ us hl => match us, hl with | [_], _ => rfl
theorem ok_law (T : TX w K mg) : FnOk P w K mg base CX0 7 (He.fAd K ("law", none)) (fdOf K ("law", none)) ["script"] (SpD ⟨P, w, K⟩ (R_law ⟨P, w, K⟩)) := by
  refine (F_law T).ok sc_law (fun vs H Q E h => lenD (len_law) h) (fun cdv A outer s H vs Q E hr h => ?_)
  have hu65 := hu65_of hr
  have hu20 := hu20_of hr
  have hu1 := hu_of hr
  refine ⟨t_law ⟨P, w, K⟩, PSs.nox ?_, useD (N := ["script", "pile", "program", "other", "due"]) (leD len_law (by decide)) (run_law ⟨P, w, K⟩ T) vs H Q E h⟩
  exact pss_cons (ps_set (i := 1) sc_law.nd rfl (by first | exact Or.inl rfl | exact Or.inr rfl) (pe_lst (pa_cons (pe_callTy cr_listOf rfl (T.free 25) bt_list (pa_cons (pv 0) pa_nil)) (pa_cons pe_int (pa_cons pe_int pa_nil))))) (pss_cons (ps_set (i := 2) sc_law.nd rfl (by first | exact Or.inl rfl | exact Or.inr rfl) (pe_call (ok__law_program T) (hr.mono (by decide)) rfl (T.glo 46) (F__law_program T).kp (b__law_program T) .nil pass0 (pa_cons (pv 1) pa_nil))) (pss_cons (ps_set (i := 3) sc_law.nd rfl (by first | exact Or.inl rfl | exact Or.inr rfl) (pe_call (ok__law_program T) (hr.mono (by decide)) rfl (T.glo 46) (F__law_program T).kp (b__law_program T) .nil pass0 (pa_cons (pv 1) pa_nil))) (pss_cons (ps_set (i := 4) sc_law.nd rfl (by first | exact Or.inl rfl | exact Or.inr rfl) (pe_call (ok__law_due T) (hr.mono (by decide)) rfl (T.glo 47) (F__law_due T).kp (b__law_due T) .nil pass0 (pa_cons (pv 2) pa_nil))) (pss_cons (ps_if (PW.pt (pw_or (pt_cmpR op_notBl (pe_call (ok_is_program T) (hr.mono (by decide)) rfl (T.glo 39) (F_is_program T).kp (b_is_program T) .nil pass0 (pa_cons (pv 2) pa_nil)) pe_bl (nomark _)) (pw_or1 (pt_not (pt_val (pe_call (ok__law_holds T) (hr.mono (by decide)) rfl (T.glo 49) (F__law_holds T).kp (b__law_holds T) .nil pass0 (pa_cons (pe_call (ok_plain_outcomes T) (hr.mono (by decide)) rfl (T.glo 48) (F_plain_outcomes T).kp (b_plain_outcomes T) .nil pass0 (pa_cons (pv 2) pa_nil)) (pa_cons (pv 4) pa_nil)))))))) (pss_one (ps_ret pe_bl)) pss_nil) (pss_cons (ps_if (pt_not (pt_val (pe_call (ok__law_holds T) (hr.mono (by decide)) rfl (T.glo 49) (F__law_holds T).kp (b__law_holds T) .nil pass0 (pa_cons (pe_call (ok_plain_outcomes T) (hr.mono (by decide)) rfl (T.glo 48) (F_plain_outcomes T).kp (b_plain_outcomes T) .nil pass0 (pa_cons (pe_slice sl_tupA (pv 3) po_none (po_some pe_int)) pa_nil)) (pa_cons (pe_call (ok__law_due T) (hr.mono (by decide)) rfl (T.glo 47) (F__law_due T).kp (b__law_due T) .nil pass0 (pa_cons (pe_slice sl_tupA (pv 3) po_none (po_some pe_int)) pa_nil)) pa_nil))))) (pss_one (ps_ret pe_bl)) pss_nil) (pss_one (ps_ret (pe_call (ok__law_holds T) (hr.mono (by decide)) rfl (T.glo 49) (F__law_holds T).kp (b__law_holds T) .nil pass0 (pa_cons (pe_call (ok_plain_outcomes T) (hr.mono (by decide)) rfl (T.glo 48) (F_plain_outcomes T).kp (b_plain_outcomes T) .nil pass0 (pa_cons (pv 2) pa_nil)) (pa_cons (pv 4) pa_nil))))))))))
end
end KM
set_option Elab.async false
set_option linter.all false
set_option maxRecDepth 100000
set_option maxHeartbeats 0
namespace KM
open PySem PySem.Spec PyProof.Rows L2 DL
abbrev RR0 : PySem.W.OpenRow := PySem.W.OpenLaw.row PySem.Challenge.rw_keptinstep_k71_all_orders_of_one_memory
abbrev hk : PySem.W.Hook := hookE 5 fa fn ts ex
def ob (s : PySem.W.SharedT) : AlE := obsE 5 fa fn ts ex (HandSHeadRun.getT s)
theorem ob_eq (s : PySem.W.SharedT) : ob s = hk.obs s.abs := obsE_eq (HandSHeadRun.getT_eq s)
def names : List Str := ["__name__", "is_integer", "is_number", "StepError", "InvalidProgram", "READ", "WRITE", "FENCE", "KINDS", "lines_of", "write_numbers", "read_counts", "deed_count", "numbered", "rows_of", "PlainPlan", "plain_answers", "WITH_LINE", "is_deed_of_program", "is_program", "check_program", "plain_outcomes", "_law_draw", "_law_program", "_law_orders", "_law_done", "_law_due", "_law_holds"]
theorem run (w : World) : HandSHeadRun.RunEq RR0 (PySem.W.view RR0.prog [33]) hk ob 3000 names w :=
  PySem.W.byRow2 "special-get-raises" (P := fun w => HandSHeadRun.RunEq RR0 (PySem.W.view RR0.prog [33]) hk ob 3000 names w) (fun w => by intro os; kernel_rfl) (fun w => by intro os; kernel_rfl) w
end KM
set_option Elab.async false
set_option linter.all false
set_option maxRecDepth 100000
set_option maxHeartbeats 0
namespace KM
open PySem PySem.Spec PyProof.Rows L2 DL
theorem facts {w : World} {K : PySem.W.Frag} {h : Heap} {mg : Str → Option Value} (X : K.In h) (G : h.Ns mainGlobals mg) (c : He.SaysT fa fn ts w K) (e : ex K = true) : TX w K mg := ⟨⟨h, X, G⟩, c, e⟩
end KM
namespace KM
open PySem PySem.W PySem.Calls PyProof.Rows
abbrev QV : Program := view RR0.prog [33]
abbrev dL : DefRec := HandSHeadRun.topDef RR0.prog 33
theorem h_e : opening RR0.prog = plainProg RR0.prog.main.scope.names := by kernel_rfl
theorem h_f (s : Shared) : fenceModules? RR0.prog s = some s := by kernel_rfl
theorem h_def : defOf QV RR0.name = some (dL, []) := by kernel_rfl
theorem h_p : RR0.prog.theDef RR0.name = some (dL.params, dL.body, dL.scope) := by kernel_rfl
theorem h_k : kwWritten? dL.params.kwonlyargs dL.params.kw_defaults = some [] := by kernel_rfl
theorem h_wr : (!RR0.writes || RR0.records.isEmpty) = true := by rfl
theorem h_k1 : RR0.wellSaid = true := by decide +kernel
theorem h_ok : (chainsOk QV && opensWell RR0.prog && (frees RR0.toRowW && RR0.within.isEmpty)) = true := by decide +kernel
theorem h_bare : RR0.prog.bare := ⟨rfl, rfl, rfl, rfl, rfl, by decide +kernel⟩
theorem h_name : dL.name = ("law" : PySem.Str) := by kernel_rfl
theorem h_df : dL.params.defaults = [] := by kernel_rfl
theorem h_call : WalkO QV names (XL QV []) hk.says RR0.toRowW dL [] fun f vs => PySem.call f vs := by
    refine L2.walk_ofE (l := PySem.Challenge.rw_keptinstep_k71_all_orders_of_one_memory) (n := 63) (k := 7) (x := "script") (CX := L2.CX0) rfl (by decide) h_df ⟨rfl, by decide, by decide⟩ ?F (fun _ _ _ _ z => z)
    intro w mg fa h Y G hmg0
    obtain ⟨K, KX, c, e⟩ := Y
    have T : KM.TX w K mg := KM.facts KX G c e
    have hmg : mg ("law" : PySem.Str) = some (.ref fa) := by
      rw [← h_name]
      exact hmg0
    have fae : fa = He.ga K "law" := by
      have e1 : mg ("law" : PySem.Str) = some (.ref (He.ga K "law")) := T.glo 50
      rw [hmg] at e1
      injection e1 with e1
      injection e1
    subst fae
    refine ⟨K, DL.fdOf K ("law", none), DL.SpD ⟨RR0.prog, w, K⟩ (KM.R_law ⟨RR0.prog, w, K⟩), KX, fun s v => ?_, fun H a ns hlen hO hS => ?_, fun base _ _ => KM.ok_law T⟩
    · exact L2.FunD.bindsA (ps := ["script"]) (KM.F_law T) (fun _ _ _ _ _ _ us hl => match us, hl with | [_], _ => rfl) s [v] rfl
    · exact ⟨H, [.lst (ns.map .int)], .bl true, L2.Same.refl _, .cons (.lst hS (DL.rep_ints_of ns)) .nil, ⟨ns, hlen, rfl, rfl⟩, fun v F' H' _ r => r.bl_inv⟩
end KM
open PySem PySem.W PySem.Calls PyProof.Rows
theorem PySem.Challenge.cw_keptinstep_k71_all_orders_of_one_memory_holds : PySem.Challenge.rw_keptinstep_k71_all_orders_of_one_memory.Holds := by
  w_on; o_law
  refine HandSHeadRun.head_any (r := KM.RR0) (q := KM.QV) (H := KM.hk) (ob := KM.ob) (M := 3000) (loose := KM.names) (d := KM.dL) (kwd := []) KM.ob_eq
    KM.h_e KM.h_f KM.run KM.h_def KM.h_p KM.h_k KM.h_wr KM.h_k1 KM.h_ok KM.h_bare ?hw KM.h_call
  case hw => w_witness2
