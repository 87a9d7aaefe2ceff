import PyProof.Rows.All
import Wide.All
import OpenK.AllK
import Wide.FinOn
import PyProof.EqAt
import PyProof.EqKinds
import PyProof.TupleCall
import HandS.ForMost
import HandS.Exc
import HandS.TryOnly
import HandS.WordsExc
import HandS.ExcInit
import HandS.ExcOwn
import HandS.CallSlots
import HandS.ExcField
import HandS.ExcIs
import HandS.IsInst
import HandS.TupAny
import HandS.Star
import HandS.More
import HandS.Defaults
import HandS.Wide
import HandS.Gcd
import HandS.Lambda
import HandS.EndTab
import HandS.HeadHook4
import HandS.WideBits
import HandS.OwnEq
import HandS.Style
import HandS.Ends
import HandS.EndBits
import HandS.Head0
import HandS.Head1
import HandS.Head2
import HandS.Head3
import HandS.HeadEnd
import HandS.HeadHook1
import HandS.HeadHook2
import HandS.HeadHook3
import HandS.StrMore
import HandS.Replace
import HandS.ReplaceLit
import HandS.MakeKwOnly
import PySem.Challenge.RW_squaresapart_k85_lines_not_understood
set_option Elab.async false
set_option linter.all false
set_option maxRecDepth 100000
set_option maxHeartbeats 0
namespace DL
open PySem PySem.Spec PyProof.Rows L2

/-! ### data -/
inductive D where
  | non | bl (b : Bool) | int (i : Int) | str (x : Str)
  | tup (xs : List D) | lst (xs : List D)
  | ref (n : Nat) | nm (x : Str) | ty (n : String)

/-- what stands in the store -/
inductive O where
  | lst (xs : List D)
  | ins (c : Str) (fs : List (Str × D))
  | tab (p : Str × Option Str) (q : Str)
  | dct

/-- a slot: a value; a list that this frame alone holds -/
inductive Sl where
  | val (d : D) | own (xs : List D) | exn (c : Str) (x : Option (Str × D))
abbrev En := List (Option Sl)
abbrev Sto := List O

inductive Out (α : Type) where
  | ok (a : α) (S : Sto)
  | exc (c : Str) (x : Option (Str × D)) (S : Sto)
  | bad
def Out.bind {α β : Type} : Out α → (α → Sto → Out β) → Out β
  | .ok a S, f => f a S
  | .exc c x S, _ => .exc c x S
  | .bad, _ => .bad
@[simp] theorem Out.bind_ok {α β : Type} {a : α} {S : Sto} {f : α → Sto → Out β} : (Out.ok a S).bind f = f a S := rfl
@[simp] theorem Out.bind_exc {α β : Type} {c x} {S : Sto} {f : α → Sto → Out β} : (Out.exc c x S : Out α).bind f = .exc c x S := rfl
@[simp] theorem Out.bind_bad {α β : Type} {f : α → Sto → Out β} : (Out.bad : Out α).bind f = .bad := rfl

/-! ### data in the heap -/
/-- the addresses: those of the store's objects; those that may not be told of; the exception in hand -/
structure Wd where
  th : List Addr
  pr : Addr → Prop
  xc : Option (Addr × Value × Option Addr) := none
def Wd.U (W : Wd) (a : Addr) : Prop := a ∈ W.th ∨ W.pr a
abbrev Wd.to (W : Wd) (th : List Addr) : Wd := { W with th := th }
def KT (K : PySem.W.Frag) (a : Addr) (xs : List V) : Prop :=
  ∃ (o : Obj) (its : Array Value) (n : Nat), K.lookup a = some o ∧ o.cls = .type "tuple" ∧ o.data = .seq its n ∧ its.size ≤ sizeLine ∧ Vals xs its.toList
def FT (K : PySem.W.Frag) (W : Wd) (H : Hp) (a : Addr) (xs : List V) : Prop := (Rd H a (.tup xs) ∧ ¬ W.U a) ∨ KT K a xs
def KL (K : PySem.W.Frag) (a : Addr) (xs : List V) : Prop :=
  ∃ (o : Obj) (its : Array Value) (n : Nat), K.lookup a = some o ∧ o.cls = .type "list" ∧ o.dict = none ∧ o.data = .seq its n ∧ its.size ≤ sizeLine ∧ Vals xs its.toList
def FL (K : PySem.W.Frag) (W : Wd) (H : Hp) (a : Addr) (xs : List V) : Prop := (Rd H a (.lst xs) ∧ ¬ W.U a) ∨ KL K a xs
theorem FT.sq {K : PySem.W.Frag} {W : Wd} {H : Hp} {a : Addr} {xs : List V} (h : FT K W H a xs) : SqT K H a xs := h.elim (fun q => .inl q.1) .inr
theorem FL.sq {K : PySem.W.Frag} {W : Wd} {H : Hp} {a : Addr} {xs : List V} (h : FL K W H a xs) : SqL K H a xs := h.elim (fun q => .inl q.1) .inr

/-- what the names of the module stand for -/
structure Cn where
  K : PySem.W.Frag
  mg : Str → Option Value
section
variable (c : Cn) (W : Wd) (H : Hp)
mutual
def Rep : D → V → Prop
  | .non, v => v = .non
  | .bl b, v => v = .bl b
  | .int i, v => v = .int i
  | .str x, v => v = .str x
  | .ty n, v => v = .ty n
  | .nm x, v => ∃ a, c.mg x = some (.ref a) ∧ v = .ref a
  | .ref n, v => ∃ a, W.th[n]? = some a ∧ v = .ref a
  | .tup ds, v => ∃ a vs, v = .ref a ∧ FT c.K W H a vs ∧ Reps ds vs ∧ ds.length ≤ sizeLine
  | .lst ds, v => ∃ a vs, v = .ref a ∧ FL c.K W H a vs ∧ Reps ds vs ∧ ds.length ≤ sizeLine
def Reps : List D → List V → Prop
  | [], vs => vs = []
  | d :: ds, vs => ∃ v r, vs = v :: r ∧ Rep d v ∧ Reps ds r
end
def FReps : List (Str × D) → List (Str × V) → Prop
  | [], vs => vs = []
  | (f, d) :: ds, vs => ∃ v r, vs = (f, v) :: r ∧ Rep c W H d v ∧ FReps ds r
def ORep (a : Addr) : O → Prop
  | .lst ds => ∃ vs, H a = some (.lst vs) ∧ Reps c W H ds vs ∧ ds.length ≤ sizeLine
  | .ins n fs => ∃ C dx gs, c.mg n = some (.ref C) ∧ H a = some (.ins C dx gs) ∧ FReps c W H fs gs
  | .tab p q => a = (He.cT c.K p).2 ∧ ∃ ps : Array Value, H a = some (.tbl ps) ∧ TriplesOk ps.toList ∧ ∀ (pos : Pos) (cv : Value), codeAmong pos ps.toList = some cv → ∃ cc, cv = .ref cc ∧ H cc = some (LamX.CodeO cc q) ∧ ¬ W.U cc
  | .dct => H a = some (.dK [])
/-- an exception's own dict -/
def XR : Option (Str × D) → Option Addr → Prop
  | none, d => d = none
  | some (f, x), d => ∃ dd v, d = some dd ∧ H dd = some (.xd [(f, v)]) ∧ ¬ W.U dd ∧ Rep c W H x v
def SRep : Sl → V → Prop
  | .val d, v => Rep c W H d v
  | .own ds, v => ∃ a vs, v = .ref a ∧ H a = some (.lst vs) ∧ Reps c W H ds vs ∧ W.pr a ∧ a ∉ W.th ∧ ds.length ≤ sizeLine
  | .exn n x, v => ∃ a C d, W.xc = some (a, .ref C, d) ∧ v = .ref a ∧ c.mg n = some (.ref C) ∧ XR c W H x d
end

/-- what was told stays told -/
structure Mv (W : Wd) (H : Hp) (W' : Wd) (H' : Hp) : Prop where
  keep : ∀ a o, H a = some o → ¬ W.U a → H' a = some o ∧ ¬ W'.U a
  th : ∀ (n : Nat) (a : Addr), W.th[n]? = some a → W'.th[n]? = some a
section
variable {c : Cn} {W W' W2 : Wd} {H H' H2 : Hp}
theorem Mv.refl : Mv W H W H := ⟨fun _ _ h n => ⟨h, n⟩, fun _ _ h => h⟩
theorem Mv.trans (m : Mv W H W' H') (n : Mv W' H' W2 H2) : Mv W H W2 H2 :=
  ⟨fun a o h u => let ⟨h1, u1⟩ := m.keep a o h u; n.keep a o h1 u1, fun i a h => n.th i a (m.th i a h)⟩
theorem Mv.rd (m : Mv W H W' H') {a : Addr} {o : HO} (r : Rd H a o) (u : ¬ W.U a) : Rd H' a o ∧ ¬ W'.U a := by
  rcases r with r | ⟨ob, r⟩
  · exact ⟨.inl (m.keep a _ r u).1, (m.keep a _ r u).2⟩
  · exact ⟨.inr ⟨ob, (m.keep a _ r u).1⟩, (m.keep a _ r u).2⟩
theorem FT.mv (m : Mv W H W' H') {a : Addr} {xs : List V} (h : FT c.K W H a xs) : FT c.K W' H' a xs := by
  rcases h with ⟨r, u⟩ | k
  · exact .inl (m.rd r u)
  · exact .inr k
theorem FL.mv (m : Mv W H W' H') {a : Addr} {xs : List V} (h : FL c.K W H a xs) : FL c.K W' H' a xs := by
  rcases h with ⟨r, u⟩ | k
  · exact .inl (m.rd r u)
  · exact .inr k
mutual
theorem Rep.mv (m : Mv W H W' H') : ∀ (d : D) (v : V), Rep c W H d v → Rep c W' H' d v
  | .non, _, h => h
  | .bl _, _, h => h
  | .int _, _, h => h
  | .str _, _, h => h
  | .ty _, _, h => h
  | .nm _, _, h => h
  | .ref n, _, ⟨a, h, e⟩ => ⟨a, m.th n a h, e⟩
  | .tup ds, _, ⟨a, vs, e, f, r, z⟩ => ⟨a, vs, e, f.mv m, Reps.mv m ds vs r, z⟩
  | .lst ds, _, ⟨a, vs, e, f, r, z⟩ => ⟨a, vs, e, f.mv m, Reps.mv m ds vs r, z⟩
theorem Reps.mv (m : Mv W H W' H') : ∀ (ds : List D) (vs : List V), Reps c W H ds vs → Reps c W' H' ds vs
  | [], _, h => h
  | d :: ds, _, ⟨v, r, e, h1, h2⟩ => ⟨v, r, e, Rep.mv m d v h1, Reps.mv m ds r h2⟩
end
theorem FReps.mv (m : Mv W H W' H') : ∀ (ds : List (Str × D)) (vs : List (Str × V)), FReps c W H ds vs → FReps c W' H' ds vs
  | [], _, h => h
  | (f, d) :: ds, _, ⟨v, r, e, h1, h2⟩ => ⟨v, r, e, Rep.mv m d v h1, FReps.mv m ds r h2⟩
theorem XR.mv (m : Mv W H W' H') : ∀ (x : Option (Str × D)) (d : Option Addr), XR c W H x d → XR c W' H' x d
  | none, _, h => h
  | some (f, x), _, ⟨dd, v, e, h, u, r⟩ => ⟨dd, v, e, (m.keep _ _ h u).1, (m.keep _ _ h u).2, Rep.mv m x v r⟩
theorem Reps.len : ∀ {ds : List D} {vs : List V}, Reps c W H ds vs → vs.length = ds.length
  | [], _, h => by rw [show _ = [] from h]; rfl
  | d :: ds, _, ⟨v, r, e, _, h2⟩ => by rw [e, List.length_cons, List.length_cons, Reps.len h2]
theorem Reps.get : ∀ {ds : List D} {vs : List V} {i : Nat} {d : D}, Reps c W H ds vs → ds[i]? = some d → ∃ v, vs[i]? = some v ∧ Rep c W H d v
  | [], _, _, _, _, e => by simp at e
  | x :: ds, _, 0, d, ⟨v, r, e, h1, h2⟩, q => by simp at q; subst q; subst e; exact ⟨v, rfl, h1⟩
  | x :: ds, _, i + 1, d, ⟨v, r, e, h1, h2⟩, q => by
    subst e
    obtain ⟨w, z1, z2⟩ := Reps.get (i := i) (d := d) h2 (by simpa using q)
    exact ⟨w, by simpa using z1, z2⟩
theorem Reps.of_get : ∀ {ds : List D} {vs : List V} {i : Nat} {v : V}, Reps c W H ds vs → vs[i]? = some v → ∃ d, ds[i]? = some d ∧ Rep c W H d v
  | [], _, _, _, h, e => by rw [show _ = [] from h] at e; simp at e
  | x :: ds, _, 0, v, ⟨w, r, e, h1, h2⟩, q => by subst e; simp at q; subst q; exact ⟨x, rfl, h1⟩
  | x :: ds, _, i + 1, v, ⟨w, r, e, h1, h2⟩, q => by
    subst e
    obtain ⟨d, z1, z2⟩ := Reps.of_get (i := i) (v := v) h2 (by simpa using q)
    exact ⟨d, by simpa using z1, z2⟩
theorem Reps.app : ∀ {ds es : List D} {vs ws : List V}, Reps c W H ds vs → Reps c W H es ws → Reps c W H (ds ++ es) (vs ++ ws)
  | [], _, _, _, h, k => by rw [show _ = [] from h]; exact k
  | d :: ds, _, _, _, ⟨v, r, e, h1, h2⟩, k => by subst e; exact ⟨v, _, rfl, h1, Reps.app h2 k⟩
theorem Reps.one {d : D} {v : V} (h : Rep c W H d v) : Reps c W H [d] [v] := ⟨v, [], rfl, h, rfl⟩
theorem Reps.take : ∀ {ds : List D} {vs : List V} (n : Nat), Reps c W H ds vs → Reps c W H (ds.take n) (vs.take n)
  | _, _, 0, _ => rfl
  | [], _, n + 1, h => by rw [show _ = [] from h]; rfl
  | d :: ds, _, n + 1, ⟨v, r, e, h1, h2⟩ => by subst e; exact ⟨v, _, rfl, h1, Reps.take n h2⟩
theorem Reps.drop : ∀ {ds : List D} {vs : List V} (n : Nat), Reps c W H ds vs → Reps c W H (ds.drop n) (vs.drop n)
  | _, _, 0, h => h
  | [], _, n + 1, h => by rw [show _ = [] from h]; rfl
  | d :: ds, _, n + 1, ⟨v, r, e, h1, h2⟩ => by subst e; exact Reps.drop n h2
theorem Reps.set {d : D} {v : V} (h : Rep c W H d v) : ∀ {ds : List D} {vs : List V} (n : Nat), Reps c W H ds vs → Reps c W H (ds.set n d) (vs.set n v)
  | [], _, _, h => by rw [show _ = [] from h]; rfl
  | x :: ds, _, 0, ⟨w, r, e, h1, h2⟩ => by subst e; exact ⟨v, r, rfl, h, h2⟩
  | x :: ds, _, n + 1, ⟨w, r, e, h1, h2⟩ => by subst e; exact ⟨w, _, rfl, h1, Reps.set h n h2⟩
theorem Reps.dropLast : ∀ {ds : List D} {vs : List V}, Reps c W H ds vs → Reps c W H ds.dropLast vs.dropLast
  | [], _, h => by rw [show _ = [] from h]; rfl
  | [x], _, ⟨w, r, e, h1, h2⟩ => by subst e; rw [show r = [] from h2]; rfl
  | x :: y :: ds, _, ⟨w, r, e, h1, h2⟩ => by
    obtain ⟨u, r2, e2, h3, h4⟩ := h2
    subst e; subst e2
    exact ⟨w, _, rfl, h1, Reps.dropLast (ds := y :: ds) ⟨u, r2, rfl, h3, h4⟩⟩
theorem Reps.erase : ∀ {ds : List D} {vs : List V} (n : Nat), Reps c W H ds vs → Reps c W H (ds.eraseIdx n) (vs.eraseIdx n)
  | [], _, _, h => by rw [show _ = [] from h]; rfl
  | x :: ds, _, 0, ⟨w, r, e, h1, h2⟩ => by subst e; exact h2
  | x :: ds, _, n + 1, ⟨w, r, e, h1, h2⟩ => by subst e; exact ⟨w, _, rfl, h1, Reps.erase n h2⟩
theorem FReps.get : ∀ {ds : List (Str × D)} {vs : List (Str × V)} {f : Str} {d : D}, FReps c W H ds vs → ds.lookup f = some d → ∃ v, vs.lookup f = some v ∧ Rep c W H d v
  | [], _, _, _, _, e => by simp at e
  | (g, x) :: ds, _, f, d, ⟨v, r, e, h1, h2⟩, q => by
    subst e
    rw [List.lookup_cons] at q ⊢
    cases hb : f == g with
    | true => rw [hb] at q; simp at q; subst q; exact ⟨v, rfl, h1⟩
    | false => rw [hb] at q; exact FReps.get h2 q
theorem FReps.none : ∀ {ds : List (Str × D)} {vs : List (Str × V)} {f : Str}, FReps c W H ds vs → ds.lookup f = none → vs.lookup f = none
  | [], _, _, h, _ => by rw [show _ = [] from h]; rfl
  | (g, x) :: ds, _, f, ⟨v, r, e, h1, h2⟩, q => by
    subst e
    rw [List.lookup_cons] at q ⊢
    cases hb : f == g with
    | true => rw [hb] at q; simp at q
    | false => rw [hb] at q; exact FReps.none h2 q
theorem FReps.len : ∀ {ds : List (Str × D)} {vs : List (Str × V)}, FReps c W H ds vs → vs.length = ds.length
  | [], _, h => by rw [show _ = [] from h]; rfl
  | (f, d) :: ds, _, ⟨v, r, e, _, h2⟩ => by rw [e, List.length_cons, List.length_cons, FReps.len h2]
end

/-! ### the store -/
structure RS (c : Cn) (W : Wd) (S : Sto) (H : Hp) : Prop where
  len : W.th.length = S.length
  nd : W.th.Nodup
  pr : ∀ a ∈ W.th, ¬ W.pr a
  prt : ∀ a, W.pr a → ∃ o, H a = some o
  ob : ∀ (n : Nat) o, S[n]? = some o → ∃ a, W.th[n]? = some a ∧ ORep c W H a o
/-- behind a call or an expression -/
structure Xt (th : List Addr) (H : Hp) (th' : List Addr) (H' : Hp) : Prop where
  keep : ∀ a o, H a = some o → a ∉ th → H' a = some o ∧ a ∉ th'
  th : ∃ l, th' = th ++ l
theorem Xt.refl {th : List Addr} {H : Hp} : Xt th H th H := ⟨fun _ _ h n => ⟨h, n⟩, [], by simp⟩
theorem Xt.trans {th th' th2 : List Addr} {H H' H2 : Hp} (a : Xt th H th' H') (b : Xt th' H' th2 H2) : Xt th H th2 H2 := by
  obtain ⟨l, e⟩ := a.th
  obtain ⟨l2, e2⟩ := b.th
  exact ⟨fun x o h n => let ⟨h1, n1⟩ := a.keep x o h n; b.keep x o h1 n1, l ++ l2, by rw [e2, e, List.append_assoc]⟩
theorem Xt.get {th th' : List Addr} {H H' : Hp} (x : Xt th H th' H') {n : Nat} {a : Addr} (h : th[n]? = some a) : th'[n]? = some a := by
  obtain ⟨l, e⟩ := x.th
  rw [e, List.getElem?_append_left (List.getElem?_eq_some_iff.mp h).1]
  exact h
theorem Xt.mv {W : Wd} {th' : List Addr} {H H' : Hp} (x : Xt W.th H th' H') : Mv W H (W.to th') H' :=
  ⟨fun a o h u => by
    have n1 : a ∉ W.th := fun z => u (.inl z)
    obtain ⟨h1, n2⟩ := x.keep a o h n1
    exact ⟨h1, fun z => z.elim n2 fun p => u (.inr p)⟩, fun n a h => x.get h⟩
/-- a new object -/
theorem Xt.new {th : List Addr} {H : Hp} {p : Addr} {o : HO} (h : H p = none) : Xt th H th (upd H p o) :=
  ⟨fun a u e n => ⟨by rw [upd_ne (ne_of_none e h)]; exact e, n⟩, [], by simp⟩

structure RE (c : Cn) (W : Wd) (ρ : En) (S : Sto) (σ : L2.St) (H : Hp) : Prop where
  rs : RS c W S H
  sl : ∀ (i : Nat) s, ρ[i]? = some (some s) → ∃ v, σ[i]? = some (some v) ∧ SRep c W H s v
  ln : ρ.length = σ.length
section
variable {c : Cn} {W : Wd} {S S' : Sto} {ρ : En} {σ : L2.St} {H H' : Hp} {th' : List Addr}
theorem SRep.xt (x : Xt W.th H th' H') (rs : RS c (W.to th') S H') {s : Sl} {v : V} (h : SRep c W H s v) : SRep c (W.to th') H' s v := by
  cases s with
  | val d => exact Rep.mv x.mv d v h
  | own ds =>
    obtain ⟨a, vs, e, h1, h2, h3, h4, h5⟩ := h
    obtain ⟨k1, k2⟩ := x.keep a _ h1 h4
    exact ⟨a, vs, e, k1, Reps.mv x.mv ds vs h2, h3, k2, h5⟩
  | exn n x' =>
    obtain ⟨a, C, d, h1, h2, h3, h4⟩ := h
    exact ⟨a, C, d, h1, h2, h3, XR.mv x.mv _ _ h4⟩
theorem RE.xt (r : RE c W ρ S σ H) (x : Xt W.th H th' H') (rs : RS c (W.to th') S' H') : RE c (W.to th') ρ S' σ H' :=
  ⟨rs, fun i s e => let ⟨v, h1, h2⟩ := r.sl i s e; ⟨v, h1, h2.xt x rs⟩, r.ln⟩
/-- a new object (not of the store) -/
theorem RS.new (r : RS c W S H) {p : Addr} {o : HO} (h : H p = none) : RS c W S (upd H p o) := by
  refine ⟨r.len, r.nd, r.pr, fun a q => let ⟨o, e⟩ := r.prt a q; ⟨o, by rw [upd_ne (ne_of_none e h)]; exact e⟩, fun n ob e => ?_⟩
  obtain ⟨a, h1, h2⟩ := r.ob n ob e
  have m : Mv W H W (upd H p o) := (Xt.new (th := W.th) h).mv
  refine ⟨a, h1, ?_⟩
  cases ob with
  | lst ds =>
    obtain ⟨vs, q1, q2, q3⟩ := h2
    exact ⟨vs, by rw [upd_ne (ne_of_none q1 h)]; exact q1, Reps.mv m _ _ q2, q3⟩
  | ins k fs =>
    obtain ⟨C, dx, gs, q0, q1, q2⟩ := h2
    exact ⟨C, dx, gs, q0, by rw [upd_ne (ne_of_none q1 h)]; exact q1, FReps.mv m _ _ q2⟩
  | tab p q => obtain ⟨q0, ps, q1, q2, q3⟩ := h2; exact ⟨q0, ps, by rw [upd_ne (ne_of_none q1 h)]; exact q1, q2, fun pos cv hc => let ⟨cc, c1, c2, c3⟩ := q3 pos cv hc; ⟨cc, c1, (m.keep cc _ c2 c3).1, (m.keep cc _ c2 c3).2⟩⟩
  | dct => have h2 : H a = some (.dK []) := h2; show _ = some (HO.dK []); rw [upd_ne (ne_of_none h2 h)]; exact h2
theorem RS.at_ (r : RS c W S H) {n : Nat} {a : Addr} (h : W.th[n]? = some a) : ∃ o, H a = some o := by
  have hn : n < S.length := by rw [← r.len]; exact (List.getElem?_eq_some_iff.mp h).1
  obtain ⟨b, h1, h2⟩ := r.ob n S[n] (List.getElem?_eq_getElem hn)
  rw [h] at h1
  cases h1
  cases e : S[n] with
  | lst ds => rw [e] at h2; obtain ⟨vs, q, _⟩ := h2; exact ⟨_, q⟩
  | ins k fs => rw [e] at h2; obtain ⟨_, _, _, _, q, _⟩ := h2; exact ⟨_, q⟩
  | tab p k => rw [e] at h2; obtain ⟨_, _, q, _⟩ := h2; exact ⟨_, q⟩
  | dct => rw [e] at h2; exact ⟨_, h2⟩
theorem RS.free (r : RS c W S H) {p : Addr} (h : H p = none) : p ∉ W.th := fun z => by
  obtain ⟨n, hn, e⟩ := List.mem_iff_getElem.mp z
  obtain ⟨o, q⟩ := r.at_ (n := n) (a := p) (by rw [List.getElem?_eq_getElem hn, e])
  rw [h] at q; cases q
theorem RS.nU (r : RS c W S H) {p : Addr} (h : H p = none) : ¬ W.U p := fun z => z.elim (r.free h) fun q => by
  obtain ⟨o, e⟩ := r.prt p q
  rw [h] at e; cases e
end

/-! ### what a function of data says of a reading -/
abbrev RelT (α β : Type) := Wd → Hp → α → β → Prop
def Post {α β : Type} (c : Cn) (W : Wd) (H : Hp) (Wx : Value → Option Addr → Hp → Prop) (R : RelT α β) (Q : β → Hp → Prop) : Out α → Prop
  | .ok a S' => ∀ b th' H', Xt W.th H th' H' → RS c (W.to th') S' H' → R (W.to th') H' a b → Q b H'
  | .exc n x S' => ∀ C d th' H', c.mg n = some (.ref C) → Xt W.th H th' H' → RS c (W.to th') S' H' → XR c (W.to th') H' x d → Wx (.ref C) d H'
  | .bad => False
theorem Post.mono {α β : Type} {c : Cn} {W : Wd} {H H' : Hp} {th' : List Addr} {Wx : Value → Option Addr → Hp → Prop} {R : RelT α β} {Q : β → Hp → Prop} {o : Out α} (p : Post c W H Wx R Q o) (x : Xt W.th H th' H') : Post c (W.to th') H' Wx R Q o := by
  cases o with
  | ok a S' => exact fun b th2 H2 x2 rs r => p b th2 H2 (x.trans x2) rs r
  | exc n y S' => exact fun C d th2 H2 e x2 rs r => p C d th2 H2 e (x.trans x2) rs r
  | bad => exact p
abbrev cn (X : Cx) : Cn := ⟨X.K, X.mg⟩
def Snd {α β : Type} (X : Cx) (Wx : WX) (R : RelT α β) (f : En → Sto → Out α) (t : L2.St → Hp → (β → Hp → Prop) → Prop) : Prop :=
  ∀ W ρ S σ H Q, RE (cn X) W ρ S σ H → Post (cn X) W H (fun e d H' => Wx e d σ H') R Q (f ρ S) → t σ H Q

abbrev rD (X : Cx) : RelT D V := fun W H d v => Rep (cn X) W H d v
abbrev rDs (X : Cx) : RelT (List D) (List V) := fun W H d v => Reps (cn X) W H d v
abbrev rB : RelT Bool Bool := fun _ _ a b => a = b
abbrev rO : RelT (Option Int) (Option Int) := fun _ _ a b => a = b
/-- the judgements -/
abbrev DE := En → Sto → Out D
abbrev DA := En → Sto → Out (List D)
abbrev DT := En → Sto → Out Bool
def PDE (X : Cx) (Wx : WX) (e : Expr) (f : DE) : Prop := ∃ t, PE X e t ∧ Snd X Wx (rD X) f t
def PDT (X : Cx) (Wx : WX) (e : Expr) (f : DT) : Prop := ∃ t, PT X e t ∧ Snd X Wx rB f t
def PDW (X : Cx) (Wx : WX) (e : Expr) (f : DT) : Prop := ∃ t, PW X e t ∧ Snd X Wx rB f t
def PDA (X : Cx) (Wx : WX) (es : List Expr) (f : DA) : Prop := ∃ t, PA X es t ∧ Snd X Wx (rDs X) f t
/-- running one reading behind another -/
theorem Snd.run {α β γ δ : Type} {X : Cx} {Wx : WX} {R : RelT α β} {R2 : RelT γ δ} {f : En → Sto → Out α} {t : L2.St → Hp → (β → Hp → Prop) → Prop} (h : Snd X Wx R f t) {W : Wd} {ρ : En} {S : Sto} {σ : L2.St} {H : Hp} {Q : β → Hp → Prop} {Q2 : δ → Hp → Prop} {g : α → Sto → Out γ}
    (re : RE (cn X) W ρ S σ H) (p : Post (cn X) W H (fun e d H' => Wx e d σ H') R2 Q2 ((f ρ S).bind g))
    (k : ∀ a b th' S' H', RE (cn X) (W.to th') ρ S' σ H' → R (W.to th') H' a b → Xt W.th H th' H' → Post (cn X) (W.to th') H' (fun e d H' => Wx e d σ H') R2 Q2 (g a S') → Q b H') : t σ H Q := by
  refine h W ρ S σ H Q re ?_
  cases e : f ρ S with
  | ok a S' =>
    rw [e] at p
    exact fun b th' H' x rs r => k a b th' S' H' (re.xt x rs) r x (Post.mono p x)
  | exc n y S' => rw [e] at p; exact p
  | bad => rw [e] at p; exact p.elim
end DL

namespace DL
open PySem PySem.Spec PyProof.Rows L2

section
variable {X : Cx} {Wx : WX}

/-! ### names, constants -/
@[simp] def dVar (i : Nat) : DE := fun ρ S => match ρ[i]? with
  | some (some (.val d)) => .ok d S
  | _ => .bad
@[simp] def dC (d : D) : DE := fun _ S => .ok d S
theorem snd_var (i : Nat) : Snd X Wx (rD X) (dVar i) (tVar i) := by
  intro W ρ S σ H Q re p
  unfold dVar at p
  split at p
  · rename_i d e
    obtain ⟨v, h1, h2⟩ := re.sl i _ e
    exact ⟨v, h1, p v W.th H Xt.refl re.rs h2⟩
  · exact p.elim
theorem snd_c {d : D} {v : V} (h : ∀ W H, Rep (cn X) W H d v) : Snd X Wx (rD X) (dC d) (tC v) := by
  intro W ρ S σ H Q re p
  exact p v W.th H Xt.refl re.rs (h W H)
theorem pd_var (i : Nat) {x : Str} {pos : Pos} (hN : X.N[i]? = some x := by rfl) (hv : Vis X.env.scope x := by first | exact Or.inl rfl | exact Or.inr (Or.inl rfl) | exact Or.inr (Or.inr rfl)) (hd : (x == ("__debug__" : Str)) = false := by decide)
    (hcd : (x == ("__classdict__" : Str)) = false := by decide) : PDE X Wx (.Name x pos) (dVar i) := ⟨_, pe_var hN hv hd hcd, snd_var i⟩
theorem pd_int {i j pos} : PDE X Wx (.Constant (.int i) j pos) (dC (.int i)) := ⟨_, pe_int, snd_c fun _ _ => rfl⟩
theorem pd_str {x j pos} : PDE X Wx (.Constant (.str x) j pos) (dC (.str x)) := ⟨_, pe_str, snd_c fun _ _ => rfl⟩
theorem pd_bl {b j pos} : PDE X Wx (.Constant (.bool b) j pos) (dC (.bl b)) := ⟨_, pe_bl, snd_c fun _ _ => rfl⟩
theorem pd_non {j pos} : PDE X Wx (.Constant .none j pos) (dC .non) := ⟨_, pe_non, snd_c fun _ _ => rfl⟩
/-- what a module's name holds -/
structure GlobD (X : Cx) (x : Str) (d : D) : Prop where
  ex : ∃ u v, X.mg x = some u ∧ RelV v u ∧ ∀ W H, Rep (cn X) W H d v
theorem pd_glob {x : Str} {d : D} {pos : Pos} (h : GlobD X x d) (hg : Gl X x := by rfl) (hd : (x == ("__debug__" : Str)) = false := by decide) : PDE X Wx (.Name x pos) (dC d) := by
  obtain ⟨u, v, h1, h2, h3⟩ := h.ex
  exact ⟨_, pe_glob hg h1 h2 hd, snd_c h3⟩
theorem pd_ty {x : Str} {n : String} {pos : Pos} (hm : X.mg x = none) (hv : bootBuiltins x = some (.type n)) (hg : Gl X x := by rfl) (hn : x ≠ "__name__" := by decide) (hd : (x == ("__debug__" : Str)) = false := by decide) : PDE X Wx (.Name x pos) (dC (.ty n)) :=
  ⟨_, pe_bltn (v := .ty n) hg hm hv rfl hn hd, snd_c fun _ _ => rfl⟩

/-! ### operators -/
@[simp] def dOp (op : D → D → Sto → Out D) (f g : DE) : DE := fun ρ S => (f ρ S).bind fun x S1 => (g ρ S1).bind fun y S2 => op x y S2
def ROp (X : Cx) (r : R2) (op : D → D → Sto → Out D) : Prop :=
  ∀ W S x y v w H Q Wy, RS (cn X) W S H → Rep (cn X) W H x v → Rep (cn X) W H y w → Post (cn X) W H Wy (rD X) Q (op x y S) → r v w H Q
theorem snd_op {f g : DE} {ta tb : TE} {r : R2} {op : D → D → Sto → Out D} (h1 : Snd X Wx (rD X) f ta) (h2 : Snd X Wx (rD X) g tb) (hr : ROp X r op) : Snd X Wx (rD X) (dOp op f g) (tOp r ta tb) := by
  intro W ρ S σ H Q re p
  refine h1.run re p fun x v th1 S1 H1 re1 r1 _ p1 => ?_
  refine h2.run re1 p1 fun y w th2 S2 H2 re2 r2 x2 p2 => ?_
  exact hr _ S2 x y v w H2 Q _ re2.rs (Rep.mv x2.mv _ _ r1) r2 p2
theorem pd_op {op : Operator} {r : R2} {a b : Expr} {f g : DE} {o : D → D → Sto → Out D} {pos : Pos} (ho : OpR X (binaryOp op) r) (hr : ROp X r o) (ha : PDE X Wx a f) (hb : PDE X Wx b g) : PDE X Wx (.BinOp a op b pos) (dOp o f g) := by
  obtain ⟨ta, a1, a2⟩ := ha
  obtain ⟨tb, b1, b2⟩ := hb
  exact ⟨_, pe_op ho a1 b1, snd_op a2 b2 hr⟩
/-- of two ints -/
@[simp] def oI (g : Int → Int → Option D) : D → D → Sto → Out D := fun x y S => match x, y with
  | .int i, .int j => (match g i j with
    | some d => .ok d S
    | none => .bad)
  | _, _ => .bad
/-- an answer without the heap -/
def flatD (d : D) (v : V) : Prop := ∀ c W H, Rep c W H d v
theorem rop_I {C : Int → Int → Prop} {gv : Int → Int → V} {g : Int → Int → Option D} (h : ∀ i j d, g i j = some d → C i j ∧ flatD d (gv i j)) : ROp X (rI C gv) (oI g) := by
  intro W S x y v w H Q Wy rs r1 r2 p
  unfold oI at p
  split at p
  · rename_i i j
    split at p
    · rename_i d e
      obtain ⟨h1, h2⟩ := h i j d e
      exact ⟨i, j, r1, r2, h1, p _ W.th H Xt.refl rs (h2 _ _ _)⟩
    · exact p.elim
  · exact p.elim
theorem rop_I0 {gv : Int → Int → V} {g : Int → Int → D} (h : ∀ i j, flatD (g i j) (gv i j)) : ROp X (rI0 gv) (oI fun i j => some (g i j)) := by
  intro W S x y v w H Q Wy rs r1 r2 p
  unfold oI at p
  split at p
  · rename_i i j
    exact ⟨i, j, r1, r2, p _ W.th H Xt.refl rs (h i j _ _ _)⟩
  · exact p.elim
@[simp] def oSub := oI fun i j => some (.int (i - j))
theorem pd_sub {a b : Expr} {f g : DE} {pos : Pos} (ha : PDE X Wx a f) (hb : PDE X Wx b g) : PDE X Wx (.BinOp a .Sub b pos) (dOp oSub f g) := pd_op op_sub (rop_I0 fun _ _ _ _ _ => rfl) ha hb
/-- the size of a product -/
def MulOk (i j : Int) : Prop := CMul i j ∨ CMulW i j
instance (i j : Int) : Decidable (MulOk i j) := by unfold MulOk CMul CMulW; exact inferInstance
theorem op_mulA : OpR X (binaryOp .Mult) (rI MulOk fun i j => .int (i * j)) := opI fun _ _ _ _ _ _ _ hc q => mul_int q (hc.elim CMul.ok CMulW.ok)
def gMul (i j : Int) : Option D := if MulOk i j then some (.int (i * j)) else none
@[simp] def oMul := oI gMul
theorem gMul_ok (i j : Int) (d : D) (h : gMul i j = some d) : MulOk i j ∧ flatD d (.int (i * j)) := by
  unfold gMul at h
  split at h
  · cases h; exact ⟨by assumption, fun _ _ _ => rfl⟩
  · cases h
theorem pd_mul {a b : Expr} {f g : DE} {pos : Pos} (ha : PDE X Wx a f) (hb : PDE X Wx b g) : PDE X Wx (.BinOp a .Mult b pos) (dOp oMul f g) := pd_op op_mulA (rop_I gMul_ok) ha hb
def DivOk (_ j : Int) : Prop := j ≠ 0 ∧ j.natAbs.log2 < 9000
instance (i j : Int) : Decidable (DivOk i j) := by unfold DivOk; exact inferInstance
theorem op_fdivA : OpR X (binaryOp .FloorDiv) (rI DivOk fun i j => .int (i.fdiv j)) := opI fun _ _ _ _ _ _ _ hc q => floordiv_int hc.1 q (.inl (PyProof.noPylong_of_log2 hc.2))
def gDiv (i j : Int) : Option D := if DivOk i j then some (.int (i.fdiv j)) else none
@[simp] def oDiv := oI gDiv
theorem gDiv_ok (i j : Int) (d : D) (h : gDiv i j = some d) : DivOk i j ∧ flatD d (.int (i.fdiv j)) := by
  unfold gDiv at h
  split at h
  · cases h; exact ⟨by assumption, fun _ _ _ => rfl⟩
  · cases h
theorem pd_div {a b : Expr} {f g : DE} {pos : Pos} (ha : PDE X Wx a f) (hb : PDE X Wx b g) : PDE X Wx (.BinOp a .FloorDiv b pos) (dOp oDiv f g) := pd_op op_fdivA (rop_I gDiv_ok) ha hb
def gMod (i j : Int) : Option D := if j ≠ 0 then some (.int (i.fmod j)) else none
@[simp] def oMod := oI gMod
theorem gMod_ok (i j : Int) (d : D) (h : gMod i j = some d) : j ≠ 0 ∧ flatD d (.int (i.fmod j)) := by
  unfold gMod at h
  split at h
  · cases h; exact ⟨by assumption, fun _ _ _ => rfl⟩
  · cases h
theorem pd_mod {a b : Expr} {f g : DE} {pos : Pos} (ha : PDE X Wx a f) (hb : PDE X Wx b g) : PDE X Wx (.BinOp a .Mod b pos) (dOp oMod f g) := pd_op op_modN (rop_I gMod_ok) ha hb
instance (i j : Int) : Decidable (CPow i j) := by unfold CPow; exact inferInstance
def gPow (i j : Int) : Option D := if CPow i j then some (.int (i ^ j.toNat)) else none
@[simp] def oPow := oI gPow
theorem gPow_ok (i j : Int) (d : D) (h : gPow i j = some d) : CPow i j ∧ flatD d (.int (i ^ j.toNat)) := by
  unfold gPow at h
  split at h
  · cases h; exact ⟨by assumption, fun _ _ _ => rfl⟩
  · cases h
theorem pd_pow {a b : Expr} {f g : DE} {pos : Pos} (ha : PDE X Wx a f) (hb : PDE X Wx b g) : PDE X Wx (.BinOp a .Pow b pos) (dOp oPow f g) := pd_op op_pow (rop_I gPow_ok) ha hb
def gShl (i j : Int) : Option D := if CPow i j then some (.int (i * 2 ^ j.toNat)) else none
def oShl := oI gShl
theorem gShl_ok (i j : Int) (d : D) (h : gShl i j = some d) : CPow i j ∧ flatD d (.int (i * 2 ^ j.toNat)) := by
  unfold gShl at h
  split at h
  · cases h; exact ⟨by assumption, fun _ _ _ => rfl⟩
  · cases h
theorem pd_shl {a b : Expr} {f g : DE} {pos : Pos} (ha : PDE X Wx a f) (hb : PDE X Wx b g) : PDE X Wx (.BinOp a .LShift b pos) (dOp oShl f g) := pd_op op_shl (rop_I gShl_ok) ha hb

/-! ### new tuples, new lists -/
theorem post_tup {c : Cn} {W : Wd} {S : Sto} {H : Hp} {Wy : Value → Option Addr → Hp → Prop} {Q : VK} {ds : List D} {vs : List V} (rs : RS c W S H) (p : Post c W H Wy (fun W H d v => Rep c W H d v) Q (.ok (.tup ds) S)) (r : Reps c W H ds vs) (z : ds.length ≤ sizeLine) :
    ∀ a, H a = none → Q (.ref a) (upd H a (.tup vs)) := fun a h =>
  p (.ref a) W.th _ (Xt.new h) (rs.new h) ⟨a, vs, rfl, .inl ⟨.inl upd_same, rs.nU h⟩, Reps.mv (Xt.new h).mv _ _ r, z⟩
theorem post_lst {c : Cn} {W : Wd} {S : Sto} {H : Hp} {Wy : Value → Option Addr → Hp → Prop} {Q : VK} {ds : List D} {vs : List V} (rs : RS c W S H) (p : Post c W H Wy (fun W H d v => Rep c W H d v) Q (.ok (.lst ds) S)) (r : Reps c W H ds vs) (z : ds.length ≤ sizeLine) :
    ∀ a, H a = none → Q (.ref a) (upd H a (.lst vs)) := fun a h =>
  p (.ref a) W.th _ (Xt.new h) (rs.new h) ⟨a, vs, rfl, .inl ⟨.inl upd_same, rs.nU h⟩, Reps.mv (Xt.new h).mv _ _ r, z⟩
theorem post_same {c : Cn} {W : Wd} {S : Sto} {H : Hp} {Wy : Value → Option Addr → Hp → Prop} {Q : VK} {d : D} {v : V} (rs : RS c W S H) (p : Post c W H Wy (fun W H d v => Rep c W H d v) Q (.ok d S)) (r : Rep c W H d v) : Q v H := p v W.th H Xt.refl rs r

/-! ### argument lists, displays -/
@[simp] def dNil : DA := fun _ S => .ok [] S
@[simp] def dCons (f : DE) (g : DA) : DA := fun ρ S => (f ρ S).bind fun x S1 => (g ρ S1).bind fun xs S2 => .ok (x :: xs) S2
theorem snd_nil : Snd X Wx (rDs X) dNil tNil := fun W ρ S σ H Q re p => p [] W.th H Xt.refl re.rs rfl
theorem snd_cons {f : DE} {g : DA} {te : TE} {t : TA} (h1 : Snd X Wx (rD X) f te) (h2 : Snd X Wx (rDs X) g t) : Snd X Wx (rDs X) (dCons f g) (tCons te t) := by
  intro W ρ S σ H Q re p
  refine h1.run re p fun x v th1 S1 H1 re1 r1 _ p1 => ?_
  refine h2.run re1 p1 fun xs vs th2 S2 H2 re2 r2 x2 p2 => ?_
  exact p2 (v :: vs) th2 H2 Xt.refl re2.rs ⟨v, vs, rfl, Rep.mv x2.mv _ _ r1, r2⟩
theorem pda_nil : PDA X Wx [] dNil := ⟨_, pa_nil, snd_nil⟩
theorem pda_cons {e : Expr} {es : List Expr} {f : DE} {g : DA} (h1 : PDE X Wx e f) (h2 : PDA X Wx es g) (hs : starEach (e :: es) X.env = (false, eval e X.env) :: starEach es X.env := by rfl) : PDA X Wx (e :: es) (dCons f g) := by
  obtain ⟨te, a1, a2⟩ := h1
  obtain ⟨t, b1, b2⟩ := h2
  exact ⟨_, pa_cons a1 b1 hs, snd_cons a2 b2⟩
def LIM : Nat := 1000000
theorem lim_le {n : Nat} (h : n ≤ LIM) : n ≤ sizeLine := Nat.le_trans h (by decide)
@[simp] def dTup (g : DA) : DE := fun ρ S => (g ρ S).bind fun xs S1 => if xs.length ≤ LIM then .ok (.tup xs) S1 else .bad
@[simp] def dLst (g : DA) : DE := fun ρ S => (g ρ S).bind fun xs S1 => if xs.length ≤ LIM then .ok (.lst xs) S1 else .bad
theorem pd_tup {es : List Expr} {k : Nat} {pos : Pos} {g : DA} (h : PDA X Wx es g) : PDE X Wx (.Tuple es k pos) (dTup g) := by
  obtain ⟨t, a1, a2⟩ := h
  refine ⟨_, pe_tup a1, fun W ρ S σ H Q re p => ?_⟩
  refine a2.run re p fun xs vs th1 S1 H1 re1 r1 _ p1 => ?_
  split at p1
  · rename_i hz
    exact ⟨by rw [r1.len]; exact lim_le hz, post_tup re1.rs p1 r1 (lim_le hz)⟩
  · exact p1.elim
theorem pd_lst {es : List Expr} {k : Nat} {pos : Pos} {g : DA} (h : PDA X Wx es g) : PDE X Wx (.List es pos) (dLst g) := by
  obtain ⟨t, a1, a2⟩ := h
  refine ⟨_, pe_lst a1, fun W ρ S σ H Q re p => ?_⟩
  refine a2.run re p fun xs vs th1 S1 H1 re1 r1 _ p1 => ?_
  split at p1
  · rename_i hz
    exact ⟨by rw [r1.len]; exact lim_le hz, post_lst re1.rs p1 r1 (lim_le hz)⟩
  · exact p1.elim

/-! ### calls of built-in functions, by values -/
@[simp] def dCB (op : List D → Sto → Out D) (g : DA) : DE := fun ρ S => (g ρ S).bind op
def RCall (X : Cx) (r : List V → Hp → VK → Prop) (op : List D → Sto → Out D) : Prop :=
  ∀ W S ds vs H Q Wy, RS (cn X) W S H → Reps (cn X) W H ds vs → Post (cn X) W H Wy (rD X) Q (op ds S) → r vs H Q
theorem snd_CB {r : List V → Hp → VK → Prop} {op : List D → Sto → Out D} {g : DA} {t : TA} (hr : RCall X r op) (h : Snd X Wx (rDs X) g t) : Snd X Wx (rD X) (dCB op g) (tCB r t) := by
  intro W ρ S σ H Q re p
  exact h.run re p fun ds vs th1 S1 H1 re1 r1 _ p1 => hr _ S1 ds vs H1 Q _ re1.rs r1 p1
theorem pd_callB {x : Str} {p pos : Pos} {e : Expr} {es : List Expr} {g : DA} {id : String} {r : List V → Hp → VK → Prop} {op : List D → Sto → Out D} (hc : CallR X (.builtin id) r) (hr : RCall X r op) (hm : X.mg x = none) (ha : PDA X Wx (e :: es) g)
    (hv : bootBuiltins x = some (.builtin id) := by decide +kernel) (hg : Gl X x := by rfl) (hn : x ≠ "__name__" := by decide) (hdb : (x == ("__debug__" : Str)) = false := by decide)
    (he : starEach (e :: es) X.env = (false, eval e X.env) :: starEach es X.env := by rfl) (hpl : (backTo pos (starEach es X.env)).any (·.1) = false := by rfl) : PDE X Wx (.Call (.Name x p) (e :: es) [] pos) (dCB op g) := by
  obtain ⟨t, a1, a2⟩ := ha
  exact ⟨_, pe_callB hc hg hm hv a1 hn hdb he hpl, snd_CB hr a2⟩
theorem pd_callTy {x : Str} {p pos : Pos} {e : Expr} {es : List Expr} {g : DA} {T : String} {r : List V → Hp → VK → Prop} {op : List D → Sto → Out D} (hc : CallR X (.type T) r) (hr : RCall X r op) (hm : X.mg x = none) (ha : PDA X Wx (e :: es) g)
    (hv : bootBuiltins x = some (.type T) := by decide +kernel) (hg : Gl X x := by rfl) (hn : x ≠ "__name__" := by decide) (hdb : (x == ("__debug__" : Str)) = false := by decide)
    (he : starEach (e :: es) X.env = (false, eval e X.env) :: starEach es X.env := by rfl) (hpl : (backTo pos (starEach es X.env)).any (·.1) = false := by rfl) : PDE X Wx (.Call (.Name x p) (e :: es) [] pos) (dCB op g) := by
  obtain ⟨t, a1, a2⟩ := ha
  exact ⟨_, pe_callTy hc hg hm hv a1 hn hdb he hpl, snd_CB hr a2⟩
theorem pd_callBfun {x : Str} {p pos : Pos} {e : Expr} {es : List Expr} {g : DA} {id : String} {r : List V → Hp → VK → Prop} {op : List D → Sto → Out D} (hc : CallR X (.builtin id) r) (hr : RCall X r op) (hm : X.mg x = some (.builtin id)) (ha : PDA X Wx (e :: es) g)
    (hg : Gl X x := by rfl) (hdb : (x == ("__debug__" : Str)) = false := by decide)
    (he : starEach (e :: es) X.env = (false, eval e X.env) :: starEach es X.env := by rfl) (hpl : (backTo pos (starEach es X.env)).any (·.1) = false := by rfl) : PDE X Wx (.Call (.Name x p) (e :: es) [] pos) (dCB op g) := by
  obtain ⟨t, a1, a2⟩ := ha
  exact ⟨_, pe_callBfun hc hg hm a1 hdb he hpl, snd_CB hr a2⟩
@[simp] def oGcd : List D → Sto → Out D
  | [.int a, .int b], S => .ok (.int ((Nat.gcd a.natAbs b.natAbs : Nat) : Int)) S
  | _, _ => .bad
theorem reps1 {c : Cn} {W : Wd} {H : Hp} {x : D} {vs : List V} (r : Reps c W H [x] vs) : ∃ v, vs = [v] ∧ Rep c W H x v := by
  obtain ⟨v, q, rfl, h, e⟩ := r
  rw [show q = [] from e]; exact ⟨v, rfl, h⟩
theorem reps2 {c : Cn} {W : Wd} {H : Hp} {x y : D} {vs : List V} (r : Reps c W H [x, y] vs) : ∃ v w, vs = [v, w] ∧ Rep c W H x v ∧ Rep c W H y w := by
  obtain ⟨v, q, rfl, h, r2⟩ := r
  obtain ⟨w, rfl, h2⟩ := reps1 r2
  exact ⟨v, w, rfl, h, h2⟩
theorem rc_gcd : RCall X rGcd oGcd := by
  intro W S ds vs H Q Wy rs r p
  unfold oGcd at p
  split at p
  · obtain ⟨v, w, rfl, rfl, rfl⟩ := reps2 r
    exact ⟨_, _, rfl, post_same rs p rfl⟩
  · exact p.elim
end
end DL

namespace DL
open PySem PySem.Spec PyProof.Rows L2

/-! ### the reading that a function of data is -/
def tOf {α β : Type} (c : Cn) (Wx : WX) (R : RelT α β) (f : En → Sto → Out α) : L2.St → Hp → (β → Hp → Prop) → Prop := fun σ H Q => ∃ W ρ S, RE c W ρ S σ H ∧ Post c W H (fun e d H' => Wx e d σ H') R Q (f ρ S)
theorem snd_tOf {α β : Type} {X : Cx} {Wx : WX} {R : RelT α β} {f : En → Sto → Out α} : Snd X Wx R f (tOf (cn X) Wx R f) := fun W ρ S _ _ _ re p => ⟨W, ρ, S, re, p⟩
theorem PDE.pe {X : Cx} {Wx : WX} {e : Expr} {f : DE} (h : PDE X Wx e f) : PE X e (tOf (cn X) Wx (rD X) f) := by
  obtain ⟨t, h1, h2⟩ := h
  refine ⟨fun pins s σ H Q I hw => ?_⟩
  obtain ⟨W, ρ, S, re, p⟩ := hw
  exact h1.run pins s σ H Q I (h2 W ρ S σ H Q re p)
theorem PDT.pt {X : Cx} {Wx : WX} {e : Expr} {f : DT} (h : PDT X Wx e f) : PT X e (tOf (cn X) Wx rB f) := by
  obtain ⟨t, h1, h2⟩ := h
  refine ⟨fun pins s σ H Q I hw => ?_⟩
  obtain ⟨W, ρ, S, re, p⟩ := hw
  exact h1.run pins s σ H Q I (h2 W ρ S σ H Q re p)
def PDTs (X : Cx) (Wx : WX) (es : List Expr) (f : DT) : Prop := ∃ t, PTs X es t ∧ Snd X Wx rB f t
theorem PDTs.pts {X : Cx} {Wx : WX} {e : List Expr} {f : DT} (h : PDTs X Wx e f) : PTs X e (tOf (cn X) Wx rB f) := by
  obtain ⟨t, h1, h2⟩ := h
  refine ⟨fun pins s σ H Q I hw => ?_⟩
  obtain ⟨W, ρ, S, re, p⟩ := hw
  exact h1.run pins s σ H Q I (h2 W ρ S σ H Q re p)

/-! ### statements: what a frame holds alone -/
inductive Rs where
  | nx (ρ : En) (S : Sto)
  | rt (d : D) (S : Sto)
  | bk (ρ : En) (S : Sto)
  | ct (ρ : En) (S : Sto)
  | ex (n : Str) (x : Option (Str × D)) (ρ : En) (S : Sto)
  | bad
abbrev DS := En → Sto → Rs
def ownd (ρ : En) (σ : L2.St) (a : Addr) : Prop := ∃ (i : Nat) (ds : List D), ρ[i]? = some (some (.own ds)) ∧ σ[i]? = some (some (V.ref a))
/-- the addresses that are not to be told of, within a frame -/
abbrev prO (P0 : Addr → Prop) (ρ : En) (σ : L2.St) : Addr → Prop := fun a => P0 a ∨ ownd ρ σ a
/-- a frame's ground: what was not to be told of at its entry; the exception in hand -/
structure Bs where
  P0 : Addr → Prop
  xc : Option (Addr × Value × Option Addr) := none
abbrev Bs.w (B : Bs) (th : List Addr) (ρ : En) (σ : L2.St) : Wd := ⟨th, prO B.P0 ρ σ, B.xc⟩
abbrev Bs.w0 (B : Bs) (th : List Addr) : Wd := ⟨th, B.P0, B.xc⟩
structure RF (c : Cn) (B : Bs) (th : List Addr) (ρ : En) (S : Sto) (σ : L2.St) (H : Hp) : Prop where
  re : RE c (B.w th ρ σ) ρ S σ H
  p0 : ∀ a, ownd ρ σ a → ¬ B.P0 a
  inj : ∀ (i j : Nat) (ds es : List D) (a : Addr), ρ[i]? = some (some (.own ds)) → ρ[j]? = some (some (.own es)) → σ[i]? = some (some (V.ref a)) → σ[j]? = some (some (V.ref a)) → i = j
  len : ρ.length = σ.length
structure Xs (th : List Addr) (ρ : En) (σ : L2.St) (H : Hp) (th' : List Addr) (ρ' : En) (σ' : L2.St) (H' : Hp) : Prop where
  keep : ∀ a o, H a = some o → a ∉ th → ¬ ownd ρ σ a → H' a = some o ∧ a ∉ th' ∧ ¬ ownd ρ' σ' a
  th : ∃ l, th' = th ++ l
theorem Xs.refl {th : List Addr} {ρ : En} {σ : L2.St} {H : Hp} : Xs th ρ σ H th ρ σ H := ⟨fun _ _ h n m => ⟨h, n, m⟩, [], by simp⟩
theorem Xs.trans {th th1 th2 : List Addr} {ρ ρ1 ρ2 : En} {σ σ1 σ2 : L2.St} {H H1 H2 : Hp} (a : Xs th ρ σ H th1 ρ1 σ1 H1) (b : Xs th1 ρ1 σ1 H1 th2 ρ2 σ2 H2) : Xs th ρ σ H th2 ρ2 σ2 H2 := by
  obtain ⟨l, e⟩ := a.th
  obtain ⟨l2, e2⟩ := b.th
  exact ⟨fun x o h n m => let ⟨h1, n1, m1⟩ := a.keep x o h n m; b.keep x o h1 n1 m1, l ++ l2, by rw [e2, e, List.append_assoc]⟩
theorem Xt.xs {th th' : List Addr} {H H' : Hp} (x : Xt th H th' H') (ρ : En) (σ : L2.St) : Xs th ρ σ H th' ρ σ H' := ⟨fun a o h n m => let ⟨h1, n1⟩ := x.keep a o h n; ⟨h1, n1, m⟩, x.th⟩
/-- less is hidden -/
theorem Mv.less {W W' : Wd} {H : Hp} (h : ∀ a, W'.pr a → W.pr a) (e : W'.th = W.th) : Mv W H W' H :=
  ⟨fun a o q u => ⟨q, fun z => u (z.elim (fun m => .inl (by rw [← e]; exact m)) fun p => .inr (h a p))⟩, fun n a q => by rw [e]; exact q⟩
section
variable {c : Cn} {B : Bs} {th th' : List Addr} {ρ ρ' : En} {S S' : Sto} {σ σ' : L2.St} {H H' : Hp}
theorem ORep.mv {W W' : Wd} (m : Mv W H W' H) {a : Addr} {o : O} (h : ORep c W H a o) : ORep c W' H a o := by
  cases o with
  | lst ds => obtain ⟨vs, q1, q2, q3⟩ := h; exact ⟨vs, q1, Reps.mv m _ _ q2, q3⟩
  | ins k fs => obtain ⟨C, dx, gs, q0, q1, q2⟩ := h; exact ⟨C, dx, gs, q0, q1, FReps.mv m _ _ q2⟩
  | tab p q => obtain ⟨q0, ps, q1, q2, q3⟩ := h; exact ⟨q0, ps, q1, q2, fun pos cv hc => let ⟨cc, c1, c2, c3⟩ := q3 pos cv hc; ⟨cc, c1, (m.keep cc _ c2 c3).1, (m.keep cc _ c2 c3).2⟩⟩
  | dct => exact h
theorem RS.less {W W' : Wd} (r : RS c W S H) (h : ∀ a, W'.pr a → W.pr a) (e : W'.th = W.th) : RS c W' S H := by
  refine ⟨by rw [e]; exact r.len, by rw [e]; exact r.nd, fun a m p => r.pr a (by rw [← e]; exact m) (h a p), fun a p => r.prt a (h a p), fun n o q => ?_⟩
  obtain ⟨a, h1, h2⟩ := r.ob n o q
  exact ⟨a, by rw [e]; exact h1, ORep.mv (Mv.less h e) h2⟩
theorem RF.rs (r : RF c B th ρ S σ H) : RS c (B.w th ρ σ) S H := r.re.rs
theorem RF.xt (r : RF c B th ρ S σ H) (x : Xt th H th' H') (rs : RS c (B.w th' ρ σ) S' H') : RF c B th' ρ S' σ H' :=
  ⟨RE.xt (W := B.w th ρ σ) r.re x rs, r.p0, r.inj, r.len⟩
theorem RF.rs0 (r : RF c B th ρ S σ H) : RS c (B.w0 th) S H := r.rs.less (fun _ h => .inl h) rfl
end
def PostS (c : Cn) (B : Bs) (th : List Addr) (ρ : En) (σ : L2.St) (H : Hp) (Wx : WX) (D : Ends) : Rs → Prop
  | .nx ρ' S' => ∀ σ' H' th', Xs th ρ σ H th' ρ' σ' H' → RF c B th' ρ' S' σ' H' → D.nx σ' H'
  | .bk ρ' S' => ∀ σ' H' th', Xs th ρ σ H th' ρ' σ' H' → RF c B th' ρ' S' σ' H' → D.bk σ' H'
  | .ct ρ' S' => ∀ σ' H' th', Xs th ρ σ H th' ρ' σ' H' → RF c B th' ρ' S' σ' H' → D.ct σ' H'
  | .rt d S' => ∀ v H' th', Xs th ρ σ H th' [] [] H' → RS c (B.w0 th') S' H' → Rep c (B.w0 th') H' d v → D.rt v H'
  | .ex n x ρ' S' => ∀ C d σ' H' th', c.mg n = some (.ref C) → Xs th ρ σ H th' ρ' σ' H' → RF c B th' ρ' S' σ' H' → XR c (B.w th' ρ' σ') H' x d → Wx (.ref C) d σ' H'
  | .bad => False
theorem PostS.mono {c : Cn} {B : Bs} {th th' : List Addr} {ρ ρ' : En} {σ σ' : L2.St} {H H' : Hp} {Wx : WX} {D : Ends} {r : Rs} (p : PostS c B th ρ σ H Wx D r) (x : Xs th ρ σ H th' ρ' σ' H') : PostS c B th' ρ' σ' H' Wx D r := by
  cases r with
  | nx ρ2 S2 => exact fun σ2 H2 th2 x2 r => p σ2 H2 th2 (x.trans x2) r
  | bk ρ2 S2 => exact fun σ2 H2 th2 x2 r => p σ2 H2 th2 (x.trans x2) r
  | ct ρ2 S2 => exact fun σ2 H2 th2 x2 r => p σ2 H2 th2 (x.trans x2) r
  | rt d S2 => exact fun v H2 th2 x2 r q => p v H2 th2 (x.trans x2) r q
  | ex n y ρ2 S2 => exact fun C d σ2 H2 th2 e x2 r q => p C d σ2 H2 th2 e (x.trans x2) r q
  | bad => exact p
def SndS (X : Cx) (Wx : WX) (f : DS) (t : TS) : Prop := ∀ B th ρ S σ H D, RF (cn X) B th ρ S σ H → PostS (cn X) B th ρ σ H Wx D (f ρ S) → t D σ H
def PDS (X : Cx) (Wx : WX) (st : Stmt) (f : DS) : Prop := ∃ t, PS X st t ∧ SndS X Wx f t
def PDSs (X : Cx) (Wx : WX) (st : List Stmt) (f : DS) : Prop := ∃ t, PSs X st t ∧ SndS X Wx f t
def tOfS (c : Cn) (Wx : WX) (f : DS) : TS := fun D σ H => ∃ B th ρ S, RF c B th ρ S σ H ∧ PostS c B th ρ σ H Wx D (f ρ S)
theorem PDSs.pss {X : Cx} {Wx : WX} {st : List Stmt} {f : DS} (h : PDSs X Wx st f) : PSs X st (tOfS (cn X) Wx f) := by
  obtain ⟨t, h1, h2⟩ := h
  refine ⟨fun pins s σ H D I hw => ?_⟩
  obtain ⟨B, th, ρ, S, re, p⟩ := hw
  exact h1.run pins s σ H D I (h2 B th ρ S σ H D re p)
/-- an expression's answer within a statement -/
@[simp] def Out.st {α : Type} (o : Out α) (ρ : En) (k : α → Sto → Rs) : Rs := match o with
  | .ok a S => k a S
  | .exc n x S => .ex n x ρ S
  | .bad => .bad
@[simp] theorem Out.st_ok {α : Type} {a : α} {S : Sto} {ρ : En} {k : α → Sto → Rs} : (Out.ok a S).st ρ k = k a S := rfl
@[simp] theorem Out.st_exc {α : Type} {n x} {S : Sto} {ρ : En} {k : α → Sto → Rs} : (Out.exc n x S : Out α).st ρ k = .ex n x ρ S := rfl
@[simp] theorem Out.st_bad {α : Type} {ρ : En} {k : α → Sto → Rs} : (Out.bad : Out α).st ρ k = .bad := rfl
section
variable {X : Cx} {Wx : WX}
theorem Snd.runS {α β : Type} {R : RelT α β} {f : En → Sto → Out α} {t : L2.St → Hp → (β → Hp → Prop) → Prop} (h : Snd X Wx R f t) {B : Bs} {th : List Addr} {ρ : En} {S : Sto} {σ : L2.St} {H : Hp} {Q : β → Hp → Prop} {D : Ends} {k : α → Sto → Rs}
    (rf : RF (cn X) B th ρ S σ H) (p : PostS (cn X) B th ρ σ H Wx D ((f ρ S).st ρ k))
    (go : ∀ a b th' S' H', RF (cn X) B th' ρ S' σ H' → R (B.w th' ρ σ) H' a b → Xt th H th' H' → PostS (cn X) B th' ρ σ H' Wx D (k a S') → Q b H') : t σ H Q := by
  refine h (B.w th ρ σ) ρ S σ H Q rf.re ?_
  cases e : f ρ S with
  | ok a S' =>
    rw [e] at p
    exact fun b th' H' x rs r => go a b th' S' H' (rf.xt x rs) r x (p.mono (x.xs ρ σ))
  | exc n y S' =>
    rw [e] at p
    exact fun C d th' H' hm x rs xr => p C d σ H' th' hm (x.xs ρ σ) (rf.xt x rs) xr
  | bad => rw [e] at p; exact p.elim

/-! ### blocks -/
@[simp] def dNext : DS := fun ρ S => .nx ρ S
@[simp] def dSeq (f g : DS) : DS := fun ρ S => match f ρ S with
  | .nx ρ' S' => g ρ' S'
  | r => r
theorem sndS_seq {f g : DS} {t u : TS} (h1 : SndS X Wx f t) (h2 : SndS X Wx g u) : SndS X Wx (dSeq f g) (tSeq t u) := by
  intro B th ρ S σ H D rf p
  unfold dSeq at p
  refine h1 B th ρ S σ H _ rf ?_
  cases e : f ρ S with
  | nx ρ' S' =>
    rw [e] at p
    exact fun σ' H' th' x rf' => h2 B th' ρ' S' σ' H' D rf' (PostS.mono p x)
  | _ => rw [e] at p; exact p
theorem pdss_nil : PDSs X Wx [] dNext := ⟨_, pss_nil, fun B th ρ S σ H D rf p => p σ H th Xs.refl rf⟩
theorem pdss_cons {st : Stmt} {rest : List Stmt} {f g : DS} (h1 : PDS X Wx st f) (h2 : PDSs X Wx rest g) : PDSs X Wx (st :: rest) (dSeq f g) := by
  obtain ⟨t, a1, a2⟩ := h1
  obtain ⟨u, b1, b2⟩ := h2
  exact ⟨_, pss_cons a1 b1, sndS_seq a2 b2⟩
theorem pdss_one {st : Stmt} {f : DS} (h1 : PDS X Wx st f) : PDSs X Wx [st] f := by
  obtain ⟨t, a1, a2⟩ := h1
  exact ⟨_, pss_one a1, a2⟩
@[simp] def dPass : DS := fun ρ S => .nx ρ S
theorem pds_pass {pos : Pos} : PDS X Wx (.Pass pos) dPass := ⟨_, ps_pass, fun B th ρ S σ H D rf p => p σ H th Xs.refl rf⟩
theorem pds_doc {x j pos pos'} : PDS X Wx (.Expr (.Constant (.str x) j pos) pos') dPass := ⟨_, ps_doc, fun B th ρ S σ H D rf p => p σ H th Xs.refl rf⟩

/-! ### a name is bound to a value -/
theorem ownd_set {ρ : En} {σ : L2.St} {i : Nat} {d : Sl} {v : V} (hl : ρ.length = σ.length) (hd : ∀ ds, d ≠ .own ds) {a : Addr} (h : ownd (ρ.set i (some d)) (σ.set i (some v)) a) : ownd ρ σ a := by
  obtain ⟨j, ds, h1, h2⟩ := h
  by_cases hj : i = j
  · subst hj
    by_cases hi : i < ρ.length
    · rw [List.getElem?_set_self hi] at h1
      simp only [Option.some.injEq] at h1
      exact absurd h1 (hd ds)
    · rw [List.getElem?_eq_none (by simpa using hi)] at h1; cases h1
  · rw [List.getElem?_set_ne hj] at h1 h2
    exact ⟨j, ds, h1, h2⟩
theorem RF.set {c : Cn} {B : Bs} {th : List Addr} {ρ : En} {S : Sto} {σ : L2.St} {H : Hp} (r : RF c B th ρ S σ H) (i : Nat) {d : Sl} {v : V} (hd : ∀ ds, d ≠ .own ds) (h : SRep c (B.w th (ρ.set i (some d)) (σ.set i (some v))) H d v) :
    RF c B th (ρ.set i (some d)) S (σ.set i (some v)) H ∧ Xs th ρ σ H th (ρ.set i (some d)) (σ.set i (some v)) H := by
  have hp : ∀ a, (B.w th (ρ.set i (some d)) (σ.set i (some v))).pr a → (B.w th ρ σ).pr a := fun a z => z.elim .inl fun q => .inr (ownd_set r.len hd q)
  have m : Mv (B.w th ρ σ) H (B.w th (ρ.set i (some d)) (σ.set i (some v))) H := Mv.less hp rfl
  refine ⟨⟨⟨r.rs.less hp rfl, fun j s e => ?_, by simpa using r.len⟩, fun a q => r.p0 a (ownd_set r.len hd q), fun j k ds es a e1 e2 e3 e4 => ?_, by simpa using r.len⟩, ⟨fun a o q n z => ⟨q, n, fun y => z (ownd_set r.len hd y)⟩, [], by simp⟩⟩
  · by_cases hj : i = j
    · subst hj
      have hi : i < ρ.length := by
        have := (List.getElem?_eq_some_iff.mp e).1
        simpa using this
      rw [List.getElem?_set_self hi] at e
      simp only [Option.some.injEq] at e
      subst e
      exact ⟨v, by rw [List.getElem?_set_self (by rw [← r.len]; exact hi)], h⟩
    · rw [List.getElem?_set_ne hj] at e
      obtain ⟨w, h1, h2⟩ := r.re.sl j s e
      refine ⟨w, by rw [List.getElem?_set_ne hj]; exact h1, ?_⟩
      cases s with
      | val x => exact Rep.mv m _ _ h2
      | own ds =>
        obtain ⟨a, vs, q1, q2, q3, q4, q5, q6⟩ := h2
        refine ⟨a, vs, q1, q2, Reps.mv m _ _ q3, ?_, q5, q6⟩
        subst q1
        exact .inr ⟨j, ds, by rw [List.getElem?_set_ne hj]; exact e, by rw [List.getElem?_set_ne hj]; exact h1⟩
      | exn n x =>
        obtain ⟨a, C, d', q1, q2, q3, q4⟩ := h2
        exact ⟨a, C, d', q1, q2, q3, XR.mv m _ _ q4⟩
  · have f : ∀ (j : Nat) (ds : List D), (ρ.set i (some d))[j]? = some (some (.own ds)) → i ≠ j ∧ ρ[j]? = some (some (.own ds)) := fun j ds e => by
      by_cases hj : i = j
      · subst hj
        have hi : i < ρ.length := by
          have := (List.getElem?_eq_some_iff.mp e).1
          simpa using this
        rw [List.getElem?_set_self hi] at e
        simp only [Option.some.injEq] at e
        exact absurd e (hd ds)
      · rw [List.getElem?_set_ne hj] at e; exact ⟨hj, e⟩
    obtain ⟨n1, e1⟩ := f j ds e1
    obtain ⟨n2, e2⟩ := f k es e2
    rw [List.getElem?_set_ne n1] at e3
    rw [List.getElem?_set_ne n2] at e4
    exact r.inj j k ds es a e1 e2 e3 e4
@[simp] def dSet (i : Nat) (f : DE) : DS := fun ρ S => (f ρ S).st ρ fun d S1 => .nx (ρ.set i (some (.val d))) S1
theorem sndS_set {i : Nat} {f : DE} {te : TE} (h : Snd X Wx (rD X) f te) : SndS X Wx (dSet i f) (tAsg te (gName i)) := by
  intro B th ρ S σ H D rf p
  refine h.runS rf p fun d v th' S' H' rf' r x p' => ?_
  have hn : ∀ ds, Sl.val d ≠ .own ds := fun _ z => by cases z
  have m : Mv (B.w th' ρ σ) H' (B.w th' (ρ.set i (some (.val d))) (σ.set i (some v))) H' := Mv.less (fun a (z : B.P0 a ∨ _) => z.elim .inl fun q => .inr (ownd_set rf'.len hn q)) rfl
  obtain ⟨rf2, x2⟩ := rf'.set i (d := .val d) (v := v) hn (Rep.mv m _ _ r)
  exact p' _ _ _ x2 rf2
theorem pds_set {i : Nat} {x : Str} {e : Expr} {f : DE} {pos pos' : Pos} (h : PDE X Wx e f) (hN : X.N.Nodup) (hi : X.N[i]? = some x := by rfl) (hx : Loc X.env.scope x := by first | exact Or.inl rfl | exact Or.inr rfl)
    (hs : swapsWith e (some (.Name x pos')) pos.line X.env = pure false := by rfl) (hf : X.fn x = true ∨ X.env.scope.names.lookup x = some .local := by first | exact .inl rfl | exact .inr rfl) : PDS X Wx (.Assign [.Name x pos'] e pos) (dSet i f) := by
  obtain ⟨t, a1, a2⟩ := h
  exact ⟨_, ps_set hN hi hx a1 hs hf, sndS_set a2⟩
/-- an expression alone -/
@[simp] def dDrop (f : DE) : DS := fun ρ S => (f ρ S).st ρ fun _ S1 => .nx ρ S1
theorem pds_expr {e : Expr} {f : DE} {pos : Pos} (h : PDE X Wx e f) (hs : swapsWith e none pos.line X.env = pure false := by rfl) : PDS X Wx (.Expr e pos) (dDrop f) := by
  obtain ⟨t, a1, a2⟩ := h
  refine ⟨_, ps_expr a1 hs, fun B th ρ S σ H D rf p => ?_⟩
  exact a2.runS rf p fun d v th' S' H' rf' r x p' => p' σ H' th' Xs.refl rf'

/-! ### what the frame alone holds is let free -/
@[simp] def Sl.fz : Sl → Sl
  | .own ds => .val (.lst ds)
  | s => s
@[simp] def fzE (ρ : En) : En := ρ.map (·.map Sl.fz)
def fzI (i : Nat) (ρ : En) : En := ρ.modify i (·.map Sl.fz)
theorem fzE_get {ρ : En} {i : Nat} {s : Sl} (h : (fzE ρ)[i]? = some (some s)) : ∃ s0, ρ[i]? = some (some s0) ∧ s = s0.fz := by
  unfold fzE at h
  rw [List.getElem?_map] at h
  cases e : ρ[i]? with
  | none => rw [e] at h; cases h
  | some o =>
    rw [e] at h
    cases o with
    | none => cases h
    | some s0 => simp at h; exact ⟨s0, rfl, h.symm⟩
theorem fzI_get {ρ : En} {i j : Nat} {s : Sl} (h : (fzI i ρ)[j]? = some (some s)) : ∃ s0, ρ[j]? = some (some s0) ∧ (s = s0.fz ∨ (i ≠ j ∧ s = s0)) := by
  unfold fzI at h
  rw [List.getElem?_modify] at h
  cases e : ρ[j]? with
  | none => rw [e] at h; cases h
  | some o =>
    rw [e] at h
    by_cases hj : i = j
    · subst hj
      cases o with
      | none => simp at h
      | some s0 => simp at h; exact ⟨s0, rfl, .inl h.symm⟩
    · simp only [hj, if_false] at h
      cases o with
      | none => cases h
      | some s0 => simp at h; exact ⟨s0, rfl, .inr ⟨hj, h.symm⟩⟩
/-- some of the lists are let free -/
theorem RF.free {c : Cn} {B : Bs} {th : List Addr} {ρ ρ' : En} {S : Sto} {σ : L2.St} {H : Hp} (r : RF c B th ρ S σ H) (hl : ρ'.length = ρ.length)
    (hg : ∀ (i : Nat) s, ρ'[i]? = some (some s) → ∃ s0, ρ[i]? = some (some s0) ∧ (s = s0.fz ∨ s = s0)) : RF c B th ρ' S σ H ∧ Xs th ρ σ H th ρ' σ H := by
  have back : ∀ (i : Nat) ds, ρ'[i]? = some (some (.own ds)) → ρ[i]? = some (some (.own ds)) := fun i ds e => by
    obtain ⟨s0, h1, h2⟩ := hg i _ e
    cases s0 with
    | val d => rcases h2 with h2 | h2 <;> cases h2
    | own es =>
      rcases h2 with h2 | h2
      · cases h2
      · rw [h1, ← h2]
    | exn n x => rcases h2 with h2 | h2 <;> cases h2
  have ho : ∀ a, ownd ρ' σ a → ownd ρ σ a := fun a ⟨i, ds, h1, h2⟩ => ⟨i, ds, back i ds h1, h2⟩
  have hp : ∀ a, (B.w th ρ' σ).pr a → (B.w th ρ σ).pr a := fun a z => z.elim .inl fun q => .inr (ho a q)
  have m : Mv (B.w th ρ σ) H (B.w th ρ' σ) H := Mv.less hp rfl
  refine ⟨⟨⟨r.rs.less hp rfl, fun j s e => ?_, hl.trans r.len⟩, fun a q => r.p0 a (ho a q), fun j k ds es a e1 e2 e3 e4 => r.inj j k ds es a (back j ds e1) (back k es e2) e3 e4, hl.trans r.len⟩, ⟨fun a o q n z => ⟨q, n, fun y => z (ho a y)⟩, [], by simp⟩⟩
  obtain ⟨s0, h1, h2⟩ := hg j s e
  obtain ⟨w, h3, h4⟩ := r.re.sl j s0 h1
  refine ⟨w, h3, ?_⟩
  cases s0 with
  | val x =>
    have e2 : s = .val x := by rcases h2 with h2 | h2 <;> exact h2
    subst e2
    exact Rep.mv m _ _ h4
  | exn n x =>
    have e2 : s = .exn n x := by rcases h2 with h2 | h2 <;> exact h2
    subst e2
    obtain ⟨a, C, d', q1, q2, q3, q4⟩ := h4
    exact ⟨a, C, d', q1, q2, q3, XR.mv m _ _ q4⟩
  | own ds =>
    obtain ⟨a, vs, q1, q2, q3, q4, q5, q6⟩ := h4
    subst q1
    rcases h2 with h2 | h2
    · have e2 : s = .val (.lst ds) := h2
      subst e2
      refine ⟨a, vs, rfl, .inl ⟨.inl q2, fun z => ?_⟩, Reps.mv m _ _ q3, q6⟩
      rcases z with z | z | z
      · exact q5 z
      · exact r.p0 a ⟨j, ds, h1, h3⟩ z
      · obtain ⟨k, es, k1, k2⟩ := z
        have e3 : k = j := r.inj k j es ds a (back k es k1) h1 k2 h3
        subst e3
        rw [e] at k1
        cases k1
    · subst h2
      exact ⟨a, vs, rfl, q2, Reps.mv m _ _ q3, .inr ⟨j, ds, e, h3⟩, q5, q6⟩
def dFz (i : Nat) (f : DS) : DS := fun ρ S => f (fzI i ρ) S
theorem fzI_len {ρ : En} {i : Nat} : (fzI i ρ).length = ρ.length := by unfold fzI; simp
theorem fzE_len {ρ : En} : (fzE ρ).length = ρ.length := by unfold fzE; simp
/-- ahead of a statement -/
theorem pds_fz (i : Nat) {st : Stmt} {f : DS} (h : PDS X Wx st f) : PDS X Wx st (dFz i f) := by
  obtain ⟨t, a1, a2⟩ := h
  refine ⟨t, a1, fun B th ρ S σ H D rf p => ?_⟩
  obtain ⟨rf2, x⟩ := rf.free (ρ' := fzI i ρ) fzI_len fun j s e => let ⟨s0, h1, h2⟩ := fzI_get e; ⟨s0, h1, h2.imp id And.right⟩
  exact a2 B th _ S σ H D rf2 (PostS.mono p x)

/-! ### return -/
@[simp] def dRet (f : DE) : DS := fun ρ S => (f (fzE ρ) S).st (fzE ρ) fun d S1 => .rt d S1
theorem pds_ret {e : Expr} {f : DE} {pos : Pos} (h : PDE X Wx e f) : PDS X Wx (.Return (some e) pos) (dRet f) := by
  obtain ⟨t, a1, a2⟩ := h
  refine ⟨_, ps_ret a1, fun B th ρ S σ H D rf p => ?_⟩
  obtain ⟨rf2, x⟩ := rf.free (ρ' := fzE ρ) fzE_len fun j s e => let ⟨s0, h1, h2⟩ := fzE_get e; ⟨s0, h1, .inl h2⟩
  have p2 := PostS.mono (D := D) (Wx := Wx) p x
  refine a2.runS rf2 p2 fun d v th' S' H' rf' r x' p' => ?_
  have no : ∀ a, ¬ ownd (fzE ρ) σ a := fun a ⟨j, ds, h1, _⟩ => by
    obtain ⟨s0, _, h2⟩ := fzE_get h1
    cases s0 <;> cases h2
  refine p' v H' th' ⟨fun a o q n _ => ⟨q, n, fun ⟨j, ds, h1, _⟩ => by simp at h1⟩, [], by simp⟩ rf'.rs0 ?_
  have m : Mv (B.w th' (fzE ρ) σ) H' (B.w0 th') H' := Mv.less (fun a z => Or.inl z) rfl
  exact Rep.mv m _ _ r
def dRetN : DS := fun _ S => .rt .non S
theorem pds_retN {pos : Pos} : PDS X Wx (.Return none pos) dRetN := by
  refine ⟨_, ps_retN, fun B th ρ S σ H D rf p => ?_⟩
  refine p .non H th ⟨fun a o q n _ => ⟨q, n, fun ⟨j, ds, h1, _⟩ => by simp at h1⟩, [], by simp⟩ rf.rs0 rfl

/-! ### if -/
@[simp] def dIfS (c : DT) (f g : DS) : DS := fun ρ S => (c ρ S).st ρ fun b S1 => if b = true then f ρ S1 else g ρ S1
theorem pds_if {e : Expr} {a b : List Stmt} {c : DT} {f g : DS} {pos : Pos} (hc : PDT X Wx e c) (ha : PDSs X Wx a f) (hb : PDSs X Wx b g) : PDS X Wx (.If e a b pos) (dIfS c f g) := by
  obtain ⟨tc, c1, c2⟩ := hc
  obtain ⟨t, a1, a2⟩ := ha
  obtain ⟨u, b1, b2⟩ := hb
  refine ⟨_, ps_if c1 a1 b1, fun B th ρ S σ H D rf p => ?_⟩
  refine c2.runS rf p fun k k' th' S' H' rf' r x p' => ?_
  cases r
  cases k with
  | true => exact a2 B th' ρ S' σ H' D rf' p'
  | false => exact b2 B th' ρ S' σ H' D rf' p'
end
end DL

namespace DL
open PySem PySem.Spec PyProof.Rows L2

/-! ### a def as a function of data -/
@[simp] def frame (n : Nat) (ds : List D) : En := ds.map (fun d => some (.val d)) ++ List.replicate (n - ds.length) none
@[simp] def Rs.out : Rs → Out D
  | .rt d S' => .ok d S'
  | .nx _ S' => .ok .non S'
  | .ex n x _ S' => .exc n x S'
  | _ => .bad
@[simp] def dFn (np nN : Nat) (body : DS) : List D → Sto → Out D := fun ds S => if ds.length = np then (body (frame nN ds) S).out else .bad
/-- its promise -/
def spD (c : Cn) (den : List D → Sto → Out D) : Sp := fun vs H Q E => ∃ W ds S, RS c W S H ∧ Reps c W H ds vs ∧ Post c W H E (fun W H d v => Rep c W H d v) Q (den ds S)
theorem frame_val {n : Nat} {ds : List D} {i : Nat} {s : Sl} (h : (frame n ds)[i]? = some (some s)) : ∃ d, ds[i]? = some d ∧ s = .val d := by
  unfold frame at h
  by_cases hi : i < ds.length
  · rw [List.getElem?_append_left (by simpa using hi), List.getElem?_map] at h
    cases e : ds[i]? with
    | none => rw [e] at h; cases h
    | some d => rw [e] at h; simp at h; exact ⟨d, rfl, h.symm⟩
  · rw [List.getElem?_append_right (by simpa using hi), List.getElem?_replicate] at h
    split at h <;> cases h
section
variable {P : Program} {w : World} {K : PySem.W.Frag} {mg : Str → Option Value} {base : Heap}
theorem rf_start {N : List Str} {W : Wd} {ds : List D} {vs : List V} {S : Sto} {H : Hp} (rs : RS ⟨K, mg⟩ W S H) (r : Reps ⟨K, mg⟩ W H ds vs) : RF ⟨K, mg⟩ ⟨W.pr, W.xc⟩ W.th (frame N.length ds) S (start N vs) H := by
  have no : ∀ a, ¬ ownd (frame N.length ds) (start N vs) a := fun a ⟨i, es, h1, _⟩ => by
    obtain ⟨d, _, e⟩ := frame_val h1
    cases e
  have hp : ∀ a, (Bs.w ⟨W.pr, W.xc⟩ W.th (frame N.length ds) (start N vs)).pr a → W.pr a := fun a (z : W.pr a ∨ _) => z.elim id fun q => (no a q).elim
  have m : Mv W H (Bs.w ⟨W.pr, W.xc⟩ W.th (frame N.length ds) (start N vs)) H := Mv.less hp rfl
  have hl := r.len
  have ln : (frame N.length ds).length = (L2.start N vs).length := by
    unfold frame L2.start
    simp only [List.length_append, List.length_map, List.length_replicate]
    omega
  refine ⟨⟨rs.less hp rfl, fun i s e => ?_, ln⟩, fun a q => (no a q).elim, fun i j es _ _ e1 _ _ _ => ?_, ln⟩
  · obtain ⟨d, h1, rfl⟩ := frame_val e
    obtain ⟨v, h2, h3⟩ := r.get h1
    refine ⟨v, ?_, Rep.mv m _ _ h3⟩
    unfold L2.start
    have hi : i < vs.length := (List.getElem?_eq_some_iff.mp h2).1
    rw [List.getElem?_append_left (by simpa using hi), List.getElem?_map, h2]
    rfl
  · obtain ⟨d, _, e⟩ := frame_val e1
    cases e
/-- THE RULE for a def -/
theorem fok {x qual : Str} {params : Arguments} {body : List Stmt} {scope : Scope} {dvs : List V} {kws : List (Str × V)} {f : Addr} {fd : FuncData} {N ps : List Str} {k : Nat} {bd : DS} (F : FunD K x qual params body scope dvs kws f fd) (S : FnScope N ps scope)
    (hb : ∀ (cdv : Value) (A : Around) (outer : List PySem.Env) (s : Shared) (H : Hp) (E : XK), Room k (A.deeper (envOfC qual scope s.heap.objs.size f cdv)) →
      Takes (cxOf (L2.CX P w) P w K mg base N qual scope f cdv A outer s H E) (fun cls d _ H => E cls d H) →
      PassesOwn (model P w) (A.deeper (envOfC qual scope s.heap.objs.size f cdv)) (envOfC qual scope s.heap.objs.size f cdv) (cxOf (L2.CX P w) P w K mg base N qual scope f cdv A outer s H E).xe →
      PDSs (cxOf (L2.CX P w) P w K mg base N qual scope f cdv A outer s H E) (fun cls d _ H => E cls d H) body bd) :
    FnOk P w K mg base (L2.CX P w) (k + 1) f fd ps (spD ⟨K, mg⟩ (dFn ps.length N.length bd)) := by
  refine F.ok S (fun vs H Q E h => ?_) (fun cdv A outer s H vs Q E hr h => ?_)
  · obtain ⟨W, ds, S, rs, r, p⟩ := h
    unfold dFn at p
    split at p
    · rename_i e
      rw [r.len, e]
    · exact p.elim
  · obtain ⟨W, ds, S, rs, r, p⟩ := h
    obtain ⟨t, a1, a2⟩ := hb cdv A outer s H E hr (takes_of rfl rfl rfl rfl) (passes_of rfl)
    refine ⟨t, a1, a2 ⟨W.pr, W.xc⟩ W.th (frame N.length ds) S (start N vs) H _ (rf_start rs r) ?_⟩
    have no : ∀ a, ¬ ownd (frame N.length ds) (start N vs) a := fun a ⟨i, es, h1, _⟩ => by
      obtain ⟨d, _, e⟩ := frame_val h1
      cases e
    unfold dFn at p
    split at p
    · cases e : bd (frame N.length ds) S with
      | nx ρ' S' =>
        rw [e] at p
        intro σ' H' th' x rf
        exact p V.non th' H' ⟨fun a o q n => let ⟨k1, k2, _⟩ := x.keep a o q n (no a); ⟨k1, k2⟩, x.th⟩ rf.rs0 rfl
      | rt d S' =>
        rw [e] at p
        intro v H' th' x rs' r'
        exact p v th' H' ⟨fun a o q n => let ⟨k1, k2, _⟩ := x.keep a o q n (no a); ⟨k1, k2⟩, x.th⟩ rs' r'
      | ex n y ρ' S' =>
        rw [e] at p
        intro C d σ' H' th' hm x rf xr
        have m : Mv (Bs.w ⟨W.pr, W.xc⟩ th' ρ' σ') H' (W.to th') H' := Mv.less (fun a z => Or.inl z) rfl
        exact p C d th' H' hm ⟨fun a o q n => let ⟨k1, k2, _⟩ := x.keep a o q n (no a); ⟨k1, k2⟩, x.th⟩ rf.rs0 (XR.mv m _ _ xr)
      | bk _ _ => rw [e] at p; exact p.elim
      | ct _ _ => rw [e] at p; exact p.elim
      | bad => rw [e] at p; exact p.elim
    · exact p.elim
/-- a def, called with positional arguments -/
structure Fo (P : Program) (w : World) (c : Cn) (base : Heap) (k : Nat) (f : Addr) (den : List D → Sto → Out D) : Prop where
  ex : ∃ fd ps ds dvs dds den0, FnOk P w c.K c.mg base (L2.CX P w) k f fd ps (spD c den0) ∧ Binds c.K fd ps ds ∧ Vals dvs ds ∧ (∀ W H, Reps c W H dds dvs) ∧ den = fun xs S => den0 (xs ++ dds) S
  kp : PySem.W.keepIn c.K (.ref f) = true
theorem Fo.of {c : Cn} {k : Nat} {f : Addr} {fd : FuncData} {ps : List Str} {den : List D → Sto → Out D} (F : FnOk P w c.K c.mg base (L2.CX P w) k f fd ps (spD c den)) (b : Binds c.K fd ps []) (kp : PySem.W.keepIn c.K (.ref f) = true) : Fo P w c base k f den :=
  ⟨⟨fd, ps, [], [], [], den, F, b, .nil, fun _ _ => rfl, by simp⟩, kp⟩
theorem Reps.apps {c : Cn} {W : Wd} {H : Hp} {ds es : List D} {vs ws : List V} (h : Reps c W H ds vs) (k : Reps c W H es ws) : Reps c W H (ds ++ es) (vs ++ ws) := h.app k
end
section
variable {X : Cx} {Wx : WX}
@[simp] def dCall (den : List D → Sto → Out D) (g : DA) : DE := fun ρ S => (g ρ S).bind den
theorem pd_call {k j : Nat} {f : Addr} {den : List D → Sto → Out D} {x : Str} {p pos : Pos} {e : Expr} {es : List Expr} {g : DA} (F : Fo X.prog X.w (cn X) X.base k f den) (hr : Room j X.A) (hkj : k ≤ j) (hm : X.mg x = some (.ref f)) (tk : Takes X Wx) (ha : PDA X Wx (e :: es) g)
    (hg : Gl X x := by rfl) (hdb : (x == ("__debug__" : Str)) = false := by decide) (he : starEach (e :: es) X.env = (false, eval e X.env) :: starEach es X.env := by rfl) (hpl : (backTo pos (starEach es X.env)).any (·.1) = false := by rfl) :
    PDE X Wx (.Call (.Name x p) (e :: es) [] pos) (dCall den g) := by
  obtain ⟨t, a1, a2⟩ := ha
  obtain ⟨fd, ps, ds, dvs, dds, den0, F1, b, v, r, rfl⟩ := F.ex
  refine ⟨_, pe_callSD F1 (hr.mono hkj) hg hm F.kp b v (fun σ => passAt tk σ) a1 hdb he hpl, fun W ρ S σ H Q re p => ?_⟩
  refine a2.run re p fun xs vs th1 S1 H1 re1 r1 _ p1 => ?_
  exact ⟨W.to th1, xs ++ dds, S1, re1.rs, r1.app (r _ _), p1⟩
end
end DL

namespace DL
open PySem PySem.Spec PyProof.Rows L2

/-! ### data seen: an own list too -/
def rP (X : Cx) : RelT D V := fun W H d v => Rep (cn X) W H d v ∨ ∃ ds a vs, d = .lst ds ∧ v = .ref a ∧ H a = some (.lst vs) ∧ a ∉ W.th ∧ Reps (cn X) W H ds vs ∧ ds.length ≤ sizeLine
theorem rP.xt {X : Cx} {W : Wd} {H H' : Hp} {th' : List Addr} {d : D} {v : V} (r : rP X W H d v) (x : Xt W.th H th' H') : rP X (W.to th') H' d v := by
  rcases r with r | ⟨ds, a, vs, h1, h2, h3, h4, h5, h6⟩
  · exact .inl (Rep.mv x.mv _ _ r)
  · obtain ⟨k1, k2⟩ := x.keep a _ h3 h4
    exact .inr ⟨ds, a, vs, h1, h2, k1, k2, Reps.mv x.mv _ _ h5, h6⟩
def PDP (X : Cx) (Wx : WX) (e : Expr) (f : DE) : Prop := ∃ t, PE X e t ∧ Snd X Wx (rP X) f t
@[simp] def dPv (i : Nat) : DE := fun ρ S => match ρ[i]? with
  | some (some (.val d)) => .ok d S
  | some (some (.own ds)) => .ok (.lst ds) S
  | _ => .bad
/-- a list or a tuple that is read -/
@[simp] def seqS (S : Sto) : D → Option (List D)
  | .tup ds => some ds
  | .lst ds => some ds
  | .ref n => (match S[n]? with
    | some (.lst ds) => some ds
    | _ => none)
  | _ => none
section
variable {X : Cx} {Wx : WX}
theorem Snd.rel {α β : Type} {R R' : RelT α β} {f : En → Sto → Out α} {t : L2.St → Hp → (β → Hp → Prop) → Prop} (h : Snd X Wx R f t) (hR : ∀ W H a b, R W H a b → R' W H a b) : Snd X Wx R' f t := by
  intro W ρ S σ H Q re p
  refine h W ρ S σ H Q re ?_
  cases e : f ρ S with
  | ok a S' =>
    rw [e] at p
    exact fun b th' H' x rs r => p b th' H' x rs (hR _ _ _ _ r)
  | exc n y S' => rw [e] at p; exact p
  | bad => rw [e] at p; exact p
theorem pdp_of {e : Expr} {f : DE} (h : PDE X Wx e f) : PDP X Wx e f := let ⟨t, a, b⟩ := h; ⟨t, a, b.rel fun _ _ _ _ r => .inl r⟩
theorem pdp_var (i : Nat) {x : Str} {pos : Pos} (hN : X.N[i]? = some x := by rfl) (hv : Vis X.env.scope x := by first | exact Or.inl rfl | exact Or.inr (Or.inl rfl) | exact Or.inr (Or.inr rfl)) (hd : (x == ("__debug__" : Str)) = false := by decide)
    (hcd : (x == ("__classdict__" : Str)) = false := by decide) : PDP X Wx (.Name x pos) (dPv i) := by
  refine ⟨_, pe_var hN hv hd hcd, fun W ρ S σ H Q re p => ?_⟩
  unfold dPv at p
  split at p
  · rename_i d e
    obtain ⟨v, h1, h2⟩ := re.sl i _ e
    exact ⟨v, h1, p v W.th H Xt.refl re.rs (.inl h2)⟩
  · rename_i ds e
    obtain ⟨v, h1, a, vs, h2, h3, h4, _, h6, h7⟩ := re.sl i _ e
    exact ⟨v, h1, p v W.th H Xt.refl re.rs (.inr ⟨ds, a, vs, rfl, h2, h3, h6, h4, h7⟩)⟩
  · exact p.elim
/-- what stands there -/
theorem rP.seq {W : Wd} {S : Sto} {H : Hp} {d : D} {v : V} {ds : List D} (rs : RS (cn X) W S H) (r : rP X W H d v) (h : seqS S d = some ds) :
    ∃ a vs, v = .ref a ∧ (SqL X.K H a vs ∨ SqT X.K H a vs) ∧ Reps (cn X) W H ds vs ∧ ds.length ≤ sizeLine := by
  rcases r with r | ⟨es, a, vs, h1, h2, h3, h4, h5, h6⟩
  · cases d with
    | tup es =>
      cases (show some es = some ds from h)
      obtain ⟨a, vs, e, f, q, z⟩ := r
      exact ⟨a, vs, e, .inr f.sq, q, z⟩
    | lst es =>
      cases (show some es = some ds from h)
      obtain ⟨a, vs, e, f, q, z⟩ := r
      exact ⟨a, vs, e, .inl f.sq, q, z⟩
    | ref n =>
      obtain ⟨a, h1, e⟩ := r
      cases e2 : S[n]? with
      | none => simp only [seqS, e2] at h; cases h
      | some o =>
        cases o with
        | ins _ _ => simp only [seqS, e2] at h; cases h
        | tab _ _ => simp only [seqS, e2] at h; cases h
        | dct => simp only [seqS, e2] at h; cases h
        | lst es =>
          simp only [seqS, e2] at h
          cases h
          obtain ⟨b, h3, vs, h4, h5, h6⟩ := rs.ob n _ e2
          rw [h1] at h3; cases h3
          exact ⟨a, vs, e, .inl (SqL.of h4), h5, h6⟩
    | _ => cases h
  · subst h1
    cases (show some es = some ds from h)
    exact ⟨a, vs, h2, .inl (SqL.of h3), h5, h6⟩

/-! ### equality -/
mutual
def py : D → PyData
  | .bl b => .bool b
  | .int i => .int i
  | .str x => .str x
  | .tup ds => .tuple (pys ds)
  | .lst ds => .list (pys ds)
  | _ => .none
def pys : List D → List PyData
  | [] => []
  | d :: ds => py d :: pys ds
end
/-- plain data of at most that depth -/
@[simp] def isDat : Nat → D → Bool
  | _, .non => true
  | _, .bl _ => true
  | _, .int _ => true
  | _, .str x => PyData.strOk x
  | n + 1, .tup ds => ds.all (isDat n)
  | n + 1, .lst ds => ds.all (isDat n)
  | _, _ => false
mutual
@[simp] def D.eqv : D → D → Bool
  | .non, .non => true
  | .bl a, .bl b => a == b
  | .bl a, .int j => (if a then 1 else 0) == j
  | .int i, .bl b => i == (if b then 1 else 0)
  | .int i, .int j => i == j
  | .str x, .str y => x == y
  | .lst xs, .lst ys => D.eqvs xs ys
  | .tup xs, .tup ys => D.eqvs xs ys
  | _, _ => false
@[simp] def D.eqvs : List D → List D → Bool
  | [], [] => true
  | x :: xs, y :: ys => D.eqv x y && D.eqvs xs ys
  | _, _ => false
end
theorem py_shape : ∀ (n : Nat) (d : D), isDat n d = true → (py d).canLay0 = true ∧ (py d).depth ≤ n
  | _, .non, _ => ⟨rfl, Nat.zero_le _⟩
  | _, .bl _, _ => ⟨rfl, Nat.zero_le _⟩
  | _, .int _, _ => ⟨rfl, Nat.zero_le _⟩
  | n, .str x, h => ⟨by cases n <;> exact h, Nat.zero_le _⟩
  | n + 1, .tup ds, h => by
    have h' : ds.all (isDat n) = true := h
    have g : ∀ es : List D, es.all (isDat n) = true → PyData.canLayAll0 (pys es) = true ∧ PyData.depthAll (pys es) ≤ n := by
      intro es
      induction es with
      | nil => intro _; exact ⟨rfl, Nat.zero_le _⟩
      | cons e es ih =>
        intro q
        rw [List.all_cons, Bool.and_eq_true] at q
        obtain ⟨i1, i2⟩ := ih q.2
        obtain ⟨j1, j2⟩ := py_shape n e q.1
        refine ⟨?_, ?_⟩
        · show (PyData.canLay0 (py e) && PyData.canLayAll0 (pys es)) = true
          rw [j1, i1]; rfl
        · show max (PyData.depth (py e)) (PyData.depthAll (pys es)) ≤ n
          omega
    obtain ⟨a, b⟩ := g ds h'
    exact ⟨a, Nat.succ_le_succ b⟩
  | n + 1, .lst ds, h => by
    have h' : ds.all (isDat n) = true := h
    have g : ∀ es : List D, es.all (isDat n) = true → PyData.canLayAll0 (pys es) = true ∧ PyData.depthAll (pys es) ≤ n := by
      intro es
      induction es with
      | nil => intro _; exact ⟨rfl, Nat.zero_le _⟩
      | cons e es ih =>
        intro q
        rw [List.all_cons, Bool.and_eq_true] at q
        obtain ⟨i1, i2⟩ := ih q.2
        obtain ⟨j1, j2⟩ := py_shape n e q.1
        refine ⟨?_, ?_⟩
        · show (PyData.canLay0 (py e) && PyData.canLayAll0 (pys es)) = true
          rw [j1, i1]; rfl
        · show max (PyData.depth (py e)) (PyData.depthAll (pys es)) ≤ n
          omega
    obtain ⟨a, b⟩ := g ds h'
    exact ⟨a, Nat.succ_le_succ b⟩
  | 0, .tup _, h => by cases h
  | 0, .lst _, h => by cases h
  | n, .ref _, h => by cases n <;> cases h
  | n, .nm _, h => by cases n <;> cases h
  | n, .ty _, h => by cases n <;> cases h
theorem py_shaped {n : Nat} {d : D} (h : isDat n d = true) (hn : n ≤ 64) : SeqAt.shaped (py d) = true := by
  obtain ⟨a, b⟩ := py_shape n d h
  unfold SeqAt.shaped
  rw [a, decide_eq_true (Nat.le_trans b hn)]
  rfl
theorem dp_of {W : Wd} {H : Hp} : ∀ (n : Nat) (d : D) (v : V), isDat n d = true → Rep (cn X) W H d v → Dp X.K H v (py d)
  | _, .non, _, _, r => by rw [show _ = V.non from r]; exact .non
  | _, .bl b, _, _, r => by rw [show _ = V.bl b from r]; exact .bl b
  | _, .int i, _, _, r => by rw [show _ = V.int i from r]; exact .int i
  | _, .str x, _, _, r => by rw [show _ = V.str x from r]; exact .str x
  | n + 1, .tup ds, v, h, r => by
    obtain ⟨a, vs, e, f, q, z⟩ := r
    subst e
    have g : ∀ (es : List D) (ws : List V), es.all (isDat n) = true → Reps (cn X) W H es ws → DpAll X.K H ws (pys es) := by
      intro es
      induction es with
      | nil => intro ws _ q; rw [show ws = [] from q]; exact .nil
      | cons e es ih =>
        intro ws k q
        obtain ⟨w, r2, e2, h1, h2⟩ := q
        subst e2
        rw [List.all_cons, Bool.and_eq_true] at k
        exact .cons (dp_of n e w k.1 h1) (ih r2 k.2 h2)
    exact .tup f.sq (g ds vs h q)
  | n + 1, .lst ds, v, h, r => by
    obtain ⟨a, vs, e, f, q, z⟩ := r
    subst e
    have g : ∀ (es : List D) (ws : List V), es.all (isDat n) = true → Reps (cn X) W H es ws → DpAll X.K H ws (pys es) := by
      intro es
      induction es with
      | nil => intro ws _ q; rw [show ws = [] from q]; exact .nil
      | cons e es ih =>
        intro ws k q
        obtain ⟨w, r2, e2, h1, h2⟩ := q
        subst e2
        rw [List.all_cons, Bool.and_eq_true] at k
        exact .cons (dp_of n e w k.1 h1) (ih r2 k.2 h2)
    exact .lst f.sq (g ds vs h q)
  | 0, .tup _, _, h, _ => by cases h
  | 0, .lst _, _, h, _ => by cases h
  | n, .ref _, _, h, _ => by cases n <;> cases h
  | n, .nm _, _, h, _ => by cases n <;> cases h
  | n, .ty _, _, h, _ => by cases n <;> cases h
theorem dpAll_of {W : Wd} {H : Hp} {n : Nat} : ∀ (es : List D) (ws : List V), es.all (isDat n) = true → Reps (cn X) W H es ws → DpAll X.K H ws (pys es)
  | [], ws, _, q => by rw [show ws = [] from q]; exact .nil
  | e :: es, ws, k, q => by
    obtain ⟨w, r2, e2, h1, h2⟩ := q
    subst e2
    rw [List.all_cons, Bool.and_eq_true] at k
    exact .cons (dp_of n e w k.1 h1) (dpAll_of es r2 k.2 h2)
/-- a list of the store as data -/
@[simp] def drS (S : Sto) : D → D
  | .ref n => (match S[n]? with
    | some (.lst ds) => .lst ds
    | _ => .ref n)
  | d => d
theorem rP.dp {W : Wd} {S : Sto} {H : Hp} {d : D} {v : V} {n : Nat} (rs : RS (cn X) W S H) (r : rP X W H d v) (h : isDat (n + 1) (drS S d) = true) : Dp X.K H v (py (drS S d)) := by
  rcases r with r | ⟨es, a, vs, h1, h2, h3, h4, h5, h6⟩
  · cases d with
    | ref k =>
      obtain ⟨a, h1, e⟩ := r
      cases e2 : S[k]? with
      | none => simp only [drS, e2] at h; cases h
      | some o =>
        cases o with
        | ins _ _ => simp only [drS, e2] at h; cases h
        | tab _ _ => simp only [drS, e2] at h; cases h
        | dct => simp only [drS, e2] at h; cases h
        | lst es =>
          simp only [drS, e2] at h ⊢
          obtain ⟨b, h3, vs, h4, h5, h6⟩ := rs.ob k _ e2
          rw [h1] at h3; cases h3
          subst e
          exact .lst (SqL.of h4) (dpAll_of es vs h h5)
    | _ => exact dp_of (n + 1) _ v h r
  · subst h1; subst h2
    exact .lst (SqL.of h3) (dpAll_of es vs h h5)
end
mutual
theorem eqv_py : ∀ (n m : Nat) (d e : D), isDat n d = true → isDat m e = true → PyData.eqv (py d) (py e) = D.eqv d e
  | n, m, d, e, hd, he => by
    cases d with
    | non => cases e <;> first | rfl | (cases m <;> cases he)
    | bl b => cases e <;> first | rfl | (cases m <;> cases he)
    | int i => cases e <;> first | rfl | (cases m <;> cases he)
    | str x => cases e <;> first | rfl | (cases m <;> cases he)
    | tup xs =>
      cases n with
      | zero => cases hd
      | succ n =>
        cases e with
        | tup ys =>
          cases m with
          | zero => cases he
          | succ m => exact eqvs_py n m xs ys hd he
        | _ => first | rfl | (cases m <;> cases he)
    | lst xs =>
      cases n with
      | zero => cases hd
      | succ n =>
        cases e with
        | lst ys =>
          cases m with
          | zero => cases he
          | succ m => exact eqvs_py n m xs ys hd he
        | _ => first | rfl | (cases m <;> cases he)
    | ref _ => cases n <;> cases hd
    | nm _ => cases n <;> cases hd
    | ty _ => cases n <;> cases hd
termination_by n m d e => (sizeOf d, 1)
theorem eqvs_py : ∀ (n m : Nat) (xs ys : List D), xs.all (isDat n) = true → ys.all (isDat m) = true → PyData.eqvAll (pys xs) (pys ys) = D.eqvs xs ys
  | n, m, [], [], _, _ => rfl
  | n, m, [], _ :: _, _, _ => rfl
  | n, m, _ :: _, [], _, _ => rfl
  | n, m, x :: xs, y :: ys, hx, hy => by
    rw [List.all_cons, Bool.and_eq_true] at hx hy
    show (PyData.eqv (py x) (py y) && PyData.eqvAll (pys xs) (pys ys)) = (D.eqv x y && D.eqvs xs ys)
    rw [eqv_py n m x y hx.1 hy.1, eqvs_py n m xs ys hx.2 hy.2]
termination_by n m xs ys => (sizeOf xs, 0)
end
section
variable {X : Cx} {Wx : WX}
def POp (X : Cx) (r : R2) (op : D → D → Sto → Out D) : Prop :=
  ∀ W S x y v w H Q Wy, RS (cn X) W S H → rP X W H x v → rP X W H y w → Post (cn X) W H Wy (rD X) Q (op x y S) → r v w H Q
theorem snd_opP {f g : DE} {ta tb : TE} {r : R2} {op : D → D → Sto → Out D} (h1 : Snd X Wx (rP X) f ta) (h2 : Snd X Wx (rP X) g tb) (hr : POp X r op) : Snd X Wx (rD X) (dOp op f g) (tOp r ta tb) := by
  intro W ρ S σ H Q re p
  refine h1.run re p fun x v th1 S1 H1 re1 r1 _ p1 => ?_
  refine h2.run re1 p1 fun y w th2 S2 H2 re2 r2 x2 p2 => ?_
  exact hr _ S2 x y v w H2 Q _ re2.rs (rP.xt (W := W.to th1) r1 x2) r2 p2
def DEP : Nat := 24
def oEq (neg : Bool) : D → D → Sto → Out D := fun x y S => if isDat DEP (drS S x) && isDat DEP (drS S y) then .ok (.bl (if neg then !D.eqv (drS S x) (drS S y) else D.eqv (drS S x) (drS S y))) S else .bad
theorem pop_eq : POp X (rEqD X.K) (oEq false) := by
  intro W S x y v w H Q Wy rs r1 r2 p
  unfold oEq at p
  split at p
  · rename_i h
    rw [Bool.and_eq_true] at h
    refine ⟨_, _, r1.dp rs h.1, r2.dp rs h.2, py_shaped h.1 (by decide), py_shaped h.2 (by decide), ?_⟩
    rw [eqv_py _ _ _ _ h.1 h.2]
    exact post_same rs p rfl
  · exact p.elim
theorem pop_ne : POp X (rNeD X.K) (oEq true) := by
  intro W S x y v w H Q Wy rs r1 r2 p
  unfold oEq at p
  split at p
  · rename_i h
    rw [Bool.and_eq_true] at h
    refine ⟨_, _, r1.dp rs h.1, r2.dp rs h.2, py_shaped h.1 (by decide), py_shaped h.2 (by decide), ?_⟩
    rw [eqv_py _ _ _ _ h.1 h.2]
    exact post_same rs p rfl
  · exact p.elim
variable {a b c' : Expr} {f g h : DE} {pos : Pos}
theorem pd_eq (hu : X.A.units + 64 < cLine) (ha : PDP X Wx a f) (hb : PDP X Wx b g) : PDE X Wx (.Compare a [.Eq] [b] pos) (dOp (oEq false) f g) := by
  obtain ⟨ta, a1, a2⟩ := ha; obtain ⟨tb, b1, b2⟩ := hb
  exact ⟨_, pe_cmpR (op_eqD hu) a1 b1 (nomark _), snd_opP a2 b2 pop_eq⟩
theorem pd_ne (hu : X.A.units + 64 < cLine) (ha : PDP X Wx a f) (hb : PDP X Wx b g) : PDE X Wx (.Compare a [.NotEq] [b] pos) (dOp (oEq true) f g) := by
  obtain ⟨ta, a1, a2⟩ := ha; obtain ⟨tb, b1, b2⟩ := hb
  exact ⟨_, pe_cmpR (op_neD hu) a1 b1 (nomark _), snd_opP a2 b2 pop_ne⟩
/-! ### tests -/
@[simp] def dTst (f : DE) : DT := fun ρ S => (f ρ S).bind fun d S1 => match d with
  | .bl b => .ok b S1
  | _ => .bad
theorem snd_tst {t : TE} (h : Snd X Wx (rD X) f t) : Snd X Wx rB (dTst f) (tB t) := by
  intro W ρ S σ H Q re p
  refine h.run re p fun d v th1 S1 H1 re1 r1 _ p1 => ?_
  split at p1
  · rename_i k
    cases (show v = V.bl k from r1)
    exact ⟨k, rfl, p1 k th1 H1 Xt.refl re1.rs rfl⟩
  · exact p1.elim
theorem pdt_val {e : Expr} (h : PDE X Wx e f) (he : ∀ whole, isTrue e X.env whole = (do let v ← whole; standAt e.pos; holding [v] (truthy v)) := by intro _; rfl) : PDT X Wx e (dTst f) := by
  obtain ⟨t, a1, a2⟩ := h
  exact ⟨_, pt_val a1 he, snd_tst a2⟩
theorem pdt_eq (hu : X.A.units + 64 < cLine) (ha : PDP X Wx a f) (hb : PDP X Wx b g) : PDT X Wx (.Compare a [.Eq] [b] pos) (dTst (dOp (oEq false) f g)) := by
  obtain ⟨ta, a1, a2⟩ := ha; obtain ⟨tb, b1, b2⟩ := hb
  exact ⟨_, pt_cmpR (op_eqD hu) a1 b1 (nomark _), snd_tst (snd_opP a2 b2 pop_eq)⟩
theorem pdt_ne (hu : X.A.units + 64 < cLine) (ha : PDP X Wx a f) (hb : PDP X Wx b g) : PDT X Wx (.Compare a [.NotEq] [b] pos) (dTst (dOp (oEq true) f g)) := by
  obtain ⟨ta, a1, a2⟩ := ha; obtain ⟨tb, b1, b2⟩ := hb
  exact ⟨_, pt_cmpR (op_neD hu) a1 b1 (nomark _), snd_tst (snd_opP a2 b2 pop_ne)⟩
/-- of two ints -/
@[simp] def oLt := oI fun i j => some (.bl (decide (i < j)))
@[simp] def oLe := oI fun i j => some (.bl (decide (i ≤ j)))
@[simp] def oGt := oI fun i j => some (.bl (decide (j < i)))
@[simp] def oGe := oI fun i j => some (.bl (decide (j ≤ i)))
theorem rop_lt : ROp X (rI0 fun i j => .bl (decide (i < j))) oLt := rop_I0 fun _ _ _ _ _ => rfl
theorem rop_le : ROp X (rI0 fun i j => .bl (decide (i ≤ j))) oLe := rop_I0 fun _ _ _ _ _ => rfl
theorem rop_gt : ROp X (rI0 fun i j => .bl (decide (j < i))) oGt := rop_I0 fun _ _ _ _ _ => rfl
theorem rop_ge : ROp X (rI0 fun i j => .bl (decide (j ≤ i))) oGe := rop_I0 fun _ _ _ _ _ => rfl
theorem pd_cmp {op : CmpOp} {r : R2} {o : D → D → Sto → Out D} (ho : OpR X (compareOp op) r) (hr : ROp X r o) (ha : PDE X Wx a f) (hb : PDE X Wx b g) (hm : behindInMarks op b = false := by first | exact nomark _ | rfl) : PDE X Wx (.Compare a [op] [b] pos) (dOp o f g) := by
  obtain ⟨ta, a1, a2⟩ := ha; obtain ⟨tb, b1, b2⟩ := hb
  exact ⟨_, pe_cmpR ho a1 b1 hm, snd_op a2 b2 hr⟩
theorem pdt_cmp {op : CmpOp} {r : R2} {o : D → D → Sto → Out D} (ho : OpR X (compareOp op) r) (hr : ROp X r o) (ha : PDE X Wx a f) (hb : PDE X Wx b g) (hm : behindInMarks op b = false := by first | exact nomark _ | rfl) : PDT X Wx (.Compare a [op] [b] pos) (dTst (dOp o f g)) := by
  obtain ⟨ta, a1, a2⟩ := ha; obtain ⟨tb, b1, b2⟩ := hb
  exact ⟨_, pt_cmpR ho a1 b1 hm, snd_tst (snd_op a2 b2 hr)⟩
/-- is None, is not None -/
def isNon : D → Bool
  | .non => true
  | _ => false
theorem isNon_rep {W : Wd} {H : Hp} {d : D} {v : V} (r : Rep (cn X) W H d v) : decide (v = .non) = isNon d := by
  cases d with
  | non => cases (show v = V.non from r); rfl
  | bl b => cases (show v = V.bl b from r); rfl
  | int i => cases (show v = V.int i from r); rfl
  | str x => cases (show v = V.str x from r); rfl
  | ty n => cases (show v = V.ty n from r); rfl
  | tup ds => obtain ⟨_, _, rfl, _⟩ := r; rfl
  | lst ds => obtain ⟨_, _, rfl, _⟩ := r; rfl
  | ref n => obtain ⟨_, _, rfl⟩ := r; rfl
  | nm x => obtain ⟨_, _, rfl⟩ := r; rfl
def dIsN (neg : Bool) (f : DE) : DE := fun ρ S => (f ρ S).bind fun d S1 => .ok (.bl (if neg then !isNon d else isNon d)) S1
theorem snd_isN {t : TE} (h : Snd X Wx (rD X) f t) : Snd X Wx (rD X) (dIsN false f) (tIsN t) := by
  intro W ρ S σ H Q re p
  refine h.run re p fun d v th1 S1 H1 re1 r1 _ p1 => ?_
  rw [isNon_rep r1]
  exact post_same re1.rs p1 rfl
theorem snd_notN {t : TE} (h : Snd X Wx (rD X) f t) : Snd X Wx (rD X) (dIsN true f) (tNotN t) := by
  intro W ρ S σ H Q re p
  refine h.run re p fun d v th1 S1 H1 re1 r1 _ p1 => ?_
  rw [isNon_rep r1]
  exact post_same re1.rs p1 rfl
theorem pd_isN {j pos'} (ha : PDE X Wx a f) : PDE X Wx (.Compare a [.Is] [.Constant .none j pos'] pos) (dIsN false f) := by
  obtain ⟨t, a1, a2⟩ := ha
  exact ⟨_, pe_cmp (pc_isN a1) rfl, snd_isN a2⟩
theorem pd_notN {j pos'} (ha : PDE X Wx a f) : PDE X Wx (.Compare a [.IsNot] [.Constant .none j pos'] pos) (dIsN true f) := by
  obtain ⟨t, a1, a2⟩ := ha
  exact ⟨_, pe_cmp (pc_notN a1) rfl, snd_notN a2⟩
theorem pdt_isN {j pos'} (ha : PDE X Wx a f) : PDT X Wx (.Compare a [.Is] [.Constant .none j pos'] pos) (dTst (dIsN false f)) := by
  obtain ⟨t, a1, a2⟩ := ha
  exact ⟨_, pt_cmp (pc_isN a1) rfl, snd_tst (snd_isN a2)⟩
theorem pdt_notN {j pos'} (ha : PDE X Wx a f) : PDT X Wx (.Compare a [.IsNot] [.Constant .none j pos'] pos) (dTst (dIsN true f)) := by
  obtain ⟨t, a1, a2⟩ := ha
  exact ⟨_, pt_cmp (pc_notN a1) rfl, snd_tst (snd_notN a2)⟩
/-- a < b < c -/
def dChain (o o' : D → D → Sto → Out D) (f g h : DE) : DE := fun ρ S => (f ρ S).bind fun x S1 => (g ρ S1).bind fun y S2 => (o x y S2).bind fun z S3 => match z with
  | .bl true => (h ρ S3).bind fun w S4 => o' y w S4
  | .bl false => .ok (.bl false) S3
  | _ => .bad
theorem snd_chain {r r' : R2} {o o' : D → D → Sto → Out D} {ta tb tc : TE} (h1 : Snd X Wx (rD X) f ta) (h2 : Snd X Wx (rD X) g tb) (h3 : Snd X Wx (rD X) h tc) (hr : ROp X r o) (hr' : ROp X r' o') : Snd X Wx (rD X) (dChain o o' f g h) (tChain r r' ta tb tc) := by
  intro W ρ S σ H Q re p
  refine h1.run re p fun x v th1 S1 H1 re1 r1 _ p1 => ?_
  refine h2.run re1 p1 fun y w th2 S2 H2 re2 r2 x2 p2 => ?_
  refine hr _ S2 x y v w H2 _ (fun e d H' => Wx e d σ H') re2.rs (Rep.mv x2.mv _ _ r1) r2 ?_
  cases e : o x y S2 with
  | ok z S3 =>
    rw [e] at p2
    intro zv th3 H3 x3 rs3 rz
    have re3 := re2.xt x3 rs3
    cases z with
    | bl k =>
      cases (show zv = V.bl k from rz)
      cases k with
      | true =>
        refine ⟨true, rfl, iteT ?_⟩
        refine h3.run re3 (Post.mono p2 x3) fun w2 u th4 S4 H4 re4 r4 x4 p4 => ?_
        exact hr' _ S4 y w2 w u H4 Q _ re4.rs (Rep.mv x4.mv _ _ (Rep.mv x3.mv _ _ r2)) r4 p4
      | false => exact ⟨false, rfl, iteF (post_same re3.rs (Post.mono p2 x3) rfl)⟩
    | _ => exact p2.elim
  | exc n y2 S3 => rw [e] at p2; exact p2
  | bad => rw [e] at p2; exact p2.elim
theorem pd_chain {op op' : CmpOp} {r r' : R2} {o o' : D → D → Sto → Out D} (ho : OpR X (compareOp op) r) (hr : ROp X r o) (ho' : OpR X (compareOp op') r') (hr' : ROp X r' o') (ha : PDE X Wx a f) (hb : PDE X Wx b g) (hc : PDE X Wx c' h)
    (hm : lastMarks [op, op'] [b, c'] = false := by with_unfolding_all rfl) : PDE X Wx (.Compare a [op, op'] [b, c'] pos) (dChain o o' f g h) := by
  obtain ⟨ta, a1, a2⟩ := ha; obtain ⟨tb, b1, b2⟩ := hb; obtain ⟨tc, c1, c2⟩ := hc
  exact ⟨_, pe_chain ho ho' a1 b1 c1 hm, snd_chain a2 b2 c2 hr hr'⟩
/-! ### and, or, not, if .. else -/
@[simp] def dAnd (f g : DE) : DE := fun ρ S => (f ρ S).bind fun x S1 => match x with
  | .bl true => g ρ S1
  | .bl false => .ok (.bl false) S1
  | _ => .bad
@[simp] def dOr (f g : DE) : DE := fun ρ S => (f ρ S).bind fun x S1 => match x with
  | .bl true => .ok (.bl true) S1
  | .bl false => g ρ S1
  | _ => .bad
@[simp] def dNot (f : DE) : DE := fun ρ S => (f ρ S).bind fun x S1 => match x with
  | .bl k => .ok (.bl (!k)) S1
  | _ => .bad
variable {rest : List Expr}
theorem pd_one {op} (h : PDE X Wx a f) : PDE X Wx (.BoolOp op [a] pos) f := by
  obtain ⟨t, a1, a2⟩ := h
  exact ⟨_, pe_one a1, a2⟩
theorem pd_and (ha : PDE X Wx a f) (hb : PDE X Wx (.BoolOp .And (b :: rest) pos) g) : PDE X Wx (.BoolOp .And (a :: b :: rest) pos) (dAnd f g) := by
  obtain ⟨ta, a1, a2⟩ := ha; obtain ⟨tb, b1, b2⟩ := hb
  refine ⟨_, pe_and a1 b1, fun W ρ S σ H Q re p => ?_⟩
  refine a2.run re p fun x v th1 S1 H1 re1 r1 _ p1 => ?_
  cases x with
  | bl k =>
    cases (show v = V.bl k from r1)
    cases k with
    | true => exact ⟨true, rfl, iteT (b2 _ ρ S1 σ H1 Q re1 p1)⟩
    | false => exact ⟨false, rfl, iteF (post_same re1.rs p1 rfl)⟩
  | _ => exact p1.elim
theorem pd_or (ha : PDE X Wx a f) (hb : PDE X Wx (.BoolOp .Or (b :: rest) pos) g) : PDE X Wx (.BoolOp .Or (a :: b :: rest) pos) (dOr f g) := by
  obtain ⟨ta, a1, a2⟩ := ha; obtain ⟨tb, b1, b2⟩ := hb
  refine ⟨_, pe_or a1 b1, fun W ρ S σ H Q re p => ?_⟩
  refine a2.run re p fun x v th1 S1 H1 re1 r1 _ p1 => ?_
  cases x with
  | bl k =>
    cases (show v = V.bl k from r1)
    cases k with
    | true => exact ⟨true, rfl, iteT (post_same re1.rs p1 rfl)⟩
    | false => exact ⟨false, rfl, iteF (b2 _ ρ S1 σ H1 Q re1 p1)⟩
  | _ => exact p1.elim
theorem pd_not (ha : PDE X Wx a f) : PDE X Wx (.UnaryOp .Not a pos) (dNot f) := by
  obtain ⟨ta, a1, a2⟩ := ha
  refine ⟨_, pe_not a1, fun W ρ S σ H Q re p => ?_⟩
  refine a2.run re p fun x v th1 S1 H1 re1 r1 _ p1 => ?_
  cases x with
  | bl k => cases (show v = V.bl k from r1); exact ⟨k, rfl, post_same re1.rs p1 rfl⟩
  | _ => exact p1.elim
@[simp] def dAndT (f g : DT) : DT := fun ρ S => (f ρ S).bind fun k S1 => if k = true then g ρ S1 else .ok false S1
@[simp] def dOrT (f g : DT) : DT := fun ρ S => (f ρ S).bind fun k S1 => if k = true then .ok true S1 else g ρ S1
@[simp] def dNotT (f : DT) : DT := fun ρ S => (f ρ S).bind fun k S1 => .ok (!k) S1
variable {u v : DT}
theorem PDW.pdt {e : Expr} (h : PDW X Wx e u) : PDT X Wx e u := let ⟨t, a1, a2⟩ := h; ⟨t, a1.pt, a2⟩
theorem pdw_and1 (ha : PDT X Wx a u) : PDW X Wx (.BoolOp .And [a] pos) u := let ⟨t, a1, a2⟩ := ha; ⟨t, pw_and1 a1, a2⟩
theorem pdw_or1 (ha : PDT X Wx a u) : PDW X Wx (.BoolOp .Or [a] pos) u := let ⟨t, a1, a2⟩ := ha; ⟨t, pw_or1 a1, a2⟩
theorem pdw_and (ha : PDT X Wx a u) (hb : PDW X Wx (.BoolOp .And (b :: rest) pos) v) : PDW X Wx (.BoolOp .And (a :: b :: rest) pos) (dAndT u v) := by
  obtain ⟨ta, a1, a2⟩ := ha; obtain ⟨tb, b1, b2⟩ := hb
  refine ⟨_, pw_and a1 b1, fun W ρ S σ H Q re p => ?_⟩
  refine a2.run re p fun x v th1 S1 H1 re1 r1 _ p1 => ?_
  cases r1
  cases x with
  | true => exact iteT (b2 _ ρ S1 σ H1 Q re1 p1)
  | false => exact iteF (p1 false th1 H1 Xt.refl re1.rs rfl)
theorem pdw_or (ha : PDT X Wx a u) (hb : PDW X Wx (.BoolOp .Or (b :: rest) pos) v) : PDW X Wx (.BoolOp .Or (a :: b :: rest) pos) (dOrT u v) := by
  obtain ⟨ta, a1, a2⟩ := ha; obtain ⟨tb, b1, b2⟩ := hb
  refine ⟨_, pw_or a1 b1, fun W ρ S σ H Q re p => ?_⟩
  refine a2.run re p fun x v th1 S1 H1 re1 r1 _ p1 => ?_
  cases r1
  cases x with
  | true => exact iteT (p1 true th1 H1 Xt.refl re1.rs rfl)
  | false => exact iteF (b2 _ ρ S1 σ H1 Q re1 p1)
theorem pdt_not (ha : PDT X Wx a u) : PDT X Wx (.UnaryOp .Not a pos) (dNotT u) := by
  obtain ⟨ta, a1, a2⟩ := ha
  refine ⟨_, pt_not a1, fun W ρ S σ H Q re p => ?_⟩
  refine a2.run re p fun x v th1 S1 H1 re1 r1 _ p1 => ?_
  cases r1
  exact p1 (!x) th1 H1 Xt.refl re1.rs rfl
@[simp] def dIf (c : DT) (f g : DE) : DE := fun ρ S => (c ρ S).bind fun k S1 => if k = true then f ρ S1 else g ρ S1
theorem pd_if {e : Expr} (hc : PDT X Wx e u) (ha : PDE X Wx a f) (hb : PDE X Wx b g) : PDE X Wx (.IfExp e a b pos) (dIf u f g) := by
  obtain ⟨tc, c1, c2⟩ := hc; obtain ⟨ta, a1, a2⟩ := ha; obtain ⟨tb, b1, b2⟩ := hb
  refine ⟨_, pe_ifExp c1 a1 b1, fun W ρ S σ H Q re p => ?_⟩
  refine c2.run re p fun x v th1 S1 H1 re1 r1 _ p1 => ?_
  cases r1
  cases x with
  | true => exact iteT (a2 _ ρ S1 σ H1 Q re1 p1)
  | false => exact iteF (b2 _ ρ S1 σ H1 Q re1 p1)
@[simp] def dNeg (f : DE) : DE := fun ρ S => (f ρ S).bind fun x S1 => match x with
  | .int i => .ok (.int (-i)) S1
  | _ => .bad
theorem pd_neg (ha : PDE X Wx a f) : PDE X Wx (.UnaryOp .USub a pos) (dNeg f) := by
  obtain ⟨ta, a1, a2⟩ := ha
  refine ⟨_, pe_un un_neg a1, fun W ρ S σ H Q re p => ?_⟩
  refine a2.run re p fun x v th1 S1 H1 re1 r1 _ p1 => ?_
  cases x with
  | int i => cases (show v = V.int i from r1); exact ⟨i, rfl, post_same re1.rs p1 rfl⟩
  | _ => exact p1.elim
end
end DL

namespace DL
open PySem PySem.Spec PyProof.Rows L2
section
variable {X : Cx} {Wx : WX}
/-! ### what lists stand there -/
@[simp] def lstS (S : Sto) : D → Option (List D)
  | .lst ds => some ds
  | .ref n => (match S[n]? with
    | some (.lst ds) => some ds
    | _ => none)
  | _ => none
theorem rP.lst {W : Wd} {S : Sto} {H : Hp} {d : D} {v : V} {ds : List D} (rs : RS (cn X) W S H) (r : rP X W H d v) (h : lstS S d = some ds) :
    ∃ a vs, v = .ref a ∧ SqL X.K H a vs ∧ Reps (cn X) W H ds vs ∧ ds.length ≤ sizeLine := by
  rcases r with r | ⟨es, a, vs, h1, h2, h3, h4, h5, h6⟩
  · cases d with
    | lst es =>
      cases (show some es = some ds from h)
      obtain ⟨a, vs, e, f, q, z⟩ := r
      exact ⟨a, vs, e, f.sq, q, z⟩
    | ref n =>
      obtain ⟨a, h1, e⟩ := r
      cases e2 : S[n]? with
      | none => simp only [lstS, e2] at h; cases h
      | some o =>
        cases o with
        | ins _ _ => simp only [lstS, e2] at h; cases h
        | tab _ _ => simp only [lstS, e2] at h; cases h
        | dct => simp only [lstS, e2] at h; cases h
        | lst es =>
          simp only [lstS, e2] at h
          cases h
          obtain ⟨b, h3, vs, h4, h5, h6⟩ := rs.ob n _ e2
          rw [h1] at h3; cases h3
          exact ⟨a, vs, e, SqL.of h4, h5, h6⟩
    | _ => cases h
  · subst h1
    cases (show some es = some ds from h)
    exact ⟨a, vs, h2, SqL.of h3, h5, h6⟩
theorem rP.tup {W : Wd} {H : Hp} {v : V} {ds : List D} (r : rP X W H (.tup ds) v) : ∃ a vs, v = .ref a ∧ FT X.K W H a vs ∧ Reps (cn X) W H ds vs ∧ ds.length ≤ sizeLine := by
  rcases r with r | ⟨es, a, vs, h1, _⟩
  · exact r
  · cases h1
theorem rP.int {W : Wd} {H : Hp} {v : V} {i : Int} (r : rP X W H (.int i) v) : v = .int i := by
  rcases r with r | ⟨es, a, vs, h1, _⟩
  · exact r
  · cases h1
theorem rP.str {W : Wd} {H : Hp} {v : V} {x : Str} (r : rP X W H (.str x) v) : v = .str x := by
  rcases r with r | ⟨es, a, vs, h1, _⟩
  · exact r
  · cases h1
theorem rP.bl {W : Wd} {H : Hp} {v : V} {x : Bool} (r : rP X W H (.bl x) v) : v = .bl x := by
  rcases r with r | ⟨es, a, vs, h1, _⟩
  · exact r
  · cases h1

/-! ### subscripts -/
theorem Reps.atI {c : Cn} {W : Wd} {H : Hp} {ds : List D} {vs : List V} {i : Int} {d : D} (r : Reps c W H ds vs) (h : L2.atI ds i = some d) : ∃ v, L2.atI vs i = some v ∧ Rep c W H d v := by
  unfold L2.atI at h ⊢
  rw [r.len]
  cases e : ixN ds.length i with
  | none => rw [e] at h; cases h
  | some j =>
    rw [e] at h
    exact r.get h
def oIx : D → D → Sto → Out D := fun x y S => match y with
  | .int i => (match seqS S x with
    | some ds => (match L2.atI ds i with
      | some d => .ok d S
      | none => .bad)
    | none => (match x with
      | .str z => if z.length ≤ LIM then (match L2.atI z.cps.toList i with
        | some c => .ok (.str ⟨#[c]⟩) S
        | none => .bad) else .bad
      | _ => .bad))
  | _ => .bad
theorem pop_ix : POp X (rIx X.K) oIx := by
  intro W S x y v w H Q Wy rs r1 r2 p
  cases y with
  | int i =>
    cases rP.int r2
    cases e : seqS S x with
    | some ds =>
      simp only [oIx, e] at p
      cases e2 : L2.atI ds i with
      | none => simp only [e2] at p; exact p.elim
      | some d =>
        simp only [e2] at p
        obtain ⟨a, vs, q1, q2, q3, q4⟩ := r1.seq rs e
        obtain ⟨u, h1, h2⟩ := q3.atI e2
        subst q1
        rcases q2 with q2 | q2
        · exact .inl ⟨a, vs, i, u, rfl, rfl, q2, h1, post_same rs p h2⟩
        · exact .inr (.inl ⟨a, vs, i, u, rfl, rfl, q2, h1, post_same rs p h2⟩)
    | none =>
      cases x with
      | str z =>
        simp only [oIx, e] at p
        split at p
        · rename_i hz
          cases e2 : L2.atI z.cps.toList i with
          | none => simp only [e2] at p; exact p.elim
          | some k =>
            simp only [e2] at p
            cases rP.str r1
            exact .inr (.inr ⟨z, i, k, rfl, rfl, lim_le hz, e2, post_same rs p rfl⟩)
        · exact p.elim
      | _ => simp only [oIx, e] at p; exact p.elim
  | _ => exact p.elim
variable {a b : Expr} {f g : DE} {pos p2 : Pos}
theorem pd_ix (ha : PDP X Wx a f) (hb : PDE X Wx b g) (hs : PlainIx b := by exact fun _ _ => rfl) : PDE X Wx (.Subscript a b pos) (dOp oIx f g) := by
  obtain ⟨ta, a1, a2⟩ := ha; obtain ⟨tb, b1, b2⟩ := pdp_of hb
  exact ⟨_, pe_ix ix_seq a1 b1 hs, snd_opP a2 b2 pop_ix⟩
/-! ### slices -/
abbrev DO := En → Sto → Out (Option Int)
def PDO (X : Cx) (Wx : WX) (e : Option Expr) (f : DO) : Prop := ∃ t, PO X e t ∧ Snd X Wx rO f t
def dNoPart : DO := fun _ S => .ok none S
def dPart (f : DE) : DO := fun ρ S => (f ρ S).bind fun d S1 => match d with
  | .int i => .ok (some i) S1
  | _ => .bad
theorem pdo_none : PDO X Wx none dNoPart := ⟨_, po_none, fun W ρ S σ H Q re p => p none W.th H Xt.refl re.rs rfl⟩
theorem pdo_some {e : Expr} (h : PDE X Wx e f) : PDO X Wx (some e) (dPart f) := by
  obtain ⟨t, a1, a2⟩ := h
  refine ⟨_, po_some a1, fun W ρ S σ H Q re p => ?_⟩
  refine a2.run re p fun d v th1 S1 H1 re1 r1 _ p1 => ?_
  cases d with
  | int i => cases (show v = V.int i from r1); exact ⟨i, rfl, p1 (some i) th1 H1 Xt.refl re1.rs rfl⟩
  | _ => exact p1.elim
def cutD (xs : List D) (lo hi : Option Int) : List D := (xs.drop (HT.sIx xs.length 0 lo)).take (HT.sIx xs.length xs.length hi - HT.sIx xs.length 0 lo)
theorem Reps.cut {c : Cn} {W : Wd} {H : Hp} {ds : List D} {vs : List V} (r : Reps c W H ds vs) (lo hi : Option Int) : Reps c W H (cutD ds lo hi) (cutV vs lo hi) := by
  unfold cutD cutV
  rw [r.len]
  exact (r.drop _).take _
theorem cutD_len (ds : List D) (lo hi : Option Int) : (cutD ds lo hi).length ≤ ds.length := by
  unfold cutD
  rw [List.length_take, List.length_drop]
  omega
def dSl (op : D → Option Int → Option Int → Sto → Out D) (f : DE) (lo hi : DO) : DE := fun ρ S => (f ρ S).bind fun x S1 => (lo ρ S1).bind fun i S2 => (hi ρ S2).bind fun j S3 => op x i j S3
/-- of a tuple, a text, a list (a new list) -/
def oSl : D → Option Int → Option Int → Sto → Out D := fun x i j S => match x with
  | .tup ds => .ok (.tup (cutD ds i j)) S
  | .str z => if z.length ≤ LIM then .ok (.str (cutS z i j)) S else .bad
  | _ => (match lstS S x with
    | some ds => .ok (.lst (cutD ds i j)) S
    | none => .bad)
def rSl (K : PySem.W.Frag) : V → Option Int → Option Int → Hp → VK → Prop := fun x lo hi H Q => rSlA K x lo hi H Q ∨ rSlL K x lo hi H Q ∨ rSlS x lo hi H Q
theorem sl_any : SlR X (rSl X.K) := sl_tupA.or (sl_list.or sl_str)
theorem pd_sl {lo hi : Option Expr} {l h : DO} (he : PDP X Wx a f) (hl : PDO X Wx lo l) (hh : PDO X Wx hi h) : PDE X Wx (.Subscript a (.Slice lo hi none p2) pos) (dSl oSl f l h) := by
  obtain ⟨ta, a1, a2⟩ := he; obtain ⟨tl, l1, l2⟩ := hl; obtain ⟨tu, u1, u2⟩ := hh
  refine ⟨_, pe_slice sl_any a1 l1 u1, fun W ρ S σ H Q re p => ?_⟩
  refine a2.run re p fun x v th1 S1 H1 re1 r1 x1 p1 => ?_
  refine l2.run re1 p1 fun i i' th2 S2 H2 re2 r2 x2 p2 => ?_
  cases r2
  refine u2.run re2 p2 fun j j' th3 S3 H3 re3 r3 x3 p3 => ?_
  cases r3
  have r4 : rP X (W.to th3) H3 x v := rP.xt (W := W.to th2) (rP.xt (W := W.to th1) r1 x2) x3
  have rs := re3.rs
  have lst : ∀ ds, lstS S3 x = some ds → Post (cn X) (W.to th3) H3 (fun e d H' => Wx e d σ H') (rD X) Q (.ok (.lst (cutD ds i j)) S3) → rSl X.K v i j H3 Q := fun ds e p3 => by
    obtain ⟨q, vs, e1, rd, rr, z⟩ := r4.lst rs e
    subst e1
    refine .inr (.inl ⟨q, vs, rfl, rd, ?_⟩)
    exact post_lst rs p3 (rr.cut i j) (Nat.le_trans (cutD_len _ _ _) z)
  cases x with
  | tup ds =>
    obtain ⟨q, vs, e1, ft, rr, z⟩ := r4.tup
    subst e1
    refine .inl ⟨q, vs, rfl, ft.sq, fun hw => ?_, fun _ => post_tup rs p3 (rr.cut i j) (Nat.le_trans (cutD_len _ _ _) z)⟩
    have e : cutD ds i j = ds := by
      unfold cutD
      rw [← rr.len, hw.1, hw.2, List.drop_zero, Nat.sub_zero, rr.len, List.take_length]
    rw [show oSl (D.tup ds) i j S3 = .ok (.tup (cutD ds i j)) S3 from rfl, e] at p3
    exact post_same rs p3 ⟨q, vs, rfl, ft, rr, z⟩
  | str z =>
    have p4 : Post (cn X) (W.to th3) H3 (fun e d H' => Wx e d σ H') (rD X) Q (if z.length ≤ LIM then .ok (.str (cutS z i j)) S3 else .bad) := p3
    split at p4
    · rename_i hz
      cases r4.str
      exact .inr (.inr ⟨z, rfl, lim_le hz, post_same rs p4 rfl⟩)
    · exact p4.elim
  | lst ds => exact lst ds rfl p3
  | ref n =>
    cases e : lstS S3 (.ref n) with
    | none => simp only [oSl, e] at p3; exact p3.elim
    | some ds => simp only [oSl, e] at p3; exact lst ds e p3
  | _ => exact p3.elim
/-! ### + -/
theorem op_catR : OpR X (binaryOp .Add) (fun x y H Q => ∃ l b xs zs, x = .ref l ∧ y = .ref b ∧ SqL X.K H l xs ∧ SqL X.K H b zs ∧ xs.length + zs.length ≤ sizeLine ∧ ∀ p, H p = none → Q (.ref p) (upd H p (.lst (xs ++ zs)))) := by
  intro pins s σ H x y v u Q I rx ry h
  obtain ⟨l, b, xs, zs, rfl, rfl, hH, hB, hz, q⟩ := h
  cases rx
  cases ry
  obtain ⟨its, r, p1, _⟩ := I.list hH
  obtain ⟨its2, r2, p2, _⟩ := I.list hB
  have hl := r.length
  have hl2 := r2.length
  obtain ⟨⟨cls, dd, data, sl⟩, ho, hc, n, hd⟩ := p1.isList
  obtain ⟨⟨cls2, dd2, data2, sl2⟩, ho2, hc2, n2, hd2⟩ := p2.isList
  simp only at hc hd hc2 hd2
  subst hc hd hc2 hd2
  have ea : its.toArray ++ its2.toArray = (its ++ its2).toArray := by simp
  refine concat_meets ⟨_, ho, rfl⟩ ⟨_, ho2, rfl⟩ noFill_list_add seq_list_add PySem.F.slot_list_add PySem.F.entry_list_add (PySem.F.args_list_add_2 _ _) (list_addW l b its.toArray its2.toArray n n2 dd dd2 sl sl2 (by simp; omega)) ⟨ho, ho2, ?_⟩
  rw [ea]
  exact ⟨.ref _, _, I.lnew (t' := s.toks) (r.append r2) (by rw [List.length_append]; omega), rfl, q _ I.fresh⟩
@[simp] def oAdd : D → D → Sto → Out D := fun x y S => match x, y with
  | .int i, .int j => .ok (.int (i + j)) S
  | .str a, .str b => if a.length + b.length ≤ LIM then .ok (.str (a ++ b)) S else .bad
  | .tup xs, .tup ys => if xs.length + ys.length ≤ LIM then .ok (.tup (xs ++ ys)) S else .bad
  | x, y => (match lstS S x, lstS S y with
    | some xs, some ys => if xs.length + ys.length ≤ LIM then .ok (.lst (xs ++ ys)) S else .bad
    | _, _ => .bad)
def rAddA (K : PySem.W.Frag) : R2 := fun x y H Q => rI0 (fun i j => .int (i + j)) x y H Q ∨ (∃ i j, x = .str i ∧ y = .str j ∧ i.length + j.length ≤ sizeLine ∧ Q (.str (i ++ j)) H) ∨ rCatA K x y H Q ∨
  ∃ l b xs zs, x = .ref l ∧ y = .ref b ∧ SqL K H l xs ∧ SqL K H b zs ∧ xs.length + zs.length ≤ sizeLine ∧ ∀ p, H p = none → Q (.ref p) (upd H p (.lst (xs ++ zs)))
theorem op_addA : OpR X (binaryOp .Add) (rAddA X.K) := op_add.or (op_add_str.or (op_catA.or op_catR))
theorem pop_add : POp X (rAddA X.K) oAdd := by
  intro W S x y v w H Q Wy rs r1 r2 p
  have lst : (match lstS S x, lstS S y with
    | some xs, some ys => if xs.length + ys.length ≤ LIM then Out.ok (D.lst (xs ++ ys)) S else .bad
    | _, _ => .bad) = oAdd x y S → rAddA X.K v w H Q := fun e => by
    rw [← e] at p
    cases e1 : lstS S x with
    | none => simp only [e1] at p; exact p.elim
    | some xs =>
      cases e2 : lstS S y with
      | none => simp only [e1, e2] at p; exact p.elim
      | some ys =>
        simp only [e1, e2] at p
        split at p
        · rename_i hz
          obtain ⟨a, vs, q1, rd, rr, z⟩ := r1.lst rs e1
          obtain ⟨b, ws, q2, rd2, rr2, z2⟩ := r2.lst rs e2
          subst q1; subst q2
          refine .inr (.inr (.inr ⟨a, b, vs, ws, rfl, rfl, rd, rd2, by rw [rr.len, rr2.len]; exact lim_le hz, ?_⟩))
          exact post_lst rs p (rr.app rr2) (by rw [List.length_append]; exact lim_le hz)
        · exact p.elim
  cases x with
  | int i =>
    cases y with
    | int j => cases r1.int; cases r2.int; exact .inl ⟨i, j, rfl, rfl, post_same rs p rfl⟩
    | _ => exact lst (by cases S <;> rfl)
  | str i =>
    cases y with
    | str j =>
      cases r1.str; cases r2.str
      have p' : Post (cn X) W H Wy (rD X) Q (if i.length + j.length ≤ LIM then .ok (.str (i ++ j)) S else .bad) := p
      split at p'
      · rename_i hz
        exact .inr (.inl ⟨i, j, rfl, rfl, lim_le hz, post_same rs p' rfl⟩)
      · exact p'.elim
    | _ => exact lst (by cases S <;> rfl)
  | tup xs =>
    cases y with
    | tup ys =>
      have p' : Post (cn X) W H Wy (rD X) Q (if xs.length + ys.length ≤ LIM then .ok (.tup (xs ++ ys)) S else .bad) := p
      split at p'
      · rename_i hz
        obtain ⟨a, vs, q1, f1, rr, z⟩ := r1.tup
        obtain ⟨b, ws, q2, f2, rr2, z2⟩ := r2.tup
        subst q1; subst q2
        refine .inr (.inr (.inl ⟨a, b, vs, ws, rfl, rfl, f1.sq, f2.sq, by rw [rr.len, rr2.len]; exact lim_le hz, fun e => ?_, fun _ e => ?_, fun _ _ => ?_⟩))
        · have ex : xs = [] := List.length_eq_zero_iff.mp (by rw [← rr.len, e]; rfl)
          subst ex
          exact post_same rs p' ⟨b, ws, rfl, f2, rr2, z2⟩
        · have ey : ys = [] := List.length_eq_zero_iff.mp (by rw [← rr2.len, e]; rfl)
          subst ey
          rw [List.append_nil] at p'
          exact post_same rs p' ⟨a, vs, rfl, f1, rr, z⟩
        · exact post_tup rs p' (rr.app rr2) (by rw [List.length_append]; exact lim_le hz)
      · exact p'.elim
    | _ => exact lst (by cases S <;> rfl)
  | _ => exact lst (by cases y <;> rfl)
theorem pd_add (ha : PDP X Wx a f) (hb : PDP X Wx b g) : PDE X Wx (.BinOp a .Add b pos) (dOp oAdd f g) := by
  obtain ⟨ta, a1, a2⟩ := ha; obtain ⟨tb, b1, b2⟩ := hb
  exact ⟨_, pe_op op_addA a1 b1, snd_opP a2 b2 pop_add⟩
end
end DL

namespace DL
open PySem PySem.Spec PyProof.Rows L2

/-! ### a hidden thing is written -/
theorem Mv.hid {W : Wd} {H : Hp} {a : Addr} {o : HO} (h : W.U a) : Mv W H W (upd H a o) := ⟨fun b u e n => ⟨by rw [upd_ne (fun z => n (by rw [z]; exact h))]; exact e, n⟩, fun _ _ e => e⟩
theorem RS.hid {c : Cn} {W : Wd} {S : Sto} {H : Hp} (r : RS c W S H) {a : Addr} {o : HO} (h : W.pr a) : RS c W S (upd H a o) := by
  have m : Mv W H W (upd H a o) := Mv.hid (.inr h)
  refine ⟨r.len, r.nd, r.pr, fun b p => ?_, fun n ob e => ?_⟩
  · by_cases hb : b = a
    · subst hb; exact ⟨o, upd_same⟩
    · obtain ⟨u, q⟩ := r.prt b p; exact ⟨u, by rw [upd_ne hb]; exact q⟩
  · obtain ⟨b, h1, h2⟩ := r.ob n ob e
    have hb : b ≠ a := fun z => r.pr b (List.mem_of_getElem? h1) (by rw [z]; exact h)
    refine ⟨b, h1, ?_⟩
    cases ob with
    | lst ds => obtain ⟨vs, q1, q2, q3⟩ := h2; exact ⟨vs, by rw [upd_ne hb]; exact q1, Reps.mv m _ _ q2, q3⟩
    | ins k fs => obtain ⟨C, dx, gs, q0, q1, q2⟩ := h2; exact ⟨C, dx, gs, q0, by rw [upd_ne hb]; exact q1, FReps.mv m _ _ q2⟩
    | tab p q => obtain ⟨q0, ps, q1, q2, q3⟩ := h2; exact ⟨q0, ps, by rw [upd_ne hb]; exact q1, q2, fun pos cv hc => let ⟨cc, c1, c2, c3⟩ := q3 pos cv hc; ⟨cc, c1, (m.keep cc _ c2 c3).1, (m.keep cc _ c2 c3).2⟩⟩
    | dct => have h2 : H b = some (.dK []) := h2; show _ = some (HO.dK []); rw [upd_ne hb]; exact h2
/-- a free place is hidden -/
theorem RS.hide {c : Cn} {W : Wd} {S : Sto} {H : Hp} (r : RS c W S H) {a : Addr} {o : HO} (h : H a = none) : RS c ⟨W.th, fun b => W.pr b ∨ b = a, W.xc⟩ S (upd H a o) := by
  have m : Mv W H ⟨W.th, fun b => W.pr b ∨ b = a, W.xc⟩ (upd H a o) := ⟨fun b u e n => ⟨by rw [upd_ne (ne_of_none e h)]; exact e, fun z => z.elim (fun q => n (.inl q)) fun q => q.elim (fun q => n (.inr q)) (ne_of_none e h)⟩, fun _ _ e => e⟩
  refine ⟨r.len, r.nd, fun b q z => z.elim (r.pr b q) fun e => r.free h (by rw [← e]; exact q), fun b p => ?_, fun n ob e => ?_⟩
  · by_cases hb : b = a
    · subst hb; exact ⟨o, upd_same⟩
    · obtain ⟨u, q⟩ := r.prt b (p.elim id fun z => absurd z hb); exact ⟨u, by rw [upd_ne hb]; exact q⟩
  · obtain ⟨b, h1, h2⟩ := r.ob n ob e
    refine ⟨b, h1, ?_⟩
    cases ob with
    | lst ds => obtain ⟨vs, q1, q2, q3⟩ := h2; exact ⟨vs, by rw [upd_ne (ne_of_none q1 h)]; exact q1, Reps.mv m _ _ q2, q3⟩
    | ins k fs => obtain ⟨C, dx, gs, q0, q1, q2⟩ := h2; exact ⟨C, dx, gs, q0, by rw [upd_ne (ne_of_none q1 h)]; exact q1, FReps.mv m _ _ q2⟩
    | tab p q => obtain ⟨q0, ps, q1, q2, q3⟩ := h2; exact ⟨q0, ps, by rw [upd_ne (ne_of_none q1 h)]; exact q1, q2, fun pos cv hc => let ⟨cc, c1, c2, c3⟩ := q3 pos cv hc; ⟨cc, c1, (m.keep cc _ c2 c3).1, (m.keep cc _ c2 c3).2⟩⟩
    | dct => have h2 : H b = some (.dK []) := h2; show _ = some (HO.dK []); rw [upd_ne (ne_of_none h2 h)]; exact h2
theorem mv_hide {W : Wd} {H : Hp} {a : Addr} {o : HO} (h : H a = none) : Mv W H ⟨W.th, fun b => W.pr b ∨ b = a, W.xc⟩ (upd H a o) :=
  ⟨fun b u e n => ⟨by rw [upd_ne (ne_of_none e h)]; exact e, fun z => z.elim (fun q => n (.inl q)) fun q => q.elim (fun q => n (.inr q)) (ne_of_none e h)⟩, fun _ _ e => e⟩

/-! ### fresh lists -/
@[simp] def optO {α : Type} (o : Option α) (S : Sto) : Out α := match o with
  | some a => .ok a S
  | none => .bad
@[simp] theorem optO_some {α : Type} {a : α} {S : Sto} : optO (some a) S = .ok a S := rfl
@[simp] theorem optO_none {α : Type} {S : Sto} : optO (none : Option α) S = .bad := rfl
abbrev DL := En → Sto → Out (List D)
/-- the world with one more hidden place -/
abbrev Wd.hd (W : Wd) (th : List Addr) (a : Addr) : Wd := ⟨th, fun b => W.pr b ∨ b = a, W.xc⟩
def PostL (c : Cn) (W : Wd) (H : Hp) (Wx : Value → Option Addr → Hp → Prop) (Q : VK) : Out (List D) → Prop
  | .ok ds S' => ∀ a vs th' H', Xt W.th H th' H' → H a = none → H' a = some (.lst vs) → a ∉ th' → RS c (W.hd th' a) S' H' → Reps c (W.hd th' a) H' ds vs → ds.length ≤ sizeLine → Q (.ref a) H'
  | .exc n x S' => ∀ C d th' H', c.mg n = some (.ref C) → Xt W.th H th' H' → RS c (W.to th') S' H' → XR c (W.to th') H' x d → Wx (.ref C) d H'
  | .bad => False
def SndL (X : Cx) (Wx : WX) (f : DL) (t : TE) : Prop := ∀ W ρ S σ H Q, RE (cn X) W ρ S σ H → PostL (cn X) W H (fun e d H' => Wx e d σ H') Q (f ρ S) → t σ H Q
def PDL (X : Cx) (Wx : WX) (e : Expr) (f : DL) : Prop := ∃ t, PE X e t ∧ SndL X Wx f t
theorem Xt.back {c : Cn} {W : Wd} {th' : List Addr} {S S' : Sto} {H H' : Hp} {a : Addr} (rs : RS c W S H) (x : Xt W.th H th' H') (rs' : RS c (W.to th') S' H') (h : H' a = none) : H a = none := by
  cases e : H a with
  | none => rfl
  | some o =>
    by_cases ha : a ∈ W.th
    · obtain ⟨n, hn, q⟩ := List.mem_iff_getElem.mp ha
      obtain ⟨u, z⟩ := rs'.at_ (n := n) (a := a) (x.get (by rw [List.getElem?_eq_getElem hn, q]))
      rw [h] at z; cases z
    · have z := (x.keep a o e ha).1
      rw [h] at z; cases z
/-- to a frozen list -/
@[simp] def dFzL (f : DL) : DE := fun ρ S => (f ρ S).bind fun ds S1 => .ok (.lst ds) S1
/-- to a list of the store -/
def dLiv (f : DL) : DE := fun ρ S => (f ρ S).bind fun ds S1 => .ok (.ref S1.length) (S1 ++ [.lst ds])
section
variable {X : Cx} {Wx : WX}
theorem snd_fzL {f : DL} {t : TE} (h : SndL X Wx f t) : Snd X Wx (rD X) (dFzL f) t := by
  intro W ρ S σ H Q re p
  refine h W ρ S σ H Q re ?_
  unfold dFzL at p
  cases e : f ρ S with
  | ok ds S1 =>
    rw [e] at p
    intro a vs th' H' x h0 h1 h2 rs r z
    have np : ¬ W.pr a := fun q => by obtain ⟨o, e⟩ := re.rs.prt a q; rw [h0] at e; cases e
    have m : Mv (W.hd th' a) H' (W.to th') H' := Mv.less (fun b q => Or.inl q) rfl
    exact p (.ref a) th' H' x (rs.less (fun b q => Or.inl q) rfl) ⟨a, vs, rfl, .inl ⟨.inl h1, fun q => q.elim h2 np⟩, Reps.mv m _ _ r, z⟩
  | exc n y S' => rw [e] at p; exact p
  | bad => rw [e] at p; exact p.elim
theorem snd_liv {f : DL} {t : TE} (h : SndL X Wx f t) : Snd X Wx (rD X) (dLiv f) t := by
  intro W ρ S σ H Q re p
  refine h W ρ S σ H Q re ?_
  unfold dLiv at p
  cases e : f ρ S with
  | ok ds S1 =>
    rw [e] at p
    intro a vs th' H' x h0 h1 h2 rs r z
    have np : ¬ W.pr a := fun q => by obtain ⟨o, e⟩ := re.rs.prt a q; rw [h0] at e; cases e
    have m : Mv (W.hd th' a) H' (W.to (th' ++ [a])) H' := ⟨fun b u e n => ⟨e, fun q => n (q.elim (fun q => (List.mem_append.mp q).elim .inl fun q => .inr (.inr (by simpa using q))) fun q => .inr (.inl q))⟩, fun n b e => by
      have hn : n < th'.length := (List.getElem?_eq_some_iff.mp e).1
      rw [List.getElem?_append_left hn]; exact e⟩
    have l1 : th'.length = S1.length := rs.len
    refine p (.ref a) (th' ++ [a]) H' ⟨fun b o q n => ?_, ?_⟩ ⟨?_, ?_, ?_, ?_, ?_⟩ ⟨a, ?_, rfl⟩
    · obtain ⟨k1, k2⟩ := x.keep b o q n
      exact ⟨k1, fun z => (List.mem_append.mp z).elim k2 fun z => ne_of_none q h0 (by simpa using z)⟩
    · obtain ⟨l, e⟩ := x.th
      exact ⟨l ++ [a], by rw [e, List.append_assoc]⟩
    · simp [l1]
    · have nd := rs.nd
      exact List.nodup_append.mpr ⟨nd, by simp, fun y hy b hb z => by
        have hb : b = a := by simpa using hb
        rw [hb] at z; rw [z] at hy; exact h2 hy⟩
    · intro b hb q
      rcases List.mem_append.mp hb with hb | hb
      · exact rs.pr b hb (.inl q)
      · rw [show b = a by simpa using hb] at q; exact np q
    · exact fun b q => rs.prt b (.inl q)
    · intro n o e2
      by_cases hn : n < S1.length
      · rw [List.getElem?_append_left hn] at e2
        obtain ⟨b, q1, q2⟩ := rs.ob n o e2
        exact ⟨b, m.th n b q1, ORep.mv m q2⟩
      · rw [List.getElem?_append_right (by omega)] at e2
        have e3 : n - S1.length = 0 := by
          cases k : n - S1.length with
          | zero => rfl
          | succ j => rw [k] at e2; simp at e2
        rw [e3] at e2
        cases e2
        refine ⟨a, ?_, vs, h1, Reps.mv m _ _ r, z⟩
        show (th' ++ [a])[n]? = some a
        rw [List.getElem?_append_right (by omega), l1, e3]; rfl
    · show (th' ++ [a])[S1.length]? = some a
      rw [List.getElem?_append_right (by omega), l1]; simp
  | exc n y S' => rw [e] at p; exact p
  | bad => rw [e] at p; exact p.elim
theorem pd_fzL {e : Expr} {f : DL} (h : PDL X Wx e f) : PDE X Wx e (dFzL f) := let ⟨t, a, b⟩ := h; ⟨t, a, snd_fzL b⟩
theorem pd_liv {e : Expr} {f : DL} (h : PDL X Wx e f) : PDE X Wx e (dLiv f) := let ⟨t, a, b⟩ := h; ⟨t, a, snd_liv b⟩
/-- a reading that lays a list behind arguments -/
theorem SndL.of {α β : Type} {R : RelT α β} {f : En → Sto → Out α} {t : L2.St → Hp → (β → Hp → Prop) → Prop} {g : α → Option (List D)} {G : β → Hp → VK → Prop} (h : Snd X Wx R f t)
    (k : ∀ W S H a b ds Q, RS (cn X) W S H → R W H a b → g a = some ds → (∃ vs, Reps (cn X) W H ds vs ∧ ds.length ≤ sizeLine ∧ ((∀ p, H p = none → Q (.ref p) (upd H p (.lst vs))) → G b H Q))) :
    SndL X Wx (fun ρ S => (f ρ S).bind fun a S1 => optO (g a) S1) (fun σ H Q => t σ H fun b H1 => G b H1 Q) := by
  intro W ρ S σ H Q re p
  refine h W ρ S σ H _ re ?_
  cases e : f ρ S with
  | ok a S1 =>
    intro b th' H' x rs r
    cases e2 : g a with
    | none => simp only [e, Out.bind_ok, e2, optO_none] at p; exact p.elim
    | some ds =>
      simp only [e, Out.bind_ok, e2, optO_some] at p
      obtain ⟨vs, rr, z, go⟩ := k _ S1 H' a b ds Q rs r e2
      refine go fun q hq => ?_
      have h0 := Xt.back re.rs x rs hq
      have m := mv_hide (W := W.to th') (o := .lst vs) hq
      exact p q vs th' _ (x.trans (Xt.new hq)) h0 upd_same (rs.free hq) (rs.hide hq) (Reps.mv m _ _ rr) z
  | exc n y S' => simp only [e, Out.bind_exc] at p; exact p
  | bad => simp only [e, Out.bind_bad] at p; exact p.elim
def dLstL (g : DA) : DL := fun ρ S => (g ρ S).bind fun xs S1 => optO (if xs.length ≤ LIM then some xs else none) S1
theorem pdl_lst {es : List Expr} {k : Nat} {pos : Pos} {g : DA} (h : PDA X Wx es g) : PDL X Wx (.List es pos) (dLstL g) := by
  obtain ⟨t, a1, a2⟩ := h
  refine ⟨_, pe_lst a1, SndL.of (t := t) (g := fun (xs : List D) => if xs.length ≤ LIM then some xs else none) (G := fun xs H1 Q => xs.length ≤ sizeLine ∧ ∀ p, H1 p = none → Q (.ref p) (upd H1 p (.lst xs))) a2 fun W S H xs vs ds Q rs r e => ?_⟩
  split at e
  · rename_i hz
    cases e
    exact ⟨vs, r, lim_le hz, fun q => ⟨by rw [r.len]; exact lim_le hz, q⟩⟩
  · cases e

/-! ### a name is bound to a list that the frame alone holds -/
theorem RF.own {c : Cn} {B : Bs} {th th' : List Addr} {ρ : En} {S S' : Sto} {σ : L2.St} {H H' : Hp} {ds : List D} {vs : List V} {a : Addr} (r : RF c B th ρ S σ H) (i : Nat) (hi : i < ρ.length) (x : Xt th H th' H') (h0 : H a = none) (h1 : H' a = some (.lst vs)) (h2 : a ∉ th')
    (rs : RS c ((B.w th ρ σ).hd th' a) S' H') (rr : Reps c ((B.w th ρ σ).hd th' a) H' ds vs) (z : ds.length ≤ sizeLine) :
    RF c B th' (ρ.set i (some (.own ds))) S' (σ.set i (some (.ref a))) H' ∧ Xs th ρ σ H th' (ρ.set i (some (.own ds))) (σ.set i (some (.ref a))) H' := by
  have hi' : i < σ.length := by rw [← r.len]; exact hi
  -- who holds what, then
  have ow : ∀ b, ownd (ρ.set i (some (.own ds))) (σ.set i (some (.ref a))) b → ownd ρ σ b ∨ b = a := fun b ⟨j, es, q1, q2⟩ => by
    by_cases hj : i = j
    · subst hj
      rw [List.getElem?_set_self hi'] at q2
      simp only [Option.some.injEq, V.ref.injEq] at q2
      exact .inr q2.symm
    · rw [List.getElem?_set_ne hj] at q1 q2
      exact .inl ⟨j, es, q1, q2⟩
  have oa : ownd (ρ.set i (some (.own ds))) (σ.set i (some (.ref a))) a := ⟨i, ds, by rw [List.getElem?_set_self hi], by rw [List.getElem?_set_self hi']⟩
  have na : ¬ ownd ρ σ a := fun q => by
    obtain ⟨o, e⟩ := r.rs.prt a (.inr q)
    rw [h0] at e; cases e
  have np : ¬ B.P0 a := fun q => by
    obtain ⟨o, e⟩ := r.rs.prt a (.inl q)
    rw [h0] at e; cases e
  have hp : ∀ b, (B.w th' (ρ.set i (some (.own ds))) (σ.set i (some (.ref a)))).pr b → ((B.w th ρ σ).hd th' a).pr b := fun b (q : B.P0 b ∨ _) => q.elim (fun q => .inl (.inl q)) fun q => (ow b q).elim (fun q => .inl (.inr q)) .inr
  have m : Mv ((B.w th ρ σ).hd th' a) H' (B.w th' (ρ.set i (some (.own ds))) (σ.set i (some (.ref a)))) H' := Mv.less hp rfl
  -- from the start
  have m0 : Mv (B.w th ρ σ) H ((B.w th ρ σ).hd th' a) H' := ⟨fun b o e n => by
    obtain ⟨k1, k2⟩ := x.keep b o e fun q => n (.inl q)
    exact ⟨k1, fun q => q.elim k2 fun q => q.elim (fun q => n (.inr q)) (ne_of_none e h0)⟩, fun n b e => x.get e⟩
  have m2 := m0.trans m
  refine ⟨⟨⟨rs.less hp rfl, fun j s e => ?_, by simpa using r.len⟩, fun b q => ?_, fun j k es fs b q1 q2 q3 q4 => ?_, by simpa using r.len⟩, ⟨fun b o e n q => ?_, x.th⟩⟩
  · by_cases hj : i = j
    · subst hj
      rw [List.getElem?_set_self hi] at e
      simp only [Option.some.injEq] at e
      subst e
      exact ⟨.ref a, by rw [List.getElem?_set_self hi'], a, vs, rfl, h1, Reps.mv m _ _ rr, .inr oa, h2, z⟩
    · rw [List.getElem?_set_ne hj] at e
      obtain ⟨w, q1, q2⟩ := r.re.sl j s e
      refine ⟨w, by rw [List.getElem?_set_ne hj]; exact q1, ?_⟩
      cases s with
      | val d => exact Rep.mv m2 _ _ q2
      | own es =>
        obtain ⟨b, ws, e1, e2, e3, e4, e5, e6⟩ := q2
        subst e1
        obtain ⟨k1, k2⟩ := x.keep b _ e2 e5
        exact ⟨b, ws, rfl, k1, Reps.mv m2 _ _ e3, .inr ⟨j, es, by rw [List.getElem?_set_ne hj]; exact e, by rw [List.getElem?_set_ne hj]; exact q1⟩, k2, e6⟩
      | exn n y =>
        obtain ⟨b, C, d, e1, e2, e3, e4⟩ := q2
        exact ⟨b, C, d, e1, e2, e3, XR.mv m2 _ _ e4⟩
  · rcases ow b q with q | q
    · exact r.p0 b q
    · rw [q]; exact np
  · have f : ∀ (j : Nat) (es : List D), (ρ.set i (some (.own ds)))[j]? = some (some (.own es)) → (σ.set i (some (.ref a)))[j]? = some (some (.ref b)) → (i = j ∧ b = a) ∨ (i ≠ j ∧ ρ[j]? = some (some (.own es)) ∧ σ[j]? = some (some (.ref b))) := fun j es e1 e2 => by
      by_cases hj : i = j
      · subst hj
        rw [List.getElem?_set_self hi'] at e2
        simp only [Option.some.injEq, V.ref.injEq] at e2
        exact .inl ⟨rfl, e2.symm⟩
      · rw [List.getElem?_set_ne hj] at e1 e2
        exact .inr ⟨hj, e1, e2⟩
    rcases f j es q1 q3 with ⟨j1, b1⟩ | ⟨j1, j2, j3⟩
    · rcases f k fs q2 q4 with ⟨k1, _⟩ | ⟨k1, k2, k3⟩
      · rw [← j1, k1]
      · subst b1; exact (na ⟨k, fs, k2, k3⟩).elim
    · rcases f k fs q2 q4 with ⟨k1, b1⟩ | ⟨k1, k2, k3⟩
      · subst b1; exact (na ⟨j, es, j2, j3⟩).elim
      · exact r.inj j k es fs b j2 k2 j3 k3
  · obtain ⟨k1, k2⟩ := x.keep b o e n
    exact ⟨k1, k2, fun z => (ow b z).elim q (ne_of_none e h0)⟩
def dSetO (i : Nat) (f : DL) : DS := fun ρ S => (f ρ S).st ρ fun ds S1 => if i < ρ.length then .nx (ρ.set i (some (.own ds))) S1 else .bad
theorem sndS_setO {i : Nat} {f : DL} {te : TE} (h : SndL X Wx f te) : SndS X Wx (dSetO i f) (tAsg te (gName i)) := by
  intro B th ρ S σ H D rf p
  refine h (B.w th ρ σ) ρ S σ H _ rf.re ?_
  unfold dSetO at p
  cases e : f ρ S with
  | ok ds S1 =>
    rw [e] at p
    intro a vs th' H' x h0 h1 h2 rs r z
    simp only [Out.st_ok] at p
    split at p
    · rename_i hi
      obtain ⟨rf2, x2⟩ := rf.own i hi x h0 h1 h2 rs r z
      exact p _ _ _ x2 rf2
    · exact p.elim
  | exc n y S' =>
    rw [e] at p
    exact fun C d th' H' hm x rs xr => p C d σ H' th' hm (x.xs ρ σ) (rf.xt x rs) xr
  | bad => rw [e] at p; exact p.elim
theorem pds_setO {i : Nat} {x : Str} {e : Expr} {f : DL} {pos pos' : Pos} (h : PDL X Wx e f) (hN : X.N.Nodup) (hi : X.N[i]? = some x := by rfl) (hx : Loc X.env.scope x := by first | exact Or.inl rfl | exact Or.inr rfl)
    (hs : swapsWith e (some (.Name x pos')) pos.line X.env = pure false := by rfl) (hf : X.fn x = true ∨ X.env.scope.names.lookup x = some .local := by first | exact .inl rfl | exact .inr rfl) : PDS X Wx (.Assign [.Name x pos'] e pos) (dSetO i f) := by
  obtain ⟨t, a1, a2⟩ := h
  exact ⟨_, ps_set hN hi hx a1 hs hf, sndS_setO a2⟩

/-! ### targets -/
inductive Tgt where
  | name (i : Nat) | tup (is : List Nat)
def Tgt.ids : Tgt → List Nat
  | .name i => [i]
  | .tup is => is
@[simp] def Tgt.kv : Tgt → D → Option (List (Nat × D))
  | .name i, d => some [(i, d)]
  | .tup is, .tup ds => if is.length = ds.length then some (is.zip ds) else none
  | _, _ => none
@[simp] def setE (ρ : En) : List (Nat × D) → En
  | [] => ρ
  | p :: r => setE (ρ.set p.1 (some (.val p.2))) r
def setV (σ : L2.St) : List (Nat × V) → L2.St
  | [] => σ
  | p :: r => setV (σ.set p.1 (some p.2)) r
def KReps (c : Cn) (W : Wd) (H : Hp) : List (Nat × D) → List (Nat × V) → Prop
  | [], vs => vs = []
  | (i, d) :: r, vs => ∃ v q, vs = (i, v) :: q ∧ Rep c W H d v ∧ KReps c W H r q
def PDG (X : Cx) (target : Expr) (t : Tgt) : Prop := ∃ tg, PG X target tg ∧ ∀ W σ H d v Q kvs, Rep (cn X) W H d v → t.kv d = some kvs → (∀ kv', KReps (cn X) W H kvs kv' → Q (setV σ kv') H) → tg v σ H Q
def PDGs (X : Cx) (ts : List Expr) (is : List Nat) : Prop := ∃ tg, PGs X ts tg ∧ ∀ W σ H ds vs Q, Reps (cn X) W H ds vs → is.length = ds.length → (∀ kv', KReps (cn X) W H (is.zip ds) kv' → Q (setV σ kv') H) → tg vs σ H Q
variable {pos : Pos}
theorem pdg_name {i : Nat} {x : Str} (hN : X.N.Nodup) (hi : X.N[i]? = some x := by rfl) (hx : Loc X.env.scope x := by first | exact Or.inl rfl | exact Or.inr rfl) (hf : X.fn x = true ∨ X.env.scope.names.lookup x = some .local := by first | exact .inl rfl | exact .inr rfl) : PDG X (.Name x pos) (.name i) := by
  refine ⟨_, pg_name hN hi hx hf, fun W σ H d v Q kvs r e k => ?_⟩
  cases e
  exact k [(i, v)] ⟨v, [], rfl, r, rfl⟩
theorem pdgs_nil : PDGs X [] [] := ⟨_, pgs_nil, fun W σ H ds vs Q r e k => by
  cases ds with
  | nil => exact ⟨r, k [] rfl⟩
  | cons _ _ => cases e⟩
theorem pdgs_cons {i : Nat} {is : List Nat} {x : Str} {es : List Expr} (hN : X.N.Nodup) (h2 : PDGs X es is) (hi : X.N[i]? = some x := by rfl) (hx : Loc X.env.scope x := by first | exact Or.inl rfl | exact Or.inr rfl) (hf : X.fn x = true ∨ X.env.scope.names.lookup x = some .local := by first | exact .inl rfl | exact .inr rfl)
    (hs : (assignEach (.Name x pos :: es) X.env).map (·.2) = assign (.Name x pos) X.env :: (assignEach es X.env).map (·.2) := by rfl) : PDGs X (.Name x pos :: es) (i :: is) := by
  obtain ⟨u, u1, u2⟩ := h2
  refine ⟨_, pgs_cons (pg_name hN hi hx hf) u1 hs, fun W σ H ds vs Q r e k => ?_⟩
  cases ds with
  | nil => cases e
  | cons d ds =>
    obtain ⟨v, q, rfl, r1, r2⟩ := r
    refine ⟨v, q, rfl, ?_⟩
    refine u2 W (σ.set i (some v)) H ds q Q r2 (by simpa using e) fun kv' hk => ?_
    exact k ((i, v) :: kv') ⟨v, kv', rfl, r1, hk⟩
theorem pdg_tup {es : List Expr} {k : Nat} {is : List Nat} (hc : X.calm = true) (h : PDGs X es is) (hn : (assignEach es X.env).length = is.length := by rfl) (hst : (assignEach es X.env).findIdx? (·.1) = none := by rfl) : PDG X (.Tuple es k pos) (.tup is) := by
  obtain ⟨u, u1, u2⟩ := h
  refine ⟨_, pg_tup hc u1 hn hst, fun W σ H d v Q kvs r e go => ?_⟩
  cases d with
  | tup ds =>
    have e' : (if is.length = ds.length then some (is.zip ds) else none) = some kvs := e
    clear e
    have e := e'
    split at e
    · rename_i hl
      cases e
      obtain ⟨a, vs, rfl, f, rr, z⟩ := r
      exact ⟨a, vs, rfl, f.sq, by rw [rr.len, hl], u2 W σ H ds vs Q rr hl go⟩
    · cases e
  | _ => cases e
theorem RE.set {c : Cn} {W : Wd} {ρ : En} {S : Sto} {σ : L2.St} {H : Hp} (r : RE c W ρ S σ H) (i : Nat) {d : D} {v : V} (h : Rep c W H d v) : RE c W (ρ.set i (some (.val d))) S (σ.set i (some v)) H := by
  have hl := r.ln
  refine ⟨r.rs, fun j s e => ?_, by simpa using hl⟩
  by_cases hj : i = j
  · subst hj
    have hi : i < ρ.length := by
      have := (List.getElem?_eq_some_iff.mp e).1
      simpa using this
    rw [List.getElem?_set_self hi] at e
    simp only [Option.some.injEq] at e
    subst e
    exact ⟨v, by rw [List.getElem?_set_self (by rw [← hl]; exact hi)], h⟩
  · rw [List.getElem?_set_ne hj] at e
    obtain ⟨w, h1, h2⟩ := r.sl j s e
    exact ⟨w, by rw [List.getElem?_set_ne hj]; exact h1, h2⟩
theorem RE.setAll {c : Cn} {W : Wd} {S : Sto} {H : Hp} : ∀ {kvs : List (Nat × D)} {kv' : List (Nat × V)} {ρ : En} {σ : L2.St}, RE c W ρ S σ H → KReps c W H kvs kv' → RE c W (setE ρ kvs) S (setV σ kv') H
  | [], _, _, _, r, h => by rw [show _ = [] from h]; exact r
  | (i, d) :: kvs, _, ρ, σ, r, ⟨v, q, e, h1, h2⟩ => by
    subst e
    exact RE.setAll (kvs := kvs) (ρ := ρ.set i (some (.val d))) (σ := σ.set i (some v)) (r.set i h1) h2
theorem setV_wipe {vs : List Nat} : ∀ {kv' : List (Nat × V)} {σ : L2.St}, (∀ p ∈ kv', p.1 ∈ vs) → wipe (setV σ kv') vs = wipe σ vs
  | [], _, _ => rfl
  | p :: r, σ, h => by
    have h1 : wipe (setV (σ.set p.1 (some p.2)) r) vs = wipe (σ.set p.1 (some p.2)) vs := setV_wipe (kv' := r) fun q hq => h q (List.mem_cons_of_mem _ hq)
    show wipe (setV (σ.set p.1 (some p.2)) r) vs = wipe σ vs
    rw [h1]
    have hp := h p List.mem_cons_self
    clear h h1
    induction vs with
    | nil => cases hp
    | cons w ws ih =>
      unfold wipe
      by_cases hw : p.1 ∈ ws
      · rw [ih hw]
      · have e : w = p.1 := (List.mem_cons.mp hp).elim Eq.symm fun z => absurd z hw
        subst e
        have g : ∀ (ws : List Nat), p.1 ∉ ws → wipe (σ.set p.1 (some p.2)) ws = (wipe σ ws).set p.1 (some p.2) := by
          intro ws
          induction ws with
          | nil => intro _; rfl
          | cons u us ih2 =>
            intro hn
            unfold wipe
            rw [ih2 fun z => hn (List.mem_cons_of_mem _ z), List.set_comm _ _ (fun z => hn (by rw [z]; exact List.mem_cons_self))]
        rw [g ws hw, List.set_set]
theorem KReps.ids {c : Cn} {W : Wd} {H : Hp} : ∀ {kvs : List (Nat × D)} {kv' : List (Nat × V)}, KReps c W H kvs kv' → kv'.map (·.1) = kvs.map (·.1)
  | [], _, h => by rw [show _ = [] from h]; rfl
  | (i, d) :: kvs, _, ⟨v, q, e, _, h2⟩ => by subst e; simp [KReps.ids h2]
theorem KReps.mv {c : Cn} {W W' : Wd} {H H' : Hp} (m : Mv W H W' H') : ∀ {kvs : List (Nat × D)} {kv' : List (Nat × V)}, KReps c W H kvs kv' → KReps c W' H' kvs kv'
  | [], _, h => h
  | (i, d) :: kvs, _, ⟨v, q, e, h1, h2⟩ => ⟨v, q, e, Rep.mv m _ _ h1, KReps.mv m h2⟩
theorem zip_ids {is : List Nat} {ds : List D} : ∀ p ∈ is.zip ds, p.1 ∈ is := fun p hp => (List.of_mem_zip (a := p.1) (b := p.2) hp).1
theorem Tgt.kv_ids {t : Tgt} {d : D} {kvs : List (Nat × D)} (h : t.kv d = some kvs) : ∀ p ∈ kvs, p.1 ∈ t.ids := by
  cases t with
  | name i => cases h; intro p hp; rw [show p = (i, d) by simpa using hp]; exact List.mem_singleton_self i
  | tup is =>
    cases d with
    | tup ds =>
      have e : (if is.length = ds.length then some (is.zip ds) else none) = some kvs := h
      split at e
      · cases e; exact zip_ids
      · cases e
    | _ => cases h
end
end DL

namespace DL
open PySem PySem.Spec PyProof.Rows L2

/-! ### what is walked -/
/-- later: what was told stands; where pk, what was hidden too -/
structure Stb (pk : Bool) (W : Wd) (H : Hp) (W2 : Wd) (H2 : Hp) : Prop where
  mv : Mv W H W2 H2
  pk : pk = true → ∀ a o, H a = some o → a ∉ W.th → W.pr a → H2 a = some o
def ItS (pk : Bool) (c : Cn) (W : Wd) (J : It) (ds : List D) (H : Hp) : Prop := ∀ W2 S2 H2, RS c W2 S2 H2 → Stb pk W H W2 H2 →
  (∀ i, i < ds.length → J.go i H2) ∧ (∀ i, ds.length ≤ i → J.stop i H2) ∧
  ∀ (i : Nat) d x H3, ds[i]? = some d → J.yld i H2 x H3 → Xt W2.th H2 W2.th H3 ∧ RS c W2 S2 H3 ∧ Rep c W2 H3 d x
def rI (X : Cx) (pk : Bool) : RelT (List D) It := fun W H ds J => ItS pk (cn X) W J ds H
def PDI (X : Cx) (Wx : WX) (pk : Bool) (tg iter : Expr) (f : DL) : Prop := ∃ wi, PI X tg iter wi ∧ Snd X Wx (rI X pk) f wi
section
variable {X : Cx} {Wx : WX}
theorem Stb.rd {pk : Bool} {W W2 : Wd} {H H2 : Hp} (s : Stb pk W H W2 H2) {a : Addr} {o : HO} (r : Rd H a o) (h : ¬ W.U a ∨ (pk = true ∧ a ∉ W.th)) : Rd H2 a o := by
  have g : ∀ o', H a = some o' → H2 a = some o' := fun o' e => by
    by_cases u : W.U a
    · rcases h with h | ⟨h1, h2⟩
      · exact absurd u h
      · rcases u with u | u
        · exact absurd u h2
        · exact s.pk h1 a o' e h2 u
    · exact (s.mv.keep a o' e u).1
  rcases r with r | ⟨ob, r⟩
  · exact .inl (g _ r)
  · exact .inr ⟨ob, g _ r⟩
/-- a list, a tuple, a text -/
def iSeqA (K : PySem.W.Frag) (tl : TE) : TI := fun σ H R => tl σ H fun x H1 => (∃ a, x = .ref a ∧ (∃ xs, SqL K H1 a xs) ∧ R (Itl K a) H1) ∨ (∃ a, x = .ref a ∧ (∃ xs, SqT K H1 a xs) ∧ R (Itt K a) H1) ∨ ∃ z, x = .str z ∧ R (Its z) H1
theorem pi_seqA {tg l : Expr} {tl : TE} (hl : PE X l tl) : PI X tg l (iSeqA X.K tl) := by
  refine ⟨fun pins s σ H R I h => ?_⟩
  refine thn (hl.run pins s σ H _ I h) fun v s1 ⟨x, H1, I1, r1, q1⟩ => ?_
  -- the value, as a name that gives it
  rcases q1 with q1 | q1 | q1
  · obtain ⟨a, e, ⟨xs, hq⟩, q⟩ := q1
    subst e
    cases r1
    obtain ⟨its, rv, p, hz⟩ := I1.list hq
    refine wpAny_pyIter_list p.isList ?_
    refine ⟨s1.heap.objs.size, [s1.heap.objs.size], _, _, H1, rfl, I1.kept (t' := s1.toks) fun b o e => Heap.get?_push_of_some _ e, turn_list a _, ⟨_, Heap.get?_push_size _ rfl, rfl, rfl⟩, fun b hb => ?_, q⟩
    have e : b = s1.heap.objs.size := by simpa using hb
    subst e
    exact I1.fpOk (Nat.le_refl _) (I1.hok.fresh (Nat.le_refl _))
  · obtain ⟨a, e, ⟨xs, hq⟩, q⟩ := q1
    subst e
    cases r1
    obtain ⟨its, rv, p, hz⟩ := I1.tuple hq
    refine wpAny_pyIter_tuple (show s1.heap.IsTuple a its.toArray from p) ?_
    refine ⟨s1.heap.objs.size, [s1.heap.objs.size], _, _, H1, rfl, I1.kept (t' := s1.toks) fun b o e => Heap.get?_push_of_some _ e, turn_tuple a _, ⟨_, Heap.get?_push_size _ rfl, rfl, rfl⟩, fun b hb => ?_, q⟩
    have e : b = s1.heap.objs.size := by simpa using hb
    subst e
    exact I1.fpOk (Nat.le_refl _) (I1.hok.fresh (Nat.le_refl _))
  · obtain ⟨z, e, q⟩ := q1
    subst e
    obtain ⟨t, rfl⟩ := r1
    cases ha : z.cps.all (· < 128)
    · exact wpAny_pyIter_wide ha (pi_one (tk := s1.toks) I1 _ (turn_str _ z t "str_iterator" (.inr rfl)) ⟨_, Heap.get?_push_size _ rfl, rfl, rfl⟩ q)
    · exact wpAny_pyIter_ascii ha (pi_one (tk := s1.toks) I1 _ (turn_str _ z t "str_ascii_iterator" (.inl rfl)) ⟨_, Heap.get?_push_size _ rfl, rfl, rfl⟩ q)
/-- a list that stands -/
def LS (K : PySem.W.Frag) (pk : Bool) (W : Wd) (H : Hp) (a : Addr) (vs : List V) : Prop := (Rd H a (.lst vs) ∧ (¬ W.U a ∨ (pk = true ∧ a ∉ W.th))) ∨ KL K a vs
theorem FL.ls {K : PySem.W.Frag} {pk : Bool} {W : Wd} {H : Hp} {a : Addr} {vs : List V} (h : FL K W H a vs) : LS K pk W H a vs := h.imp (fun q => ⟨q.1, .inl q.2⟩) id
theorem LS.sq {K : PySem.W.Frag} {pk : Bool} {W : Wd} {H : Hp} {a : Addr} {vs : List V} (h : LS K pk W H a vs) : SqL K H a vs := h.elim (fun q => .inl q.1) .inr
theorem Stb.ls {K : PySem.W.Frag} {pk : Bool} {W W2 : Wd} {H H2 : Hp} (s : Stb pk W H W2 H2) {a : Addr} {vs : List V} (h : LS K pk W H a vs) : SqL K H2 a vs := h.elim (fun q => .inl (s.rd q.1 q.2)) .inr
theorem its_list {pk : Bool} {W : Wd} {H : Hp} {a : Addr} {ds : List D} {vs : List V} (h : LS X.K pk W H a vs) (r : Reps (cn X) W H ds vs) : ItS pk (cn X) W (Itl X.K a) ds H := by
  intro W2 S2 H2 rs s
  have h2 : SqL X.K H2 a vs := s.ls h
  have r2 := Reps.mv s.mv _ _ r
  refine ⟨fun i hi => ⟨vs, vs[i]'(by rw [r.len]; exact hi), h2, by simp⟩, fun i hi => ⟨vs, h2, by rw [r.len]; exact hi⟩, fun i d x H3 e y => ?_⟩
  obtain ⟨rfl, y⟩ := y
  obtain ⟨v, q1, q2⟩ := r2.get e
  have ex := y vs h2
  rw [q1] at ex
  cases ex
  exact ⟨Xt.refl, rs, q2⟩
theorem its_tup {pk : Bool} {W : Wd} {H : Hp} {a : Addr} {ds : List D} {vs : List V} (h : FT X.K W H a vs) (r : Reps (cn X) W H ds vs) : ItS pk (cn X) W (Itt X.K a) ds H := by
  intro W2 S2 H2 rs s
  have h2 : SqT X.K H2 a vs := (FT.mv (c := cn X) s.mv h).sq
  have r2 := Reps.mv s.mv _ _ r
  refine ⟨fun i hi => ⟨vs, vs[i]'(by rw [r.len]; exact hi), h2, by simp⟩, fun i hi => ⟨vs, h2, by rw [r.len]; exact hi⟩, fun i d x H3 e y => ?_⟩
  obtain ⟨rfl, y⟩ := y
  obtain ⟨v, q1, q2⟩ := r2.get e
  have ex := y vs h2
  rw [q1] at ex
  cases ex
  exact ⟨Xt.refl, rs, q2⟩
def chars (z : Str) : List D := z.cps.toList.map fun c => .str ⟨#[c]⟩
theorem its_str {pk : Bool} {W : Wd} {H : Hp} {z : Str} : ItS pk (cn X) W (Its z) (chars z) H := by
  intro W2 S2 H2 rs s
  refine ⟨fun i hi => ?_, fun i hi => ?_, fun i d x H3 e y => ?_⟩
  · unfold chars at hi; rw [List.length_map, Array.length_toList] at hi; exact hi
  · unfold chars at hi; rw [List.length_map, Array.length_toList] at hi; exact hi
  · obtain ⟨rfl, c, e2, rfl⟩ := y
    unfold chars at e
    rw [List.getElem?_map, Array.getElem?_toList, e2] at e
    cases e
    exact ⟨Xt.refl, rs, rfl⟩
def rngD (lo : Int) (n : Nat) : List D := (List.range n).map fun (i : Nat) => D.int (lo + i)
theorem its_rng {pk : Bool} {W : Wd} {H : Hp} {lo : Int} {n : Nat} : ItS pk (cn X) W (Itr lo n) (rngD lo n) H := by
  intro W2 S2 H2 rs s
  refine ⟨fun i hi => ?_, fun i hi => ?_, fun i d x H3 e y => ?_⟩
  · unfold rngD at hi; rw [List.length_map, List.length_range] at hi; exact hi
  · unfold rngD at hi; rw [List.length_map, List.length_range] at hi; exact hi
  · obtain ⟨rfl, rfl⟩ := y
    unfold rngD at e
    rw [List.getElem?_map] at e
    cases q : (List.range n)[i]? with
    | none => rw [q] at e; cases e
    | some k =>
      rw [q] at e
      have hk : k = i := by
        obtain ⟨h1, h2⟩ := List.getElem?_eq_some_iff.mp q
        rw [List.getElem_range] at h2; exact h2.symm
      subst hk
      cases e
      exact ⟨Xt.refl, rs, rfl⟩
/-- enumerate -/
def enumD : Nat → List D → List D
  | _, [] => []
  | k, d :: ds => .tup [.int k, d] :: enumD (k + 1) ds
theorem enumD_get : ∀ (ds : List D) (k i : Nat), (enumD k ds)[i]? = ds[i]?.map fun d => .tup [.int ((k + i : Nat) : Int), d]
  | [], _, _ => by simp [enumD]
  | d :: ds, k, 0 => by simp [enumD]
  | d :: ds, k, i + 1 => by
    have h := enumD_get ds (k + 1) i
    simp only [enumD, List.getElem?_cons_succ]
    rw [h, show k + 1 + i = k + (i + 1) by omega]
theorem enumD_len : ∀ (ds : List D) (k : Nat), (enumD k ds).length = ds.length
  | [], _ => rfl
  | d :: ds, k => by simp [enumD, enumD_len ds (k + 1)]
theorem new_tup {c : Cn} {W : Wd} {S : Sto} {H : Hp} {T : Addr} {ds : List D} {vs : List V} (rs : RS c W S H) (h : H T = none) (r : Reps c W H ds vs) (z : ds.length ≤ sizeLine) : Xt W.th H W.th (upd H T (.tup vs)) ∧ RS c W S (upd H T (.tup vs)) ∧ Rep c W (upd H T (.tup vs)) (.tup ds) (.ref T) :=
  ⟨Xt.new h, rs.new h, T, vs, rfl, .inl ⟨.inl upd_same, rs.nU h⟩, Reps.mv (Xt.new h).mv _ _ r, z⟩
theorem two_le : 2 ≤ sizeLine := by decide
theorem its_enum {pk : Bool} {W : Wd} {H : Hp} {a : Addr} {ds : List D} {vs : List V} (h : LS X.K pk W H a vs) (r : Reps (cn X) W H ds vs) : ItS pk (cn X) W (Ite X.K a) (enumD 0 ds) H := by
  intro W2 S2 H2 rs s
  have h2 : SqL X.K H2 a vs := s.ls h
  have r2 := Reps.mv s.mv _ _ r
  refine ⟨fun i hi => ⟨vs, vs[i]'(by rw [r.len, ← enumD_len ds 0]; exact hi), h2, by simp⟩, fun i hi => ⟨vs, h2, by rw [r.len, ← enumD_len ds 0]; exact hi⟩, fun i d x H3 e y => ?_⟩
  obtain ⟨T, x', rfl, hT, rfl, y⟩ := y
  rw [enumD_get] at e
  cases q : ds[i]? with
  | none => rw [q] at e; cases e
  | some d' =>
    rw [q] at e
    cases e
    obtain ⟨v, q1, q2⟩ := r2.get q
    have ex := y vs h2
    rw [q1] at ex
    cases ex
    refine new_tup rs hT ⟨_, _, rfl, ?_, _, [], rfl, q2, rfl⟩ two_le
    show V.int (i : Nat) = V.int ((0 + i : Nat) : Int)
    rw [Nat.zero_add]
/-- zip -/
def zipD : List D → List D → List D
  | x :: xs, y :: ys => .tup [x, y] :: zipD xs ys
  | _, _ => []
theorem zipD_get : ∀ (xs ys : List D) (i : Nat) (d : D), (zipD xs ys)[i]? = some d → ∃ x y, xs[i]? = some x ∧ ys[i]? = some y ∧ d = .tup [x, y]
  | x :: xs, y :: ys, 0, d, e => by simp [zipD] at e; exact ⟨x, y, rfl, rfl, e.symm⟩
  | x :: xs, y :: ys, i + 1, d, e => by
    have e' : (zipD xs ys)[i]? = some d := by simpa [zipD] using e
    obtain ⟨a, b, h1, h2, h3⟩ := zipD_get xs ys i d e'
    exact ⟨a, b, by simpa using h1, by simpa using h2, h3⟩
  | [], _, _, _, e => by simp [zipD] at e
  | _ :: _, [], _, _, e => by simp [zipD] at e
theorem zipD_len : ∀ (xs ys : List D), (zipD xs ys).length = min xs.length ys.length
  | x :: xs, y :: ys => by simp [zipD, zipD_len xs ys]
  | [], _ => by simp [zipD]
  | _ :: _, [] => by simp [zipD]
theorem its_zip {pk : Bool} {W : Wd} {H : Hp} {a b : Addr} {ds es : List D} {vs ws : List V} (h : LS X.K pk W H a vs) (r : Reps (cn X) W H ds vs) (k : LS X.K pk W H b ws) (q : Reps (cn X) W H es ws) :
    ItS pk (cn X) W (Itz X.K a b) (zipD ds es) H := by
  intro W2 S2 H2 rs s
  have h2 : SqL X.K H2 a vs := s.ls h
  have k2 : SqL X.K H2 b ws := s.ls k
  have r2 := Reps.mv s.mv _ _ r
  have q2 := Reps.mv s.mv _ _ q
  have l1 := r.len
  have l2 := q.len
  refine ⟨fun i hi => ?_, fun i hi => ?_, fun i d x H3 e y => ?_⟩
  · rw [zipD_len] at hi
    exact ⟨vs, ws, vs[i]'(by omega), ws[i]'(by omega), h2, k2, by simp, by simp⟩
  · rw [zipD_len] at hi
    exact ⟨vs, ws, h2, k2, by omega⟩
  · obtain ⟨T, x1, x2, rfl, hT, rfl, y1, y2⟩ := y
    obtain ⟨d1, d2, e1, e2, rfl⟩ := zipD_get ds es i d e
    obtain ⟨v1, a1, a2⟩ := r2.get e1
    obtain ⟨v2, b1, b2⟩ := q2.get e2
    have ex := y1 vs h2
    rw [a1] at ex
    cases ex
    have ey := y2 ws k2
    rw [b1] at ey
    cases ey
    exact new_tup rs hT ⟨_, [_], rfl, a2, _, [], rfl, b2, rfl⟩ two_le
def itrD : D → Option (List D)
  | .tup ds => some ds
  | .lst ds => some ds
  | .str z => some (chars z)
  | _ => none
def dItr (f : DE) : DL := fun ρ S => (f ρ S).bind fun d S1 => optO (itrD d) S1
theorem pdi_seq {tg e : Expr} {f : DE} (h : PDE X Wx e f) : PDI X Wx false tg e (dItr f) := by
  obtain ⟨t, a1, a2⟩ := h
  refine ⟨_, pi_seqA a1, fun W ρ S σ H R re p => ?_⟩
  refine a2.run re p fun d v th1 S1 H1 re1 r1 _ p1 => ?_
  have rs := re1.rs
  cases d with
  | tup ds =>
    obtain ⟨a, vs, rfl, f, rr, z⟩ := r1
    exact .inr (.inl ⟨a, rfl, ⟨vs, f.sq⟩, p1 _ th1 H1 Xt.refl rs (its_tup f rr)⟩)
  | lst ds =>
    obtain ⟨a, vs, rfl, f, rr, z⟩ := r1
    exact .inl ⟨a, rfl, ⟨vs, f.sq⟩, p1 _ th1 H1 Xt.refl rs (its_list f.ls rr)⟩
  | str z =>
    cases (show v = V.str z from r1)
    exact .inr (.inr ⟨z, rfl, p1 _ th1 H1 Xt.refl rs its_str⟩)
  | _ => exact p1.elim
/-- in a comprehension: an own list too -/
theorem pdi_seqP {tg e : Expr} {f : DE} (h : PDP X Wx e f) : PDI X Wx true tg e (dItr f) := by
  obtain ⟨t, a1, a2⟩ := h
  refine ⟨_, pi_seqA a1, fun W ρ S σ H R re p => ?_⟩
  refine a2.run re p fun d v th1 S1 H1 re1 r1 _ p1 => ?_
  have rs := re1.rs
  rcases r1 with r1 | ⟨ds, a, vs, h1, h2, h3, h4, h5, h6⟩
  · cases d with
    | tup ds =>
      obtain ⟨a, vs, rfl, f, rr, z⟩ := r1
      exact .inr (.inl ⟨a, rfl, ⟨vs, f.sq⟩, p1 _ th1 H1 Xt.refl rs (its_tup f rr)⟩)
    | lst ds =>
      obtain ⟨a, vs, rfl, f, rr, z⟩ := r1
      exact .inl ⟨a, rfl, ⟨vs, f.sq⟩, p1 _ th1 H1 Xt.refl rs (its_list f.ls rr)⟩
    | str z =>
      cases (show v = V.str z from r1)
      exact .inr (.inr ⟨z, rfl, p1 _ th1 H1 Xt.refl rs its_str⟩)
    | _ => exact p1.elim
  · subst h1; subst h2
    exact .inl ⟨a, rfl, ⟨vs, SqL.of h3⟩, p1 _ th1 H1 Xt.refl rs (its_list (.inl ⟨.inl h3, .inr ⟨rfl, h4⟩⟩) h5)⟩
/-- range -/
def dRng1 (f : DE) : DL := fun ρ S => (f ρ S).bind fun d S1 => match d with
  | .int j => if j ≤ 1000000 ∧ -1000000 ≤ j then .ok (rngD 0 j.toNat) S1 else .bad
  | _ => .bad
def dRng2 (f g : DE) : DL := fun ρ S => (f ρ S).bind fun d S1 => (g ρ S1).bind fun e S2 => match d, e with
  | .int i, .int j => if (i ≤ 1000000 ∧ -1000000 ≤ i) ∧ (j ≤ 1000000 ∧ -1000000 ≤ j) then .ok (rngD i (j - i).toNat) S2 else .bad
  | _, _ => .bad
theorem pdi_rng1 {tg a : Expr} {f : DE} {p pos : Pos} {pk : Bool} (hm : X.mg "range" = none) (ha : PDE X Wx a f) (hg : Gl X "range" := by rfl) (hs : starEach [a] X.env = [(false, eval a X.env)] := by rfl) : PDI X Wx pk tg (.Call (.Name "range" p) [a] [] pos) (dRng1 f) := by
  obtain ⟨t, a1, a2⟩ := ha
  refine ⟨_, pi_range1 hg hm (pa_cons a1 pa_nil hs) hs, fun W ρ S σ H R re p => ?_⟩
  refine a2.run re p fun d v th1 S1 H1 re1 r1 _ p1 => ?_
  cases d with
  | int j =>
    cases (show v = V.int j from r1)
    have p2 : Post (cn X) (W.to th1) H1 (fun e d H' => Wx e d σ H') (rI X pk) R (if j ≤ 1000000 ∧ -1000000 ≤ j then .ok (rngD 0 j.toNat) S1 else .bad) := p1
    split at p2
    · rename_i hj
      exact ⟨j, rfl, by omega, by omega, p2 _ th1 H1 Xt.refl re1.rs its_rng⟩
    · exact p2.elim
  | _ => exact p1.elim
theorem pdi_rng2 {tg a b : Expr} {f g : DE} {p pos : Pos} {pk : Bool} (hm : X.mg "range" = none) (ha : PDE X Wx a f) (hb : PDE X Wx b g) (hg : Gl X "range" := by rfl) (hs : starEach [a, b] X.env = [(false, eval a X.env), (false, eval b X.env)] := by rfl) (hs2 : starEach [b] X.env = [(false, eval b X.env)] := by rfl) :
    PDI X Wx pk tg (.Call (.Name "range" p) [a, b] [] pos) (dRng2 f g) := by
  obtain ⟨t, a1, a2⟩ := ha
  obtain ⟨u, b1, b2⟩ := hb
  refine ⟨_, pi_range2 hg hm (pa_cons a1 (pa_cons b1 pa_nil hs2) (by rw [hs, hs2])) hs hs2, fun W ρ S σ H R re p => ?_⟩
  refine a2.run re p fun d v th1 S1 H1 re1 r1 _ p1 => ?_
  refine b2.run re1 p1 fun e w th2 S2 H2 re2 r2 _ p2 => ?_
  cases d with
  | int i =>
    cases e with
    | int j =>
      cases (show v = V.int i from r1)
      cases (show w = V.int j from r2)
      have p3 : Post (cn X) (W.to th2) H2 (fun e d H' => Wx e d σ H') (rI X pk) R (if (i ≤ 1000000 ∧ -1000000 ≤ i) ∧ (j ≤ 1000000 ∧ -1000000 ≤ j) then .ok (rngD i (j - i).toNat) S2 else .bad) := p2
      split at p3
      · rename_i hj
        exact ⟨i, j, rfl, ⟨by omega, by omega, by omega, by omega⟩, p3 _ th2 H2 Xt.refl re2.rs its_rng⟩
      · exact p3.elim
    | _ => exact p2.elim
  | _ => exact p2.elim
/-- enumerate, zip of lists -/
def dEnum (f : DE) : DL := fun ρ S => (f ρ S).bind fun d S1 => match d with
  | .lst ds => .ok (enumD 0 ds) S1
  | _ => .bad
def dZip (f g : DE) : DL := fun ρ S => (f ρ S).bind fun d S1 => (g ρ S1).bind fun e S2 => match d, e with
  | .lst ds, .lst es => .ok (zipD ds es) S2
  | _, _ => .bad
/-- a list as it stands -/
theorem rP.lst' {W : Wd} {H : Hp} {v : V} {ds : List D} (r : rP X W H (.lst ds) v) : ∃ a vs, v = .ref a ∧ LS X.K true W H a vs ∧ Reps (cn X) W H ds vs := by
  rcases r with r | ⟨es, a, vs, h1, h2, h3, h4, h5, h6⟩
  · obtain ⟨a, vs, e, f, q, z⟩ := r
    exact ⟨a, vs, e, f.ls, q⟩
  · cases h1
    exact ⟨a, vs, h2, .inl ⟨.inl h3, .inr ⟨rfl, h4⟩⟩, h5⟩
theorem pdi_enum {e : Expr} {f : DE} {p pos tpos : Pos} {elts : List Expr} {kk : Nat} {pk : Bool} (hm : X.mg "enumerate" = none) (h : PDE X Wx e f) (hg : Gl X "enumerate" := by rfl) (hs : starEach [e] X.env = [(false, eval e X.env)] := by rfl) :
    PDI X Wx pk (.Tuple elts kk tpos) (.Call (.Name "enumerate" p) [e] [] pos) (dEnum f) := by
  obtain ⟨t, a1, a2⟩ := h
  refine ⟨_, pi_enum hg hm (pa_cons a1 pa_nil hs) hs, fun W ρ S σ H R re p => ?_⟩
  refine a2.run re p fun d v th1 S1 H1 re1 r1 _ p1 => ?_
  cases d with
  | lst ds =>
    obtain ⟨a, vs, rfl, f, rr, z⟩ := r1
    exact ⟨a, vs, rfl, f.sq, p1 _ th1 H1 Xt.refl re1.rs (its_enum f.ls rr)⟩
  | _ => exact p1.elim
theorem pdi_enumP {e : Expr} {f : DE} {p pos tpos : Pos} {elts : List Expr} {kk : Nat} (hm : X.mg "enumerate" = none) (h : PDP X Wx e f) (hg : Gl X "enumerate" := by rfl) (hs : starEach [e] X.env = [(false, eval e X.env)] := by rfl) :
    PDI X Wx true (.Tuple elts kk tpos) (.Call (.Name "enumerate" p) [e] [] pos) (dEnum f) := by
  obtain ⟨t, a1, a2⟩ := h
  refine ⟨_, pi_enum hg hm (pa_cons a1 pa_nil hs) hs, fun W ρ S σ H R re p => ?_⟩
  refine a2.run re p fun d v th1 S1 H1 re1 r1 _ p1 => ?_
  cases d with
  | lst ds =>
    obtain ⟨a, vs, rfl, rd, rr⟩ := r1.lst'
    exact ⟨a, vs, rfl, rd.sq, p1 _ th1 H1 Xt.refl re1.rs (its_enum rd rr)⟩
  | _ => exact p1.elim
theorem pdi_zip {e e2 : Expr} {f g : DE} {p pos tpos : Pos} {elts : List Expr} {kk : Nat} {pk : Bool} (hm : X.mg "zip" = none) (h : PDE X Wx e f) (h2 : PDE X Wx e2 g) (hg : Gl X "zip" := by rfl) (hs : starEach [e, e2] X.env = (false, eval e X.env) :: starEach [e2] X.env := by rfl) (hs2 : starEach [e2] X.env = [(false, eval e2 X.env)] := by rfl) (hpl : (backTo pos (starEach [e2] X.env)).any (·.1) = false := by rfl) :
    PDI X Wx pk (.Tuple elts kk tpos) (.Call (.Name "zip" p) [e, e2] [] pos) (dZip f g) := by
  obtain ⟨t, a1, a2⟩ := h
  obtain ⟨t2, b1, b2⟩ := h2
  refine ⟨_, pi_zip hg hm (pa_cons a1 (pa_cons b1 pa_nil hs2) hs) hs hpl, fun W ρ S σ H R re p => ?_⟩
  refine a2.run re p fun d v th1 S1 H1 re1 r1 _ p1 => ?_
  refine b2.run re1 p1 fun e w th2 S2 H2 re2 r2 x2 p2 => ?_
  cases d with
  | lst ds =>
    cases e with
    | lst es =>
      obtain ⟨a, vs, rfl, f, rr, z⟩ := Rep.mv x2.mv _ _ r1
      obtain ⟨b, ws, rfl, f2, rr2, z2⟩ := r2
      exact ⟨a, b, vs, ws, rfl, f.sq, f2.sq, p2 _ th2 H2 Xt.refl re2.rs (its_zip f.ls rr f2.ls rr2)⟩
    | _ => exact p2.elim
  | _ => exact p2.elim
theorem pdi_zipP {e e2 : Expr} {f g : DE} {p pos tpos : Pos} {elts : List Expr} {kk : Nat} (hm : X.mg "zip" = none) (h : PDP X Wx e f) (h2 : PDP X Wx e2 g) (hg : Gl X "zip" := by rfl) (hs : starEach [e, e2] X.env = (false, eval e X.env) :: starEach [e2] X.env := by rfl) (hs2 : starEach [e2] X.env = [(false, eval e2 X.env)] := by rfl) (hpl : (backTo pos (starEach [e2] X.env)).any (·.1) = false := by rfl) :
    PDI X Wx true (.Tuple elts kk tpos) (.Call (.Name "zip" p) [e, e2] [] pos) (dZip f g) := by
  obtain ⟨t, a1, a2⟩ := h
  obtain ⟨t2, b1, b2⟩ := h2
  refine ⟨_, pi_zip hg hm (pa_cons a1 (pa_cons b1 pa_nil hs2) hs) hs hpl, fun W ρ S σ H R re p => ?_⟩
  refine a2.run re p fun d v th1 S1 H1 re1 r1 _ p1 => ?_
  refine b2.run re1 p1 fun e w th2 S2 H2 re2 r2 x2 p2 => ?_
  cases d with
  | lst ds =>
    cases e with
    | lst es =>
      obtain ⟨a, vs, rfl, rd, rr⟩ := (rP.xt (W := W.to th1) r1 x2).lst'
      obtain ⟨b, ws, rfl, rd2, rr2⟩ := r2.lst'
      exact ⟨a, b, vs, ws, rfl, rd.sq, rd2.sq, p2 _ th2 H2 Xt.refl re2.rs (its_zip rd rr rd2 rr2)⟩
    | _ => exact p2.elim
  | _ => exact p2.elim

/-! ### comprehensions -/
/-- in a comprehension nothing is let out -/
@[simp] def Out.nx {α : Type} : Out α → Out α
  | .ok a S => .ok a S
  | _ => .bad
@[simp] theorem Out.nx_ok {α : Type} {a : α} {S : Sto} : (Out.ok a S).nx = .ok a S := rfl
def wipeE (ρ : En) : List Nat → En
  | [] => ρ
  | v :: vs => (wipeE ρ vs).set v none
theorem wipeE_len (ρ : En) : ∀ vs : List Nat, (wipeE ρ vs).length = ρ.length
  | [] => rfl
  | v :: vs => by unfold wipeE; rw [List.length_set, wipeE_len ρ vs]
theorem RE.wipe {c : Cn} {W : Wd} {ρ : En} {S : Sto} {σ : L2.St} {H : Hp} (r : RE c W ρ S σ H) : ∀ vs : List Nat, RE c W (wipeE ρ vs) S (L2.wipe σ vs) H
  | [] => r
  | v :: vs => by
    have ih := RE.wipe r vs
    refine ⟨r.rs, fun i s e => ?_, by unfold wipeE L2.wipe; simpa using ih.ln⟩
    unfold wipeE at e
    by_cases hi : v = i
    · subst hi
      by_cases hv : v < (wipeE ρ vs).length
      · rw [List.getElem?_set_self hv] at e; cases e
      · rw [List.getElem?_eq_none (by simpa using hv)] at e; cases e
    · rw [List.getElem?_set_ne hi] at e
      obtain ⟨w, h1, h2⟩ := ih.sl i s e
      exact ⟨w, by unfold L2.wipe; rw [List.getElem?_set_ne hi]; exact h1, h2⟩
def compGo (t : Tgt) (tt : DT) (te : DE) (ρ : En) : List D → Sto → Out (List D)
  | [], S => .ok [] S
  | d :: ds, S => match t.kv d with
    | none => .bad
    | some kvs => (tt (setE ρ kvs) S).nx.bind fun k S1 => if k = true then (te (setE ρ kvs) S1).nx.bind fun x S2 => (compGo t tt te ρ ds S2).bind fun xs S3 => .ok (x :: xs) S3 else compGo t tt te ρ ds S1
def dComp (it : DL) (t : Tgt) (tt : DT) (te : DE) (vs : List Nat) : DL := fun ρ S => (it ρ S).bind fun ds S1 => if ds.length ≤ LIM then compGo t tt te (wipeE ρ vs) ds S1 else .bad
abbrev Wx0 : WX := fun _ _ _ _ => False
theorem compGo_noexc {t : Tgt} {tt : DT} {te : DE} {ρ : En} : ∀ (ds : List D) (S : Sto) n x S', compGo t tt te ρ ds S ≠ .exc n x S'
  | [], S, n, x, S', h => by cases h
  | d :: ds, S, n, x, S', h => by
    unfold compGo at h
    cases e : t.kv d with
    | none => rw [e] at h; cases h
    | some kvs =>
      rw [e] at h
      simp only at h
      cases e1 : tt (setE ρ kvs) S with
      | ok k S1 =>
        rw [e1] at h
        simp only [Out.nx, Out.bind] at h
        split at h
        · cases e2 : te (setE ρ kvs) S1 with
          | ok y S2 =>
            rw [e2] at h
            simp only at h
            cases e3 : compGo t tt te ρ ds S2 with
            | ok ys S3 => rw [e3] at h; cases h
            | exc n' x' S3 => exact compGo_noexc ds S2 n' x' S3 e3
            | bad => rw [e3] at h; cases h
          | exc _ _ _ => rw [e2] at h; cases h
          | bad => rw [e2] at h; cases h
        · exact compGo_noexc ds S1 n x S' h
      | exc _ _ _ => rw [e1] at h; cases h
      | bad => rw [e1] at h; cases h
end
end DL

namespace DL
open PySem PySem.Spec PyProof.Rows L2

/-! ### comprehensions: what they are worth -/
section
variable {X : Cx} {Wx : WX}
theorem compGo_cons {t : Tgt} {tt : DT} {te : DE} {ρ : En} {d : D} {ds : List D} {S : Sto} {kvs : List (Nat × D)} (e : t.kv d = some kvs) :
    compGo t tt te ρ (d :: ds) S = (tt (setE ρ kvs) S).nx.bind fun k S1 => if k = true then (te (setE ρ kvs) S1).nx.bind fun x S2 => (compGo t tt te ρ ds S2).bind fun xs S3 => .ok (x :: xs) S3 else compGo t tt te ρ ds S1 := by
  conv => lhs; unfold compGo
  rw [e]
theorem set_wipe (v : Nat) : ∀ (us : List Nat) (σ : L2.St), (wipe σ us).set v none = wipe (σ.set v none) us
  | [], σ => rfl
  | u :: us, σ => by
    show ((wipe σ us).set u none).set v none = (wipe (σ.set v none) us).set u none
    rw [← set_wipe v us σ]
    by_cases h : u = v
    · subst h; rfl
    · rw [List.set_comm _ _ h]
theorem wipe_wipe : ∀ (vs : List Nat) (σ : L2.St), wipe (wipe σ vs) vs = wipe σ vs
  | [], _ => rfl
  | v :: vs, σ => by
    show (wipe ((wipe σ vs).set v none) vs).set v none = (wipe σ vs).set v none
    rw [← set_wipe v vs (wipe σ vs), wipe_wipe vs σ, List.set_set]
/-- the rest of the turns, behind what is laid so far -/
def restL (t : Tgt) (tt : DT) (te : DE) (ρ : En) (ds : List D) (S : Sto) (acc : List D) : Out (List D) := (compGo t tt te ρ ds S).bind fun xs S3 => .ok (acc ++ xs) S3
theorem restL_nil {t : Tgt} {tt : DT} {te : DE} {ρ : En} {S : Sto} {acc : List D} : restL t tt te ρ [] S acc = .ok acc S := by
  unfold restL compGo
  simp
theorem sndL_comp {it : DL} {t : Tgt} {tt : DT} {te : DE} {vs : List Nat} {wi : TI} {tg : TG} (hi : Snd X Wx (rI X true) it wi)
    (hg : ∀ W σ H d v Q kvs, Rep (cn X) W H d v → t.kv d = some kvs → (∀ kv', KReps (cn X) W H kvs kv' → Q (setV σ kv') H) → tg v σ H Q) (hv : ∀ i ∈ t.ids, i ∈ vs) :
    SndL X Wx (dComp it t tt te vs) (tLc wi tg (tOf (cn X) Wx0 rB tt) (tOf (cn X) Wx0 (rD X) te) vs) := by
  intro W ρ S σ H Q re p
  refine hi W ρ S σ H _ re ?_
  cases e : it ρ S with
  | exc n y S' => simp only [dComp, e, Out.bind_exc] at p; exact p
  | bad => simp only [dComp, e, Out.bind_bad] at p; exact p.elim
  | ok ds S1 =>
    simp only [dComp, e, Out.bind_ok] at p
    split at p
    rotate_left
    · exact p.elim
    rename_i hz
    intro J th1 H1 x1 rs1 its DD hD
    have hD0 : H DD = none := Xt.back re.rs x1 rs1 hD
    have re1 := re.xt x1 rs1
    -- the block's names
    have reb : RE (cn X) (W.hd th1 DD) (wipeE ρ vs) S1 (wipe σ vs) (upd H1 DD (.lst [])) := by
      have m := mv_hide (W := W.to th1) (o := .lst []) hD
      refine ⟨rs1.hide hD, fun i s q => ?_, (re1.wipe vs).ln⟩
      obtain ⟨v, q1, q2⟩ := (re1.wipe vs).sl i s q
      refine ⟨v, q1, ?_⟩
      cases s with
      | val d => exact Rep.mv m _ _ q2
      | own es =>
        obtain ⟨a, ws, e1, e2, e3, e4, e5, e6⟩ := q2
        exact ⟨a, ws, e1, by rw [upd_ne (ne_of_none e2 hD)]; exact e2, Reps.mv m _ _ e3, .inl e4, e5, e6⟩
      | exn n y =>
        obtain ⟨a, C, d, e1, e2, e3, e4⟩ := q2
        exact ⟨a, C, d, e1, e2, e3, XR.mv m _ _ e4⟩
    have hDt : DD ∉ th1 := rs1.free hD
    -- what is left to be done, what is laid so far
    refine ⟨fun i m H2 => m = ds.length - i ∧ i ≤ ds.length ∧ ∃ th2 S2 acc accD, Xt th1 H1 th2 H2 ∧ RE (cn X) (W.hd th2 DD) (wipeE ρ vs) S2 (wipe σ vs) H2 ∧ H2 DD = some (.lst acc) ∧ DD ∉ th2 ∧ Reps (cn X) (W.hd th2 DD) H2 accD acc ∧ accD.length ≤ i ∧
      PostL (cn X) W H (fun e d H' => Wx e d σ H') Q (restL t tt te (wipeE ρ vs) (ds.drop i) S2 accD), ⟨ds.length, by simp, Nat.zero_le _, th1, S1, [], [], ?_, reb, upd_same, hDt, rfl, Nat.zero_le _, ?_⟩, ?_⟩
    · exact ⟨fun a o q n => ⟨by rw [upd_ne (ne_of_none q hD)]; exact q, n⟩, [], by simp⟩
    · have q : restL t tt te (wipeE ρ vs) (ds.drop 0) S1 [] = compGo t tt te (wipeE ρ vs) ds S1 := by
        unfold restL
        rw [List.drop_zero]
        cases e2 : compGo t tt te (wipeE ρ vs) ds S1 with
        | ok xs S3 => simp
        | exc n y S3 => exact absurd e2 (compGo_noexc _ _ _ _ _)
        | bad => rfl
      rw [q]
      exact p
    · rintro i m H2 ⟨rfl, hi2, th2, S2, acc, accD, x2, re2, hl, hDn, rr, hlen, pr⟩
      have stb : Stb true (W.to th1) H1 (W.hd th2 DD) H2 := ⟨⟨fun a o q n => by
          obtain ⟨k1, k2⟩ := x2.keep a o q fun z => n (.inl z)
          exact ⟨k1, fun z => z.elim k2 fun z => z.elim (fun z => n (.inr z)) (ne_of_none q hD)⟩, fun n a q => x2.get q⟩,
        fun _ a o q n _ => (x2.keep a o q n).1⟩
      obtain ⟨go, stop, yld⟩ := its (W.hd th2 DD) S2 H2 re2.rs stb
      by_cases hlt : i < ds.length
      · refine .inr ⟨go i hlt, _, fun H' h' => ⟨ds.length - (i + 1), by omega, h'⟩, fun x H3 hy => ?_⟩
        have ed : ds[i]? = some ds[i] := List.getElem?_eq_getElem hlt
        obtain ⟨x3, rs3, r3⟩ := yld i _ x H3 ed hy
        have hl3 : H3 DD = some (.lst acc) := (x3.keep DD _ hl hDn).1
        have dropi : ds.drop i = ds[i] :: ds.drop (i + 1) := (List.drop_eq_getElem_cons hlt)
        rw [dropi] at pr
        cases ek : t.kv ds[i] with
        | none =>
          have q : restL t tt te (wipeE ρ vs) (ds[i] :: ds.drop (i + 1)) S2 accD = .bad := by
            unfold restL compGo
            rw [ek]; rfl
          rw [q] at pr
          exact pr.elim
        | some kvs =>
          unfold restL at pr
          rw [compGo_cons ek] at pr
          refine hg (W.hd th2 DD) (wipe σ vs) H3 ds[i] x _ kvs r3 ek fun kv' hk => ⟨(setV_wipe fun q hq => ?_).trans (wipe_wipe vs σ), ?_⟩
          · have e1 : q.1 ∈ kvs.map (·.1) := by rw [← hk.ids]; exact List.mem_map_of_mem hq
            obtain ⟨q', h1, h2⟩ := List.mem_map.mp e1
            rw [← h2]
            exact hv _ (Tgt.kv_ids ek q' h1)
          · have re3 : RE (cn X) (W.hd th2 DD) (setE (wipeE ρ vs) kvs) S2 (setV (wipe σ vs) kv') H3 := RE.setAll (re2.xt (W := W.hd th2 DD) (th' := th2) x3 rs3) hk
            refine ⟨W.hd th2 DD, _, S2, re3, ?_⟩
            cases e3 : tt (setE (wipeE ρ vs) kvs) S2 with
            | exc n y S' => rw [e3] at pr; exact pr.elim
            | bad => rw [e3] at pr; exact pr.elim
            | ok k S4 =>
              rw [e3] at pr
              simp only [Out.nx_ok, Out.bind_ok] at pr
              intro k' th4 H4 x4 rs4 rk
              cases rk
              have hl4 : H4 DD = some (.lst acc) := (x4.keep DD _ hl3 hDn).1
              have hD4 : DD ∉ th4 := (x4.keep DD _ hl3 hDn).2
              have x24 : Xt th1 H1 th4 H4 := (x2.trans x3).trans x4
              have m24 : Mv (W.hd th2 DD) H2 (W.hd th4 DD) H4 := (x3.trans x4).mv (W := W.hd th2 DD)
              cases k with
              | false =>
                simp only [Bool.false_eq_true, if_false] at pr ⊢
                refine ⟨trivial, hlt, th4, S4, acc, accD, x24, ?_, hl4, hD4, Reps.mv m24 _ _ rr, by omega, pr⟩
                exact (re2.xt (W := W.hd th2 DD) (th' := th4) (x3.trans x4) rs4)
              | true =>
                simp only [if_true] at pr ⊢
                have re4 := re3.xt (W := W.hd th2 DD) (th' := th4) x4 rs4
                refine ⟨W.hd th4 DD, _, S4, re4, ?_⟩
                cases e5 : te (setE (wipeE ρ vs) kvs) S4 with
                | exc n y S' => rw [e5] at pr; exact pr.elim
                | bad => rw [e5] at pr; exact pr.elim
                | ok d S5 =>
                  rw [e5] at pr
                  simp only [Out.nx_ok, Out.bind_ok] at pr
                  intro y th5 H5 x5 rs5 r5
                  have hl5 : H5 DD = some (.lst acc) := (x5.keep DD _ hl4 hD4).1
                  have hD5 : DD ∉ th5 := (x5.keep DD _ hl4 hD4).2
                  have m25 : Mv (W.hd th2 DD) H2 (W.hd th5 DD) H5 := ((x3.trans x4).trans x5).mv (W := W.hd th2 DD)
                  have mh : Mv (W.hd th5 DD) H5 (W.hd th5 DD) (upd H5 DD (.lst (acc ++ [y]))) := Mv.hid (.inr (.inr rfl))
                  have la := rr.len
                  have lz : ds.length ≤ sizeLine := lim_le hz
                  refine ⟨acc, hl5, by omega, trivial, hlt, th5, S5, acc ++ [y], accD ++ [d], ⟨fun a o q n => ?_, ?_⟩, ?_, upd_same, hD5, ?_, ?_, ?_⟩
                  · obtain ⟨k1, k2⟩ := (x24.trans x5).keep a o q n
                    exact ⟨by rw [upd_ne (ne_of_none q hD)]; exact k1, k2⟩
                  · exact (x24.trans x5).th
                  · have re5 := re2.xt (W := W.hd th2 DD) (th' := th5) ((x3.trans x4).trans x5) rs5
                    refine ⟨rs5.hid (.inr rfl), fun j s q => ?_, re5.ln⟩
                    obtain ⟨v, q1, q2⟩ := re5.sl j s q
                    refine ⟨v, q1, ?_⟩
                    cases s with
                    | val d' => exact Rep.mv mh _ _ q2
                    | own es =>
                      obtain ⟨a, ws, e1, e2, e3, e4, e6, e7⟩ := q2
                      have hne : a ≠ DD := fun z => by
                        -- the list of a slot was there ahead of the new one
                        obtain ⟨v0, z1, z2⟩ := (re.wipe vs).sl j _ q
                        obtain ⟨a0, ws0, z3, z4, _⟩ := z2
                        rw [z1] at q1
                        cases q1
                        rw [z3] at e1
                        cases e1
                        rw [z, hD0] at z4
                        cases z4
                      exact ⟨a, ws, e1, by rw [upd_ne hne]; exact e2, Reps.mv mh _ _ e3, e4, e6, e7⟩
                    | exn n y' =>
                      obtain ⟨a, C, d', e1, e2, e3, e4⟩ := q2
                      exact ⟨a, C, d', e1, e2, e3, XR.mv mh _ _ e4⟩
                  · exact (Reps.mv mh _ _ (Reps.mv m25 _ _ rr)).app (Reps.one (Rep.mv mh _ _ r5))
                  · rw [List.length_append]; simp; omega
                  · have q : ((compGo t tt te (wipeE ρ vs) (ds.drop (i + 1)) S5).bind fun xs S3 => Out.ok (d :: xs) S3).bind (fun xs S3 => Out.ok (accD ++ xs) S3) = restL t tt te (wipeE ρ vs) (ds.drop (i + 1)) S5 (accD ++ [d]) := by
                      unfold restL
                      cases compGo t tt te (wipeE ρ vs) (ds.drop (i + 1)) S5 with
                      | ok xs S3 => simp
                      | exc n y S3 => rfl
                      | bad => rfl
                    rw [← q]
                    exact pr
      · refine .inl ⟨stop i (by omega), ?_⟩
        have ei : i = ds.length := by omega
        subst ei
        rw [List.drop_length, restL_nil] at pr
        exact pr DD acc th2 H2 (x1.trans x2) hD0 hl hDn re2.rs rr (Nat.le_trans hlen (lim_le hz))
/-- the parts of a comprehension, over any block -/
structure CompP (X : Cx) (scope : Scope) (tg : Expr) (ifs : List Expr) (elt : Expr) (t : Tgt) (tt : DT) (te : DE) : Prop where
  g : ∀ (s : Shared) (H : Hp) (C : Addr) (cl : List (Str × Addr)) (fp : List Addr), PDG (X.blk s H scope (compEnvC scope cl C X.env) fp) tg t
  tt : ∀ (s : Shared) (H : Hp) (C : Addr) (cl : List (Str × Addr)) (fp : List Addr), PDTs (X.blk s H scope (compEnvC scope cl C X.env) fp) Wx0 ifs tt
  te : ∀ (s : Shared) (H : Hp) (C : Addr) (cl : List (Str × Addr)) (fp : List Addr), PDE (X.blk s H scope (compEnvC scope cl C X.env) fp) Wx0 elt te
/-- the canonical reading of a target -/
def tgOf (c : Cn) (t : Tgt) : TG := fun v σ H Q => ∃ W d kvs, Rep c W H d v ∧ t.kv d = some kvs ∧ ∀ kv', KReps c W H kvs kv' → Q (setV σ kv') H
theorem PDG.pg {X : Cx} {tg : Expr} {t : Tgt} (h : PDG X tg t) : PG X tg (tgOf (cn X) t) := by
  obtain ⟨g, h1, h2⟩ := h
  refine ⟨fun pins s σ H v u Q I r hw => ?_⟩
  obtain ⟨W, d, kvs, q1, q2, q3⟩ := hw
  exact h1.run pins s σ H v u Q I r (h2 W σ H d v Q kvs q1 q2 q3)
theorem pdl_comp {elt tg iter : Expr} {ifs : List Expr} {scope : Scope} {own : List (Str × Nat)} {pos : Pos} {it : DL} {t : Tgt} {tt : DT} {te : DE} (hc : X.calm = true) (hN : X.N.Nodup) (hi : PDI X Wx true tg iter it) (P : CompP X scope tg ifs elt t tt te)
    (ok : blkC X.N X.env.scope scope own = true := by kernel_rfl) (hv : ∀ i ∈ t.ids, i ∈ own.map (·.2) := by decide) (hs : ∀ x, foldedSetIterable iter X.env x = pure x := by intro _; rfl) :
    PDL X Wx (.ListComp elt [⟨tg, iter, ifs, 0⟩] scope pos) (dComp it t tt te (own.map (·.2))) := by
  obtain ⟨wi, i1, i2⟩ := hi
  refine ⟨_, pe_lc (g := tgOf (cn X) t) (tt := tOf (cn X) Wx0 rB tt) (te := tOf (cn X) Wx0 (rD X) te) hc hN i1 (blkOk_by ok) (fun s H C cl fp => (P.g s H C cl fp).pg) (fun s H C cl fp => (P.tt s H C cl fp).pts) (fun s H C cl fp => (P.te s H C cl fp).pe) hs, ?_⟩
  exact sndL_comp (tg := tgOf (cn X) t) (Wx := Wx) i2 (fun W σ H d v Q kvs r e k => ⟨W, d, kvs, r, e, k⟩) hv
/-- name = [..] on one line -/
theorem setLc_any {i : Nat} {y : Str} {py : Pos} {elt tg iter : Expr} {ifs : List Expr} {scope : Scope} {own : List (Str × Nat)} {pos spos : Pos} {it : DL} {t : Tgt} {tt : DT} {te : DE} (hc : X.calm = true) (hN : X.N.Nodup) (hi : PDI X Wx true tg iter it) (P : CompP X scope tg ifs elt t tt te)
    (hy : X.N[i]? = some y) (hyl : X.env.scope.names.lookup y = some .local) (hk : X.env.scope.kind = .function) (hl : (py.line == pos.line) = true) (ha : (scope.names.any fun (n, k) => n == y && (k == .local || k == .cell)) = false)
    (ok : blkC X.N X.env.scope scope own = true) (hv : ∀ i ∈ t.ids, i ∈ own.map (·.2)) (hs : ∀ x, foldedSetIterable iter X.env x = pure x) :
    ∃ te', PS X (.Assign [.Name y py] (.ListComp elt [⟨tg, iter, ifs, 0⟩] scope pos) spos) (tAsg te' (gName i)) ∧ SndL X Wx (dComp it t tt te (own.map (·.2))) te' := by
  obtain ⟨wi, i1, i2⟩ := hi
  exact ⟨_, ps_setLc (g := tgOf (cn X) t) (tt := tOf (cn X) Wx0 rB tt) (te := tOf (cn X) Wx0 (rD X) te) hc hN hy hyl (sw_true hk hyl hl ha) i1 (blkOk_by ok) (fun s H C cl fp => (P.g s H C cl fp).pg) (fun s H C cl fp => (P.tt s H C cl fp).pts) (fun s H C cl fp => (P.te s H C cl fp).pe) hs,
    sndL_comp (tg := tgOf (cn X) t) (Wx := Wx) i2 (fun W σ H d v Q kvs r e k => ⟨W, d, kvs, r, e, k⟩) hv⟩
section
variable {i : Nat} {y : Str} {py : Pos} {elt tg iter : Expr} {ifs : List Expr} {scope : Scope} {pos spos : Pos} {it : DL} {t : Tgt} {tt : DT} {te : DE}
theorem pds_setLcV {own : List (Str × Nat)} (hc : X.calm = true) (hN : X.N.Nodup) (hi : PDI X Wx true tg iter it) (P : CompP X scope tg ifs elt t tt te) (hy : X.N[i]? = some y := by rfl) (hyl : X.env.scope.names.lookup y = some .local := by rfl) (hk : X.env.scope.kind = .function := by rfl) (hl : (py.line == pos.line) = true := by rfl)
    (ha : (scope.names.any fun (n, k) => n == y && (k == .local || k == .cell)) = false := by kernel_rfl) (ok : blkC X.N X.env.scope scope own = true := by kernel_rfl) (hv : ∀ i ∈ t.ids, i ∈ own.map (·.2) := by decide) (hs : ∀ x, foldedSetIterable iter X.env x = pure x := by intro _; rfl) :
    PDS X Wx (.Assign [.Name y py] (.ListComp elt [⟨tg, iter, ifs, 0⟩] scope pos) spos) (dSet i (dFzL (dComp it t tt te (own.map (·.2))))) := by
  obtain ⟨te', h1, h2⟩ := setLc_any hc hN hi P hy hyl hk hl ha ok hv hs
  exact ⟨_, h1, sndS_set (snd_fzL h2)⟩
theorem pds_setLcO {own : List (Str × Nat)} (hc : X.calm = true) (hN : X.N.Nodup) (hi : PDI X Wx true tg iter it) (P : CompP X scope tg ifs elt t tt te) (hy : X.N[i]? = some y := by rfl) (hyl : X.env.scope.names.lookup y = some .local := by rfl) (hk : X.env.scope.kind = .function := by rfl) (hl : (py.line == pos.line) = true := by rfl)
    (ha : (scope.names.any fun (n, k) => n == y && (k == .local || k == .cell)) = false := by kernel_rfl) (ok : blkC X.N X.env.scope scope own = true := by kernel_rfl) (hv : ∀ i ∈ t.ids, i ∈ own.map (·.2) := by decide) (hs : ∀ x, foldedSetIterable iter X.env x = pure x := by intro _; rfl) :
    PDS X Wx (.Assign [.Name y py] (.ListComp elt [⟨tg, iter, ifs, 0⟩] scope pos) spos) (dSetO i (dComp it t tt te (own.map (·.2)))) := by
  obtain ⟨te', h1, h2⟩ := setLc_any hc hN hi P hy hyl hk hl ha ok hv hs
  exact ⟨_, h1, sndS_setO h2⟩
theorem pds_setLcL {own : List (Str × Nat)} (hc : X.calm = true) (hN : X.N.Nodup) (hi : PDI X Wx true tg iter it) (P : CompP X scope tg ifs elt t tt te) (hy : X.N[i]? = some y := by rfl) (hyl : X.env.scope.names.lookup y = some .local := by rfl) (hk : X.env.scope.kind = .function := by rfl) (hl : (py.line == pos.line) = true := by rfl)
    (ha : (scope.names.any fun (n, k) => n == y && (k == .local || k == .cell)) = false := by kernel_rfl) (ok : blkC X.N X.env.scope scope own = true := by kernel_rfl) (hv : ∀ i ∈ t.ids, i ∈ own.map (·.2) := by decide) (hs : ∀ x, foldedSetIterable iter X.env x = pure x := by intro _; rfl) :
    PDS X Wx (.Assign [.Name y py] (.ListComp elt [⟨tg, iter, ifs, 0⟩] scope pos) spos) (dSet i (dLiv (dComp it t tt te (own.map (·.2))))) := by
  obtain ⟨te', h1, h2⟩ := setLc_any hc hN hi P hy hyl hk hl ha ok hv hs
  exact ⟨_, h1, sndS_set (snd_liv h2)⟩
end
@[simp] def dYes : DT := fun _ S => .ok true S
theorem pdts_nil : PDTs X Wx [] dYes := ⟨_, pts_nil, fun W ρ S σ H Q re p => p true W.th H Xt.refl re.rs rfl⟩
theorem pdts_one {c : Expr} {f : DT} (h : PDT X Wx c f) : PDTs X Wx [c] f := let ⟨t, a, b⟩ := h; ⟨t, pts_one a, b⟩

/-! ### for -/
def forGo (t : Tgt) (body : DS) : List D → En → Sto → Rs
  | [], ρ, S => .nx ρ S
  | d :: ds, ρ, S => match t.kv d with
    | none => .bad
    | some kvs => match body (setE ρ kvs) S with
      | .nx ρ' S' => forGo t body ds ρ' S'
      | .ct ρ' S' => forGo t body ds ρ' S'
      | .bk ρ' S' => .nx ρ' S'
      | r => r
def dFor (it : DL) (t : Tgt) (body : DS) : DS := fun ρ S => (it ρ S).st ρ fun ds S1 => forGo t body ds ρ S1
theorem RF.setAll {c : Cn} {B : Bs} {th : List Addr} {S : Sto} {H : Hp} : ∀ {kvs : List (Nat × D)} {kv' : List (Nat × V)} {ρ : En} {σ : L2.St}, RF c B th ρ S σ H → KReps c (B.w th ρ σ) H kvs kv' → RF c B th (setE ρ kvs) S (setV σ kv') H ∧ Xs th ρ σ H th (setE ρ kvs) (setV σ kv') H
  | [], _, _, _, r, h => by rw [show _ = [] from h]; exact ⟨r, Xs.refl⟩
  | (i, d) :: kvs, _, ρ, σ, r, ⟨v, q, e, h1, h2⟩ => by
    subst e
    have hn : ∀ ds, Sl.val d ≠ .own ds := fun _ z => by cases z
    have m : Mv (B.w th ρ σ) H (B.w th (ρ.set i (some (.val d))) (σ.set i (some v))) H := Mv.less (fun a (z : B.P0 a ∨ _) => z.elim .inl fun q => .inr (ownd_set r.len hn q)) rfl
    obtain ⟨r2, x2⟩ := r.set i (d := .val d) (v := v) hn (Rep.mv m _ _ h1)
    obtain ⟨r3, x3⟩ := RF.setAll (kvs := kvs) (kv' := q) (ρ := ρ.set i (some (.val d))) (σ := σ.set i (some v)) r2 (KReps.mv m h2)
    exact ⟨r3, x2.trans x3⟩
theorem sndS_for {it : DL} {t : Tgt} {body : DS} {wi : TI} {tg : TG} {tb : TS} (hi : Snd X Wx (rI X false) it wi)
    (hg : ∀ W σ H d v Q kvs, Rep (cn X) W H d v → t.kv d = some kvs → (∀ kv', KReps (cn X) W H kvs kv' → Q (setV σ kv') H) → tg v σ H Q) (hb : SndS X Wx body tb) : SndS X Wx (dFor it t body) (tFor wi tg tb) := by
  intro B th ρ S σ H D rf p
  refine hi.runS (k := fun ds S1 => forGo t body ds ρ S1) rf p fun ds J th1 S1 H1 rf1 its x1 p1 => ?_
  refine ⟨fun i m σ2 H2 => m = ds.length - i ∧ i ≤ ds.length ∧ ∃ th2 ρ2 S2, Xs th1 ρ σ H1 th2 ρ2 σ2 H2 ∧ RF (cn X) B th2 ρ2 S2 σ2 H2 ∧ PostS (cn X) B th2 ρ2 σ2 H2 Wx D (forGo t body (ds.drop i) ρ2 S2), ⟨ds.length, by simp, Nat.zero_le _, th1, ρ, S1, Xs.refl, rf1, by rw [List.drop_zero]; exact p1⟩, ?_⟩
  rintro i m σ2 H2 ⟨rfl, hi2, th2, ρ2, S2, x2, rf2, pr⟩
  have stb : Stb false (B.w th1 ρ σ) H1 (B.w th2 ρ2 σ2) H2 := ⟨⟨fun a o q n => by
      obtain ⟨k1, k2, k3⟩ := x2.keep a o q (fun z => n (.inl z)) fun z => n (.inr (.inr z))
      exact ⟨k1, fun z => z.elim k2 fun z => z.elim (fun z => n (.inr (.inl z))) k3⟩, fun n a q => by
      obtain ⟨l, e⟩ := x2.th
      show th2[n]? = some a
      rw [e, List.getElem?_append_left (List.getElem?_eq_some_iff.mp q).1]
      exact q⟩, fun z => by cases z⟩
  obtain ⟨go, stop, yld⟩ := its (B.w th2 ρ2 σ2) S2 H2 rf2.rs stb
  by_cases hlt : i < ds.length
  · refine .inr ⟨go i hlt, _, fun σ' H' h' => ⟨ds.length - (i + 1), by omega, h'⟩, fun x H3 hy => ?_⟩
    have ed : ds[i]? = some ds[i] := List.getElem?_eq_getElem hlt
    obtain ⟨x3, rs3, r3⟩ := yld i _ x H3 ed hy
    have dropi : ds.drop i = ds[i] :: ds.drop (i + 1) := (List.drop_eq_getElem_cons hlt)
    rw [dropi] at pr
    have rf3 : RF (cn X) B th2 ρ2 S2 σ2 H3 := rf2.xt x3 rs3
    have pr3 := PostS.mono pr (x3.xs ρ2 σ2)
    have x23 := x2.trans (x3.xs ρ2 σ2)
    cases ek : t.kv ds[i] with
    | none => unfold forGo at pr3; rw [ek] at pr3; exact pr3.elim
    | some kvs =>
      unfold forGo at pr3
      rw [ek] at pr3
      simp only at pr3
      refine hg (B.w th2 ρ2 σ2) σ2 H3 ds[i] x _ kvs r3 ek fun kv' hk => ?_
      obtain ⟨rf4, x4⟩ := rf3.setAll hk
      have pr4 := PostS.mono pr3 x4
      refine hb B th2 _ S2 _ H3 _ rf4 ?_
      cases eb : body (setE ρ2 kvs) S2 with
      | nx ρ5 S5 =>
        rw [eb] at pr4
        intro σ5 H5 th5 x5 rf5
        exact ⟨rfl, hlt, th5, ρ5, S5, (x23.trans x4).trans x5, rf5, PostS.mono pr4 x5⟩
      | ct ρ5 S5 =>
        rw [eb] at pr4
        intro σ5 H5 th5 x5 rf5
        exact ⟨rfl, hlt, th5, ρ5, S5, (x23.trans x4).trans x5, rf5, PostS.mono pr4 x5⟩
      | bk ρ5 S5 => rw [eb] at pr4; exact pr4
      | rt d S5 => rw [eb] at pr4; exact pr4
      | ex n y ρ5 S5 => rw [eb] at pr4; exact pr4
      | bad => rw [eb] at pr4; exact pr4.elim
  · refine .inl ⟨stop i (by omega), ?_⟩
    have ei : i = ds.length := by omega
    subst ei
    rw [List.drop_length] at pr
    exact pr σ2 H2 th2 Xs.refl rf2
theorem pds_for {tg iter : Expr} {body : List Stmt} {it : DL} {t : Tgt} {bd : DS} {pos : Pos} (hp : PassesOwn (model X.prog X.w) X.A X.env X.xe) (hc : X.calm = true) (hi : PDI X Wx false tg iter it) (hg : PDG X tg t) (hb : PDSs X Wx body bd)
    (hs : ∀ x, foldedSetIterable iter X.env x = pure x := by intro _; rfl) : PDS X Wx (.For tg iter body [] pos) (dFor it t bd) := by
  obtain ⟨wi, i1, i2⟩ := hi
  obtain ⟨g, g1, g2⟩ := hg
  obtain ⟨tb, b1, b2⟩ := hb
  exact ⟨_, ps_for hp hc i1 g1 b1 hs, sndS_for i2 g2 b2⟩

/-! ### while -/
def whGo (c : DT) (body : DS) : Nat → DS
  | 0, _, _ => .bad
  | n + 1, ρ, S => (c ρ S).st ρ fun b S1 => if b = true then (match body ρ S1 with
      | .nx ρ' S' => whGo c body n ρ' S'
      | .ct ρ' S' => whGo c body n ρ' S'
      | .bk ρ' S' => .nx ρ' S'
      | r => r) else .nx ρ S1
theorem pds_while (n : Nat) {e : Expr} {body : List Stmt} {c : DT} {bd : DS} {pos : Pos} (hp : PassesOwn (model X.prog X.w) X.A X.env X.xe) (hc : PDT X Wx e c) (hb : PDSs X Wx body bd) : PDS X Wx (.While e body [] pos) (whGo c bd n) := by
  obtain ⟨tc, c1, c2⟩ := hc
  obtain ⟨tb, b1, b2⟩ := hb
  refine ⟨_, ps_while hp c1 b1, fun B th ρ S σ H D rf p => ?_⟩
  refine ⟨fun m σ2 H2 => ∃ th2 ρ2 S2, RF (cn X) B th2 ρ2 S2 σ2 H2 ∧ PostS (cn X) B th2 ρ2 σ2 H2 Wx D (whGo c bd m ρ2 S2), ⟨n, th, ρ, S, rf, p⟩, ?_⟩
  rintro m σ2 H2 ⟨th2, ρ2, S2, rf2, p2⟩
  cases m with
  | zero => exact p2.elim
  | succ m =>
    unfold whGo at p2
    refine c2.runS rf2 p2 fun b b' th3 S3 H3 rf3 r x3 p3 => ?_
    cases r
    cases b with
    | false => simp only [Bool.false_eq_true, if_false] at p3 ⊢; exact p3 σ2 H3 th3 Xs.refl rf3
    | true =>
      simp only [if_true] at p3 ⊢
      refine ⟨_, fun σ' H' h' => ⟨m, Nat.lt_succ_self m, h'⟩, b2 B th3 ρ2 S3 σ2 H3 _ rf3 ?_⟩
      cases eb : bd ρ2 S3 with
      | nx ρ5 S5 =>
        rw [eb] at p3
        exact fun σ5 H5 th5 x5 rf5 => ⟨th5, ρ5, S5, rf5, PostS.mono p3 x5⟩
      | ct ρ5 S5 =>
        rw [eb] at p3
        exact fun σ5 H5 th5 x5 rf5 => ⟨th5, ρ5, S5, rf5, PostS.mono p3 x5⟩
      | bk ρ5 S5 => rw [eb] at p3; exact p3
      | rt d S5 => rw [eb] at p3; exact p3
      | ex k y ρ5 S5 => rw [eb] at p3; exact p3
      | bad => rw [eb] at p3; exact p3.elim
def dBrk : DS := fun ρ S => .bk ρ S
def dCnt : DS := fun ρ S => .ct ρ S
theorem pds_break {pos : Pos} : PDS X Wx (.Break pos) dBrk := ⟨_, ps_break, fun B th ρ S σ H D rf p => p σ H th Xs.refl rf⟩
theorem pds_continue {pos : Pos} : PDS X Wx (.Continue pos) dCnt := ⟨_, ps_continue, fun B th ρ S σ H D rf p => p σ H th Xs.refl rf⟩
end
end DL

namespace DL
open PySem PySem.Spec PyProof.Rows L2

/-! ### calls of built-in functions whose arguments are seen -/
section
variable {X : Cx} {Wx : WX}
def rPsF (X : Cx) (W : Wd) (H : Hp) : List D → List V → Prop
  | [], vs => vs = []
  | d :: ds, vs => ∃ v r, vs = v :: r ∧ rP X W H d v ∧ rPsF X W H ds r
def rPs (X : Cx) : RelT (List D) (List V) := rPsF X
def PDAP (X : Cx) (Wx : WX) (es : List Expr) (f : DA) : Prop := ∃ t, PA X es t ∧ Snd X Wx (rPs X) f t
theorem rPs.xt {W : Wd} {H H' : Hp} {th' : List Addr} (x : Xt W.th H th' H') : ∀ {ds : List D} {vs : List V}, rPs X W H ds vs → rPs X (W.to th') H' ds vs
  | [], _, h => h
  | d :: ds, _, ⟨v, r, e, h1, h2⟩ => ⟨v, r, e, rP.xt h1 x, rPs.xt x h2⟩
theorem pdap_nil : PDAP X Wx [] dNil := ⟨_, pa_nil, fun W ρ S σ H Q re p => p [] W.th H Xt.refl re.rs rfl⟩
theorem pdap_cons {e : Expr} {es : List Expr} {f : DE} {g : DA} (h1 : PDP X Wx e f) (h2 : PDAP X Wx es g) (hs : starEach (e :: es) X.env = (false, eval e X.env) :: starEach es X.env := by rfl) : PDAP X Wx (e :: es) (dCons f g) := by
  obtain ⟨te, a1, a2⟩ := h1
  obtain ⟨t, b1, b2⟩ := h2
  refine ⟨_, pa_cons a1 b1 hs, fun W ρ S σ H Q re p => ?_⟩
  refine a2.run re p fun x v th1 S1 H1 re1 r1 _ p1 => ?_
  refine b2.run re1 p1 fun xs vs th2 S2 H2 re2 r2 x2 p2 => ?_
  exact p2 (v :: vs) th2 H2 Xt.refl re2.rs ⟨v, vs, rfl, rP.xt (W := W.to th1) r1 x2, r2⟩
def RCallP (X : Cx) (r : List V → Hp → VK → Prop) (op : List D → Sto → Out D) : Prop :=
  ∀ W S ds vs H Q Wy, RS (cn X) W S H → rPs X W H ds vs → Post (cn X) W H Wy (rD X) Q (op ds S) → r vs H Q
theorem snd_CBP {r : List V → Hp → VK → Prop} {op : List D → Sto → Out D} {g : DA} {t : TA} (hr : RCallP X r op) (h : Snd X Wx (rPs X) g t) : Snd X Wx (rD X) (dCB op g) (tCB r t) := by
  intro W ρ S σ H Q re p
  exact h.run re p fun ds vs th1 S1 H1 re1 r1 _ p1 => hr _ S1 ds vs H1 Q _ re1.rs r1 p1
theorem pd_bltn {x : Str} {p pos : Pos} {e : Expr} {es : List Expr} {g : DA} {fv : Value} {r : List V → Hp → VK → Prop} {op : List D → Sto → Out D} (hc : CallR X fv r) (hr : RCallP X r op) (hm : X.mg x = none) (ha : PDAP X Wx (e :: es) g)
    (hk : (∃ id, fv = .builtin id) ∨ ∃ T, fv = .type T) (hv : bootBuiltins x = some fv := by decide +kernel) (hg : Gl X x := by rfl) (hn : x ≠ "__name__" := by decide) (hdb : (x == ("__debug__" : Str)) = false := by decide)
    (he : starEach (e :: es) X.env = (false, eval e X.env) :: starEach es X.env := by rfl) (hpl : (backTo pos (starEach es X.env)).any (·.1) = false := by rfl) : PDE X Wx (.Call (.Name x p) (e :: es) [] pos) (dCB op g) := by
  obtain ⟨t, a1, a2⟩ := ha
  rcases hk with ⟨id, rfl⟩ | ⟨T, rfl⟩
  · exact ⟨_, pe_callB hc hg hm hv a1 hn hdb he hpl, snd_CBP hr a2⟩
  · exact ⟨_, pe_callTy hc hg hm hv a1 hn hdb he hpl, snd_CBP hr a2⟩
theorem rps1 {W : Wd} {H : Hp} {x : D} {vs : List V} (r : rPs X W H [x] vs) : ∃ v, vs = [v] ∧ rP X W H x v := by
  obtain ⟨v, q, rfl, h, e⟩ := r
  rw [show q = [] from e]; exact ⟨v, rfl, h⟩
theorem rps2 {W : Wd} {H : Hp} {x y : D} {vs : List V} (r : rPs X W H [x, y] vs) : ∃ v w, vs = [v, w] ∧ rP X W H x v ∧ rP X W H y w := by
  obtain ⟨v, q, rfl, h, r2⟩ := r
  obtain ⟨w, rfl, h2⟩ := rps1 r2
  exact ⟨v, w, rfl, h, h2⟩
/-! len -/
@[simp] def oLen : List D → Sto → Out D
  | [x], S => match seqS S x with
    | some ds => .ok (.int ds.length) S
    | none => (match x with
      | .str z => if z.length ≤ LIM then .ok (.int z.length) S else .bad
      | _ => .bad)
  | _, _ => .bad
theorem rc_len : RCallP X (fun xs H Q => ∃ x n, xs = [x] ∧ LenV X.K x H n ∧ Q (.int n) H) oLen := by
  intro W S ds vs H Q Wy rs r p
  match ds, r, p with
  | [x], r, p =>
    obtain ⟨v, rfl, r1⟩ := rps1 r
    cases e : seqS S x with
    | some es =>
      simp only [oLen, e] at p
      obtain ⟨a, ws, rfl, q, rr, z⟩ := r1.seq rs e
      refine ⟨_, es.length, rfl, ?_, post_same rs p rfl⟩
      rcases q with q | q
      · exact .inl ⟨ws, q, rr.len.symm⟩
      · exact .inr ⟨ws, q, rr.len.symm⟩
    | none =>
      cases x with
      | str z =>
        simp only [oLen, e] at p
        split at p
        · rename_i hz
          cases r1.str
          exact ⟨_, z.length, rfl, ⟨lim_le hz, rfl⟩, post_same rs p rfl⟩
        · exact p.elim
      | _ => simp only [oLen, e] at p; exact p.elim
  | [], _, p => exact p.elim
  | _ :: _ :: _, _, p => exact p.elim
/-! tuple, list -/
@[simp] def oTup : List D → Sto → Out D
  | [x], S => match seqS S x with
    | some ds => .ok (.tup ds) S
    | none => .bad
  | _, _ => .bad
theorem rP.seqT {W : Wd} {S : Sto} {H : Hp} {d : D} {v : V} {ds : List D} (rs : RS (cn X) W S H) (r : rP X W H d v) (h : seqS S d = some ds) :
    ∃ a vs, v = .ref a ∧ (SqL X.K H a vs ∨ (SqT X.K H a vs ∧ d = .tup ds)) ∧ Reps (cn X) W H ds vs ∧ ds.length ≤ sizeLine := by
  cases d with
  | tup es =>
    cases (show some es = some ds from h)
    obtain ⟨a, vs, e, f, q, z⟩ := r.tup
    exact ⟨a, vs, e, .inr ⟨f.sq, rfl⟩, q, z⟩
  | lst es =>
    obtain ⟨a, vs, e, f, q, z⟩ := r.lst rs h
    exact ⟨a, vs, e, .inl f, q, z⟩
  | ref n =>
    obtain ⟨a, vs, e, f, q, z⟩ := r.lst rs h
    exact ⟨a, vs, e, .inl f, q, z⟩
  | _ => cases h
theorem rc_tup : RCallP X (fun xs H Q => ∃ p ys, xs = [.ref p] ∧ ((SqL X.K H p ys ∧ ∀ l, H l = none → Q (.ref l) (upd H l (.tup ys))) ∨ (SqT X.K H p ys ∧ Q (.ref p) H))) oTup := by
  intro W S ds vs H Q Wy rs r p
  match ds, r, p with
  | [x], r, p =>
    obtain ⟨v, rfl, r1⟩ := rps1 r
    cases e : seqS S x with
    | some es =>
      simp only [oTup, e] at p
      obtain ⟨a, ws, e1, q, rr, z⟩ := r1.seqT rs e
      subst e1
      rcases q with q | ⟨q, ex⟩
      · exact ⟨a, ws, rfl, .inl ⟨q, post_tup rs p rr z⟩⟩
      · subst ex
        rcases r1 with r1 | ⟨_, _, _, h1, _⟩
        · exact ⟨a, ws, rfl, .inr ⟨q, post_same rs p r1⟩⟩
        · cases h1
    | none => simp only [oTup, e] at p; exact p.elim
  | [], _, p => exact p.elim
  | _ :: _ :: _, _, p => exact p.elim
def oLst : List D → Sto → Out D
  | [x], S => match seqS S x with
    | some ds => .ok (.lst ds) S
    | none => .bad
  | _, _ => .bad
abbrev rListOf (K : PySem.W.Frag) : List V → Hp → VK → Prop := fun xs H Q => ∃ p ys, xs = [V.ref p] ∧ (SqL K H p ys ∨ SqT K H p ys) ∧ ∀ l, H l = none → Q (.ref l) (upd H l (.lst ys))
theorem rc_lst : RCallP X (rListOf X.K) oLst := by
  intro W S ds vs H Q Wy rs r p
  match ds, r, p with
  | [x], r, p =>
    obtain ⟨v, rfl, r1⟩ := rps1 r
    cases e : seqS S x with
    | some es =>
      simp only [oLst, e] at p
      obtain ⟨a, ws, e1, q, rr, z⟩ := r1.seq rs e
      subst e1
      exact ⟨a, ws, rfl, q, post_lst rs p rr z⟩
    | none => simp only [oLst, e] at p; exact p.elim
  | [], _, p => exact p.elim
  | _ :: _ :: _, _, p => exact p.elim
/-- list(e): a fresh list -/
def dLstOf (g : DA) : DL := fun ρ S => (g ρ S).bind fun xs S1 => optO (match xs with
  | [x] => seqS S1 x
  | _ => none) S1
/-! int, abs, max, min, divmod -/
@[simp] def oInt : List D → Sto → Out D
  | [.int i], S => .ok (.int i) S
  | [.bl k], S => .ok (.int (if k then 1 else 0)) S
  | _, _ => .bad
theorem rc_int : RCallP X (fun xs H Q => (∃ i, xs = [.int i] ∧ Q (.int i) H) ∨ ∃ k, xs = [.bl k] ∧ Q (.int (if k then 1 else 0)) H) oInt := by
  intro W S ds vs H Q Wy rs r p
  unfold oInt at p
  split at p
  · obtain ⟨v, rfl, r1⟩ := rps1 r
    cases r1.int
    exact .inl ⟨_, rfl, post_same rs p rfl⟩
  · obtain ⟨v, rfl, r1⟩ := rps1 r
    cases r1.bl
    exact .inr ⟨_, rfl, post_same rs p rfl⟩
  · exact p.elim
@[simp] def oAbs : List D → Sto → Out D
  | [.int i], S => .ok (.int (if i < 0 then -i else i)) S
  | _, _ => .bad
theorem rc_abs : RCallP X (fun xs H Q => ∃ i, xs = [.int i] ∧ Q (.int (if i < 0 then -i else i)) H) oAbs := by
  intro W S ds vs H Q Wy rs r p
  unfold oAbs at p
  split at p
  · obtain ⟨v, rfl, r1⟩ := rps1 r
    cases r1.int
    exact ⟨_, rfl, post_same rs p rfl⟩
  · exact p.elim
@[simp] def oMax2 : List D → Sto → Out D
  | [.int i, .int j], S => .ok (.int (if j > i then j else i)) S
  | _, _ => .bad
theorem rc_max2 : RCallP X (fun xs H Q => ∃ i j, xs = [.int i, .int j] ∧ Q (.int (if j > i then j else i)) H) oMax2 := by
  intro W S ds vs H Q Wy rs r p
  unfold oMax2 at p
  split at p
  · obtain ⟨v, w, rfl, r1, r2⟩ := rps2 r
    cases r1.int; cases r2.int
    exact ⟨_, _, rfl, post_same rs p rfl⟩
  · exact p.elim
@[simp] def oMin2 : List D → Sto → Out D
  | [.int i, .int j], S => .ok (.int (if j < i then j else i)) S
  | _, _ => .bad
theorem rc_min2 : RCallP X (fun xs H Q => ∃ i j, xs = [.int i, .int j] ∧ Q (.int (if j < i then j else i)) H) oMin2 := by
  intro W S ds vs H Q Wy rs r p
  unfold oMin2 at p
  split at p
  · obtain ⟨v, w, rfl, r1, r2⟩ := rps2 r
    cases r1.int; cases r2.int
    exact ⟨_, _, rfl, post_same rs p rfl⟩
  · exact p.elim
def oDivmod : List D → Sto → Out D
  | [.int i, .int j], S => if 0 < j ∧ j.natAbs.log2 < 9000 then .ok (.tup [.int (i / j), .int (i % j)]) S else .bad
  | _, _ => .bad
theorem rc_divmod : RCallP X (fun xs H Q => ∃ i j, xs = [.int i, .int j] ∧ CDivP i j ∧ ∀ p, H p = none → Q (.ref p) (upd H p (.tup [.int (i / j), .int (i % j)]))) oDivmod := by
  intro W S ds vs H Q Wy rs r p
  unfold oDivmod at p
  split at p
  · rename_i i j
    split at p
    · rename_i hj
      obtain ⟨v, w, rfl, r1, r2⟩ := rps2 r
      cases r1.int; cases r2.int
      exact ⟨i, j, rfl, ⟨hj.1, PyProof.noPylong_of_log2 hj.2⟩, post_tup rs p ⟨_, _, rfl, rfl, _, _, rfl, rfl, rfl⟩ two_le⟩
    · exact p.elim
  · exact p.elim
def oGcdP : List D → Sto → Out D := oGcd
theorem rcp_gcd : RCallP X rGcd oGcd := by
  intro W S ds vs H Q Wy rs r p
  unfold oGcd at p
  split at p
  · obtain ⟨v, w, rfl, r1, r2⟩ := rps2 r
    cases r1.int; cases r2.int
    exact ⟨_, _, rfl, post_same rs p rfl⟩
  · exact p.elim
/-! all, any, sum of a list -/
def blsOf : List D → Option (List Bool)
  | [] => some []
  | .bl b :: r => (blsOf r).map (b :: ·)
  | _ :: _ => none
def intsOf : List D → Option (List Int)
  | [] => some []
  | .int i :: r => (intsOf r).map (i :: ·)
  | _ :: _ => none
theorem bls_reps {c : Cn} {W : Wd} {H : Hp} : ∀ {ds : List D} {vs : List V} {bs : List Bool}, Reps c W H ds vs → blsOf ds = some bs → vs = bs.map V.bl
  | [], vs, bs, r, e => by rw [show vs = [] from r]; cases e; rfl
  | d :: ds, vs, bs, ⟨v, q, e1, h1, h2⟩, e => by
    cases d with
    | bl b =>
      have e2 : (blsOf ds).map (b :: ·) = some bs := e
      cases e3 : blsOf ds with
      | none => rw [e3] at e2; cases e2
      | some cs =>
        rw [e3] at e2; cases e2
        rw [e1, show v = V.bl b from h1, bls_reps h2 e3]; rfl
    | _ => cases e
theorem ints_reps {c : Cn} {W : Wd} {H : Hp} : ∀ {ds : List D} {vs : List V} {bs : List Int}, Reps c W H ds vs → intsOf ds = some bs → vs = bs.map V.int
  | [], vs, bs, r, e => by rw [show vs = [] from r]; cases e; rfl
  | d :: ds, vs, bs, ⟨v, q, e1, h1, h2⟩, e => by
    cases d with
    | int b =>
      have e2 : (intsOf ds).map (b :: ·) = some bs := e
      cases e3 : intsOf ds with
      | none => rw [e3] at e2; cases e2
      | some cs =>
        rw [e3] at e2; cases e2
        rw [e1, show v = V.int b from h1, ints_reps h2 e3]; rfl
    | _ => cases e
def oBls (g : List Bool → Bool) : List D → Sto → Out D
  | [x], S => (match lstS S x with
    | some ds => (match blsOf ds with
      | some bs => .ok (.bl (g bs)) S
      | none => .bad)
    | none => .bad)
  | _, _ => .bad
theorem rc_bls {g : List Bool → Bool} : RCallP X (fun vs H Q => ∃ (a : Addr) (bs : List Bool), vs = [V.ref a] ∧ SqL X.K H a (bs.map V.bl) ∧ Q (.bl (g bs)) H) (oBls g) := by
  intro W S ds vs H Q Wy rs r p
  match ds, r, p with
  | [x], r, p =>
    obtain ⟨v, rfl, r1⟩ := rps1 r
    cases e : lstS S x with
    | some es =>
      cases e2 : blsOf es with
      | some bs =>
        simp only [oBls, e, e2] at p
        obtain ⟨a, ws, e1, q, rr, z⟩ := r1.lst rs e
        subst e1
        have ew := bls_reps rr e2
        subst ew
        exact ⟨a, bs, rfl, q, post_same rs p rfl⟩
      | none => simp only [oBls, e, e2] at p; exact p.elim
    | none => simp only [oBls, e] at p; exact p.elim
  | [], _, p => exact p.elim
  | _ :: _ :: _, _, p => exact p.elim
def oSum : List D → Sto → Out D
  | [x], S => (match lstS S x with
    | some ds => (match intsOf ds with
      | some bs => .ok (.int bs.sum) S
      | none => .bad)
    | none => .bad)
  | _, _ => .bad
theorem rc_sum : RCallP X (rSum X.K) oSum := by
  intro W S ds vs H Q Wy rs r p
  match ds, r, p with
  | [x], r, p =>
    obtain ⟨v, rfl, r1⟩ := rps1 r
    cases e : lstS S x with
    | some es =>
      cases e2 : intsOf es with
      | some bs =>
        simp only [oSum, e, e2] at p
        obtain ⟨a, ws, e1, q, rr, z⟩ := r1.lst rs e
        subst e1
        have ew := ints_reps rr e2
        subst ew
        exact ⟨a, bs, rfl, q, post_same rs p rfl⟩
      | none => simp only [oSum, e, e2] at p; exact p.elim
    | none => simp only [oSum, e] at p; exact p.elim
  | [], _, p => exact p.elim
  | _ :: _ :: _, _, p => exact p.elim
section
variable {p pos : Pos} {e : Expr} {es : List Expr} {g : DA}
theorem pd_len (hm : X.mg "len" = none) (ha : PDAP X Wx (e :: es) g) (hg : Gl X "len" := by rfl) (he : starEach (e :: es) X.env = (false, eval e X.env) :: starEach es X.env := by rfl) (hpl : (backTo pos (starEach es X.env)).any (·.1) = false := by rfl) :
    PDE X Wx (.Call (.Name "len" p) (e :: es) [] pos) (dCB oLen g) := pd_bltn call_len rc_len hm ha (.inl ⟨_, rfl⟩) (hg := hg) (he := he) (hpl := hpl)
theorem pd_tuple (hm : X.mg "tuple" = none) (ha : PDAP X Wx (e :: es) g) (hg : Gl X "tuple" := by rfl) (he : starEach (e :: es) X.env = (false, eval e X.env) :: starEach es X.env := by rfl) (hpl : (backTo pos (starEach es X.env)).any (·.1) = false := by rfl) :
    PDE X Wx (.Call (.Name "tuple" p) (e :: es) [] pos) (dCB oTup g) := pd_bltn call_tuple_of rc_tup hm ha (.inr ⟨_, rfl⟩) (hg := hg) (he := he) (hpl := hpl)
theorem pd_list (hm : X.mg "list" = none) (ha : PDAP X Wx (e :: es) g) (hg : Gl X "list" := by rfl) (he : starEach (e :: es) X.env = (false, eval e X.env) :: starEach es X.env := by rfl) (hpl : (backTo pos (starEach es X.env)).any (·.1) = false := by rfl) :
    PDE X Wx (.Call (.Name "list" p) (e :: es) [] pos) (dCB oLst g) := pd_bltn call_list_of rc_lst hm ha (.inr ⟨_, rfl⟩) (hg := hg) (he := he) (hpl := hpl)
theorem pd_intc (hm : X.mg "int" = none) (ha : PDAP X Wx (e :: es) g) (hg : Gl X "int" := by rfl) (he : starEach (e :: es) X.env = (false, eval e X.env) :: starEach es X.env := by rfl) (hpl : (backTo pos (starEach es X.env)).any (·.1) = false := by rfl) :
    PDE X Wx (.Call (.Name "int" p) (e :: es) [] pos) (dCB oInt g) := pd_bltn call_int1 rc_int hm ha (.inr ⟨_, rfl⟩) (hg := hg) (he := he) (hpl := hpl)
theorem pd_abs (hm : X.mg "abs" = none) (ha : PDAP X Wx (e :: es) g) (hg : Gl X "abs" := by rfl) (he : starEach (e :: es) X.env = (false, eval e X.env) :: starEach es X.env := by rfl) (hpl : (backTo pos (starEach es X.env)).any (·.1) = false := by rfl) :
    PDE X Wx (.Call (.Name "abs" p) (e :: es) [] pos) (dCB oAbs g) := pd_bltn call_abs rc_abs hm ha (.inl ⟨_, rfl⟩) (hg := hg) (he := he) (hpl := hpl)
theorem pd_max2 (hc : X.calm = true) (hm : X.mg "max" = none) (ha : PDAP X Wx (e :: es) g) (hg : Gl X "max" := by rfl) (he : starEach (e :: es) X.env = (false, eval e X.env) :: starEach es X.env := by rfl) (hpl : (backTo pos (starEach es X.env)).any (·.1) = false := by rfl) :
    PDE X Wx (.Call (.Name "max" p) (e :: es) [] pos) (dCB oMax2 g) := pd_bltn (call_max2 hc) rc_max2 hm ha (.inl ⟨_, rfl⟩) (hg := hg) (he := he) (hpl := hpl)
theorem pd_min2 (hc : X.calm = true) (hm : X.mg "min" = none) (ha : PDAP X Wx (e :: es) g) (hg : Gl X "min" := by rfl) (he : starEach (e :: es) X.env = (false, eval e X.env) :: starEach es X.env := by rfl) (hpl : (backTo pos (starEach es X.env)).any (·.1) = false := by rfl) :
    PDE X Wx (.Call (.Name "min" p) (e :: es) [] pos) (dCB oMin2 g) := pd_bltn (call_min2 hc) rc_min2 hm ha (.inl ⟨_, rfl⟩) (hg := hg) (he := he) (hpl := hpl)
theorem pd_divmod (hm : X.mg "divmod" = none) (ha : PDAP X Wx (e :: es) g) (hg : Gl X "divmod" := by rfl) (he : starEach (e :: es) X.env = (false, eval e X.env) :: starEach es X.env := by rfl) (hpl : (backTo pos (starEach es X.env)).any (·.1) = false := by rfl) :
    PDE X Wx (.Call (.Name "divmod" p) (e :: es) [] pos) (dCB oDivmod g) := pd_bltn call_divmodW rc_divmod hm ha (.inl ⟨_, rfl⟩) (hg := hg) (he := he) (hpl := hpl)
theorem pd_all (hc : X.calm = true) (hm : X.mg "all" = none) (ha : PDAP X Wx (e :: es) g) (hg : Gl X "all" := by rfl) (he : starEach (e :: es) X.env = (false, eval e X.env) :: starEach es X.env := by rfl) (hpl : (backTo pos (starEach es X.env)).any (·.1) = false := by rfl) :
    PDE X Wx (.Call (.Name "all" p) (e :: es) [] pos) (dCB (oBls fun bs => bs.all id) g) := pd_bltn (cr_all hc) rc_bls hm ha (.inl ⟨_, rfl⟩) (hg := hg) (he := he) (hpl := hpl)
theorem pd_any (hc : X.calm = true) (hm : X.mg "any" = none) (ha : PDAP X Wx (e :: es) g) (hg : Gl X "any" := by rfl) (he : starEach (e :: es) X.env = (false, eval e X.env) :: starEach es X.env := by rfl) (hpl : (backTo pos (starEach es X.env)).any (·.1) = false := by rfl) :
    PDE X Wx (.Call (.Name "any" p) (e :: es) [] pos) (dCB (oBls fun bs => bs.any id) g) := pd_bltn (cr_any hc) rc_bls hm ha (.inl ⟨_, rfl⟩) (hg := hg) (he := he) (hpl := hpl)
theorem pd_sum (hc : X.calm = true) (hm : X.mg "sum" = none) (ha : PDAP X Wx (e :: es) g) (hg : Gl X "sum" := by rfl) (he : starEach (e :: es) X.env = (false, eval e X.env) :: starEach es X.env := by rfl) (hpl : (backTo pos (starEach es X.env)).any (·.1) = false := by rfl) :
    PDE X Wx (.Call (.Name "sum" p) (e :: es) [] pos) (dCB oSum g) := pd_bltn (cr_sum hc) rc_sum hm ha (.inl ⟨_, rfl⟩) (hg := hg) (he := he) (hpl := hpl)
end
end
end DL

namespace DL
open PySem PySem.Spec PyProof.Rows L2

/-! ### the store is written -/
theorem RS.wr {c : Cn} {W : Wd} {S : Sto} {H : Hp} (r : RS c W S H) {n : Nat} {a : Addr} {o : O} {u : HO} (hn : W.th[n]? = some a) (ho : ORep c W (upd H a u) a o) : RS c W (S.set n o) (upd H a u) ∧ Xt W.th H W.th (upd H a u) := by
  have hm : a ∈ W.th := List.mem_of_getElem? hn
  have m : Mv W H W (upd H a u) := Mv.hid (.inl hm)
  have hnl : n < S.length := by rw [← r.len]; exact (List.getElem?_eq_some_iff.mp hn).1
  refine ⟨⟨by rw [List.length_set]; exact r.len, r.nd, r.pr, fun b p => ?_, fun k ob e => ?_⟩, ⟨fun b v q k => ⟨by rw [upd_ne (fun z => k (by rw [z]; exact hm))]; exact q, k⟩, [], by simp⟩⟩
  · by_cases hb : b = a
    · subst hb; exact ⟨u, upd_same⟩
    · obtain ⟨v, q⟩ := r.prt b p; exact ⟨v, by rw [upd_ne hb]; exact q⟩
  · by_cases hk : n = k
    · subst hk
      rw [List.getElem?_set_self hnl] at e
      cases e
      exact ⟨a, hn, ho⟩
    · rw [List.getElem?_set_ne hk] at e
      obtain ⟨b, h1, h2⟩ := r.ob k ob e
      have hb : b ≠ a := fun z => hk ((List.getElem?_inj (i := n) (j := k) (by rw [r.len]; exact hnl) r.nd).mp (by rw [hn, h1, z]))
      refine ⟨b, h1, ?_⟩
      cases ob with
      | lst ds => obtain ⟨vs, q1, q2, q3⟩ := h2; exact ⟨vs, by rw [upd_ne hb]; exact q1, Reps.mv m _ _ q2, q3⟩
      | ins k fs => obtain ⟨C, dx, gs, q0, q1, q2⟩ := h2; exact ⟨C, dx, gs, q0, by rw [upd_ne hb]; exact q1, FReps.mv m _ _ q2⟩
      | tab p q => obtain ⟨q0, ps, q1, q2, q3⟩ := h2; exact ⟨q0, ps, by rw [upd_ne hb]; exact q1, q2, fun pos cv hc => let ⟨cc, c1, c2, c3⟩ := q3 pos cv hc; ⟨cc, c1, (m.keep cc _ c2 c3).1, (m.keep cc _ c2 c3).2⟩⟩
      | dct => have h2 : H b = some (.dK []) := h2; show _ = some (HO.dK []); rw [upd_ne hb]; exact h2
/-- a new object of the store -/
theorem RS.push {c : Cn} {W : Wd} {S : Sto} {H : Hp} (r : RS c W S H) {a : Addr} {o : O} {u : HO} (h : H a = none) (ho : ORep c (W.to (W.th ++ [a])) (upd H a u) a o) : RS c (W.to (W.th ++ [a])) (S ++ [o]) (upd H a u) ∧ Xt W.th H (W.th ++ [a]) (upd H a u) := by
  have m : Mv W H (W.to (W.th ++ [a])) (upd H a u) := ⟨fun b v e n => ⟨by rw [upd_ne (ne_of_none e h)]; exact e, fun q => q.elim (fun q => (List.mem_append.mp q).elim (fun q => n (.inl q)) fun q => ne_of_none e h (by simpa using q)) fun q => n (.inr q)⟩, fun k b e => by
    have hk := (List.getElem?_eq_some_iff.mp e).1
    show (W.th ++ [a])[k]? = some b
    rw [List.getElem?_append_left hk]; exact e⟩
  have hf := r.free h
  refine ⟨⟨by simp [r.len], ?_, ?_, fun b p => ?_, fun k ob e => ?_⟩, ⟨fun b v q n => ⟨by rw [upd_ne (ne_of_none q h)]; exact q, fun z => (List.mem_append.mp z).elim n fun z => ne_of_none q h (by simpa using z)⟩, [a], rfl⟩⟩
  · exact List.nodup_append.mpr ⟨r.nd, by simp, fun y hy b hb z => by
      have hb : b = a := by simpa using hb
      rw [hb] at z; rw [z] at hy; exact hf hy⟩
  · intro b hb q
    rcases List.mem_append.mp hb with hb | hb
    · exact r.pr b hb q
    · rw [show b = a by simpa using hb] at q
      obtain ⟨v, e⟩ := r.prt a q
      rw [h] at e; cases e
  · obtain ⟨v, q⟩ := r.prt b p
    exact ⟨v, by rw [upd_ne (ne_of_none q h)]; exact q⟩
  · by_cases hk : k < S.length
    · rw [List.getElem?_append_left hk] at e
      obtain ⟨b, h1, h2⟩ := r.ob k ob e
      refine ⟨b, m.th k b h1, ?_⟩
      cases ob with
      | lst ds => obtain ⟨vs, q1, q2, q3⟩ := h2; exact ⟨vs, by rw [upd_ne (ne_of_none q1 h)]; exact q1, Reps.mv m _ _ q2, q3⟩
      | ins k fs => obtain ⟨C, dx, gs, q0, q1, q2⟩ := h2; exact ⟨C, dx, gs, q0, by rw [upd_ne (ne_of_none q1 h)]; exact q1, FReps.mv m _ _ q2⟩
      | tab p q => obtain ⟨q0, ps, q1, q2, q3⟩ := h2; exact ⟨q0, ps, by rw [upd_ne (ne_of_none q1 h)]; exact q1, q2, fun pos cv hc => let ⟨cc, c1, c2, c3⟩ := q3 pos cv hc; ⟨cc, c1, (m.keep cc _ c2 c3).1, (m.keep cc _ c2 c3).2⟩⟩
      | dct => have h2 : H b = some (.dK []) := h2; show _ = some (HO.dK []); rw [upd_ne (ne_of_none h2 h)]; exact h2
    · rw [List.getElem?_append_right (by omega)] at e
      have e3 : k - S.length = 0 := by
        cases q : k - S.length with
        | zero => rfl
        | succ j => rw [q] at e; simp at e
      rw [e3] at e
      cases e
      refine ⟨a, ?_, ho⟩
      show (W.th ++ [a])[k]? = some a
      rw [List.getElem?_append_right (by rw [r.len]; omega), r.len, e3]; rfl
section
variable {X : Cx} {Wx : WX}
/-! ### starred items -/
def dStar (f : DE) (g : DA) : DA := fun ρ S => (f ρ S).bind fun x S1 => match seqS S1 x with
  | some ds => (g ρ S1).bind fun xs S2 => .ok (ds ++ xs) S2
  | none => .bad
theorem pda_star {e : Expr} {es : List Expr} {p : Pos} {f : DE} {g : DA} (h1 : PDP X Wx e f) (h2 : PDA X Wx es g) (hs : starEach (.Starred e p :: es) X.env = (true, eval e X.env) :: starEach es X.env := by rfl) : PDA X Wx (.Starred e p :: es) (dStar f g) := by
  obtain ⟨te, a1, a2⟩ := h1
  obtain ⟨t, b1, b2⟩ := h2
  refine ⟨_, StX.pa_star a1 b1 hs, fun W ρ S σ H Q re p => ?_⟩
  refine a2.run re p fun x v th1 S1 H1 re1 r1 _ p1 => ?_
  cases e : seqS S1 x with
  | none => simp only [e] at p1; exact p1.elim
  | some ds =>
    simp only [e] at p1
    obtain ⟨a, vs, rfl, q, rr, z⟩ := r1.seq re1.rs e
    refine ⟨a, vs, rfl, q.symm, ?_⟩
    refine b2.run re1 p1 fun xs ws th2 S2 H2 re2 r2 x2 p2 => ?_
    exact p2 (vs ++ ws) th2 H2 Xt.refl re2.rs ((Reps.mv x2.mv _ _ rr).app r2)

/-! ### dicts of the module with text keys: what is asked of them -/
abbrev KTab := List (Str × Option D)
structure KD (X : Cx) (x : Str) (tab : KTab) : Prop where
  ex : ∃ C es n, X.mg x = some (.ref C) ∧ KDict X.K X.w C es n ∧ ∀ z r, tab.lookup z = some r → ∃ ro : Option Value, PySem.W.nsIn X.K C z = some ro ∧ (match r with
    | none => ro = none
    | some d => ∃ u v, ro = some u ∧ RelV v u ∧ ∀ W H, Rep (cn X) W H d v)
def oInK (nm : Str) (tab : KTab) (neg : Bool) : D → D → Sto → Out D := fun x y S => match x, y with
  | .str z, .nm n => if n = nm then (match tab.lookup z with
    | some r => .ok (.bl (if neg then !r.isSome else r.isSome)) S
    | none => .bad) else .bad
  | _, _ => .bad
def oIxK (nm : Str) (tab : KTab) : D → D → Sto → Out D := fun x y S => match x, y with
  | .nm n, .str z => if n = nm then (match tab.lookup z with
    | some (some d) => .ok d S
    | _ => .bad) else .bad
  | _, _ => .bad
variable {a b : Expr} {f g : DE} {pos : Pos}
theorem kd_in {nm : Str} {tab : KTab} (h : KD X nm tab) (hb' : PDE X Wx b g) (ha' : PDE X Wx a f) : PDE X Wx (.Compare a [.In] [b] pos) (dOp (oInK nm tab false) f g) ∨ behindInMarks .In b = true := by
  obtain ⟨C, es, n, h1, h2, h3⟩ := h.ex
  cases hm : behindInMarks .In b with
  | true => exact .inr rfl
  | false =>
    refine .inl ?_
    obtain ⟨ta, a1, a2⟩ := ha'; obtain ⟨tb, b1, b2⟩ := hb'
    refine ⟨_, pe_cmpR (op_in_kd h2) a1 b1 hm, snd_op a2 b2 ?_⟩
    intro W S x y v w H Q Wy rs r1 r2 p
    unfold oInK at p
    split at p
    · rename_i z k
      split at p
      · rename_i hk
        subst hk
        cases e : tab.lookup z with
        | none => rw [e] at p; exact p.elim
        | some r =>
          rw [e] at p
          obtain ⟨ro, q1, q2⟩ := h3 z r e
          obtain ⟨a, e1, rfl⟩ := r2
          cases h1.symm.trans e1
          refine ⟨z, ro, r1, rfl, q1, ?_⟩
          have e2 : ro.isSome = r.isSome := by
            cases r with
            | none => rw [show ro = none from q2]; rfl
            | some d => obtain ⟨u, v, e4, _⟩ := q2; rw [e4]; rfl
          rw [e2]
          exact post_same rs p rfl
      · exact p.elim
    · exact p.elim
theorem pd_inK {nm : Str} {tab : KTab} (h : KD X nm tab) (ha : PDE X Wx a f) (hb : PDE X Wx b g) (hm : behindInMarks .In b = false := by rfl) : PDE X Wx (.Compare a [.In] [b] pos) (dOp (oInK nm tab false) f g) := by
  rcases kd_in (pos := pos) h hb ha with q | q
  · exact q
  · rw [hm] at q; cases q
theorem pd_ixK {nm : Str} {tab : KTab} (h : KD X nm tab) (ha : PDE X Wx a f) (hb : PDE X Wx b g) (hs : PlainIx b := by exact fun _ _ => rfl) : PDE X Wx (.Subscript a b pos) (dOp (oIxK nm tab) f g) := by
  obtain ⟨C, es, n, h1, h2, h3⟩ := h.ex
  obtain ⟨ta, a1, a2⟩ := ha; obtain ⟨tb, b1, b2⟩ := hb
  refine ⟨_, pe_ix ix_kdict a1 b1 hs, snd_op a2 b2 ?_⟩
  intro W S x y v w H Q Wy rs r1 r2 p
  unfold oIxK at p
  split at p
  · rename_i k z
    split at p
    · rename_i hk
      subst hk
      split at p
      · rename_i d e
        obtain ⟨ro, q1, u, v', q2, q3, q4⟩ := h3 z _ e
        subst q2
        obtain ⟨a, e1, rfl⟩ := r1
        cases h1.symm.trans e1
        exact ⟨C, z, v', rfl, r2, ⟨es, n, u, h2.at_, h2.lit, q1, q3⟩, post_same rs p (q4 _ _)⟩
      · exact p.elim
    · exact p.elim
  · exact p.elim

/-! ### attributes -/
structure ClsF (X : Cx) (c f : Str) : Prop where
  ok : ∀ C, X.mg c = some (.ref C) → Cls X.K C ∧ NoAttr X.K C f
def oFld (cs : List Str) (f : Str) (S : Sto) : D → Option D
  | .ref n => (match S[n]? with
    | some (.ins c fs) => if c ∈ cs then fs.lookup f else none
    | _ => none)
  | _ => none
def dFld (cs : List Str) (f : Str) (o : DE) : DE := fun ρ S => (o ρ S).bind fun x S1 => optO (oFld cs f S1 x) S1
theorem RS.ins {c : Cn} {W : Wd} {S : Sto} {H : Hp} (rs : RS c W S H) {n : Nat} {k : Str} {fs : List (Str × D)} (h : S[n]? = some (.ins k fs)) : ∃ a C dx gs, W.th[n]? = some a ∧ c.mg k = some (.ref C) ∧ H a = some (.ins C dx gs) ∧ FReps c W H fs gs := by
  obtain ⟨a, h1, C, dx, gs, h2, h3, h4⟩ := rs.ob n _ h
  exact ⟨a, C, dx, gs, h1, h2, h3, h4⟩
theorem pd_fld {cs : List Str} {e : Expr} {o : DE} {fl : Str} (hC : ∀ c ∈ cs, ClsF X c fl) (he : PDE X Wx e o) (hb : attributeBase e fl X.env (eval e X.env) = eval e X.env := by rfl) : PDE X Wx (.Attribute e fl pos) (dFld cs fl o) := by
  obtain ⟨t, a1, a2⟩ := he
  refine ⟨_, pe_fld a1 hb, fun W ρ S σ H Q re p => ?_⟩
  refine a2.run re p fun x v th1 S1 H1 re1 r1 _ p1 => ?_
  cases x with
  | ref n =>
    cases e1 : S1[n]? with
    | none => simp only [oFld, e1] at p1; exact p1.elim
    | some ob =>
      cases ob with
      | lst ds => simp only [oFld, e1] at p1; exact p1.elim
      | tab _ _ => simp only [oFld, e1] at p1; exact p1.elim
      | dct => simp only [oFld, e1] at p1; exact p1.elim
      | ins c fs =>
        simp only [oFld, e1] at p1
        split at p1
        · rename_i hc
          cases e2 : fs.lookup fl with
          | none => rw [e2] at p1; exact p1.elim
          | some d =>
            rw [e2] at p1
            obtain ⟨a, C, dx, gs, h1, h2, h3, h4⟩ := re1.rs.ins e1
            obtain ⟨b, k1, rfl⟩ := r1
            cases h1.symm.trans k1
            obtain ⟨w, q1, q2⟩ := h4.get e2
            obtain ⟨c1, c2⟩ := (hC c hc).ok C h2
            exact ⟨a, C, dx, gs, w, rfl, h3, c1, c2, q1, post_same re1.rs p1 q2⟩
        · exact p1.elim
  | _ => exact p1.elim
def putD (f : Str) (v : D) : List (Str × D) → List (Str × D)
  | [] => [(f, v)]
  | (g, x) :: r => if g = f then (g, v) :: r else (g, x) :: putD f v r
theorem FReps.put {c : Cn} {W : Wd} {H : Hp} {f : Str} {d : D} {v : V} (r : Rep c W H d v) : ∀ {fs : List (Str × D)} {gs : List (Str × V)}, FReps c W H fs gs → FReps c W H (putD f d fs) (putF f v gs)
  | [], _, h => by rw [show _ = [] from h]; exact ⟨v, [], rfl, r, rfl⟩
  | (g, x) :: fs, _, ⟨w, q, e, h1, h2⟩ => by
    subst e
    by_cases hg : g = f
    · simp only [putD, putF, hg, if_true]; exact ⟨v, q, rfl, r, h2⟩
    · simp only [putD, putF, hg, if_false]; exact ⟨w, _, rfl, h1, FReps.put r h2⟩
/-- e.f = value: the value first -/
def dSetF (cs : List Str) (f : Str) (v o : DE) : DS := fun ρ S => (v ρ S).st ρ fun d S1 => (o ρ S1).st ρ fun x S2 => match x with
  | .ref n => (match S2[n]? with
    | some (.ins c fs) => if c ∈ cs ∧ fs.length < 900 then .nx ρ (S2.set n (.ins c (putD f d fs))) else .bad
    | _ => .bad)
  | _ => .bad
theorem RF.wr {c : Cn} {B : Bs} {th : List Addr} {ρ : En} {S : Sto} {σ : L2.St} {H : Hp} (r : RF c B th ρ S σ H) {n : Nat} {a : Addr} {o : O} {u : HO} (hn : th[n]? = some a) (ho : ORep c (B.w th ρ σ) (upd H a u) a o) : RF c B th ρ (S.set n o) σ (upd H a u) ∧ Xs th ρ σ H th ρ σ (upd H a u) := by
  obtain ⟨h1, h2⟩ := r.rs.wr (W := B.w th ρ σ) hn ho
  exact ⟨r.xt h2 h1, h2.xs ρ σ⟩
theorem pds_fld {cs : List Str} {e value : Expr} {o v : DE} {fl : Str} {pos' : Pos} (hC : ∀ c ∈ cs, ClsF X c fl) (he : PDE X Wx e o) (hv : PDE X Wx value v) (hs : swapsWith value (some (.Attribute e fl pos')) pos.line X.env = pure false := by rfl) : PDS X Wx (.Assign [.Attribute e fl pos'] value pos) (dSetF cs fl v o) := by
  obtain ⟨t, a1, a2⟩ := he
  obtain ⟨u, b1, b2⟩ := hv
  refine ⟨_, ps_fld a1 b1 hs, fun B th ρ S σ H D rf p => ?_⟩
  refine b2.runS rf p fun d vv th1 S1 H1 rf1 r1 x1 p1 => ?_
  refine a2.runS rf1 p1 fun x w th2 S2 H2 rf2 r2 x2 p2 => ?_
  have r1' := Rep.mv (Xt.mv (W := B.w th1 ρ σ) x2) _ _ r1
  cases x with
  | ref n =>
    cases e1 : S2[n]? with
    | none => simp only [e1] at p2; exact p2.elim
    | some ob =>
      cases ob with
      | lst ds => simp only [e1] at p2; exact p2.elim
      | tab _ _ => simp only [e1] at p2; exact p2.elim
      | dct => simp only [e1] at p2; exact p2.elim
      | ins c fs =>
        simp only [e1] at p2
        split at p2
        · rename_i hc
          obtain ⟨a, C, dx, gs, h1, h2, h3, h4⟩ := rf2.rs.ins e1
          obtain ⟨b, k1, rfl⟩ := r2
          cases h1.symm.trans k1
          obtain ⟨c1, c2⟩ := (hC c hc.1).ok C h2
          have hl := h4.len
          refine ⟨a, C, dx, gs, rfl, h3, c1, c2, by rw [hl]; omega, ?_⟩
          have m : Mv (B.w th2 ρ σ) H2 (B.w th2 ρ σ) (upd H2 a (.ins C dx (putF fl vv gs))) := Mv.hid (.inl (List.mem_of_getElem? h1))
          obtain ⟨rf3, x3⟩ := rf2.wr (n := n) (a := a) (o := .ins c (putD fl d fs)) (u := .ins C dx (putF fl vv gs)) h1 ⟨C, dx, _, h2, upd_same, FReps.mv m _ _ (FReps.put r1' h4)⟩
          exact p2 _ _ _ x3 rf3
        · exact p2.elim
  | _ => exact p2.elim
end
end DL

namespace DL
open PySem PySem.Spec PyProof.Rows L2
section
variable {X : Cx} {Wx : WX}
/-! ### methods of lists, by data -/
abbrev LOp := List D → List D → Option (D × List D)
def MLst (X : Cx) (r : V → List V → Hp → VK → Prop) (op : LOp) : Prop :=
  ∀ W H a ds vs args ws d ds' Q, H a = some (.lst vs) → Reps (cn X) W H ds vs → Reps (cn X) W H args ws → ds.length ≤ sizeLine → op ds args = some (d, ds') →
    ∃ y vs', Rep (cn X) W H d y ∧ Reps (cn X) W H ds' vs' ∧ ds'.length ≤ sizeLine ∧ (Q y (upd H a (.lst vs')) → r (.ref a) ws H Q)
def lApp : LOp := fun ds ys => match ys with
  | [y] => if ds.length < LIM then some (.non, ds ++ [y]) else none
  | _ => none
def lPop : LOp := fun ds ys => match ys with
  | [] => (match ds[ds.length - 1]? with
    | some y => some (y, ds.dropLast)
    | none => none)
  | _ => none
def lPopAt : LOp := fun ds ys => match ys with
  | [.int i] => if -1000000 ≤ i ∧ i ≤ 1000000 then (match seqIndex? i ds.length with
    | some k => (match ds[k]? with
      | some y => some (y, ds.eraseIdx k)
      | none => none)
    | none => none) else none
  | _ => none
theorem ml_app : MLst X rAppend lApp := by
  intro W H a ds vs args ws d ds' Q h r ra z e
  match args, ra, e with
  | [y], ra, e =>
    obtain ⟨v, rfl, r1⟩ := reps1 ra
    have e' : (if ds.length < LIM then some (D.non, ds ++ [y]) else none) = some (d, ds') := e
    split at e'
    · rename_i hz
      cases e'
      have := lim_le (Nat.le_of_lt hz)
      have l1 : LIM < sizeLine := by decide
      exact ⟨.non, vs ++ [v], rfl, r.app (Reps.one r1), by rw [List.length_append]; simp; omega, fun q => ⟨a, vs, v, rfl, rfl, h, by rw [r.len]; omega, q⟩⟩
    · cases e'
  | [], _, e => cases e
  | _ :: _ :: _, _, e => cases e
theorem ml_pop : MLst X rPop lPop := by
  intro W H a ds vs args ws d ds' Q h r ra z e
  match args, ra, e with
  | [], ra, e =>
    have ew : ws = [] := ra
    subst ew
    cases e1 : ds[ds.length - 1]? with
    | none => simp only [lPop, e1] at e; cases e
    | some y =>
      simp only [lPop, e1] at e
      cases e
      obtain ⟨v, h1, h2⟩ := r.get e1
      exact ⟨v, vs.dropLast, h2, r.dropLast, by rw [List.length_dropLast]; omega, fun q => ⟨a, vs, v, rfl, rfl, h, by rw [r.len]; exact h1, q⟩⟩
  | _ :: _, _, e => cases e
theorem ml_popAt : MLst X rPopAt lPopAt := by
  intro W H a ds vs args ws d ds' Q h r ra z e
  unfold lPopAt at e
  split at e
  · rename_i i
    obtain ⟨v, rfl, r1⟩ := reps1 ra
    cases (show v = V.int i from r1)
    split at e
    · rename_i hi
      cases e1 : seqIndex? i ds.length with
      | none => simp only [e1] at e; cases e
      | some k =>
        cases e2 : ds[k]? with
        | none => simp only [e1, e2] at e; cases e
        | some y =>
          simp only [e1, e2] at e
          cases e
          obtain ⟨v, h1, h2⟩ := r.get e2
          exact ⟨v, vs.eraseIdx k, h2, r.erase k, Nat.le_trans (List.length_eraseIdx_le _ _) z, fun q => ⟨a, vs, i, k, v, rfl, rfl, h, by omega, by omega, by rw [r.len]; exact e1, h1, q⟩⟩
    · cases e
  · cases e
/-- of a list of the store -/
def dLm (op : LOp) (o : DE) (g : DA) : DE := fun ρ S => (o ρ S).bind fun x S1 => match x with
  | .ref n => (match S1[n]? with
    | some (.lst _) => (g ρ S1).bind fun ys S2 => (match S2[n]? with
      | some (.lst ds) => (match op ds ys with
        | some (d, ds') => .ok d (S2.set n (.lst ds'))
        | none => .bad)
      | _ => .bad)
    | _ => .bad)
  | _ => .bad
theorem snd_lm {op : LOp} {r : V → List V → Hp → VK → Prop} {o : DE} {g : DA} {to : TE} {t : TA} (hr : MLst X r op) (h1 : Snd X Wx (rD X) o to) (h2 : Snd X Wx (rDs X) g t) : Snd X Wx (rD X) (dLm op o g) (tBM X.K "list" r to t) := by
  intro W ρ S σ H Q re p
  refine h1.run re p fun x v th1 S1 H1 re1 r1 _ p1 => ?_
  cases x with
  | ref n =>
    cases e1 : S1[n]? with
    | none => simp only [e1] at p1; exact p1.elim
    | some ob =>
      cases ob with
      | ins _ _ => simp only [e1] at p1; exact p1.elim
      | tab _ _ => simp only [e1] at p1; exact p1.elim
      | dct => simp only [e1] at p1; exact p1.elim
      | lst ds0 =>
        simp only [e1] at p1
        obtain ⟨a, k1, rfl⟩ := r1
        obtain ⟨b, q1, vs0, q2, q3, q4⟩ := re1.rs.ob n _ e1
        cases q1.symm.trans k1
        refine ⟨.inl ⟨rfl, _, SqL.of q2⟩, ?_⟩
        refine h2.run re1 p1 fun ys ws th2 S2 H2 re2 r2 x2 p2 => ?_
        cases e2 : S2[n]? with
        | none => simp only [e2] at p2; exact p2.elim
        | some ob =>
          cases ob with
          | ins _ _ => simp only [e2] at p2; exact p2.elim
          | tab _ _ => simp only [e2] at p2; exact p2.elim
          | dct => simp only [e2] at p2; exact p2.elim
          | lst ds =>
            simp only [e2] at p2
            cases e3 : op ds ys with
            | none => simp only [e3] at p2; exact p2.elim
            | some z =>
              obtain ⟨d, ds'⟩ := z
              simp only [e3] at p2
              obtain ⟨b, w1, vs, w2, w3, w4⟩ := re2.rs.ob n _ e2
              have k2 := x2.get k1
              cases w1.symm.trans k2
              obtain ⟨y, vs', z1, z2, z3, z4⟩ := hr _ H2 _ ds vs ys ws d ds' Q w2 w3 r2 w4 e3
              have hid : Mv (W.to th2) H2 (W.to th2) (upd H2 a (.lst vs')) := Mv.hid (.inl (List.mem_of_getElem? k2))
              obtain ⟨rs3, x3⟩ := re2.rs.wr (W := W.to th2) (n := n) (a := a) (o := .lst ds') (u := .lst vs') k2 ⟨vs', upd_same, Reps.mv hid _ _ z2, z3⟩
              exact z4 (p2 y th2 _ x3 rs3 (Rep.mv hid _ _ z1))
  | _ => exact p1.elim
/-- of a list that the frame alone holds -/
theorem RF.wrO {c : Cn} {B : Bs} {th : List Addr} {ρ : En} {S : Sto} {σ : L2.St} {H : Hp} (r : RF c B th ρ S σ H) {i : Nat} {ds ds' : List D} {a : Addr} {vs' : List V} (hi : ρ[i]? = some (some (.own ds))) (ha : σ[i]? = some (some (.ref a)))
    (rr : Reps c (B.w th ρ σ) H ds' vs') (z : ds'.length ≤ sizeLine) : RF c B th (ρ.set i (some (.own ds'))) S σ (upd H a (.lst vs')) ∧ Xs th ρ σ H th (ρ.set i (some (.own ds'))) σ (upd H a (.lst vs')) := by
  have hil : i < ρ.length := (List.getElem?_eq_some_iff.mp hi).1
  have old : ∀ (j : Nat) es, (ρ.set i (some (.own ds')))[j]? = some (some (.own es)) → ∃ es0, ρ[j]? = some (some (.own es0)) := fun j es e => by
    by_cases hj : i = j
    · subst hj; exact ⟨ds, hi⟩
    · rw [List.getElem?_set_ne hj] at e; exact ⟨es, e⟩
  have ow : ∀ b, ownd (ρ.set i (some (.own ds'))) σ b → ownd ρ σ b := fun b ⟨j, es, q1, q2⟩ => by
    obtain ⟨es0, q3⟩ := old j es q1
    exact ⟨j, es0, q3, q2⟩
  have ow' : ∀ b, ownd ρ σ b → ownd (ρ.set i (some (.own ds'))) σ b := fun b ⟨j, es, q1, q2⟩ => by
    by_cases hj : i = j
    · subst hj; exact ⟨i, ds', List.getElem?_set_self hil, q2⟩
    · exact ⟨j, es, by rw [List.getElem?_set_ne hj]; exact q1, q2⟩
  have oa : ownd ρ σ a := ⟨i, ds, hi, ha⟩
  have m1 : Mv (B.w th ρ σ) H (B.w th ρ σ) (upd H a (.lst vs')) := Mv.hid (.inr (.inr oa))
  have hp : ∀ b, (B.w th (ρ.set i (some (.own ds'))) σ).pr b → (B.w th ρ σ).pr b := fun b (q : B.P0 b ∨ _) => q.elim .inl fun q => .inr (ow b q)
  have m : Mv (B.w th ρ σ) H (B.w th (ρ.set i (some (.own ds'))) σ) (upd H a (.lst vs')) := m1.trans (Mv.less hp rfl)
  refine ⟨⟨⟨(r.rs.hid (.inr oa)).less hp rfl, fun j s e => ?_, by simpa using r.len⟩, fun b q => r.p0 b (ow b q), fun j k es fs b q1 q2 q3 q4 => ?_, by simpa using r.len⟩, ⟨fun b o e n q => ⟨by rw [upd_ne (fun y => q (by rw [y]; exact oa))]; exact e, n, fun y => q (ow b y)⟩, [], by simp⟩⟩
  · by_cases hj : i = j
    · subst hj
      rw [List.getElem?_set_self hil] at e
      simp only [Option.some.injEq] at e
      subst e
      obtain ⟨w, h1, h2⟩ := r.re.sl i _ hi
      obtain ⟨b, vs, e1, e2, e3, e4, e5, e6⟩ := h2
      rw [ha] at h1
      cases h1
      cases e1
      exact ⟨.ref a, ha, a, vs', rfl, upd_same, Reps.mv m _ _ rr, .inr (ow' a oa), e5, z⟩
    · rw [List.getElem?_set_ne hj] at e
      obtain ⟨w, h1, h2⟩ := r.re.sl j s e
      refine ⟨w, h1, ?_⟩
      cases s with
      | val x => exact Rep.mv m _ _ h2
      | own es =>
        obtain ⟨b, vs, e1, e2, e3, e4, e5, e6⟩ := h2
        subst e1
        have hb : b ≠ a := fun y => hj (r.inj i j ds es a hi e ha (by rw [← y]; exact h1))
        exact ⟨b, vs, rfl, by rw [upd_ne hb]; exact e2, Reps.mv m _ _ e3, .inr (ow' b ⟨j, es, e, h1⟩), e5, e6⟩
      | exn n x =>
        obtain ⟨b, C, d', q1, q2, q3, q4⟩ := h2
        exact ⟨b, C, d', q1, q2, q3, XR.mv m _ _ q4⟩
  · obtain ⟨e1, k1⟩ := old j es q1
    obtain ⟨e2, k2⟩ := old k fs q2
    exact r.inj j k e1 e2 b k1 k2 q3 q4
def dOm (i : Nat) (op : LOp) (g : DA) (k : D → En → Sto → Rs) : DS := fun ρ S => match ρ[i]? with
  | some (some (.own _)) => (g ρ S).st ρ fun ys S1 => (match ρ[i]? with
    | some (some (.own ds)) => (match op ds ys with
      | some (d, ds') => k d (ρ.set i (some (.own ds'))) S1
      | none => .bad)
    | _ => .bad)
  | _ => .bad
theorem snd_om {i : Nat} {op : LOp} {r : V → List V → Hp → VK → Prop} {g : DA} {t : TA} {k : D → En → Sto → Rs} {fin : V → L2.St → Hp → Ends → Prop} (hr : MLst X r op) (h2 : Snd X Wx (rDs X) g t)
    (hk : ∀ B th ρ S σ H D d v, RF (cn X) B th ρ S σ H → Rep (cn X) (B.w th ρ σ) H d v → PostS (cn X) B th ρ σ H Wx D (k d ρ S) → fin v σ H D) : SndS X Wx (dOm i op g k) (fun D σ H => tBM X.K "list" r (tVar i) t σ H fun v H1 => fin v σ H1 D) := by
  intro B th ρ S σ H D rf p
  unfold dOm at p
  split at p
  · rename_i ds0 e0
    obtain ⟨v, h1, h3⟩ := rf.re.sl i _ e0
    obtain ⟨a, vs0, e1, e2, e3, e4, e5, e6⟩ := h3
    subst e1
    refine ⟨_, h1, .inl ⟨rfl, _, SqL.of e2⟩, ?_⟩
    refine h2.runS rf p fun ys ws th' S' H' rf' r2 x p' => ?_
    cases e7 : op ds0 ys with
    | none => simp only [e7] at p'; exact p'.elim
    | some z =>
      obtain ⟨d, ds'⟩ := z
      simp only [e7] at p'
      obtain ⟨w, w1, w2⟩ := rf'.re.sl i _ e0
      obtain ⟨b, vs, f1, f2, f3, f4, f5, f6⟩ := w2
      rw [h1] at w1
      cases w1
      cases f1
      obtain ⟨y, vs', z1, z2, z3, z4⟩ := hr _ H' _ ds0 vs ys ws d ds' (fun v H1 => fin v σ H1 D) f2 f3 r2 f6 e7
      obtain ⟨rf3, x3⟩ := rf'.wrO e0 h1 z2 z3
      refine z4 ?_
      have m : Mv (B.w th' ρ σ) H' (B.w th' (ρ.set i (some (.own ds'))) σ) (upd H' a (.lst vs')) := ⟨fun b' o q n => by
        obtain ⟨k1, k2, k3⟩ := x3.keep b' o q (fun q => n (.inl q)) fun q => n (.inr (.inr q))
        exact ⟨k1, fun q => q.elim k2 fun q => q.elim (fun q => n (.inr (.inl q))) k3⟩, fun _ _ e => e⟩
      exact hk B th' _ S' σ _ D d y rf3 (Rep.mv m _ _ z1) (PostS.mono p' x3)
  · exact p.elim
def kDrop : D → En → Sto → Rs := fun _ ρ S => .nx ρ S
def kSet (j : Nat) : D → En → Sto → Rs := fun d ρ S => .nx (ρ.set j (some (.val d))) S
def kRet : D → En → Sto → Rs := fun d ρ S => .rt d S
variable {e o : Expr} {es : List Expr} {f : DE} {g : DA} {apos pos pos' cpos : Pos} {op : LOp} {r : V → List V → Hp → VK → Prop} {name : Str} {id : String}
/-- a method with arguments -/
structure LM (X : Cx) (name : Str) (op : LOp) : Prop where
  ex : ∃ id r, Slot "list" name id ∧ typeOf (.builtin id) = pure (.type "method_descriptor") ∧ MtR X id r ∧ MLst X r op
theorem lm_app : LM X "append" lApp := ⟨_, _, PySem.F.slot_list_append, PySem.F.type_list_append, mt_append, ml_app⟩
theorem lm_popAt : LM X "pop" lPopAt := ⟨_, _, PySem.F.slot_list_pop, PySem.F.type_list_pop, mt_popAt, ml_popAt⟩
theorem lm_pop : LM X "pop" lPop := ⟨_, _, PySem.F.slot_list_pop, PySem.F.type_list_pop, mt_pop, ml_pop⟩
theorem pd_lm (h : LM X name op) (ho : PDE X Wx o f) (ha : PDA X Wx (e :: es) g) (hbase : attributeBase o name X.env (eval o X.env) = eval o X.env := by rfl)
    (hfew : ((backTo cpos (starEach (e :: es) X.env)).all (fun x => !x.1) && (backToKw cpos (keywordEach [] X.env)).all (fun x => x.1.isSome)
      && decide ((e :: es).length + ([] : List Keyword).length + (if ([] : List Keyword).isEmpty then 0 else 1) < 30)) = true := by rfl)
    (hline : (apos.endLine == cpos.line) = true := by rfl) (hs : starEach (e :: es) X.env = (false, eval e X.env) :: starEach es X.env := by rfl) (hplain : (backTo cpos (starEach es X.env)).any (·.1) = false := by rfl) :
    PDE X Wx (.Call (.Attribute o name apos) (e :: es) [] cpos) (dLm op f g) := by
  obtain ⟨id, r, h1, h2, h3, h4⟩ := h.ex
  obtain ⟨to, o1, o2⟩ := ho
  obtain ⟨t, t1, t2⟩ := ha
  exact ⟨_, pe_bm PySem.F.plainAttrs_list h1 h2 h3 o1 t1 hbase hfew hline hs hplain, snd_lm h4 o2 t2⟩
theorem pd_lm0 (h : LM X name op) (ho : PDE X Wx o f) (hbase : attributeBase o name X.env (eval o X.env) = eval o X.env := by rfl) (hline : (apos.endLine == cpos.line) = true := by rfl) :
    PDE X Wx (.Call (.Attribute o name apos) [] [] cpos) (dLm op f dNil) := by
  obtain ⟨id, r, h1, h2, h3, h4⟩ := h.ex
  obtain ⟨to, o1, o2⟩ := ho
  exact ⟨_, pe_bm0 PySem.F.plainAttrs_list h1 h2 h3 o1 hbase hline, snd_lm h4 o2 snd_nil⟩
/-- x.m(e) as a statement -/
theorem pds_om (i : Nat) {x : Str} (h : LM X name op) (ha : PDA X Wx (e :: es) g) (hN : X.N[i]? = some x := by rfl) (hv : Vis X.env.scope x := by first | exact Or.inl rfl | exact Or.inr (Or.inl rfl) | exact Or.inr (Or.inr rfl)) (hbase : attributeBase (.Name x pos') name X.env (eval (.Name x pos') X.env) = eval (.Name x pos') X.env := by rfl)
    (hfew : ((backTo cpos (starEach (e :: es) X.env)).all (fun x => !x.1) && (backToKw cpos (keywordEach [] X.env)).all (fun x => x.1.isSome)
      && decide ((e :: es).length + ([] : List Keyword).length + (if ([] : List Keyword).isEmpty then 0 else 1) < 30)) = true := by rfl)
    (hline : (apos.endLine == cpos.line) = true := by rfl) (hs : starEach (e :: es) X.env = (false, eval e X.env) :: starEach es X.env := by rfl) (hplain : (backTo cpos (starEach es X.env)).any (·.1) = false := by rfl)
    (hd : (x == ("__debug__" : Str)) = false := by decide) (hcd : (x == ("__classdict__" : Str)) = false := by decide) (hw : swapsWith (.Call (.Attribute (.Name x pos') name apos) (e :: es) [] cpos) none pos.line X.env = pure false := by rfl) :
    PDS X Wx (.Expr (.Call (.Attribute (.Name x pos') name apos) (e :: es) [] cpos) pos) (dOm i op g kDrop) := by
  obtain ⟨id, r, h1, h2, h3, h4⟩ := h.ex
  obtain ⟨t, t1, t2⟩ := ha
  refine ⟨_, ps_expr (pe_bm PySem.F.plainAttrs_list h1 h2 h3 (pe_var hN hv hd hcd) t1 hbase hfew hline hs hplain) hw, ?_⟩
  exact snd_om (k := kDrop) (fin := fun _ σ H D => D.nx σ H) h4 t2 fun B th ρ S σ H D d v rf _ p => p σ H th Xs.refl rf
/-- x.m() as a statement -/
theorem pds_om0 (i : Nat) {x : Str} (h : LM X name op) (hN : X.N[i]? = some x := by rfl) (hv : Vis X.env.scope x := by first | exact Or.inl rfl | exact Or.inr (Or.inl rfl) | exact Or.inr (Or.inr rfl)) (hbase : attributeBase (.Name x pos') name X.env (eval (.Name x pos') X.env) = eval (.Name x pos') X.env := by rfl)
    (hline : (apos.endLine == cpos.line) = true := by rfl) (hd : (x == ("__debug__" : Str)) = false := by decide) (hcd : (x == ("__classdict__" : Str)) = false := by decide) (hw : swapsWith (.Call (.Attribute (.Name x pos') name apos) [] [] cpos) none pos.line X.env = pure false := by rfl) :
    PDS X Wx (.Expr (.Call (.Attribute (.Name x pos') name apos) [] [] cpos) pos) (dOm i op dNil kDrop) := by
  obtain ⟨id, r, h1, h2, h3, h4⟩ := h.ex
  refine ⟨_, ps_expr (pe_bm0 PySem.F.plainAttrs_list h1 h2 h3 (pe_var hN hv hd hcd) hbase hline) hw, ?_⟩
  exact snd_om (k := kDrop) (fin := fun _ σ H D => D.nx σ H) h4 snd_nil fun B th ρ S σ H D d v rf _ p => p σ H th Xs.refl rf
theorem set_val {B : Bs} {th : List Addr} {ρ : En} {S : Sto} {σ : L2.St} {H : Hp} {D' : Ends} {d : D} {v : V} (j : Nat) (rf : RF (cn X) B th ρ S σ H) (r : Rep (cn X) (B.w th ρ σ) H d v) (p : PostS (cn X) B th ρ σ H Wx D' (kSet j d ρ S)) : D'.nx (σ.set j (some v)) H := by
  have hn : ∀ ds, Sl.val d ≠ .own ds := fun _ z => by cases z
  have m : Mv (B.w th ρ σ) H (B.w th (ρ.set j (some (.val d))) (σ.set j (some v))) H := Mv.less (fun a (z : B.P0 a ∨ _) => z.elim .inl fun q => .inr (ownd_set rf.len hn q)) rfl
  obtain ⟨rf2, x2⟩ := rf.set j (d := .val d) (v := v) hn (Rep.mv m _ _ r)
  exact p _ _ _ x2 rf2
/-- y = x.m() -/
theorem pds_setOm0 (i j : Nat) {x y : Str} {posy : Pos} (h : LM X name op) (hNd : X.N.Nodup) (hN : X.N[i]? = some x := by rfl) (hj : X.N[j]? = some y := by rfl) (hv : Vis X.env.scope x := by first | exact Or.inl rfl | exact Or.inr (Or.inl rfl) | exact Or.inr (Or.inr rfl)) (hbase : attributeBase (.Name x pos') name X.env (eval (.Name x pos') X.env) = eval (.Name x pos') X.env := by rfl)
    (hline : (apos.endLine == cpos.line) = true := by rfl) (hd : (x == ("__debug__" : Str)) = false := by decide) (hcd : (x == ("__classdict__" : Str)) = false := by decide)
    (hw : swapsWith (.Call (.Attribute (.Name x pos') name apos) [] [] cpos) (some (.Name y posy)) pos.line X.env = pure false := by rfl) (hx : Loc X.env.scope y := by first | exact Or.inl rfl | exact Or.inr rfl) (hf : X.fn y = true ∨ X.env.scope.names.lookup y = some .local := by first | exact .inl rfl | exact .inr rfl) :
    PDS X Wx (.Assign [.Name y posy] (.Call (.Attribute (.Name x pos') name apos) [] [] cpos) pos) (dOm i op dNil (kSet j)) := by
  obtain ⟨id, r, h1, h2, h3, h4⟩ := h.ex
  refine ⟨_, ps_set hNd hj hx (pe_bm0 PySem.F.plainAttrs_list h1 h2 h3 (pe_var hN hv hd hcd) hbase hline) hw hf, ?_⟩
  exact snd_om (k := kSet j) (fin := fun v σ H D => D.nx (σ.set j (some v)) H) h4 snd_nil fun B th ρ S σ H D d v rf r p => set_val j rf r p
/-- y = x.m(e) -/
theorem pds_setOm (i j : Nat) {x y : Str} {posy : Pos} (h : LM X name op) (ha : PDA X Wx (e :: es) g) (hNd : X.N.Nodup) (hN : X.N[i]? = some x := by rfl) (hj : X.N[j]? = some y := by rfl) (hv : Vis X.env.scope x := by first | exact Or.inl rfl | exact Or.inr (Or.inl rfl) | exact Or.inr (Or.inr rfl)) (hbase : attributeBase (.Name x pos') name X.env (eval (.Name x pos') X.env) = eval (.Name x pos') X.env := by rfl)
    (hfew : ((backTo cpos (starEach (e :: es) X.env)).all (fun x => !x.1) && (backToKw cpos (keywordEach [] X.env)).all (fun x => x.1.isSome)
      && decide ((e :: es).length + ([] : List Keyword).length + (if ([] : List Keyword).isEmpty then 0 else 1) < 30)) = true := by rfl)
    (hline : (apos.endLine == cpos.line) = true := by rfl) (hs : starEach (e :: es) X.env = (false, eval e X.env) :: starEach es X.env := by rfl) (hplain : (backTo cpos (starEach es X.env)).any (·.1) = false := by rfl) (hd : (x == ("__debug__" : Str)) = false := by decide) (hcd : (x == ("__classdict__" : Str)) = false := by decide)
    (hw : swapsWith (.Call (.Attribute (.Name x pos') name apos) (e :: es) [] cpos) (some (.Name y posy)) pos.line X.env = pure false := by rfl) (hx : Loc X.env.scope y := by first | exact Or.inl rfl | exact Or.inr rfl) (hf : X.fn y = true ∨ X.env.scope.names.lookup y = some .local := by first | exact .inl rfl | exact .inr rfl) :
    PDS X Wx (.Assign [.Name y posy] (.Call (.Attribute (.Name x pos') name apos) (e :: es) [] cpos) pos) (dOm i op g (kSet j)) := by
  obtain ⟨id, r, h1, h2, h3, h4⟩ := h.ex
  obtain ⟨t, t1, t2⟩ := ha
  refine ⟨_, ps_set hNd hj hx (pe_bm PySem.F.plainAttrs_list h1 h2 h3 (pe_var hN hv hd hcd) t1 hbase hfew hline hs hplain) hw hf, ?_⟩
  exact snd_om (k := kSet j) (fin := fun v σ H D => D.nx (σ.set j (some v)) H) h4 t2 fun B th ρ S σ H D d v rf r p => set_val j rf r p

/-! ### targets of statements -/
abbrev DG := D → DS
def PDGS (X : Cx) (Wx : WX) (tg : Expr) (gd : DG) : Prop := ∃ g, PG X tg g ∧ ∀ B th ρ S σ H D d v, RF (cn X) B th ρ S σ H → Rep (cn X) (B.w th ρ σ) H d v → PostS (cn X) B th ρ σ H Wx D (gd d ρ S) → g v σ H D.nx
def PDGSs (X : Cx) (Wx : WX) (tgs : List Expr) (n : Nat) (gd : List D → DS) : Prop := ∃ g, PGs X tgs g ∧ ∀ B th ρ S σ H D ds vs, RF (cn X) B th ρ S σ H → Reps (cn X) (B.w th ρ σ) H ds vs → ds.length = n → PostS (cn X) B th ρ σ H Wx D (gd ds ρ S) → g vs σ H D.nx
theorem pdgs_nm {j : Nat} {x : Str} (hN : X.N.Nodup) (hi : X.N[j]? = some x := by rfl) (hx : Loc X.env.scope x := by first | exact Or.inl rfl | exact Or.inr rfl) (hf : X.fn x = true ∨ X.env.scope.names.lookup x = some .local := by first | exact .inl rfl | exact .inr rfl) : PDGS X Wx (.Name x pos) (kSet j) :=
  ⟨_, pg_name hN hi hx hf, fun B th ρ S σ H D d v rf r p => set_val j rf r p⟩
def gSubL (o ix : DE) : DG := fun d ρ S => (o ρ S).st ρ fun x S1 => (ix ρ S1).st ρ fun k S2 => match x, k with
  | .ref n, .int z => (match S2[n]? with
    | some (.lst ds) => (match ixN ds.length z with
      | some j => .nx ρ (S2.set n (.lst (ds.set j d)))
      | none => .bad)
    | _ => .bad)
  | _, _ => .bad
theorem pdgs_subL {o i : Expr} {f h : DE} (ho : PDE X Wx o f) (hi : PDE X Wx i h)
    (ha : ∀ v, assign (.Subscript o i pos) X.env v = (do
      let ov ← holding [v] (eval o X.env)
      let iv ← holding [v, ov] (eval i X.env)
      standAt pos
      holding [v, ov, iv] (setItem ov iv v)
      release [v, ov, iv] []) := by intro _; rfl) : PDGS X Wx (.Subscript o i pos) (gSubL f h) := by
  obtain ⟨to, o1, o2⟩ := ho
  obtain ⟨ti, i1, i2⟩ := hi
  refine ⟨_, pg_sub o1 i1 set_list ha, fun B th ρ S σ H D d v rf r p => ?_⟩
  refine o2.runS rf p fun x vx th1 S1 H1 rf1 r1 x1 p1 => ?_
  refine i2.runS rf1 p1 fun k vk th2 S2 H2 rf2 r2 x2 p2 => ?_
  cases x with
  | ref n =>
    cases k with
    | int z =>
      cases e1 : S2[n]? with
      | none => simp only [e1] at p2; exact p2.elim
      | some ob =>
        cases ob with
        | ins _ _ => simp only [e1] at p2; exact p2.elim
        | tab _ _ => simp only [e1] at p2; exact p2.elim
        | dct => simp only [e1] at p2; exact p2.elim
        | lst ds =>
          cases e2 : ixN ds.length z with
          | none => simp only [e1, e2] at p2; exact p2.elim
          | some j =>
            simp only [e1, e2] at p2
            obtain ⟨a, k1, rfl⟩ := r1
            have k2 : th2[n]? = some a := x2.get k1
            obtain ⟨b, w1, vs, w2, w3, w4⟩ := rf2.rs.ob n _ e1
            cases w1.symm.trans k2
            have rv : Rep (cn X) (B.w th2 ρ σ) H2 d v := Rep.mv (Xt.mv (W := B.w th1 ρ σ) x2) _ _ (Rep.mv (Xt.mv (W := B.w th ρ σ) x1) _ _ r)
            have hid : Mv (B.w th2 ρ σ) H2 (B.w th2 ρ σ) (upd H2 a (.lst (vs.set j v))) := Mv.hid (.inl (List.mem_of_getElem? k2))
            obtain ⟨rf3, x3⟩ := rf2.wr (n := n) (a := a) (o := .lst (ds.set j d)) (u := .lst (vs.set j v)) k2 ⟨_, upd_same, Reps.mv hid _ _ (w3.set rv j), by rw [List.length_set]; exact w4⟩
            exact ⟨a, vs, z, j, rfl, r2, w2, by rw [w3.len]; exact e2, p2 _ _ _ x3 rf3⟩
    | _ => exact p2.elim
  | _ => exact p2.elim
def gSubO (i : Nat) (ix : DE) : DG := fun d ρ S => match ρ[i]? with
  | some (some (.own ds)) => (ix ρ S).st ρ fun k S2 => (match k with
    | .int z => (match ixN ds.length z with
      | some j => .nx (ρ.set i (some (.own (ds.set j d)))) S2
      | none => .bad)
    | _ => .bad)
  | _ => .bad
theorem pdgs_subO (n : Nat) {x : Str} {i : Expr} {h : DE} {pos' : Pos} (hi : PDE X Wx i h) (hN : X.N[n]? = some x := by rfl) (hv : Vis X.env.scope x := by first | exact Or.inl rfl | exact Or.inr (Or.inl rfl) | exact Or.inr (Or.inr rfl))
    (ha : ∀ v, assign (.Subscript (.Name x pos') i pos) X.env v = (do
      let ov ← holding [v] (eval (.Name x pos') X.env)
      let iv ← holding [v, ov] (eval i X.env)
      standAt pos
      holding [v, ov, iv] (setItem ov iv v)
      release [v, ov, iv] []) := by intro _; rfl) (hd : (x == ("__debug__" : Str)) = false := by decide) (hcd : (x == ("__classdict__" : Str)) = false := by decide) : PDGS X Wx (.Subscript (.Name x pos') i pos) (gSubO n h) := by
  obtain ⟨ti, i1, i2⟩ := hi
  refine ⟨_, pg_sub (pe_var hN hv hd hcd) i1 set_list ha, fun B th ρ S σ H D d v rf r p => ?_⟩
  unfold gSubO at p
  split at p
  · rename_i ds0 e0
    obtain ⟨u, h1, h3⟩ := rf.re.sl n _ e0
    refine ⟨u, h1, ?_⟩
    refine i2.runS rf p fun k vk th2 S2 H2 rf2 r2 x2 p2 => ?_
    cases k with
    | int z =>
      cases e2 : ixN ds0.length z with
      | none => simp only [e2] at p2; exact p2.elim
      | some j =>
        simp only [e2] at p2
        obtain ⟨w, w1, w2⟩ := rf2.re.sl n _ e0
        obtain ⟨a, vs, f1, f2, f3, f4, f5, f6⟩ := w2
        rw [h1] at w1
        cases w1
        subst f1
        have rv : Rep (cn X) (B.w th2 ρ σ) H2 d v := Rep.mv (Xt.mv (W := B.w th ρ σ) x2) _ _ r
        obtain ⟨rf3, x3⟩ := rf2.wrO (ds' := ds0.set j d) (vs' := vs.set j v) e0 h1 (f3.set rv j) (by rw [List.length_set]; exact f6)
        exact ⟨a, vs, z, j, rfl, r2, f2, by rw [f3.len]; exact e2, p2 _ _ _ x3 rf3⟩
    | _ => exact p2.elim
  · exact p.elim
def gsNil : List D → DS := fun _ ρ S => .nx ρ S
def gsCons (gd : DG) (gs : List D → DS) : List D → DS := fun ds => match ds with
  | d :: ds => dSeq (gd d) (gs ds)
  | [] => fun _ _ => .bad
theorem pdgss_nil : PDGSs X Wx [] 0 gsNil := ⟨_, pgs_nil, fun B th ρ S σ H D ds vs rf r e p => by
  have e1 : ds = [] := List.length_eq_zero_iff.mp e
  subst e1
  exact ⟨r, p σ H th Xs.refl rf⟩⟩
theorem pdgss_cons {tg : Expr} {tgs : List Expr} {n : Nat} {gd : DG} {gs : List D → DS} (h1 : PDGS X Wx tg gd) (h2 : PDGSs X Wx tgs n gs)
    (hs : (assignEach (tg :: tgs) X.env).map (·.2) = assign tg X.env :: (assignEach tgs X.env).map (·.2) := by rfl) : PDGSs X Wx (tg :: tgs) (n + 1) (gsCons gd gs) := by
  obtain ⟨g, g1, g2⟩ := h1
  obtain ⟨u, u1, u2⟩ := h2
  refine ⟨_, pgs_cons g1 u1 hs, fun B th ρ S σ H D ds vs rf r e p => ?_⟩
  cases ds with
  | nil => cases e
  | cons d ds =>
    obtain ⟨v, q, rfl, r1, r2⟩ := r
    refine ⟨v, q, rfl, ?_⟩
    unfold gsCons at p
    unfold dSeq at p
    simp only at p
    refine g2 B th ρ S σ H { D with nx := fun σ' H' => u q σ' H' D.nx } d v rf r1 ?_
    cases e1 : gd d ρ S with
    | nx ρ' S' =>
      rw [e1] at p
      intro σ' H' th' x rf'
      refine u2 B th' ρ' S' σ' H' D ds q rf' ?_ (by simpa using e) (PostS.mono p x)
      refine Reps.mv ⟨fun a o q n => ?_, fun n a q => ?_⟩ _ _ r2
      · obtain ⟨k1, k2, k3⟩ := x.keep a o q (fun z => n (.inl z)) fun z => n (.inr (.inr z))
        exact ⟨k1, fun z => z.elim k2 fun z => z.elim (fun z => n (.inr (.inl z))) k3⟩
      · obtain ⟨l, e⟩ := x.th
        show th'[n]? = some a
        rw [e, List.getElem?_append_left (List.getElem?_eq_some_iff.mp q).1]
        exact q
    | rt d S' => rw [e1] at p; exact p
    | bk ρ' S' => rw [e1] at p; exact p
    | ct ρ' S' => rw [e1] at p; exact p
    | ex n y ρ' S' => rw [e1] at p; exact p
    | bad => rw [e1] at p; exact p.elim
def gTupD (n : Nat) (gs : List D → DS) : DG := fun d => match d with
  | .tup ds => if ds.length = n then gs ds else fun _ _ => .bad
  | _ => fun _ _ => .bad
theorem pdgs_tup {tgs : List Expr} {k n : Nat} {gs : List D → DS} (hc : X.calm = true) (h : PDGSs X Wx tgs n gs) (hn : (assignEach tgs X.env).length = n := by rfl) (hst : (assignEach tgs X.env).findIdx? (·.1) = none := by rfl) : PDGS X Wx (.Tuple tgs k pos) (gTupD n gs) := by
  obtain ⟨u, u1, u2⟩ := h
  refine ⟨_, pg_tup hc u1 hn hst, fun B th ρ S σ H D d v rf r p => ?_⟩
  cases d with
  | tup ds =>
    have p' : PostS (cn X) B th ρ σ H Wx D ((if ds.length = n then gs ds else fun _ _ => Rs.bad) ρ S) := p
    split at p'
    · rename_i hl
      obtain ⟨a, vs, rfl, ft, rr, z⟩ := r
      exact ⟨a, vs, rfl, ft.sq, by rw [rr.len, hl], u2 B th ρ S σ H D ds vs rf rr hl p'⟩
    · exact p'.elim
  | _ => exact p.elim
def dAsg (f : DE) (gd : DG) : DS := fun ρ S => (f ρ S).st ρ fun d S1 => gd d ρ S1
theorem pds_asg {tg e : Expr} {f : DE} {gd : DG} (he : PDE X Wx e f) (hg : PDGS X Wx tg gd) (hs : swapsWithSole [tg] e pos.line X.env = pure false := by rfl) (hw : swappedStores [tg] e X.env = pure none := by rfl)
    (h1 : (assignEach [tg] X.env).map (·.2) = [assign tg X.env] := by rfl) : PDS X Wx (.Assign [tg] e pos) (dAsg f gd) := by
  obtain ⟨t, t1, t2⟩ := he
  obtain ⟨g, g1, g2⟩ := hg
  refine ⟨_, ps_asg t1 g1 hs hw h1, fun B th ρ S σ H D rf p => ?_⟩
  exact t2.runS rf p fun d v th' S' H' rf' r x p' => g2 B th' ρ S' σ H' D d v rf' r p'
end
end DL

namespace DL
open PySem PySem.Spec PyProof.Rows L2
section
variable {X : Cx} {Wx : WX}
/-! ### calls -/
theorem pd_call0 {k j : Nat} {f : Addr} {den : List D → Sto → Out D} {x : Str} {p pos : Pos} (F : Fo X.prog X.w (cn X) X.base k f den) (hr : Room j X.A) (hkj : k ≤ j) (hm : X.mg x = some (.ref f)) (tk : Takes X Wx)
    (hg : Gl X x := by rfl) (hdb : (x == ("__debug__" : Str)) = false := by decide) : PDE X Wx (.Call (.Name x p) [] [] pos) (dCall den dNil) := by
  obtain ⟨fd, ps, ds, dvs, dds, den0, F1, b, v, r, rfl⟩ := F.ex
  refine ⟨fun σ H Q => spD (cn X) den0 ([] ++ dvs) H Q (WE Wx σ), ⟨fun pins s σ H Q I h => ?_⟩, fun W ρ S σ H Q re p => ?_⟩
  · refine wpAny_Call_Name_kw (ld_glob I hg hm ?_ hdb)
    exact PySem.W.callWith_K0 I.kIn F.kp (run_fnSD (us := []) F1 (hr.mono hkj) b v (passAt tk σ) I .nil h)
  · exact ⟨W, dds, S, re.rs, r _ _, p⟩
/-- a method, a plain def -/
structure ClsM (X : Cx) (c m : Str) (f : Addr) : Prop where
  ex : ∃ C, X.mg c = some (.ref C) ∧ Cls X.K C ∧ Meth X.K C m f
/-- among the methods -/
def dMeth (c m : Str) (den : List D → Sto → Out D) (o : DE) (g : DA) : DE := fun ρ S => (o ρ S).bind fun x S1 => match x with
  | .ref n => (match S1[n]? with
    | some (.ins k fs) => if k = c ∧ fs.lookup m = none then (g ρ S1).bind fun xs S2 => den (.ref n :: xs) S2 else .bad
    | _ => .bad)
  | _ => .bad
instance (fs : List (Str × D)) (m : Str) : Decidable (fs.lookup m = none) := match fs.lookup m with
  | none => .isTrue rfl
  | some _ => .isFalse fun h => by cases h
variable {k j : Nat} {f : Addr} {den : List D → Sto → Out D} {c m x : Str} {p pos apos kpos : Pos} {e o : Expr} {es : List Expr} {g : DA} {od : DE} {pl : Sem Bool}
theorem pd_meth (hM : ClsM X c m f) (F : Fo X.prog X.w (cn X) X.base k f den) (hr : Room j X.A) (hkj : k ≤ j) (tk : Takes X Wx) (ho : PDE X Wx o od) (ha : PDA X Wx (e :: es) g)
    (hst : starEach (e :: es) X.env = (false, eval e X.env) :: starEach es X.env := by rfl) (hpl : (backTo pos (starEach es X.env)).any (·.1) = false := by rfl)
    (ht : eval (.Call (.Attribute o m apos) (e :: es) [] pos) X.env = (do
      let ov ← eval o X.env
      standAt apos.atName
      let (f, first) ← holding [ov] (getMethod ov m pl)
      callWith pos f first (backTo pos (starEach (e :: es) X.env)) (backToKw pos (keywordEach [] X.env))) := by rfl) :
    PDE X Wx (.Call (.Attribute o m apos) (e :: es) [] pos) (dMeth c m den od g) := by
  obtain ⟨fd, ps, ds, dvs, dds, den0, F1, b, v, r, rfl⟩ := F.ex
  obtain ⟨C, hC, hc, hm⟩ := hM.ex
  obtain ⟨ta, a1, a2⟩ := ho
  obtain ⟨t, t1, t2⟩ := ha
  refine ⟨fun σ H Q => ta σ H fun x H1 => ∃ a dx fs, x = .ref a ∧ H1 a = some (.ins C dx fs) ∧ fs.lookup m = none ∧ t σ H1 fun vs H2 => spD (cn X) den0 ((x :: vs) ++ dvs) H2 Q (WE Wx σ), ⟨fun pins s σ H Q I h => ?_⟩, fun W ρ S σ H Q re p => ?_⟩
  · refine PySem.W.methodCall_KW (pl := pl) (thn (a1.run pins s σ H _ I h) fun u s1 ⟨x, H1, I1, rx, a, dx, fs, ex, ea, l, q⟩ => ?_) ht
    subst ex
    obtain rfl : u = Value.ref a := rx
    refine getmeth_ok I1 ea hc hm l ?_
    refine PySem.W.callWith_K (first := [.ref a]) (h₀ := X.base) I.ok.mod.kin hm.kp (thn (t1.run pos pins s1 σ H1 _ I1 q) fun us s2 ⟨vs, H2, I2, r, q2⟩ => ⟨I2.kIn, ?_⟩) hst hpl
    exact run_fnSD (us := .ref a :: us) (vs := .ref a :: vs) F1 (hr.mono hkj) b v (passAt tk σ) I2 (.cons rfl r) q2
  · refine a2.run re p fun x v th1 S1 H1 re1 r1 _ p1 => ?_
    cases x with
    | ref n =>
      cases e1 : S1[n]? with
      | none => simp only [e1] at p1; exact p1.elim
      | some ob =>
        cases ob with
        | lst ds => simp only [e1] at p1; exact p1.elim
        | tab _ _ => simp only [e1] at p1; exact p1.elim
        | dct => simp only [e1] at p1; exact p1.elim
        | ins k' fs =>
          simp only [e1] at p1
          split at p1
          · rename_i hk
            obtain ⟨a, C', dx, gs, h1, h2, h3, h4⟩ := re1.rs.ins e1
            obtain ⟨b', k1, rfl⟩ := r1
            cases h1.symm.trans k1
            rw [hk.1] at h2
            cases hC.symm.trans h2
            refine ⟨a, dx, gs, rfl, h3, h4.none hk.2, ?_⟩
            refine t2.run re1 p1 fun xs vs th2 S2 H2 re2 r2 x2 p2 => ?_
            exact ⟨W.to th2, (.ref n :: xs) ++ dds, S2, re2.rs, Reps.app (ds := .ref n :: xs) ⟨.ref a, vs, rfl, ⟨a, x2.get k1, rfl⟩, r2⟩ (r _ _), p2⟩
          · exact p1.elim
    | _ => exact p1.elim
theorem pd_meth0 (hM : ClsM X c m f) (F : Fo X.prog X.w (cn X) X.base k f den) (hr : Room j X.A) (hkj : k ≤ j) (tk : Takes X Wx) (ho : PDE X Wx o od)
    (ht : eval (.Call (.Attribute o m apos) [] [] pos) X.env = (do
      let ov ← eval o X.env
      standAt apos.atName
      let (f, first) ← holding [ov] (getMethod ov m pl)
      callWith pos f first (backTo pos (starEach [] X.env)) (backToKw pos (keywordEach [] X.env))) := by rfl) :
    PDE X Wx (.Call (.Attribute o m apos) [] [] pos) (dMeth c m den od dNil) := by
  obtain ⟨fd, ps, ds, dvs, dds, den0, F1, b, v, r, rfl⟩ := F.ex
  obtain ⟨C, hC, hc, hm⟩ := hM.ex
  obtain ⟨ta, a1, a2⟩ := ho
  refine ⟨fun σ H Q => ta σ H fun x H1 => ∃ a dx fs, x = .ref a ∧ H1 a = some (.ins C dx fs) ∧ fs.lookup m = none ∧ spD (cn X) den0 ([x] ++ dvs) H1 Q (WE Wx σ), ⟨fun pins s σ H Q I h => ?_⟩, fun W ρ S σ H Q re p => ?_⟩
  · refine PySem.W.methodCall_KW (pl := pl) (thn (a1.run pins s σ H _ I h) fun u s1 ⟨x, H1, I1, rx, a, dx, fs, ex, ea, l, q⟩ => ?_) ht
    subst ex
    obtain rfl : u = Value.ref a := rx
    refine getmeth_ok I1 ea hc hm l ?_
    exact PySem.W.callWith_K0 (first := [.ref a]) I1.kIn hm.kp (run_fnSD (us := [.ref a]) (vs := [.ref a]) F1 (hr.mono hkj) b v (passAt tk σ) I1 (.cons rfl .nil) q)
  · refine a2.run re p fun x v th1 S1 H1 re1 r1 _ p1 => ?_
    cases x with
    | ref n =>
      cases e1 : S1[n]? with
      | none => simp only [e1] at p1; exact p1.elim
      | some ob =>
        cases ob with
        | lst ds => simp only [e1] at p1; exact p1.elim
        | tab _ _ => simp only [e1] at p1; exact p1.elim
        | dct => simp only [e1] at p1; exact p1.elim
        | ins k' fs =>
          simp only [e1] at p1
          split at p1
          · rename_i hk
            obtain ⟨a, C', dx, gs, h1, h2, h3, h4⟩ := re1.rs.ins e1
            obtain ⟨b', k1, rfl⟩ := r1
            cases h1.symm.trans k1
            rw [hk.1] at h2
            cases hC.symm.trans h2
            refine ⟨a, dx, gs, rfl, h3, h4.none hk.2, ?_⟩
            exact ⟨W.to th1, .ref n :: dds, S1, re1.rs, ⟨.ref a, dvs, rfl, ⟨a, k1, rfl⟩, r _ _⟩, p1⟩
          · exact p1.elim
    | _ => exact p1.elim
/-- o.m(k = e): by keywords alone, in the parameters' order -/
theorem pd_methK {kws : List Keyword} {ks : List Str} (hM : ClsM X c m f) {fd : FuncData} {ps : List Str} (F1 : FnOk X.prog X.w X.K X.mg X.base (L2.CX X.prog X.w) k f fd ps (spD (cn X) den)) (hb : ∀ (s : Shared) (a : Value) (ws : List Value), X.K.In s.heap → ([a] ++ ws).length = ps.length → BindsTo s fd ⟨[a], ks.zip ws⟩ (ps.zip ([a] ++ ws))) (hr : Room j X.A) (hkj : k ≤ j) (tk : Takes X Wx) (ho : PDE X Wx o od)
    (hkw : ∃ t, PK X kws t ∧ Snd X Wx (rDs X) g t) (hall : (backToKw pos (keywordEach kws X.env)).all (·.1.isSome) = true := by rfl) (hks : (backToKw pos (keywordEach kws X.env)).filterMap (·.1) = ks := by rfl)
    (hpl : ((backTo pos (starEach [] X.env)).any (·.1) || (backToKw pos (keywordEach kws X.env)).any (·.1.isNone)) = false := by rfl)
    (ht : eval (.Call (.Attribute o m apos) [] kws pos) X.env = (do
      let ov ← eval o X.env
      standAt apos.atName
      let (f, first) ← holding [ov] (getMethod ov m pl)
      callWith pos f first (backTo pos (starEach [] X.env)) (backToKw pos (keywordEach kws X.env))) := by rfl) :
    PDE X Wx (.Call (.Attribute o m apos) [] kws pos) (dMeth c m den od g) := by
  obtain ⟨C, hC, hc, hm⟩ := hM.ex
  obtain ⟨ta, a1, a2⟩ := ho
  obtain ⟨t, t1, t2⟩ := hkw
  refine ⟨fun σ H Q => ta σ H fun x H1 => ∃ a dx fs, x = .ref a ∧ H1 a = some (.ins C dx fs) ∧ fs.lookup m = none ∧ t σ H1 fun vs H2 => spD (cn X) den ([x] ++ vs) H2 Q (WE Wx σ), ⟨fun pins s σ H Q I h => ?_⟩, fun W ρ S σ H Q re p => ?_⟩
  · refine PySem.W.methodCall_KW (pl := pl) (thn (a1.run pins s σ H _ I h) fun u s1 ⟨x, H1, I1, rx, a, dx, fs, ex, ea, l, q⟩ => ?_) ht
    subst ex
    obtain rfl : u = Value.ref a := rx
    refine getmeth_ok I1 ea hc hm l ?_
    refine PySem.W.callWith_KW0 (first := [.ref a]) (h₀ := X.base) I.ok.mod.kin hm.kp hall (thn (t1.run pos pins s1 σ H1 _ I1 q) fun ws s2 ⟨zs, H2, I2, rz, q2⟩ => ⟨I2.kIn, ?_⟩) hpl
    rw [hks]
    have r2 : Vals ([V.ref a] ++ zs) ([Value.ref a] ++ ws) := .cons rfl rz
    have hl : ([Value.ref a] ++ ws).length = ps.length := by rw [← r2.length]; exact F1.len _ _ _ _ q2
    refine wpAny_call (codeAny_mono (F1.run X.A X.stack s2 H2 ⟨[.ref a], ks.zip ws⟩ ([.ref a] ++ ws) ([.ref a] ++ zs) Q (WE Wx σ) (hr.mono hkj) I2.env0 (hb s2 (.ref a) ws I2.kIn hl) r2 q2) fun r s' hq => ?_)
    cases r with
    | error e => exact passAt tk σ pins H2 s2 e s' I2 hq
    | ok fl =>
      cases fl with
      | ret u => exact I2.after hq
      | next => exact False.elim hq
      | brk => exact False.elim hq
      | cont => exact False.elim hq
  · refine a2.run re p fun x v th1 S1 H1 re1 r1 _ p1 => ?_
    cases x with
    | ref n =>
      cases e1 : S1[n]? with
      | none => simp only [e1] at p1; exact p1.elim
      | some ob =>
        cases ob with
        | lst ds => simp only [e1] at p1; exact p1.elim
        | tab _ _ => simp only [e1] at p1; exact p1.elim
        | dct => simp only [e1] at p1; exact p1.elim
        | ins k' fs =>
          simp only [e1] at p1
          split at p1
          · rename_i hk
            obtain ⟨a, C', dx, gs, h1, h2, h3, h4⟩ := re1.rs.ins e1
            obtain ⟨b', k1, rfl⟩ := r1
            cases h1.symm.trans k1
            rw [hk.1] at h2
            cases hC.symm.trans h2
            refine ⟨a, dx, gs, rfl, h3, h4.none hk.2, ?_⟩
            refine t2.run re1 p1 fun xs vs th2 S2 H2 re2 r2 x2 p2 => ?_
            exact ⟨W.to th2, .ref n :: xs, S2, re2.rs, ⟨.ref a, vs, rfl, ⟨a, x2.get k1, rfl⟩, r2⟩, p2⟩
          · exact p1.elim
    | _ => exact p1.elim
/-- the keywords' values -/
theorem pdk_nil : ∃ t, PK X [] t ∧ Snd X Wx (rDs X) dNil t := ⟨_, pk_nil, snd_nil⟩
theorem pdk_cons {nm : Option Str} {fe : DE} {kws : List Keyword} (he : PDE X Wx e fe) (hr : ∃ t, PK X kws t ∧ Snd X Wx (rDs X) g t) : ∃ t, PK X (⟨nm, e, kpos⟩ :: kws) t ∧ Snd X Wx (rDs X) (dCons fe g) t := by
  obtain ⟨te, a1, a2⟩ := he
  obtain ⟨t, b1, b2⟩ := hr
  exact ⟨_, pk_cons a1 b1, snd_cons a2 b2⟩
/-! ### instances made -/
structure ClsN (X : Cx) (c : Str) (f : Addr) : Prop where
  ex : ∃ C, X.mg c = some (.ref C) ∧ Mk X.K C f
def mkD (c : Str) (den : List D → Sto → Out D) (xs : List D) (S : Sto) : Out D := (den (.ref S.length :: xs) (S ++ [.ins c []])).bind fun d S2 => match d with
  | .non => .ok (.ref S.length) S2
  | _ => .bad
def dMake (c : Str) (den : List D → Sto → Out D) (g : DA) : DE := fun ρ S => (g ρ S).bind (mkD c den)
theorem mk_sp {C x dx : Addr} {den0 : List D → Sto → Out D} {dvs : List V} {dds : List D} {vs : List V} {xs : List D} {σ : L2.St} {H : Hp} {Q : VK} {W : Wd} {S : Sto} (hC : X.mg c = some (.ref C)) (rd : ∀ W H, Reps (cn X) W H dds dvs)
    (rs : RS (cn X) W S H) (rr : Reps (cn X) W H xs vs) (p : Post (cn X) W H (fun e d H' => Wx e d σ H') (rD X) Q (mkD c (fun zs S => den0 (zs ++ dds) S) xs S)) (hx : H x = none) (hdx : H dx = none) (hne : dx ≠ x) :
    spD (cn X) den0 (V.ref x :: (vs ++ dvs)) (upd (upd H dx (.own x)) x (.ins C dx [])) (fun v H2 => v = .non ∧ Q (.ref x) H2) (WE Wx σ) := by
  have x0 : Xt W.th H W.th (upd H dx (.own x)) := Xt.new hdx
  have rs0 : RS (cn X) W S (upd H dx (.own x)) := rs.new hdx
  have hx0 : upd H dx (.own x) x = none := by rw [upd_ne (Ne.symm hne)]; exact hx
  obtain ⟨rs1, x1⟩ := rs0.push (a := x) (o := .ins c []) (u := .ins C dx []) hx0 ⟨C, dx, [], hC, upd_same, rfl⟩
  have x2 := x0.trans x1
  have hwx : (W.th ++ [x])[S.length]? = some x := by rw [List.getElem?_append_right (by rw [rs.len]; omega), rs.len]; simp
  refine ⟨W.to (W.th ++ [x]), .ref S.length :: (xs ++ dds), S ++ [.ins c []], rs1, ⟨.ref x, vs ++ dvs, rfl, ⟨x, hwx, rfl⟩, (Reps.mv x2.mv _ _ rr).app (rd _ _)⟩, ?_⟩
  unfold mkD at p
  simp only [List.cons_append] at p
  cases e : den0 (.ref S.length :: (xs ++ dds)) (S ++ [.ins c []]) with
  | ok d S2 =>
    rw [e] at p
    intro b th' H' x3 rs3 rb
    cases d with
    | non =>
      cases (show b = V.non from rb)
      exact ⟨rfl, p (.ref x) th' H' (x2.trans x3) rs3 ⟨x, x3.get hwx, rfl⟩⟩
    | _ => exact p.elim
  | exc n y S2 =>
    rw [e] at p
    exact fun C' d th' H' hm x3 rs3 xr => p C' d th' H' hm (x2.trans x3) rs3 xr
  | bad =>
    rw [e] at p
    exact p.elim
theorem run_mk {C : Addr} {den0 : List D → Sto → Out D} {fd : FuncData} {ps : List Str} {dvs : List V} {ds us : List Value} {vs : List V} {pins : List (Addr × Obj)} {s : Shared} {σ : L2.St} {H : Hp} {Q : VK} (M : Mk X.K C f)
    (F : FnOk X.prog X.w X.K X.mg X.base (L2.CX X.prog X.w) k f fd ps (spD (cn X) den0)) (hr : Room (k + 1) X.A) (hb : Binds X.K fd ps ds) (hd : Vals dvs ds) (tk : Takes X Wx) (I : Inv X pins σ H s) (r : Vals vs us)
    (h : ∀ x dx, H x = none → H dx = none → dx ≠ x → spD (cn X) den0 (.ref x :: (vs ++ dvs)) (upd (upd H dx (.own x)) x (.ins C dx [])) (fun v H2 => v = .non ∧ Q (.ref x) H2) (WE Wx σ)) :
    wpAny (model X.prog X.w) X.A (call (.ref C) us) (EP X pins σ Q) X.xe s := by
  have hq := h (s.heap.objs.size + 1) s.heap.objs.size (I.hok.fresh (Nat.le_succ _)) (I.hok.fresh (Nat.le_refl _)) (Nat.ne_of_lt (Nat.lt_succ_self _))
  have I2 := Inv.made (C := C) I
  have r2 : Vals (V.ref (s.heap.objs.size + 1) :: (vs ++ dvs)) (Value.ref (s.heap.objs.size + 1) :: (us ++ ds)) := .cons rfl (r.append hd)
  have hl : (Value.ref (s.heap.objs.size + 1) :: us ++ ds).length = ps.length := by
    have e := r2.length
    rw [F.len _ _ _ _ hq] at e
    exact e.symm
  refine wpAny_call (make_map (f := f) I.kIn M.makes M.init (beq_iff_eq.mp M.fn) (codeAny_mono (F.run _ X.stack _ _ ⟨Value.ref (s.heap.objs.size + 1) :: us, []⟩ (Value.ref (s.heap.objs.size + 1) :: (us ++ ds)) _ _ (WE Wx σ) (hr.make C us [])
    (I2.env0.make C us []) (hb _ (Value.ref (s.heap.objs.size + 1) :: us) I2.kIn hl) r2 hq) fun r s' hq' => ?_))
  cases r with
  | error e => exact passAt tk σ pins _ _ e s' I2 hq'
  | ok fl =>
    cases fl with
    | ret u =>
      obtain ⟨v, H', I3, rv, ev, q3⟩ := I2.after hq'
      subst ev
      exact ⟨rv, ⟨V.ref (s.heap.objs.size + 1), H', I3, rfl, q3⟩⟩
    | next => exact False.elim hq'
    | brk => exact False.elim hq'
    | cont => exact False.elim hq'
theorem pd_make0 (hN : ClsN X c f) (F : Fo X.prog X.w (cn X) X.base k f den) (hr : Room j X.A) (hkj : k + 1 ≤ j) (tk : Takes X Wx) (hg : Gl X c := by rfl) (hdb : (c == ("__debug__" : Str)) = false := by decide) : PDE X Wx (.Call (.Name c p) [] [] pos) (dMake c den dNil) := by
  obtain ⟨fd, ps, ds, dvs, dds, den0, F1, b, v, r, rfl⟩ := F.ex
  obtain ⟨C, hC, M⟩ := hN.ex
  refine ⟨fun σ H Q => ∀ x dx, H x = none → H dx = none → dx ≠ x → spD (cn X) den0 (.ref x :: ([] ++ dvs)) (upd (upd H dx (.own x)) x (.ins C dx [])) (fun v H2 => v = .non ∧ Q (.ref x) H2) (WE Wx σ), ⟨fun pins s σ H Q I h => ?_⟩, fun W ρ S σ H Q re p => ?_⟩
  · refine wpAny_Call_Name_kw (ld_glob I hg hC ?_ hdb)
    exact PySem.W.callWith_K0 I.kIn M.kp (run_mk (us := []) M F1 (hr.mono hkj) b v tk I .nil h)
  · intro x dx hx hdx hne
    exact mk_sp (vs := []) (xs := []) hC r re.rs rfl p hx hdx hne
theorem pd_make (hN : ClsN X c f) (F : Fo X.prog X.w (cn X) X.base k f den) (hr : Room j X.A) (hkj : k + 1 ≤ j) (tk : Takes X Wx) (ha : PDA X Wx (e :: es) g) (hg : Gl X c := by rfl) (hdb : (c == ("__debug__" : Str)) = false := by decide)
    (he : starEach (e :: es) X.env = (false, eval e X.env) :: starEach es X.env := by rfl) (hpl : (backTo pos (starEach es X.env)).any (·.1) = false := by rfl) : PDE X Wx (.Call (.Name c p) (e :: es) [] pos) (dMake c den g) := by
  obtain ⟨fd, ps, ds, dvs, dds, den0, F1, b, v, r, rfl⟩ := F.ex
  obtain ⟨C, hC, M⟩ := hN.ex
  obtain ⟨t, t1, t2⟩ := ha
  refine ⟨fun σ H Q => t σ H fun vs H1 => ∀ x dx, H1 x = none → H1 dx = none → dx ≠ x → spD (cn X) den0 (.ref x :: (vs ++ dvs)) (upd (upd H1 dx (.own x)) x (.ins C dx [])) (fun v H2 => v = .non ∧ Q (.ref x) H2) (WE Wx σ), ⟨fun pins s σ H Q I h => ?_⟩, fun W ρ S σ H Q re p => ?_⟩
  · refine wpAny_Call_Name_kw (ld_glob I hg hC ?_ hdb)
    refine PySem.W.callWith_K (h₀ := X.base) I.ok.mod.kin M.kp (thn (t1.run pos pins s σ H _ I h) fun us s1 ⟨vs, H1, I1, r, q⟩ => ⟨I1.kIn, ?_⟩) he hpl
    exact run_mk M F1 (hr.mono hkj) b v tk I1 r q
  · refine t2.run re p fun xs vs th1 S1 H1 re1 r1 _ p1 => ?_
    intro x dx hx hdx hne
    exact mk_sp hC r re1.rs r1 p1 hx hdx hne
end
end DL

namespace DL
open PySem PySem.Spec PyProof.Rows L2
section
variable {X : Cx} {Wx : WX}
/-! ### types -/
inductive Tg where
  | ty (n : String) | own (c : Str)
deriving DecidableEq
def tagS (S : Sto) : D → Option Tg
  | .non => some (.ty "NoneType")
  | .bl _ => some (.ty "bool")
  | .int _ => some (.ty "int")
  | .str _ => some (.ty "str")
  | .tup _ => some (.ty "tuple")
  | .lst _ => some (.ty "list")
  | .ref n => (match S[n]? with
    | some (.lst _) => some (.ty "list")
    | some (.ins c _) => some (.own c)
    | some .dct => some (.ty "dict")
    | some (.tab _ _) => none
    | none => none)
  | _ => none
/-- what is asked of a class that its instances' type is told -/
structure TyC (X : Cx) (c : Str) : Prop where
  ok : ∀ C, X.mg c = some (.ref C) → Cls X.K C ∧ PySem.W.findIn X.K (.ref C) "__class__" = some (some (.builtin "object.__class__")) ∧ PySem.W.specialIn X.K (.builtin "object.__class__") "__get__" = some (some (.builtin "getset_descriptor.__get__")) ∧ PySem.W.takesIn X.K (.builtin "object.__class__") = some true ∧ PySem.W.mroIn X.K C (.type "object") = some true
def TgV (X : Cx) (t : Tg) (v : Value) : Prop := match t with
  | .ty n => v = .type n
  | .own c => ∃ C, X.mg c = some (.ref C) ∧ v = .ref C
theorem tyx_lst {W : Wd} {S : Sto} {H : Hp} {a : Addr} {vs : List V} (h : SqL X.K H a vs) : TyX X.K H (.ref a) (.type "list") := by
  rcases h with (h | ⟨ob, h⟩) | ⟨o, its, n, k1, k2, _⟩
  · exact .base (.lst h)
  · exact .base (.frz h)
  · exact .kList k1 k2
theorem tyx_of {W : Wd} {S : Sto} {H : Hp} {d : D} {v : V} {t : Tg} (rs : RS (cn X) W S H) (r : rP X W H d v) (h : tagS S d = some t) (hc : ∀ c, t = .own c → TyC X c) : ∃ tv, TyX X.K H v tv ∧ TgV X t tv := by
  cases d with
  | non =>
    cases h
    rcases r with r | ⟨_, _, _, e, _⟩
    · cases (show v = V.non from r); exact ⟨_, .base .non, rfl⟩
    · cases e
  | bl b => cases h; cases r.bl; exact ⟨_, .base (.bl b), rfl⟩
  | int b => cases h; cases r.int; exact ⟨_, .base (.int b), rfl⟩
  | str b => cases h; cases r.str; exact ⟨_, .base (.str b), rfl⟩
  | tup ds =>
    cases h
    obtain ⟨a, vs, rfl, f, _⟩ := r.tup
    rcases f with ⟨f | ⟨ob, f⟩, _⟩ | ⟨o, its, n, k1, k2, _⟩
    · exact ⟨_, .base (.tup f), rfl⟩
    · exact ⟨_, .fTuple f, rfl⟩
    · exact ⟨_, .kTuple k1 k2, rfl⟩
  | lst ds =>
    cases h
    obtain ⟨a, vs, rfl, f, _⟩ := r.lst rs (show lstS S (.lst ds) = some ds from rfl)
    exact ⟨_, tyx_lst (W := W) (S := S) f, rfl⟩
  | ref n =>
    cases e : S[n]? with
    | none => simp only [tagS, e] at h; cases h
    | some ob =>
      cases ob with
      | lst ds =>
        simp only [tagS, e] at h
        cases h
        obtain ⟨a, vs, rfl, f, _⟩ := r.lst rs (show lstS S (.ref n) = some ds by simp only [lstS, e])
        exact ⟨_, tyx_lst (W := W) (S := S) f, rfl⟩
      | ins c fs =>
        simp only [tagS, e] at h
        cases h
        obtain ⟨a, C, dx, gs, h1, h2, h3, h4⟩ := rs.ins e
        rcases r with r | ⟨_, _, _, e, _⟩
        · obtain ⟨b, k1, rfl⟩ := r
          cases h1.symm.trans k1
          obtain ⟨q1, q2, q3, q4, q5⟩ := (hc c rfl).ok C h2
          exact ⟨_, .base (.ins h3 q1 q2 q3 q4 q5), C, h2, rfl⟩
        · cases e
      | tab p q => simp only [tagS, e] at h; cases h
      | dct =>
        simp only [tagS, e] at h
        cases h
        obtain ⟨a, h1, h2⟩ := rs.ob n _ e
        rcases r with r | ⟨_, _, _, e, _⟩
        · obtain ⟨b, k1, rfl⟩ := r
          cases h1.symm.trans k1
          exact ⟨_, .base (.dK h2), rfl⟩
        · cases e
  | nm x => cases h
  | ty n => cases h
/-! ### isinstance(x, c) -/
abbrev ITab := List (Tg × Bool)
structure IsC (X : Cx) (c : D) (tab : ITab) : Prop where
  ex : ∃ (cv : V) (u : Value), ClsV cv u ∧ (∀ W H v, Rep (cn X) W H c v → v = cv) ∧ ∀ t b tv, tab.lookup t = some b → TgV X t tv → PySem.W.kitOne X.K tv u = some b
  own : ∀ c b, tab.lookup (.own c) = some b → TyC X c
def sameC : D → D → Bool
  | .ty a, .ty b => a == b
  | .nm a, .nm b => a == b
  | _, _ => false
theorem sameC_eq {a b : D} (h : sameC a b = true) : a = b := by
  cases a <;> cases b <;> first | cases h | (have := eq_of_beq h; rw [this])
def oIsi (c : D) (tab : ITab) : List D → Sto → Out D
  | [x, y], S => if sameC y c then (match tagS S x with
    | some t => (match tab.lookup t with
      | some b => .ok (.bl b) S
      | none => .bad)
    | none => .bad) else .bad
  | _, _ => .bad
theorem rc_isi {c : D} {tab : ITab} (hC : IsC X c tab) : RCallP X (rIsi X.K) (oIsi c tab) := by
  intro W S ds vs H Q Wy rs r p0
  match ds, r, p0 with
  | [x, y], r, p =>
    obtain ⟨v, w, rfl, r1, r2⟩ := rps2 r
    simp only [oIsi] at p
    split at p
    · rename_i hy
      have ey := sameC_eq hy
      subst ey
      cases e : tagS S x with
      | none => simp only [e] at p; exact p.elim
      | some t =>
        cases e2 : tab.lookup t with
        | none => simp only [e, e2] at p; exact p.elim
        | some b =>
          simp only [e, e2] at p
          obtain ⟨cv, u, h1, h2, h3⟩ := hC.ex
          obtain ⟨tv, q1, q2⟩ := tyx_of rs r1 e fun c hc => by subst hc; exact hC.own c b e2
          have r2' : Rep (cn X) W H y w := by
            rcases r2 with r2 | ⟨_, _, _, e, _⟩
            · exact r2
            · subst e; cases hy
          cases h2 W H w r2'
          exact ⟨v, _, tv, u, b, rfl, h1, q1, h3 t b tv e2 q2, post_same rs p rfl⟩
    · exact p.elim
  | [], _, p => exact p.elim
  | [_], _, p => exact p.elim
  | _ :: _ :: _ :: _, _, p => exact p.elim
theorem pd_isi {c : D} {tab : ITab} {p pos : Pos} {e : Expr} {es : List Expr} {g : DA} (hC : IsC X c tab) (hm : X.mg "isinstance" = none) (ha : PDAP X Wx (e :: es) g) (hg : Gl X "isinstance" := by rfl) (he : starEach (e :: es) X.env = (false, eval e X.env) :: starEach es X.env := by rfl) (hpl : (backTo pos (starEach es X.env)).any (·.1) = false := by rfl) :
    PDE X Wx (.Call (.Name "isinstance" p) (e :: es) [] pos) (dCB (oIsi c tab) g) := pd_bltn call_isi (rc_isi hC) hm ha (.inl ⟨_, rfl⟩) (hg := hg) (he := he) (hpl := hpl)
/-- of a built-in class -/
def tyTab (T : String) : ITab := ["NoneType", "bool", "int", "str", "tuple", "list", "dict"].filterMap fun n => (kitB n T).map fun b => (.ty n, b)
theorem tyTab_lookup {T : String} : ∀ {l : List String} {t : Tg} {b : Bool}, (l.filterMap fun n => (kitB n T).map fun b => (Tg.ty n, b)).lookup t = some b → ∃ n, t = .ty n ∧ kitB n T = some b
  | [], _, _, h => by cases h
  | n :: l, t, b, h => by
    rw [List.filterMap_cons] at h
    cases e : kitB n T with
    | none => rw [e] at h; exact tyTab_lookup (l := l) h
    | some k =>
      rw [e] at h
      simp only [Option.map_some] at h
      rw [List.lookup_cons] at h
      cases q : t == Tg.ty n with
      | true => rw [q] at h; cases h; exact ⟨n, eq_of_beq q, e⟩
      | false => rw [q] at h; exact tyTab_lookup (l := l) h
theorem isC_ty (T : String) : IsC X (.ty T) (tyTab T) := by
  refine ⟨⟨.ty T, .type T, .ty T, fun _ _ _ r => r, fun t b tv h k => ?_⟩, fun c b h => ?_⟩
  · obtain ⟨n, rfl, q⟩ := tyTab_lookup h
    cases (show tv = .type n from k)
    exact kit_ty q
  · obtain ⟨n, e, _⟩ := tyTab_lookup h
    cases e
/-! ### an own == -/
structure EqC (X : Cx) (c : Str) (f : Addr) (tags : List String) : Prop where
  ex : ∃ C, X.mg c = some (.ref C) ∧ PySem.W.findIn X.K (.ref C) "__eq__" = some (some (.ref f)) ∧ PySem.W.isFn X.K (.ref f) = true ∧ PySem.W.findIn X.K (.ref C) "__ne__" = some (some (.builtin "object.__ne__")) ∧
    PySem.W.mroIn X.K C (.type "object") = some true ∧ ∀ T ∈ tags, PySem.W.subIn X.K (.type T) (.ref C) = some false
  tyc : TyC X c
def tagOk (c : Str) (tags : List String) : Option Tg → Bool
  | some (.ty T) => tags.contains T
  | some (.own k) => k == c
  | none => false
def oOwnEq (c : Str) (tags : List String) (den : List D → Sto → Out D) (neg : Bool) : D → D → Sto → Out D := fun x y S => match x with
  | .ref n => (match S[n]? with
    | some (.ins k fs) => if k = c ∧ tagOk c tags (tagS S y) = true then (den [.ref n, y] S).nx.bind fun d S2 => (match d with
        | .bl b => .ok (.bl (if neg then !b else b)) S2
        | _ => .bad) else .bad
    | _ => .bad)
  | _ => .bad
end
/-! the library's level: != by object.__ne__, which asks the own == -/
section
variable {prog : Program} {w : World} {A : Around} {E : Value → Shared → Prop} {s : Shared} {K : PySem.W.Frag} {x C f : Addr} {b tb : Value} {ox : Obj} {od : Option Obj} {h₀ : Heap}
theorem ifBound_objNe {M : Model} {args : List Value} {Q : Option Value → Shared → Prop} (X : K.In s.heap) (I : PySem.W.InstAt s.heap x ox C od) (hs : PySem.W.findIn K (.ref C) "__ne__" = some (some (.builtin "object.__ne__")))
    (h : wpAny M A (call (.builtin "object.__ne__") (.ref x :: args)) (fun v => Q (some v)) E s) : wpAny M A (callSpecialIfBound? (.ref x) "__ne__" args) Q E s := by
  simp only [callSpecialIfBound?, bindSpecialIfBound?]
  refine wpAny_holding (wpAny_bind (wpAny_bind (wpAny_bind (I.type.here ((PySem.W.looks_findIn X hs).here ?_)))))
  refine wpAny_bind (wpAny_askSetting (wpAny_ite ?_))
  have fin : wpAny M A (call (.builtin "object.__ne__") ([.ref x] ++ args) >>= fun v => pure (some v)) Q E s := wpAny_bind (wpAny_mono h (fun v s' h' => wpAny_pure h') fun _ _ h' => h')
  split
  · exact wpAny_bind (wpAny_of_eq (F.cmp_object.ne.bind _) (wpAny_pure (by exact fin)))
  · exact wpAny_tryCatch (wpAny_bind (wpAny_of_eq (F.cmp_object.ne.bind _) (wpAny_pure (by exact fin))))
theorem entry_objNe {M : Model} {Q : Fin → Shared → Prop} (hu : A.units < cLine) (X : K.In s.heap) (I : PySem.W.InstAt s.heap x ox C od) (hs : PySem.W.findIn K (.ref C) "__eq__" = some (some (.ref f))) (hf : PySem.W.isFn K (.ref f) = true)
    (h : wpAny M A (call (.ref f) [.ref x, b]) (fun v s' => ∃ k, v = .bool k ∧ Q (.done (.ret (.bool (!k)))) s') E s) : wpAny M A (Builtin.«object.__ne__» ⟨[.ref x, b], []⟩) Q E s := by
  unfold Builtin.«object.__ne__»
  have one : wpAny M A (callSpecialIfBound? (.ref x) "__eq__" [b]) (fun r s' => ∃ k, r = some (.bool k) ∧ Q (.done (.ret (.bool (!k)))) s') E s :=
    PySem.W.ifBound_K X I hs hf (wpAny_mono h (fun v s' ⟨k, e, q⟩ => ⟨k, by rw [e], q⟩) fun _ _ e => e)
  repeat (first | with_reducible refine wpAny_cRoomFor hu ?_ | (with_reducible refine wpAny_bind (m := callSpecialIfBound? _ _ _) (wpAny_mono one (fun r s' z => ?_) fun _ _ e => e)) | wp_step)
  obtain ⟨k, rfl, q⟩ := z
  exact wpAny_bind (wpAny_truthy_bool (wpAny_pure q))
theorem call_objNe {Q : Value → Shared → Prop} (hu : A.in1.units < cLine) (X : K.In s.heap) (I : PySem.W.InstAt s.heap x ox C od) (hm : PySem.W.mroIn K C (.type "object") = some true) (hs : PySem.W.findIn K (.ref C) "__eq__" = some (some (.ref f))) (hf : PySem.W.isFn K (.ref f) = true)
    (h : wpAny (model prog w) A.in1 (call (.ref f) [.ref x, b]) (fun v s' => ∃ k, v = .bool k ∧ Q (.bool (!k)) s') E s) : wpAny (model prog w) A (call (.builtin "object.__ne__") [.ref x, b]) Q E s :=
  wpAny_call (codeAny_call_builtin F.cmp_object.ne.plain F.cmpEntry_ne (PySem.W.check_slot F.cmpKind_ne F.cmpSplit_ne (I.type.andThen (PySem.W.looks_mroIn X hm)) (F.cmpArgs_ne _ _) (entry_objNe hu X I hs hf (wpAny_mono h (fun v s' z => z) fun _ _ e => e))))
theorem cmp_objNe {Q : Value → Shared → Prop} (hu : A.in1.units < cLine) (hu0 : A.units < cLine) (X : K.In s.heap) (I : PySem.W.InstAt s.heap x ox C od) (hb : PySem.W.Looks (model prog w) s.heap (typeOf b) tb) (hn : PySem.W.notFirst K C tb = true) (hm : PySem.W.mroIn K C (.type "object") = some true)
    (hne : PySem.W.findIn K (.ref C) "__ne__" = some (some (.builtin "object.__ne__"))) (hs : PySem.W.findIn K (.ref C) "__eq__" = some (some (.ref f))) (hf : PySem.W.isFn K (.ref f) = true)
    (h : wpAny (model prog w) A.in1 (call (.ref f) [.ref x, b]) (fun v s' => ∃ k, v = .bool k ∧ Q (.bool (!k)) s') E s) : wpAny (model prog w) A (richCompare .NotEq (.ref x) b) Q E s := by
  have one : wpAny (model prog w) A (tryCompare (.ref x) "__ne__" b) (fun r s' => ∃ v, r = some v ∧ Q v s') E s := by
    unfold tryCompare
    refine wpAny_bind (ifBound_objNe X I hne (call_objNe (Q := fun v s' => wpAny (model prog w) A (match some v with
      | some .notImplemented | none => pure none
      | some v => pure (some v)) (fun r s' => ∃ v, r = some v ∧ Q v s') E s') hu X I hm hs hf (wpAny_mono h (fun v s' z => ?_) fun _ _ e => e)))
    obtain ⟨k, e, q⟩ := z
    exact ⟨k, e, wpAny_pure ⟨_, rfl, q⟩⟩
  simp only [richCompare, cmpInfo_NotEq, oneThing_ref]
  refine wpAny_holding (wpAny_bind (wpAny_cRoomFor hu0 ?_))
  refine wpAny_bind (I.type.here (wpAny_bind (hb.here ?_)))
  split
  · rename_i q
    have e : PySem.W.subIn K tb (.ref C) = some false := by
      rcases Bool.or_eq_true_iff.mp hn with e | e
      · rw [beq_iff_eq.mp e] at q; simp at q
      · exact beq_iff_eq.mp e
    refine wpAny_bind ((PySem.W.looks_subIn X e).here ?_)
    simp only [Bool.false_eq_true, if_false]
    refine wpAny_bind (wpAny_mono one (fun r s' z => ?_) fun _ _ e => e)
    obtain ⟨v, rfl, hq⟩ := z
    exact wpAny_pure hq
  · refine wpAny_bind (wpAny_pure ?_)
    simp only [Bool.false_eq_true, if_false]
    refine wpAny_bind (wpAny_mono one (fun r s' z => ?_) fun _ _ e => e)
    obtain ⟨v, rfl, hq⟩ := z
    exact wpAny_pure hq
end
section
variable {X : Cx} {Wx : WX} {k j : Nat} {C f : Addr} {den : List D → Sto → Out D} {fd : FuncData} {ps : List Str}
def rOwn (X : Cx) (C : Addr) (den : List D → Sto → Out D) (neg : Bool) : R2 := fun x y H Q => ∃ a dx fs t, x = .ref a ∧ H a = some (.ins C dx fs) ∧ TyX X.K H y t ∧ PySem.W.notFirst X.K C t = true ∧
  spD (cn X) den [x, y] H (fun v H' => ∃ b, v = .bl b ∧ Q (.bl (if neg then !b else b)) H') (fun _ _ _ => False)
theorem run_own {A : Around} {pins : List (Addr × Obj)} {s : Shared} {σ : L2.St} {H : Hp} {x y : V} {u v : Value} {Q : VK} (F : FnOk X.prog X.w X.K X.mg X.base (L2.CX X.prog X.w) k f fd ps (spD (cn X) den)) (hb : Binds X.K fd ps []) (hr : Room k A) (hfr : A.frames = X.A.frames) (I : Inv X pins σ H s)
    (rx : RelV x u) (ry : RelV y v) (h : spD (cn X) den [x, y] H (fun v H' => ∃ b, v = .bl b ∧ Q (.bl b) H') (fun _ _ _ => False)) : wpAny (model X.prog X.w) A (call (.ref f) [u, v]) (fun w s' => ∃ b, w = .bool b ∧ EP X pins σ Q (.bool b) s') X.xe s := by
  have e0 : Env0 X.prog X.w X.K X.mg X.base A X.stack s H := by
    have e := I.env0
    exact ⟨by rw [hfr]; exact e.frames, e.mod, e.bs, e.bsz, e.funs, e.frf, e.hok, e.bare⟩
  have hl := F.len _ _ _ _ h
  have r2 : Vals [x, y] [u, v] := .cons rx (.cons ry .nil)
  refine wpAny_call (codeAny_mono (F.run A X.stack s H ⟨[u, v], []⟩ [u, v] [x, y] _ _ hr e0 (by
    have := hb s [u, v] I.kIn (by simpa using hl)
    simpa using this) r2 h) fun r s' hq => ?_)
  cases r with
  | error e =>
    obtain ⟨_, _, _, _, _, _, _, _, _, _, _, _, q⟩ := hq
    exact q.elim
  | ok fl =>
    cases fl with
    | ret w =>
      obtain ⟨z, H', I', rz, b, ez, q⟩ := I.after hq
      subst ez
      cases rz
      exact ⟨b, rfl, .bl b, H', I', rfl, q⟩
    | next => exact False.elim hq
    | brk => exact False.elim hq
    | cont => exact False.elim hq
theorem op_own (F : FnOk X.prog X.w X.K X.mg X.base (L2.CX X.prog X.w) k f fd ps (spD (cn X) den)) (hb : Binds X.K fd ps []) (hr : Room k X.A) (hs : PySem.W.findIn X.K (.ref C) "__eq__" = some (some (.ref f))) (hf : PySem.W.isFn X.K (.ref f) = true) : OpR X (compareOp .Eq) (rOwn X C den false) := by
  intro pins s σ H x y v u Q I rx ry h
  obtain ⟨a, dx, fs, t, rfl, ea, ty, nf, q⟩ := h
  cases (show v = Value.ref a from rx)
  obtain ⟨P, Z, hp, _⟩ := kit_of I ry ty
  obtain ⟨mA, O, _⟩ := ins_get I.hok ea
  obtain ⟨od, J, _⟩ := O.look
  obtain ⟨m, hF⟩ := I.fr
  show wpAny _ _ (richCompare .Eq _ _) _ _ _
  refine PySem.W.cmp_K (op := .Eq) hr.units0 hF I.ok.mod.kin J (Z.ty _ _ I.kIn hp) nf hs hf (wpAny_mono (run_own (Q := Q) F hb hr rfl I rx ry q) (fun w s' z => ?_) fun _ _ e => e)
  obtain ⟨b, rfl, z⟩ := z
  exact z
theorem op_ownNe (F : FnOk X.prog X.w X.K X.mg X.base (L2.CX X.prog X.w) k f fd ps (spD (cn X) den)) (hb : Binds X.K fd ps []) (hr : Room (k + 1) X.A) (hs : PySem.W.findIn X.K (.ref C) "__eq__" = some (some (.ref f))) (hf : PySem.W.isFn X.K (.ref f) = true) (hne : PySem.W.findIn X.K (.ref C) "__ne__" = some (some (.builtin "object.__ne__"))) (hm : PySem.W.mroIn X.K C (.type "object") = some true) : OpR X (compareOp .NotEq) (rOwn X C den true) := by
  intro pins s σ H x y v u Q I rx ry h
  obtain ⟨a, dx, fs, t, rfl, ea, ty, nf, q⟩ := h
  cases (show v = Value.ref a from rx)
  obtain ⟨P, Z, hp, _⟩ := kit_of I ry ty
  obtain ⟨mA, O, _⟩ := ins_get I.hok ea
  obtain ⟨od, J, _⟩ := O.look
  show wpAny _ _ (richCompare .NotEq _ _) _ _ _
  refine cmp_objNe hr.in1.units0 hr.units0 I.kIn J (Z.ty _ _ I.kIn hp) nf hm hne hs hf (wpAny_mono (run_own (Q := fun z H' => ∃ b, z = .bl b ∧ Q (.bl (!b)) H') F hb hr.in1 rfl I rx ry ?_) (fun w s' z => ?_) fun _ _ e => e)
  · obtain ⟨W, ds, S, rs, r, p⟩ := q
    refine ⟨W, ds, S, rs, r, ?_⟩
    cases e : den ds S with
    | ok d S' =>
      rw [e] at p
      intro b th' H' x rs r
      obtain ⟨k, rfl, q⟩ := p b th' H' x rs r
      exact ⟨k, rfl, k, rfl, q⟩
    | exc n y S' => rw [e] at p; exact p
    | bad => rw [e] at p; exact p
  · obtain ⟨b, rfl, z, H', I', rz, b', ez, q⟩ := z
    subst ez
    cases rz
    exact ⟨b, rfl, .bl (!b), H', I', rfl, q⟩
theorem rop_own {c : Str} {tags : List String} {neg : Bool} (hC : EqC X c f tags) : ∃ C, PySem.W.findIn X.K (.ref C) "__eq__" = some (some (.ref f)) ∧ PySem.W.isFn X.K (.ref f) = true ∧ PySem.W.findIn X.K (.ref C) "__ne__" = some (some (.builtin "object.__ne__")) ∧
    PySem.W.mroIn X.K C (.type "object") = some true ∧ ROp X (rOwn X C den neg) (oOwnEq c tags den neg) := by
  obtain ⟨C, h1, h2, h3, h4, h5, h6⟩ := hC.ex
  refine ⟨C, h2, h3, h4, h5, fun W S x y v w H Q Wy rs r1 r2 p => ?_⟩
  cases x with
  | ref n =>
    cases e : S[n]? with
    | none => simp only [oOwnEq, e] at p; exact p.elim
    | some ob =>
      cases ob with
      | lst ds => simp only [oOwnEq, e] at p; exact p.elim
      | tab _ _ => simp only [oOwnEq, e] at p; exact p.elim
      | dct => simp only [oOwnEq, e] at p; exact p.elim
      | ins k' fs =>
        simp only [oOwnEq, e] at p
        split at p
        · rename_i hk
          obtain ⟨hk, ht⟩ := hk
          subst hk
          obtain ⟨a, C', dx, gs, q1, q2, q3, q4⟩ := rs.ins e
          obtain ⟨b, k1, rfl⟩ := r1
          cases q1.symm.trans k1
          cases h1.symm.trans q2
          have tyy : ∃ tv, TyX X.K H w tv ∧ PySem.W.notFirst X.K C tv = true := by
            cases et : tagS S y with
            | none => rw [et] at ht; cases ht
            | some t =>
              rw [et] at ht
              cases t with
              | ty T =>
                obtain ⟨tv, z1, z2⟩ := tyx_of (t := .ty T) rs (.inl r2) et fun c hc => (nomatch hc)
                cases (show tv = .type T from z2)
                refine ⟨_, z1, ?_⟩
                unfold PySem.W.notFirst
                rw [h6 T (List.contains_iff_mem.mp (show tags.contains T = true from ht))]
                simp
              | own k =>
                have hk : k = k' := eq_of_beq ht
                subst hk
                obtain ⟨tv, z1, C2, z2, z3⟩ := tyx_of (t := .own k) rs (.inl r2) et fun c hc => by cases hc; exact hC.tyc
                cases h1.symm.trans z2
                subst z3
                refine ⟨_, z1, ?_⟩
                unfold PySem.W.notFirst
                simp
          obtain ⟨tv, z1, z2⟩ := tyy
          refine ⟨a, dx, gs, tv, rfl, q3, z1, z2, W, [.ref n, y], S, rs, ⟨.ref a, [w], rfl, ⟨a, k1, rfl⟩, Reps.one r2⟩, ?_⟩
          cases ed : den [.ref n, y] S with
          | ok d S' =>
            rw [ed] at p
            simp only [Out.nx_ok, Out.bind_ok] at p
            intro b th' H' x rs' r'
            cases d with
            | bl bb =>
              cases (show b = V.bl bb from r')
              exact ⟨bb, rfl, p _ th' H' x rs' rfl⟩
            | _ => exact p.elim
          | exc n y S' => rw [ed] at p; exact p.elim
          | bad => rw [ed] at p; exact p.elim
        · exact p.elim
  | _ => exact p.elim
variable {a b : Expr} {g h : DE} {c : Str} {tags : List String} {pos : Pos}
theorem pd_ownEq (hC : EqC X c f tags) (F : FnOk X.prog X.w X.K X.mg X.base (L2.CX X.prog X.w) k f fd ps (spD (cn X) den)) (hb : Binds X.K fd ps []) (hr : Room j X.A) (hkj : k + 1 ≤ j) (h1 : PDE X Wx a g) (h2 : PDE X Wx b h) : PDE X Wx (.Compare a [.Eq] [b] pos) (dOp (oOwnEq c tags den false) g h) := by
  obtain ⟨ta, a1, a2⟩ := h1; obtain ⟨tb, b1, b2⟩ := h2
  obtain ⟨C, q1, q2, q3, q4, q5⟩ := rop_own (den := den) (neg := false) hC
  exact ⟨_, pe_cmpR (op_own F hb (hr.mono (by omega)) q1 q2) a1 b1 (nomark _), snd_op a2 b2 q5⟩
theorem pd_ownNe (hC : EqC X c f tags) (F : FnOk X.prog X.w X.K X.mg X.base (L2.CX X.prog X.w) k f fd ps (spD (cn X) den)) (hb : Binds X.K fd ps []) (hr : Room j X.A) (hkj : k + 1 ≤ j) (h1 : PDE X Wx a g) (h2 : PDE X Wx b h) : PDE X Wx (.Compare a [.NotEq] [b] pos) (dOp (oOwnEq c tags den true) g h) := by
  obtain ⟨ta, a1, a2⟩ := h1; obtain ⟨tb, b1, b2⟩ := h2
  obtain ⟨C, q1, q2, q3, q4, q5⟩ := rop_own (den := den) (neg := true) hC
  exact ⟨_, pe_cmpR (op_ownNe F hb (hr.mono hkj) q1 q2 q3 q4) a1 b1 (nomark _), snd_op a2 b2 q5⟩
theorem pdt_ownEq (hC : EqC X c f tags) (F : FnOk X.prog X.w X.K X.mg X.base (L2.CX X.prog X.w) k f fd ps (spD (cn X) den)) (hb : Binds X.K fd ps []) (hr : Room j X.A) (hkj : k + 1 ≤ j) (h1 : PDE X Wx a g) (h2 : PDE X Wx b h) : PDT X Wx (.Compare a [.Eq] [b] pos) (dTst (dOp (oOwnEq c tags den false) g h)) := by
  obtain ⟨ta, a1, a2⟩ := h1; obtain ⟨tb, b1, b2⟩ := h2
  obtain ⟨C, q1, q2, q3, q4, q5⟩ := rop_own (den := den) (neg := false) hC
  exact ⟨_, pt_cmpR (op_own F hb (hr.mono (by omega)) q1 q2) a1 b1 (nomark _), snd_tst (snd_op a2 b2 q5)⟩
theorem pdt_ownNe (hC : EqC X c f tags) (F : FnOk X.prog X.w X.K X.mg X.base (L2.CX X.prog X.w) k f fd ps (spD (cn X) den)) (hb : Binds X.K fd ps []) (hr : Room j X.A) (hkj : k + 1 ≤ j) (h1 : PDE X Wx a g) (h2 : PDE X Wx b h) : PDT X Wx (.Compare a [.NotEq] [b] pos) (dTst (dOp (oOwnEq c tags den true) g h)) := by
  obtain ⟨ta, a1, a2⟩ := h1; obtain ⟨tb, b1, b2⟩ := h2
  obtain ⟨C, q1, q2, q3, q4, q5⟩ := rop_own (den := den) (neg := true) hC
  exact ⟨_, pt_cmpR (op_ownNe F hb (hr.mono hkj) q1 q2 q3 q4) a1 b1 (nomark _), snd_tst (snd_op a2 b2 q5)⟩
end
end DL

namespace DL
open PySem PySem.Spec PyProof.Rows L2
/-! ### a hidden list is taken by a name -/
theorem RF.take {c : Cn} {B : Bs} {th : List Addr} {ρ : En} {S : Sto} {σ : L2.St} {H : Hp} {ds : List D} {vs : List V} {a : Addr} (r : RF c ⟨fun b => B.P0 b ∨ b = a, B.xc⟩ th ρ S σ H) (i : Nat) (hi : i < ρ.length) (np : ¬ B.P0 a) (h1 : H a = some (.lst vs)) (h2 : a ∉ th)
    (rr : Reps c (Bs.w ⟨fun b => B.P0 b ∨ b = a, B.xc⟩ th ρ σ) H ds vs) (z : ds.length ≤ sizeLine) : RF c B th (ρ.set i (some (.own ds))) S (σ.set i (some (.ref a))) H := by
  have hi' : i < σ.length := by rw [← r.len]; exact hi
  have na : ¬ ownd ρ σ a := fun q => r.p0 a q (.inr rfl)
  have ow : ∀ b, ownd (ρ.set i (some (.own ds))) (σ.set i (some (.ref a))) b → ownd ρ σ b ∨ b = a := fun b ⟨j, es, q1, q2⟩ => by
    by_cases hj : i = j
    · subst hj
      rw [List.getElem?_set_self hi'] at q2
      simp only [Option.some.injEq, V.ref.injEq] at q2
      exact .inr q2.symm
    · rw [List.getElem?_set_ne hj] at q1 q2
      exact .inl ⟨j, es, q1, q2⟩
  have oa : ownd (ρ.set i (some (.own ds))) (σ.set i (some (.ref a))) a := ⟨i, ds, by rw [List.getElem?_set_self hi], by rw [List.getElem?_set_self hi']⟩
  have hp : ∀ b, (B.w th (ρ.set i (some (.own ds))) (σ.set i (some (.ref a)))).pr b → (Bs.w ⟨fun b => B.P0 b ∨ b = a, B.xc⟩ th ρ σ).pr b := fun b (q : B.P0 b ∨ _) => q.elim (fun q => .inl (.inl q)) fun q => (ow b q).elim .inr fun q => .inl (.inr q)
  have m : Mv (Bs.w ⟨fun b => B.P0 b ∨ b = a, B.xc⟩ th ρ σ) H (B.w th (ρ.set i (some (.own ds))) (σ.set i (some (.ref a)))) H := Mv.less hp rfl
  refine ⟨⟨r.rs.less hp rfl, fun j s e => ?_, by simpa using r.len⟩, fun b q => ?_, fun j k es fs b q1 q2 q3 q4 => ?_, by simpa using r.len⟩
  · by_cases hj : i = j
    · subst hj
      rw [List.getElem?_set_self hi] at e
      simp only [Option.some.injEq] at e
      subst e
      exact ⟨.ref a, by rw [List.getElem?_set_self hi'], a, vs, rfl, h1, Reps.mv m _ _ rr, .inr oa, h2, z⟩
    · rw [List.getElem?_set_ne hj] at e
      obtain ⟨w, q1, q2⟩ := r.re.sl j s e
      refine ⟨w, by rw [List.getElem?_set_ne hj]; exact q1, ?_⟩
      cases s with
      | val d => exact Rep.mv m _ _ q2
      | own es =>
        obtain ⟨b, ws, e1, e2, e3, e4, e5, e6⟩ := q2
        subst e1
        exact ⟨b, ws, rfl, e2, Reps.mv m _ _ e3, .inr ⟨j, es, by rw [List.getElem?_set_ne hj]; exact e, by rw [List.getElem?_set_ne hj]; exact q1⟩, e5, e6⟩
      | exn n y =>
        obtain ⟨b, C, d, e1, e2, e3, e4⟩ := q2
        exact ⟨b, C, d, e1, e2, e3, XR.mv m _ _ e4⟩
  · rcases ow b q with q | q
    · exact fun z => r.p0 b q (.inl z)
    · rw [q]; exact np
  · have f : ∀ (j : Nat) (es : List D), (ρ.set i (some (.own ds)))[j]? = some (some (.own es)) → (σ.set i (some (.ref a)))[j]? = some (some (.ref b)) → (i = j ∧ b = a) ∨ (i ≠ j ∧ ρ[j]? = some (some (.own es)) ∧ σ[j]? = some (some (.ref b))) := fun j es e1 e2 => by
      by_cases hj : i = j
      · subst hj
        rw [List.getElem?_set_self hi'] at e2
        simp only [Option.some.injEq, V.ref.injEq] at e2
        exact .inl ⟨rfl, e2.symm⟩
      · rw [List.getElem?_set_ne hj] at e1 e2
        exact .inr ⟨hj, e1, e2⟩
    rcases f j es q1 q3 with ⟨j1, b1⟩ | ⟨j1, j2, j3⟩
    · rcases f k fs q2 q4 with ⟨k1, _⟩ | ⟨k1, k2, k3⟩
      · rw [← j1, k1]
      · subst b1; exact (na ⟨k, fs, k2, k3⟩).elim
    · rcases f k fs q2 q4 with ⟨k1, b1⟩ | ⟨k1, k2, k3⟩
      · subst b1; exact (na ⟨j, es, j2, j3⟩).elim
      · exact r.inj j k es fs b j2 k2 j3 k3
/-- one more place is hidden -/
theorem RE.hd {c : Cn} {W : Wd} {ρ : En} {S S' : Sto} {σ : L2.St} {H H' : Hp} {th' : List Addr} {a : Addr} (r : RE c W ρ S σ H) (x : Xt W.th H th' H') (h0 : H a = none) (rs : RS c (W.hd th' a) S' H') : RE c (W.hd th' a) ρ S' σ H' := by
  have m : Mv W H (W.hd th' a) H' := ⟨fun b o e n => by
    obtain ⟨k1, k2⟩ := x.keep b o e fun q => n (.inl q)
    exact ⟨k1, fun q => q.elim k2 fun q => q.elim (fun q => n (.inr q)) (ne_of_none e h0)⟩, fun n b e => x.get e⟩
  refine ⟨rs, fun j s e => ?_, r.ln⟩
  obtain ⟨w, q1, q2⟩ := r.sl j s e
  refine ⟨w, q1, ?_⟩
  cases s with
  | val d => exact Rep.mv m _ _ q2
  | own es =>
    obtain ⟨b, ws, e1, e2, e3, e4, e5, e6⟩ := q2
    obtain ⟨k1, k2⟩ := x.keep b _ e2 e5
    exact ⟨b, ws, e1, k1, Reps.mv m _ _ e3, .inl e4, k2, e6⟩
  | exn n y =>
    obtain ⟨b, C, d, e1, e2, e3, e4⟩ := q2
    exact ⟨b, C, d, e1, e2, e3, XR.mv m _ _ e4⟩
/-- the same world otherwise told -/
theorem RE.less {c : Cn} {W W' : Wd} {ρ : En} {S : Sto} {σ : L2.St} {H : Hp} (r : RE c W ρ S σ H) (h : ∀ a, W'.pr a ↔ W.pr a) (e : W'.th = W.th) (ex : W'.xc = W.xc) : RE c W' ρ S σ H := by
  have m : Mv W H W' H := Mv.less (fun a => (h a).mp) e
  refine ⟨r.rs.less (fun a => (h a).mp) e, fun j s q => ?_, r.ln⟩
  obtain ⟨w, q1, q2⟩ := r.sl j s q
  refine ⟨w, q1, ?_⟩
  cases s with
  | val d => exact Rep.mv m _ _ q2
  | own es =>
    obtain ⟨b, ws, e1, e2, e3, e4, e5, e6⟩ := q2
    exact ⟨b, ws, e1, e2, Reps.mv m _ _ e3, (h b).mpr e4, by rw [e]; exact e5, e6⟩
  | exn n y =>
    obtain ⟨b, C, d, e1, e2, e3, e4⟩ := q2
    exact ⟨b, C, d, by rw [ex]; exact e1, e2, e3, XR.mv m _ _ e4⟩
section
variable {X : Cx} {Wx : WX}
/-! ### a, b = x, y -/
def dPar (is : List Nat) (g : DA) : DS := fun ρ S => (g ρ S).st ρ fun xs S1 => if xs.length = is.length then .nx (setE ρ (is.zip xs)) S1 else .bad
theorem KReps.zip {c : Cn} {W : Wd} {H : Hp} : ∀ {is : List Nat} {ds : List D} {vs : List V}, Reps c W H ds vs → KReps c W H (is.zip ds) (is.zip vs)
  | [], _, _, _ => by simp [KReps]
  | i :: is, [], _, r => by rw [show _ = [] from r]; simp [KReps]
  | i :: is, d :: ds, _, ⟨v, q, e, h1, h2⟩ => by subst e; exact ⟨v, is.zip q, rfl, h1, KReps.zip h2⟩
section
variable {i j l : Nat} {x y z : Str} {a b c : Expr} {g : DA} {px py pz pt pos : Pos} {kt k2 : Nat} {pt2 : Pos}
theorem pds_par2 (hc : X.calm = true) (hN : X.N.Nodup) (hij : i ≠ j) (ha : PDA X Wx [a, b] g) (hi : X.N[i]? = some x := by rfl) (hj : X.N[j]? = some y := by rfl)
    (hx : X.env.scope.names.lookup x = some .local := by rfl) (hy : X.env.scope.names.lookup y = some .local := by rfl)
    (hw : swappedStores [.Tuple [.Name x px, .Name y py] kt pt] (.Tuple [a, b] k2 pt2) X.env = pure (some [x, y]) := by rfl)
    (hs : swapsWithSole [.Tuple [.Name x px, .Name y py] kt pt] (.Tuple [a, b] k2 pt2) pos.line X.env = pure false := by rfl) :
    PDS X Wx (.Assign [.Tuple [.Name x px, .Name y py] kt pt] (.Tuple [a, b] k2 pt2) pos) (dPar [i, j] g) := by
  obtain ⟨t, t1, t2⟩ := ha
  refine ⟨_, ps_par hc hN hi hj hij hx hy t1 hw hs, fun B th ρ S σ H D rf p => ?_⟩
  refine t2.runS rf p fun xs vs th' S' H' rf' r x p' => ?_
  split at p'
  · rename_i hl
    match xs, hl, r, p' with
    | [d, e], _, r, p' =>
      obtain ⟨v, w, rfl, r1, r2⟩ := reps2 r
      obtain ⟨rf2, x2⟩ := rf'.setAll (kvs := [i, j].zip [d, e]) (kv' := [(i, v), (j, w)]) ⟨v, [(j, w)], rfl, r1, w, [], rfl, r2, rfl⟩
      exact ⟨v, w, rfl, p' _ _ _ x2 rf2⟩
    | [], hl, _, _ => simp at hl
    | [_], hl, _, _ => simp at hl
    | _ :: _ :: _ :: _, hl, _, _ => simp at hl
  · exact p'.elim
theorem pds_par3 (hc : X.calm = true) (hN : X.N.Nodup) (hij : i ≠ j) (hil : i ≠ l) (hjl : j ≠ l) (ha : PDA X Wx [a, b, c] g) (hi : X.N[i]? = some x := by rfl) (hj : X.N[j]? = some y := by rfl) (hl : X.N[l]? = some z := by rfl)
    (hx : X.env.scope.names.lookup x = some .local := by rfl) (hy : X.env.scope.names.lookup y = some .local := by rfl) (hz : X.env.scope.names.lookup z = some .local := by rfl)
    (hw : swappedStores [.Tuple [.Name x px, .Name y py, .Name z pz] kt pt] (.Tuple [a, b, c] k2 pt2) X.env = pure (some [x, y, z]) := by rfl)
    (hs : swapsWithSole [.Tuple [.Name x px, .Name y py, .Name z pz] kt pt] (.Tuple [a, b, c] k2 pt2) pos.line X.env = pure false := by rfl) :
    PDS X Wx (.Assign [.Tuple [.Name x px, .Name y py, .Name z pz] kt pt] (.Tuple [a, b, c] k2 pt2) pos) (dPar [i, j, l] g) := by
  obtain ⟨t, t1, t2⟩ := ha
  refine ⟨_, ps_par3 hc hN hi hj hl hij hil hjl hx hy hz t1 hw hs, fun B th ρ S σ H D rf p => ?_⟩
  refine t2.runS rf p fun xs vs th' S' H' rf' r x p' => ?_
  split at p'
  · rename_i hl
    match xs, hl, r, p' with
    | [d, e, f], _, r, p' =>
      obtain ⟨v, q, rfl, r1, r⟩ := r
      obtain ⟨w, u, rfl, r2, r3⟩ := reps2 r
      obtain ⟨rf2, x2⟩ := rf'.setAll (kvs := [i, j, l].zip [d, e, f]) (kv' := [(i, v), (j, w), (l, u)]) ⟨v, _, rfl, r1, w, _, rfl, r2, u, [], rfl, r3, rfl⟩
      exact ⟨v, w, u, rfl, p' _ _ _ x2 rf2⟩
    | [], hl, _, _ => simp at hl
    | [_], hl, _, _ => simp at hl
    | [_, _], hl, _, _ => simp at hl
    | _ :: _ :: _ :: _ :: _, hl, _, _ => simp at hl
  · exact p'.elim
/-- a, b = [..], [..]: lists that the frame alone holds -/
def dParO (i j : Nat) (f g : DL) : DS := fun ρ S => (f ρ S).st ρ fun xs S1 => (g ρ S1).st ρ fun ys S2 => if i < ρ.length ∧ j < ρ.length then .nx ((ρ.set i (some (.own xs))).set j (some (.own ys))) S2 else .bad
theorem pds_parO {f h : DL} (hc : X.calm = true) (hN : X.N.Nodup) (hij : i ≠ j) (h1 : PDL X Wx a f) (h2 : PDL X Wx b h) (hi : X.N[i]? = some x := by rfl) (hj : X.N[j]? = some y := by rfl)
    (hx : X.env.scope.names.lookup x = some .local := by rfl) (hy : X.env.scope.names.lookup y = some .local := by rfl)
    (hw : swappedStores [.Tuple [.Name x px, .Name y py] kt pt] (.Tuple [a, b] k2 pt2) X.env = pure (some [x, y]) := by rfl)
    (hs : swapsWithSole [.Tuple [.Name x px, .Name y py] kt pt] (.Tuple [a, b] k2 pt2) pos.line X.env = pure false := by rfl)
    (hsa : starEach [a, b] X.env = (false, eval a X.env) :: starEach [b] X.env := by rfl) (hsb : starEach [b] X.env = (false, eval b X.env) :: starEach [] X.env := by rfl) :
    PDS X Wx (.Assign [.Tuple [.Name x px, .Name y py] kt pt] (.Tuple [a, b] k2 pt2) pos) (dParO i j f h) := by
  obtain ⟨t, t1, t2⟩ := h1
  obtain ⟨u, u1, u2⟩ := h2
  refine ⟨_, ps_par hc hN hi hj hij hx hy (pa_cons t1 (pa_cons u1 pa_nil hsb) hsa) hw hs, fun B th ρ S σ H D rf p => ?_⟩
  refine t2 (B.w th ρ σ) ρ S σ H _ rf.re ?_
  unfold dParO at p
  cases e : f ρ S with
  | exc n y S' =>
    rw [e] at p
    exact fun C d th' H' hm x rs xr => p C d σ H' th' hm (x.xs ρ σ) (rf.xt x rs) xr
  | bad => rw [e] at p; exact p.elim
  | ok xs S1 =>
    rw [e] at p
    simp only [Out.st_ok] at p
    intro a1 vs1 th1 H1 x1 h01 h11 h21 rs1 r1 z1
    have re1 := rf.re.hd x1 h01 rs1
    refine u2 ((B.w th ρ σ).hd th1 a1) ρ S1 σ H1 _ re1 ?_
    cases e2 : h ρ S1 with
    | exc n y S' =>
      rw [e2] at p
      intro C d th' H' hm x rs xr
      have x' := x1.trans x
      have rs' : RS (cn X) (B.w th' ρ σ) S' H' := rs.less (fun b q => .inl q) rfl
      exact p C d σ H' th' hm (x'.xs ρ σ) (rf.xt x' rs') (XR.mv (W := ((B.w th ρ σ).hd th1 a1).to th') (W' := B.w th' ρ σ) (Mv.less (fun b q => Or.inl q) rfl) _ _ xr)
    | bad => rw [e2] at p; exact p.elim
    | ok ys S2 =>
      rw [e2] at p
      simp only [Out.st_ok] at p
      split at p
      · rename_i hl
        intro a2 vs2 th2 H2 x2 h02 h12 h22 rs2 r2 z2
        have re2 := re1.hd x2 h02 rs2
        have x12 := x1.trans x2
        obtain ⟨k1, k2⟩ := x2.keep a1 _ h11 h21
        have na2 : a2 ≠ a1 := fun q => by rw [q, h11] at h02; cases h02
        have none2 : H a2 = none := by
          cases q : H a2 with
          | none => rfl
          | some o =>
            by_cases hm : a2 ∈ th
            · obtain ⟨n, hn, e3⟩ := List.mem_iff_getElem.mp hm
              exact (h22 (List.mem_of_getElem? (x12.get (n := n) (a := a2) (by rw [List.getElem?_eq_getElem hn, e3])))).elim
            · have := (x1.keep a2 o q hm).1
              rw [h02] at this; cases this
        have noow : ∀ b, H b = none → ¬ ownd ρ σ b := fun b hb q => by
          obtain ⟨o, e⟩ := rf.rs.prt b (.inr q)
          rw [hb] at e; cases e
        have nop : ∀ b, H b = none → ¬ B.P0 b := fun b hb q => by
          obtain ⟨o, e⟩ := rf.rs.prt b (.inl q)
          rw [hb] at e; cases e
        let B1 : Bs := ⟨fun b => B.P0 b ∨ b = a2, B.xc⟩
        let B2 : Bs := ⟨fun b => B1.P0 b ∨ b = a1, B.xc⟩
        have rfb : RF (cn X) B2 th2 ρ S2 σ H2 := by
          refine ⟨re2.less (fun b => ?_) rfl rfl, fun b q => ?_, rf.inj, rf.len⟩
          · show (((B.P0 b ∨ b = a2) ∨ b = a1) ∨ ownd ρ σ b) ↔ (((B.P0 b ∨ ownd ρ σ b) ∨ b = a1) ∨ b = a2)
            constructor
            · rintro (((q | q) | q) | q)
              · exact .inl (.inl (.inl q))
              · exact .inr q
              · exact .inl (.inr q)
              · exact .inl (.inl (.inr q))
            · rintro (((q | q) | q) | q)
              · exact .inl (.inl (.inl q))
              · exact .inr q
              · exact .inl (.inr q)
              · exact .inl (.inl (.inr q))
          · rintro ((z | z) | z)
            · exact rf.p0 b q z
            · exact noow b (by rw [z]; exact none2) q
            · exact noow b (by rw [z]; exact h01) q
        have mm : ∀ {W W' : Wd}, W'.th = W.th → (∀ b, W'.pr b → W.pr b) → Mv W H2 W' H2 := fun e h => Mv.less h e
        have rr1 : Reps (cn X) (Bs.w B2 th2 ρ σ) H2 xs vs1 := by
          have q := Reps.mv (Xt.mv (W := (B.w th ρ σ).hd th1 a1) x2) _ _ r1
          -- what the first list holds does not lean on the second place
          have nxt : Mv (((B.w th ρ σ).hd th1 a1)) H1 (Bs.w B2 th2 ρ σ) H2 := ⟨fun b o e n => by
            obtain ⟨w1, w2⟩ := x2.keep b o e fun q => n (.inl q)
            refine ⟨w1, fun q => q.elim w2 ?_⟩
            rintro (((q | q) | q) | q)
            · exact n (.inr (.inl (.inl q)))
            · exact ne_of_none e h02 q
            · exact n (.inr (.inr q))
            · exact n (.inr (.inl (.inr q))), fun n b e => x2.get e⟩
          exact Reps.mv nxt _ _ r1
        have rf1 : RF (cn X) B1 th2 (ρ.set i (some (.own xs))) S2 (σ.set i (some (.ref a1))) H2 := RF.take (B := B1) rfb i hl.1 (fun q => q.elim (nop a1 h01) fun q => na2 q.symm) k1 k2 rr1 z1
        have rr2 : Reps (cn X) (Bs.w B1 th2 (ρ.set i (some (.own xs))) (σ.set i (some (.ref a1)))) H2 ys vs2 := by
          refine Reps.mv (mm (W := ((B.w th ρ σ).hd th1 a1).hd th2 a2) (W' := Bs.w B1 th2 (ρ.set i (some (.own xs))) (σ.set i (some (.ref a1)))) rfl fun b q => ?_) _ _ r2
          rcases q with (q | q) | ⟨j', es, q1, q2⟩
          · exact .inl (.inl (.inl q))
          · exact .inr q
          · by_cases hj' : i = j'
            · subst hj'
              rw [List.getElem?_set_self (by rw [← rf.len]; exact hl.1)] at q2
              simp only [Option.some.injEq, V.ref.injEq] at q2
              exact .inl (.inr q2.symm)
            · rw [List.getElem?_set_ne hj'] at q1 q2
              exact .inl (.inl (.inr ⟨j', es, q1, q2⟩))
        have rf2 := RF.take (B := B) rf1 j (by rw [List.length_set]; exact hl.2) (nop a2 none2) h12 h22 rr2 z2
        refine ⟨_, _, rfl, p _ _ _ ⟨fun b o e n q => ?_, x12.th⟩ rf2⟩
        obtain ⟨w1, w2⟩ := x12.keep b o e n
        refine ⟨w1, w2, fun z => ?_⟩
        obtain ⟨j', es, q1, q2⟩ := z
        by_cases hj' : j = j'
        · subst hj'
          rw [List.getElem?_set_self (by rw [List.length_set, ← rf.len]; exact hl.2)] at q2
          simp only [Option.some.injEq, V.ref.injEq] at q2
          exact ne_of_none e none2 q2.symm
        · rw [List.getElem?_set_ne hj'] at q1 q2
          by_cases hi' : i = j'
          · subst hi'
            rw [List.getElem?_set_self (by rw [← rf.len]; exact hl.1)] at q2
            simp only [Option.some.injEq, V.ref.injEq] at q2
            exact ne_of_none e h01 q2.symm
          · rw [List.getElem?_set_ne hi'] at q1 q2
            exact q ⟨j', es, q1, q2⟩
      · exact p.elim
end
end
end DL

namespace DL
open PySem PySem.Spec PyProof.Rows L2
/-! ### exceptions with one field -/
/-- what C.__init__ promises: self.f = its argument -/
def spXi (C : Addr) (f : Str) : Sp := fun vs H Q _ => ∃ (a : Addr) (v : V), vs = [.ref a, v] ∧ H a = some (exo a C none) ∧ ∀ dx, H dx = none → dx ≠ a → Q .non (upd (upd H dx (exd dx [(f, v)])) a (exo a C (some dx)))
/-- def __init__(self, x): self.f = x -/
theorem fok_xi {P : Program} {w : World} {K : PySem.W.Frag} {mg : Str → Option Value} {base : Heap} {C : Addr} {f s x q : Str} {params : Arguments} {scope : Scope} {dvs : List V} {kws : List (Str × V)} {fI : Addr} {fd : FuncData} {p1 p2 p3 p4 : Pos} {k : Nat} {nm : Str}
    (F : FunD K nm q params [.Assign [.Attribute (.Name s p1) f p2] (.Name x p3) p4] scope dvs kws fI fd) (Sc : FnScope [s, x] [s, x] scope) (T : OexC K C) (hno : PySem.W.findIn K (.ref C) f = some none)
    (hs : (s == ("__debug__" : Str)) = false) (hx : (x == ("__debug__" : Str)) = false) (hs2 : (s == ("__classdict__" : Str)) = false) (hx2 : (x == ("__classdict__" : Str)) = false) (vs0 : Vis scope s) (vx0 : Vis scope x)
    (hsw : ∀ (X : Cx), X.env.scope = scope → swapsWith (.Name x p3) (some (.Attribute (.Name s p1) f p2)) p4.line X.env = pure false) : FnOk P w K mg base (L2.CX P w) (k + 1) fI fd [s, x] (spXi C f) := by
  refine F.ok Sc (fun vs H Q E h => ?_) (fun cdv A outer st H vs Q E hr h => ?_)
  · obtain ⟨a, v, rfl, _⟩ := h; rfl
  · obtain ⟨a, v, rfl, ea, hq⟩ := h
    refine ⟨_, pss_one (ps_ost (pe_var (i := 0) rfl vs0 hs hs2) (pe_var (i := 1) rfl vx0 hx hx2) (hsw _ rfl)), ?_⟩
    exact ⟨v, rfl, .ref a, rfl, a, C, rfl, T, hno, .inl ⟨ea, fun dx h1 h2 => hq dx h1 h2⟩⟩
section
variable {X : Cx} {Wx : WX}
/-- what a class must have that it is raised with one field -/
structure ExF (X : Cx) (k : Nat) (n f : Str) : Prop where
  ex : ∃ C fI fd ps, X.mg n = some (.ref C) ∧ OexC X.K C ∧ PySem.W.findIn X.K (.ref C) "__init__" = some (some (.ref fI)) ∧ PySem.W.typeIn X.K (.ref fI) = some (.type "function") ∧
    FnOk X.prog X.w X.K X.mg X.base (L2.CX X.prog X.w) k fI fd ps (spXi C f) ∧ Binds X.K fd ps []
def dRaise (n f : Str) (v : DE) : DS := fun ρ S => (v ρ S).st ρ fun d S1 => .ex n (some (f, d)) ρ S1
theorem pds_raise {k j : Nat} {n f : Str} {e : Expr} {v : DE} {p pos pos' : Pos} (hX : ExF X k n f) (hc : X.calm = true) (tk : Takes X Wx) (hr : Room j X.A) (hkj : k + 1 ≤ j) (hv : PDE X Wx e v) (hg : Gl X n := by rfl) (hdb : (n == ("__debug__" : Str)) = false := by decide)
    (he : starEach [e] X.env = (false, eval e X.env) :: starEach [] X.env := by rfl) (hpl : (backTo pos (starEach [] X.env)).any (·.1) = false := by rfl) : PDS X Wx (.Raise (some (.Call (.Name n p) [e] [] pos)) none pos') (dRaise n f v) := by
  obtain ⟨C, fI, fd, ps, h1, h2, h3, h4, h5, h6⟩ := hX.ex
  obtain ⟨t, t1, t2⟩ := hv
  have pass : Passes (L2.CX X.prog X.w) X (fun _ _ _ => False) := fun _ _ _ _ _ _ _ h => by
    obtain ⟨_, _, _, _, _, _, _, _, _, _, _, _, q⟩ := h
    exact q.elim
  refine ⟨_, ps_raise hc tk (pmk_oex h2 h3 h4 h5 (hr.mono hkj) h6 .nil pass hg h1 (pa_cons t1 pa_nil he) hdb he hpl), fun B th ρ S σ H D rf p => ?_⟩
  refine t2.runS rf p fun d vv th1 S1 H1 rf1 r1 x1 p1 => ?_
  refine ⟨by simp, fun a ha => ⟨a, vv, rfl, upd_same, fun dx hdx hne => ⟨rfl, dx, [(f, vv)], upd_same, ?_, ?_, ?_⟩⟩⟩
  · rw [upd_ne hne]; exact upd_same
  · rw [upd_ne hne] at hdx; exact hdx
  · have hdx1 : H1 dx = none := by rw [upd_ne hne] at hdx; exact hdx
    have eH : upd (del (upd (upd (upd H1 a (exo a C none)) dx (exd dx [(f, vv)])) a (exo a C (some dx))) a) dx (.xd [(f, vv)]) = upd H1 dx (.xd [(f, vv)]) := by
      funext b
      by_cases hb : b = dx
      · subst hb; rw [upd_same, upd_same]
      · rw [upd_ne hb, upd_ne hb]
        by_cases ha' : b = a
        · subst ha'; rw [del_same]; exact ha.symm
        · rw [del_ne ha', upd_ne ha', upd_ne hb, upd_ne ha']
    rw [eH]
    have x2 : Xt th1 H1 th1 (upd H1 dx (.xd [(f, vv)])) := Xt.new hdx1
    have rs2 : RS (cn X) (B.w th1 ρ σ) S1 (upd H1 dx (.xd [(f, vv)])) := rf1.rs.new hdx1
    exact p1 C (some dx) σ _ th1 h1 (x2.xs ρ σ) (rf1.xt x2 rs2) ⟨dx, vv, rfl, upd_same, fun q => rf1.rs.nU hdx1 q, Rep.mv (Xt.mv (W := B.w th1 ρ σ) x2) _ _ r1⟩
/-! ### try: .. except C as e: return e.f -/
/-- which classes the clause catches -/
abbrev XTab := List (Str × Bool)
structure Catch (X : Cx) (x : Str) (tab : XTab) : Prop where
  ex : ∃ c, Names X x c ∧ ∀ n b C, tab.lookup n = some b → X.mg n = some (.ref C) → PySem.W.exmOne X.K (.ref C) c = some b
/-- whose field may be read in a suite -/
structure XfN (X : Cx) (n f : Str) : Prop where
  ok : ∀ C, X.mg n = some (.ref C) → XfC X.K C ∧ PySem.W.findIn X.K (.ref C) f = some none
def dTryF (i : Nat) (tab : XTab) (ns : List Str) (f : Str) (bd : DS) : DS := fun ρ S => match bd ρ S with
  | .ex n y ρ' S' => (match tab.lookup n with
    | some true => (match y with
      | some (g, d) => if g = f ∧ n ∈ ns ∧ i < ρ'.length then .rt d S' else .bad
      | none => .bad)
    | some false => .ex n y ρ' S'
    | none => .bad)
  | r => r
variable {i : Nat} {x en f : Str} {body : List Stmt} {np p1 p2 p3 pos pos' : Pos} {bd : DS} {tab : XTab} {ns : List Str}
theorem pds_tryF (hc : Catch X x tab) (hns : ∀ n ∈ ns, XfN X n f) (hst : X.stack = X.env :: X.outer) (hfr : X.env.frame = some X.env.locals) (hN : X.N.Nodup) (tk : Takes X Wx)
    (hb : ∀ (W : WX) (pn : List (Addr × Obj)) (xe : Value → Shared → Prop), Takes (X.tr pn xe) W → PassesOwn (model X.prog X.w) X.A X.env xe → PDSs (X.tr pn xe) W body bd)
    (hi : X.N[i]? = some en := by rfl) (hln : X.env.kindOf en = some .local := by rfl) (hv : Vis X.env.scope en := by first | exact Or.inl rfl | exact Or.inr (Or.inl rfl) | exact Or.inr (Or.inr rfl)) (hd : (en == ("__debug__" : Str)) = false := by decide) (hcd : (en == ("__classdict__" : Str)) = false := by decide)
    (hat : ∀ (Y : Cx), Y.env = X.env → attributeBase (.Name en p1) f Y.env (eval (.Name en p1) Y.env) = eval (.Name en p1) Y.env := by intro Y h; rw [h]; rfl) :
    PDS X Wx (.Try body [.ExceptHandler (some (.Name x np)) (some en) [.Return (some (.Attribute (.Name en p1) f p2)) p3] pos'] [] [] pos) (dTryF i tab ns f bd) := by
  obtain ⟨c, hnm, hm⟩ := hc.ex
  let ts : Addr → Value → Option Addr → TS := fun a cls d D σ H => ∃ C, cls = .ref C ∧ XfC X.K C ∧ PySem.W.findIn X.K (.ref C) f = some none ∧ tRet (tXf a cls d C f (tVar i)) D σ H
  refine ⟨_, ps_try_as (tb := fun W => tOfS (cn X) W bd) (ts := ts) hst hfr hN hi hln hnm tk (fun W pn xe h1 h2 => PDSs.pss (hb W pn xe h1 h2)) (fun a oe cls d pn hz hf => ⟨fun pins s σ H D I h => ?_⟩), fun B th ρ S σ H D rf p => ?_⟩
  · obtain ⟨C, rfl, T, hno, h⟩ := h
    exact (pss_one (ps_ret (pe_xf T hno hz hf (pe_var hi hv hd hcd) (hat _ rfl)))).run pins s σ H D I h
  · refine ⟨B, th, ρ, S, rf, ?_⟩
    unfold dTryF at p
    cases e : bd ρ S with
    | nx ρ' S' => rw [e] at p; exact p
    | rt d S' => rw [e] at p; exact p
    | bk ρ' S' => rw [e] at p; exact p
    | ct ρ' S' => rw [e] at p; exact p
    | bad => rw [e] at p; exact p.elim
    | ex n y ρ' S' =>
      rw [e] at p
      simp only at p
      intro C d σ' H' th' hC xs rf' xr
      cases e2 : tab.lookup n with
      | none => rw [e2] at p; exact p.elim
      | some b =>
        rw [e2] at p
        refine ⟨b, hm n b C e2 hC, fun hbt a ha => ?_, fun hbf => ?_⟩
        · subst hbt
          cases y with
          | none => exact p.elim
          | some gd =>
            obtain ⟨g, dd⟩ := gd
            simp only at p
            split at p
            · rename_i hg
              obtain ⟨rfl, hn, hil⟩ := hg
              obtain ⟨q1, q2⟩ := (hns n hn).ok C hC
              obtain ⟨da, v, rfl, h3, h4, h5⟩ := xr
              refine ⟨C, rfl, q1, q2, .ref a, ?_, rfl, rfl, da, [(g, v)], v, rfl, h3, by simp [List.lookup], ?_⟩
              · have hl : i < σ'.length := by rw [← rf'.len]; exact hil
                rw [List.getElem?_set_self hl]
              · refine p v H' th' ⟨fun a' o q n => ?_, xs.th⟩ rf'.rs0 (Rep.mv (Mv.less (W := B.w th' ρ' σ') (W' := B.w0 th') (fun a' z => Or.inl z) rfl) _ _ h5)
                intro z
                obtain ⟨k1, k2, k3⟩ := xs.keep a' o q n z
                exact ⟨k1, k2, fun ⟨j, ds, h1, _⟩ => by simp at h1⟩
            · exact p.elim
        · subst hbf
          exact p C d σ' H' th' hC xs rf' xr
end
end DL

namespace DL
open PySem PySem.Spec PyProof.Rows L2
section
variable {X : Cx} {Wx : WX}
/-! ### repr of data -/
def noDict : D → Bool := fun _ => true
theorem py_noDict : ∀ (n : Nat) (d : D), isDat n d = true → (py d).hasDict = false := fun n d h => PyData.hasDict_of_canLay _ (py_shape n d h).1
def oRepr : List D → Sto → Out D
  | [x], S => if isDat DEP (drS S x) && (PyData.showable (py (drS S x)) && decide ((PyData.shown (py (drS S x))).length ≤ LIM)) then .ok (.str (PyData.shown (py (drS S x)))) S else .bad
  | _, _ => .bad
abbrev rRepr (K : PySem.W.Frag) : List V → Hp → VK → Prop := fun xs H Q => ∃ x d, xs = [x] ∧ Dp K H x d ∧ d.hasDict = false ∧ d.depth ≤ 64 ∧ d.showable = true ∧ d.shown.length ≤ sizeLine ∧ Q (.str d.shown) H
theorem call_reprD (hg : X.A.guards = some []) (hu : X.A.units + 66 < cLine) : CallR X (.builtin "repr") (rRepr X.K) := by
  intro pins s σ H xs us Q I r h
  obtain ⟨x, d, rfl, hd, nd, dp, sh, sz, q⟩ := h
  obtain ⟨u, rfl, rx⟩ := vals1 r
  obtain ⟨as, rd⟩ := Dp.reads I d x u hd rx
  cases rd with
  | none => exact PySem.P.repr_of_none ⟨.str _, H, I.tok _, ⟨_, rfl⟩, q⟩
  | bool b => exact PySem.P.repr_of_bool ⟨.str _, H, I.tok _, ⟨_, rfl⟩, q⟩
  | int i t => exact PySem.P.repr_of_int (by simpa [PyData.showable] using sh) ⟨.str _, H, I.tok _, ⟨_, rfl⟩, q⟩
  | str z t => exact PySem.P.repr_of_str ⟨.str _, H, I.tok _, ⟨_, rfl⟩, q⟩ (by simpa only [PyData.shown] using sz)
  | @list a o vs n xs as h1 h2 h3 h4 =>
    exact repr_of_reads' (.list h1 h2 h3 h4) sh (PyData.noDict_hsm nd) hg (by omega) (fun _ _ e => e) (fun h' u tk hk => ⟨.str _, H, I.kept (t' := tk) hk, ⟨u, rfl⟩, q⟩) sz
  | @tuple a o vs n xs as h1 h2 h3 h4 =>
    exact repr_of_reads' (.tuple h1 h2 h3 h4) sh (PyData.noDict_hsm nd) hg (by omega) (fun _ _ e => e) (fun h' u tk hk => ⟨.str _, H, I.kept (t' := tk) hk, ⟨u, rfl⟩, q⟩) sz
  | dict _ _ _ _ _ => cases nd
theorem rc_repr : RCallP X (rRepr X.K) oRepr := by
  intro W S ds vs H Q Wy rs r p0
  match ds, r, p0 with
  | [x], r, p =>
    obtain ⟨v, rfl, r1⟩ := rps1 r
    simp only [oRepr] at p
    split at p
    · rename_i hx
      rw [Bool.and_eq_true, Bool.and_eq_true] at hx
      obtain ⟨h1, h2, h3⟩ := hx
      have h3 := of_decide_eq_true h3
      have sh := py_shape DEP _ h1
      exact ⟨v, _, rfl, r1.dp rs h1, py_noDict _ _ h1, Nat.le_trans sh.2 (by decide), h2, lim_le h3, post_same rs p rfl⟩
    · exact p.elim
  | [], _, p => exact p.elim
  | _ :: _ :: _, _, p => exact p.elim
theorem pd_repr {p pos : Pos} {e : Expr} {es : List Expr} {g : DA} (hgd : X.A.guards = some []) (hu : X.A.units + 66 < cLine) (hm : X.mg "repr" = none) (ha : PDAP X Wx (e :: es) g) (hg : Gl X "repr" := by rfl) (he : starEach (e :: es) X.env = (false, eval e X.env) :: starEach es X.env := by rfl) (hpl : (backTo pos (starEach es X.env)).any (·.1) = false := by rfl) :
    PDE X Wx (.Call (.Name "repr" p) (e :: es) [] pos) (dCB oRepr g) := pd_bltn (call_reprD hgd hu) rc_repr hm ha (.inl ⟨_, rfl⟩) (hg := hg) (he := he) (hpl := hpl)
end
/-! ### defs that must know that no repr is under way around them -/
structure FnG (P : Program) (w : World) (K : PySem.W.Frag) (mg : Str → Option Value) (base : Heap) (k : Nat) (f : Addr) (fd : FuncData) (ps : List Str) (sp : Sp) : Prop where
  len : ∀ vs H Q E, sp vs H Q E → vs.length = ps.length
  run : ∀ (A : Around) (outer : List Env) (s : Shared) (H : Hp) (args : Args) (us : List Value) (vs : List V) (Q : VK) (E : XK), A.guards = some [] → Room k A → Env0 P w K mg base A outer s H → BindsTo s fd args (ps.zip us) → Vals vs us → sp vs H Q E →
    codeAny (model P w) A (.call (.ref f) args) (CR (L2.CX P w) outer P w H s Q E) s
/-- a def's body keeps its promise, at such a place -/
theorem FnG.of {P : Program} {w : World} {K : PySem.W.Frag} {mg : Str → Option Value} {base : Heap} {x qual : Str} {params : Arguments} {body : List Stmt} {scope : Scope} {dvs : List V} {kws : List (Str × V)} {f : Addr} {fd : FuncData} {N ps : List Str} {k : Nat} {sp : Sp}
    (F : FunD K x qual params body scope dvs kws f fd) (S : FnScope N ps scope) (len : ∀ vs H Q E, sp vs H Q E → vs.length = ps.length)
    (hb : ∀ (cdv : Value) (A : Around) (outer : List PySem.Env) (s : Shared) (H : Hp) (vs : List V) (Q : VK) (E : XK), A.guards = some [] → Room k (A.deeper (envOfC qual scope s.heap.objs.size f cdv)) → sp vs H Q E →
      ∃ t, PSs (cxOf (L2.CX P w) P w K mg base N qual scope f cdv A outer s H E) body t ∧ t { nx := fun _ H' => Q .non H', rt := Q } (start N vs) H) : FnG P w K mg base (k + 1) f fd ps sp := by
  obtain ⟨oc, od, dV, kV, doc, pm, an, cdv, ct, osl, rfl, lk, hcd, _, _⟩ := F.ex
  refine ⟨len, fun A outer s H args us vs Q E hg hr e0 hbi r hsp => ?_⟩
  have hl := len _ _ _ _ hsp
  have old : ∀ b o, base.get? b = some o → s.heap.get? b = some o := fun b o e => (e0.bs b o e).1
  have KX : K.In s.heap := e0.mod.kin.keeps old
  have lim : s.heap.NoLimit := e0.mod.nolimit.keeps old
  have hkind : ∀ y ∈ ps.zip us, scope.names.lookup y.1 = some .local ∨ (scope.names.lookup y.1 = some .cell ∧ ((cellsFrom (s.heap.objs.size + 1) scope.names []).lookup y.1).isSome = true) := by
    intro y hy
    rcases S.par y.1 (List.of_mem_zip (a := y.1) (b := y.2) hy).1 with q | q
    · exact .inl q
    · exact .inr ⟨q, PySem.W.cellsFrom_some _ _ _ (.inl q)⟩
  refine codeAny_call_function hr.depth (KX _ _ lk) rfl S.co S.gen rfl (PySem.W.codeRec_of KX hcd) (hbi _ _ _ _ ?_)
  refine wpAny_newFunctionEnv_cells S.kind hkind fun env he s1 hin => ?_
  subst he
  refine ⟨lim.keeps hin.toInCall.keep, codeAny_func ?_⟩
  obtain ⟨t, ht, hq⟩ := hb cdv A outer s H vs Q E hg (hr.deeper _) hsp
  refine wpAny_mono (ht.run [] s1 (start N vs) H _ (inv_start S hr.hd e0 hl r hin) hq) (fun fl s' hs => ?_) fun e s' hs => hs
  cases fl with
  | ret u =>
    obtain ⟨v, σ', H', J, rv, q⟩ := hs
    exact ⟨v, H', J.os, J.bare, J.base, J.hok, rv, q⟩
  | next =>
    obtain ⟨σ', H', J, q⟩ := hs
    exact ⟨V.non, H', J.os, J.bare, J.base, J.hok, rfl, q⟩
  | brk =>
    obtain ⟨_, _, _, q⟩ := hs
    exact False.elim q
  | cont =>
    obtain ⟨_, _, _, q⟩ := hs
    exact False.elim q
/-- THE RULE for such a def -/
theorem fokG {P : Program} {w : World} {K : PySem.W.Frag} {mg : Str → Option Value} {base : Heap} {x qual : Str} {params : Arguments} {body : List Stmt} {scope : Scope} {dvs : List V} {kws : List (Str × V)} {f : Addr} {fd : FuncData} {N ps : List Str} {k : Nat} {bd : DS} (F : FunD K x qual params body scope dvs kws f fd) (S : FnScope N ps scope)
    (hb : ∀ (cdv : Value) (A : Around) (outer : List PySem.Env) (s : Shared) (H : Hp) (E : XK), A.guards = some [] → Room k (A.deeper (envOfC qual scope s.heap.objs.size f cdv)) →
      Takes (cxOf (L2.CX P w) P w K mg base N qual scope f cdv A outer s H E) (fun cls d _ H => E cls d H) →
      PassesOwn (model P w) (A.deeper (envOfC qual scope s.heap.objs.size f cdv)) (envOfC qual scope s.heap.objs.size f cdv) (cxOf (L2.CX P w) P w K mg base N qual scope f cdv A outer s H E).xe →
      PDSs (cxOf (L2.CX P w) P w K mg base N qual scope f cdv A outer s H E) (fun cls d _ H => E cls d H) body bd) :
    FnG P w K mg base (k + 1) f fd ps (spD ⟨K, mg⟩ (dFn ps.length N.length bd)) := by
  refine FnG.of F S (fun vs H Q E h => ?_) (fun cdv A outer s H vs Q E hg hr h => ?_)
  · obtain ⟨W, ds, S, rs, r, p⟩ := h
    unfold dFn at p
    split at p
    · rename_i e
      rw [r.len, e]
    · exact p.elim
  · obtain ⟨W, ds, S, rs, r, p⟩ := h
    obtain ⟨t, a1, a2⟩ := hb cdv A outer s H E hg hr (takes_of rfl rfl rfl rfl) (passes_of rfl)
    refine ⟨t, a1, a2 ⟨W.pr, W.xc⟩ W.th (frame N.length ds) S (start N vs) H _ (rf_start rs r) ?_⟩
    have no : ∀ a, ¬ ownd (frame N.length ds) (start N vs) a := fun a ⟨i, es, h1, _⟩ => by
      obtain ⟨d, _, e⟩ := frame_val h1
      cases e
    unfold dFn at p
    split at p
    · cases e : bd (frame N.length ds) S with
      | nx ρ' S' =>
        rw [e] at p
        intro σ' H' th' x rf
        exact p V.non th' H' ⟨fun a o q n => let ⟨k1, k2, _⟩ := x.keep a o q n (no a); ⟨k1, k2⟩, x.th⟩ rf.rs0 rfl
      | rt d S' =>
        rw [e] at p
        intro v H' th' x rs' r'
        exact p v th' H' ⟨fun a o q n => let ⟨k1, k2, _⟩ := x.keep a o q n (no a); ⟨k1, k2⟩, x.th⟩ rs' r'
      | ex n y ρ' S' =>
        rw [e] at p
        intro C d σ' H' th' hm x rf xr
        have m : Mv (Bs.w ⟨W.pr, W.xc⟩ th' ρ' σ') H' (W.to th') H' := Mv.less (fun a z => Or.inl z) rfl
        exact p C d th' H' hm ⟨fun a o q n => let ⟨k1, k2, _⟩ := x.keep a o q n (no a); ⟨k1, k2⟩, x.th⟩ rf.rs0 (XR.mv m _ _ xr)
      | bk _ _ => rw [e] at p; exact p.elim
      | ct _ _ => rw [e] at p; exact p.elim
      | bad => rw [e] at p; exact p.elim
    · exact p.elim
structure FoG (P : Program) (w : World) (c : Cn) (base : Heap) (k : Nat) (f : Addr) (den : List D → Sto → Out D) : Prop where
  ex : ∃ fd ps, FnG P w c.K c.mg base k f fd ps (spD c den) ∧ Binds c.K fd ps []
  kp : PySem.W.keepIn c.K (.ref f) = true
section
variable {X : Cx} {Wx : WX}
theorem pd_callG {k j : Nat} {f : Addr} {den : List D → Sto → Out D} {x : Str} {p pos : Pos} {e : Expr} {es : List Expr} {g : DA} (F : FoG X.prog X.w (cn X) X.base k f den) (hgd : X.A.guards = some []) (hr : Room j X.A) (hkj : k ≤ j) (hm : X.mg x = some (.ref f)) (tk : Takes X Wx) (ha : PDA X Wx (e :: es) g)
    (hg : Gl X x := by rfl) (hdb : (x == ("__debug__" : Str)) = false := by decide) (he : starEach (e :: es) X.env = (false, eval e X.env) :: starEach es X.env := by rfl) (hpl : (backTo pos (starEach es X.env)).any (·.1) = false := by rfl) :
    PDE X Wx (.Call (.Name x p) (e :: es) [] pos) (dCall den g) := by
  obtain ⟨t, a1, a2⟩ := ha
  obtain ⟨fd, ps, F1, b⟩ := F.ex
  refine ⟨fun σ H Q => t σ H fun vs H1 => spD (cn X) den vs H1 Q (WE Wx σ), ⟨fun pins s σ H Q I h => ?_⟩, fun W ρ S σ H Q re p => ?_⟩
  · refine wpAny_Call_Name_kw (ld_glob I hg hm ?_ hdb)
    refine PySem.W.callWith_K (h₀ := X.base) I.ok.mod.kin F.kp (thn (a1.run pos pins s σ H _ I h) fun us s1 ⟨vs, H1, I1, r, q⟩ => ⟨I1.kIn, ?_⟩) he hpl
    have hl : us.length = ps.length := by rw [← r.length]; exact F1.len _ _ _ _ q
    have hb' : BindsTo s1 fd ⟨us, []⟩ (ps.zip us) := by simpa using b s1 us I1.kIn (by simpa using hl)
    refine wpAny_call (codeAny_mono (F1.run X.A X.stack s1 H1 ⟨us, []⟩ us vs Q (WE Wx σ) hgd (hr.mono hkj) I1.env0 hb' r q) fun r' s' hq => ?_)
    cases r' with
    | error e => exact passAt tk σ pins H1 s1 e s' I1 hq
    | ok fl =>
      cases fl with
      | ret u => exact I1.after hq
      | next => exact False.elim hq
      | brk => exact False.elim hq
      | cont => exact False.elim hq
  · refine a2.run re p fun xs vs th1 S1 H1 re1 r1 _ p1 => ?_
    exact ⟨W.to th1, xs, S1, re1.rs, r1, p1⟩
end
end DL

namespace DL
open PySem PySem.Spec PyProof.Rows L2
/-! ### the law's call -/
theorem reps_ints {c : Cn} {W : Wd} {H : Hp} : ∀ ns : List Int, Reps c W H (ns.map D.int) (ns.map V.int)
  | [] => rfl
  | n :: ns => ⟨.int n, _, rfl, rfl, reps_ints ns⟩
/-- from an abstract heap in which the script's list may stand -/
theorem law_core {P : Program} {w : World} {K : PySem.W.Frag} {mg mb : Str → Option Value} {k : Nat} {fa a : Addr} {fd : FuncData} {x : Str} {den : List D → Sto → Out D} {s₁ : Shared} {vs : List Value} {ns : List Int} {H : Hp}
    (KX : K.In s₁.heap) (hns : s₁.heap.Ns mainGlobals mg) (hb : s₁.heap.Ns builtinsNs mb) (hbb : ∀ x : Str, x ≠ "__name__" → mb x = bootBuiltins x) (hlim : s₁.heap.NoLimit) (hg : s₁.gens = #[])
    (ha : s₁.heap.get? a = some { cls := .type "list", data := .seq vs.toArray }) (hl : ns.length ≤ sizeLine) (hr : Room k callerA)
    (F : ∀ base : Heap, K.In base → base.Ns mainGlobals mg → FnG P w K mg base k fa fd [x] (spD ⟨K, mg⟩ den)) (hbind : ∀ (s : Shared) (u : Value), BindsTo s fd ⟨[u], []⟩ [(x, u)]) {S' : Sto} (hden : den [.lst (ns.map .int)] [] = .ok (.bl true) S')
    (hO : ∀ b, H b = none ∨ ∃ ob xs, H b = some (.frz ob (.lst xs))) (hS : FL K ⟨[], fun _ => False, none⟩ H a (ns.map V.int)) (hok : HOk P w H s₁.heap) (hA : ∀ b, H b ≠ none → b = a) (hK : H a ≠ none → K.lookup a = none) :
    codeAny (model P w) callerA (.call (.ref fa) ⟨[.ref a], []⟩) (fun r s' => r = .ok (.ret (.bool true)) ∧ OldK s₁.heap s'.heap ∧ s'.os = s₁.os ∧ AllBare s'.gens) s₁ := by
  have at_a : ∀ {b : Addr}, H b ≠ none → s₁.heap.get? b = some { cls := .type "list", data := .seq vs.toArray } := fun {b} q => by rw [hA b q]; exact ha
  have under : ∀ {b : Addr} {o : Obj}, s₁.heap.get? b = some o → H b = none → (hidT s₁.heap H).get? b = some o := fun e n => hidT_get e n
  have plain : ∀ {b : Addr} {o : Obj} {es : Array DictEntry} {ep : Nat}, s₁.heap.get? b = some o → o.data = .dict es ep → H b = none := by
    intro b o es ep e d
    by_cases q : H b = none
    · exact q
    · have e' := at_a q
      rw [e] at e'
      cases e'
      cases d
  have ns_under : ∀ {b : Addr} {m : Str → Option Value}, s₁.heap.Ns b m → (hidT s₁.heap H).Ns b m := fun {b m} ⟨o, es, ep, e, d, r⟩ => ⟨o, es, ep, under e (plain e d), d, r⟩
  have K_under : K.In (hidT s₁.heap H) := by
    intro b o e
    refine under (KX b o e) ?_
    by_cases q : H b = none
    · exact q
    · have eb := hA b q
      subst eb
      rw [hK q] at e
      cases e
  have hM : Mod K mg (hidT s₁.heap H) := ⟨K_under, ns_under hns, ⟨mb, ns_under hb, hbb⟩, let ⟨mc, h1, h2⟩ := hlim; ⟨mc, ns_under h1, h2⟩⟩
  have e0 : Env0 P w K mg (hidT s₁.heap H) callerA [] s₁ H := ⟨rfl, hM, fun b o e => of_hidT e, Nat.le_of_eq (hidT_size _ _), trivial, fun b hb => absurd (show b ∈ ([] : List Addr) from hb) (by simp), hok, .of_eq hg⟩
  have sp : spD ⟨K, mg⟩ den [.ref a] H (fun v _ => v = .bl true) (fun _ _ _ => False) := by
    refine ⟨⟨[], fun _ => False, none⟩, [.lst (ns.map .int)], [], ⟨rfl, List.nodup_nil, fun _ _ q => q, fun _ q => q.elim, fun n o e => by simp at e⟩, Reps.one ⟨a, _, rfl, hS, reps_ints ns, by rw [List.length_map]; exact hl⟩, ?_⟩
    rw [hden]
    exact fun b th' H' _ _ r => r
  refine codeAny_mono ((F _ K_under (ns_under hns)).run callerA [] s₁ H ⟨[.ref a], []⟩ [.ref a] [.ref a] _ _ rfl hr e0 (hbind s₁ (.ref a)) (.cons rfl .nil) sp) fun r s' h => ?_
  cases r with
  | error e =>
    obtain ⟨_, _, _, _, _, _, _, _, _, _, _, _, q⟩ := h
    exact q.elim
  | ok fl =>
    cases fl with
    | next => exact False.elim h
    | brk => exact False.elim h
    | cont => exact False.elim h
    | ret u =>
      obtain ⟨v, H', os, bare, un, hok', r', q⟩ := h
      cases (show v = V.bl true from q)
      cases (show u = Value.bool true from r')
      refine ⟨rfl, OldK.of_keep fun b o e => ?_, os, bare⟩
      rcases hO b with z | ⟨ob, xs, z⟩
      · exact un.keep b o e z (fun y => absurd (show b ∈ ([] : List Addr) from y) (by simp)) (by simp)
      · have z2 := un.frzs b ob _ z
        obtain ⟨e1, _⟩ := hok b _ z
        obtain ⟨e2, _⟩ := hok' b _ z2
        rw [e] at e1
        cases e1
        exact e2
theorem law_end {P : Program} {w : World} {K : PySem.W.Frag} {mg mb : Str → Option Value} {k : Nat} {fa a : Addr} {fd : FuncData} {x : Str} {den : List D → Sto → Out D} {s₁ : Shared} {vs : List Value} {ns : List Int}
    (KX : K.In s₁.heap) (hns : s₁.heap.Ns mainGlobals mg) (hb : s₁.heap.Ns builtinsNs mb) (hbb : ∀ x : Str, x ≠ "__name__" → mb x = bootBuiltins x) (hlim : s₁.heap.NoLimit) (hg : s₁.gens = #[])
    (ha : s₁.heap.get? a = some { cls := .type "list", data := .seq vs.toArray }) (hi : IntsAre vs ns) (hl : ns.length ≤ sizeLine) (hr : Room k callerA)
    (F : ∀ base : Heap, K.In base → base.Ns mainGlobals mg → FnG P w K mg base k fa fd [x] (spD ⟨K, mg⟩ den)) (hbind : ∀ (s : Shared) (u : Value), BindsTo s fd ⟨[u], []⟩ [(x, u)]) {S' : Sto} (hden : den [.lst (ns.map .int)] [] = .ok (.bl true) S') :
    codeAny (model P w) callerA (.call (.ref fa) ⟨[.ref a], []⟩) (fun r s' => r = .ok (.ret (.bool true)) ∧ OldK s₁.heap s'.heap ∧ s'.os = s₁.os ∧ AllBare s'.gens) s₁ := by
  have rv := vals_ints hi
  have lenV := hi.length
  cases hk : K.lookup a with
  | some o =>
    have e := KX a o hk
    rw [ha] at e
    cases e
    exact law_core (H := fun _ => none) KX hns hb hbb hlim hg ha hl hr F hbind hden (fun _ => .inl rfl) (.inr ⟨_, vs.toArray, _, hk, rfl, rfl, rfl, by rw [List.size_toArray, lenV]; exact hl, by simpa using rv⟩) (fun b u z => nomatch z) (fun b z => absurd rfl z) fun z => absurd rfl z
  | none =>
    let H : Hp := fun b => if b = a then some (.frz { cls := .type "list", data := .seq vs.toArray } (.lst (ns.map V.int))) else none
    have Ha : H a = some (.frz { cls := .type "list", data := .seq vs.toArray } (.lst (ns.map V.int))) := if_pos rfl
    have Hn : ∀ {b : Addr}, b ≠ a → H b = none := fun h => if_neg h
    refine law_core (H := H) KX hns hb hbb hlim hg ha hl hr F hbind hden (fun b => ?_) (.inl ⟨.inr ⟨_, Ha⟩, fun z => z.elim (fun z => by cases z) id⟩) (fun b u z => ?_) (fun b z => ?_) fun _ => hk
    · by_cases q : b = a
      · subst q; exact .inr ⟨_, _, Ha⟩
      · exact .inl (Hn q)
    · by_cases q : b = a
      · subst q
        rw [Ha] at z
        cases z
        exact ⟨ha, by rw [List.length_map]; exact hl, vs, _, rv, ha⟩
      · rw [Hn q] at z
        cases z
    · by_cases q : b = a
      · exact q
      · exact absurd (Hn q) z
/-- the end: the law answers True to every script -/
theorem law_walk {l : PySem.W.OpenLaw} {n k : Nat} {q : Program} {loose : List Str} {XP : (Str → Option Value) → Heap → Prop} {YP : World → Heap → Prop} {d : DefRec} {x : Str}
    (hn : l.most = some n) (hn2 : n ≤ sizeLine) (hdf : d.params.defaults = []) (hr : Room k callerA)
    (F : ∀ (w : World) (mg : Str → Option Value) (fa : Addr) (h : Heap), YP w h → h.Ns mainGlobals mg → mg d.name = some (.ref fa) →
      ∃ (K : PySem.W.Frag) (fd : FuncData) (den : List D → Sto → Out D), K.In h ∧ (∀ (s : Shared) (u : Value), BindsTo s fd ⟨[u], []⟩ [(x, u)]) ∧
        (∀ ns : List Int, ns.length ≤ n → (∀ z ∈ ns, Builtin.Int.intBits z ≤ 1048576) → ∃ S', den [.lst (ns.map .int)] [] = .ok (.bl true) S') ∧
        ∀ base : Heap, K.In base → base.Ns mainGlobals mg → FnG l.prog w K mg base k fa fd [x] (spD ⟨K, mg⟩ den)) :
    PySem.W.WalkO q loose XP YP l.row.toRowW d [] (fun f vs => PySem.call f vs) := by
  refine Att.attach_callB hn hdf fun w s₀ s₁ mg mb fa o pm cd doc a vs ns G Y ho hd hcd hmg hobj hints hlen hbits hg => ?_
  obtain ⟨K, fd, den, KX, hb, hsp, hF⟩ := F w mg fa _ Y G.T.g hmg
  obtain ⟨S', hden⟩ := hsp ns hlen hbits
  exact law_end KX G.T.g G.T.b G.T.builtins G.T.nolimit hg hobj hints (Nat.le_trans hlen hn2) hr hF hb hden
end DL

namespace DL
open PySem PySem.Spec PyProof.Rows L2
/-! ### what is looked at at the head's end, beyond the kit's facts -/
abbrev Frag := PySem.W.Frag
def oexB (K : Frag) (C : Addr) : Bool := match K.lookup C with
  | some o => (match o.cls, o.data, o.slots.toList with
    | .type t, .cls cd, [_, _, _, _, some (.builtin n), _] => decide (t = "type") && (decide (n = "ValueError.__new__") && (!cd.hasDel && (cd.hasDict && (match cd.mro with
      | .ref C' :: bm => decide (C' = C) && PySem.HandSPX.refsVE bm
      | _ => false))))
    | _, _, _ => false)
  | none => false
def oexN (x : Str) (K : Frag) : Bool := oexB K (He.ga K x) && (He.eqO (PySem.W.findIn K (.ref (He.ga K x)) "__setattr__") (some (some (.builtin "object.__setattr__"))) && (decide (PySem.W.subIn K (.ref (He.ga K x)) (.type "BaseException") = some true) &&
  (decide (PySem.W.typeIn K (.ref (He.ga K x)) = some (.type "type")) && PySem.W.keepIn K (.ref (He.ga K x)))))
theorem oexN_ok {K : Frag} {x : Str} (h : oexN x K = true) : OexC K (He.ga K x) := by
  unfold oexN at h
  simp only [Bool.and_eq_true] at h
  obtain ⟨h1, h2, h3, h4, h5⟩ := h
  refine ⟨?_, He.eqO_ok h2, of_decide_eq_true h3, of_decide_eq_true h4, h5⟩
  unfold oexB at h1
  generalize He.ga K x = C at h1 ⊢
  split at h1
  · rename_i o ho
    obtain ⟨cls, dd, data, ⟨sl⟩⟩ := o
    split at h1
    · rename_i t cd _ _ _ _ n _ e1 e2 e3
      simp only [Bool.and_eq_true, Bool.not_eq_true'] at h1
      obtain ⟨q1, q2, q3, q4, q5⟩ := h1
      split at q5
      · rename_i C' bm e4
        simp only [Bool.and_eq_true] at q5
        obtain ⟨q5, q6⟩ := q5
        have q1 := of_decide_eq_true q1
        have q2 := of_decide_eq_true q2
        have q5 := of_decide_eq_true q5
        simp only at e1 e2 e3
        obtain ⟨nm, bs, mro, N, q, hdct, sn, sub, ab, col, hdel⟩ := cd
        simp only at q3 q4 e4
        subst e1 e2 e3 e4 q1 q2 q3 q4 q5
        exact ⟨nm, q, N, bs, bm, sn, sub, ab, col, dd, _, _, _, _, _, ho, q6⟩
      · cases q5
    · cases h1
  · cases h1
def xfN (x : Str) (K : Frag) : Bool := xfB K (He.ga K x)
def tycN (x : Str) (K : Frag) : Bool := He.eqO (PySem.W.findIn K (.ref (He.ga K x)) "__class__") (some (some (.builtin "object.__class__"))) && (He.eqO (PySem.W.specialIn K (.builtin "object.__class__") "__get__") (some (some (.builtin "getset_descriptor.__get__"))) &&
  (decide (PySem.W.takesIn K (.builtin "object.__class__") = some true) && decide (PySem.W.mroIn K (He.ga K x) (.type "object") = some true)))
def isiN (x : Str) (Ts : List String) (K : Frag) : Bool := Ts.all fun T => decide (PySem.W.kitOne K (.type T) (.ref (He.ga K x)) = some false)
def eqcN (x : Str) (Ts : List String) (K : Frag) : Bool := He.eqO (PySem.W.findIn K (.ref (He.ga K x)) "__ne__") (some (some (.builtin "object.__ne__"))) && Ts.all fun T => decide (PySem.W.subIn K (.type T) (.ref (He.ga K x)) = some false)
def kdN (x : Str) (tab : List (Str × Option He.Dv)) (K : Frag) : Bool := tab.all fun q => match PySem.W.nsIn K (He.ga K x) q.1 with
  | some r => (match r, q.2 with
    | none, none => true
    | some u, some v => He.relB (v.v K) u
    | _, _ => false)
  | none => false
/-! ### the Hook -/
abbrev Exs := List (Frag → Bool)
abbrev AlX : Type := He.AlT × Bool
def obsX (fa : List He.Fa) (fn : List He.DefD) (ts : List He.Tab) (ex : Exs) (K : Frag) : AlX := (He.obsT fa fn ts K, ex.all fun b => b K)
def obsXG (n : Nat) (fa : List He.Fa) (fn : List He.DefD) (ts : List He.Tab) (ex : Exs) (g : Addr → Option Obj) : AlX := obsX fa fn ts ex (He.frG g (He.asD g n))
def SaysX (fa : List He.Fa) (fn : List He.DefD) (ts : List He.Tab) (ex : Exs) (w : World) (K : Frag) : Prop := obsX fa fn ts ex K = (He.valT fn ts w, true)
def hookX (n : Nat) (fa : List He.Fa) (fn : List He.DefD) (ts : List He.Tab) (ex : Exs) : PySem.W.Hook where
  α := AlX
  obs := fun s => obsXG n fa fn ts ex s.heap.get?
  val := fun w => (He.valT fn ts w, true)
  says := fun w h => ∃ K : Frag, K.In h ∧ SaysX fa fn ts ex w K
  of := fun _ _ e => ⟨_, He.frG_in, e⟩
  keeps := fun _ _ _ ⟨K, hK, c⟩ k => ⟨K, PySem.W.Frag.In.keeps hK k, c⟩
theorem obsXG_eq {n : Nat} {fa : List He.Fa} {fn : List He.DefD} {ts : List He.Tab} {ex : Exs} {g : Addr → Option Obj} {s : Shared} (h : ∀ a, g a = s.heap.get? a) : obsXG n fa fn ts ex g = (hookX n fa fn ts ex).obs s := by
  rw [show g = s.heap.get? from funext h]
  rfl
/-- what a def's proof leans on -/
structure GD (fa : List He.Fa) (fn : List He.DefD) (ts : List He.Tab) (ex : Exs) (w : World) (K : Frag) (mg : Str → Option Value) : Prop where
  ns : ∃ h : Heap, K.In h ∧ h.Ns mainGlobals mg
  says : SaysX fa fn ts ex w K
section
variable {fa : List He.Fa} {fn : List He.DefD} {ts : List He.Tab} {ex : Exs} {w : World} {K : Frag} {mg : Str → Option Value} (T : GD fa fn ts ex w K mg)
include T
theorem GD.t : He.SaysT fa fn ts w K := congrArg (fun z : AlX => z.1) T.says
theorem GD.d : He.SaysD fa fn K := T.t.d
theorem GD.x (i : Nat) {b : Frag → Bool} (h : ex[i]? = some b := by rfl) : b K = true := List.all_eq_true.mp (show (ex.all fun b => b K) = true from congrArg (fun z : AlX => z.2) T.says) b (List.mem_of_getElem? h)
theorem GD.glo (i : Nat) {x : Str} (h : fa[i]? = some (.glo x) := by rfl) : mg x = some (.ref (He.ga K x)) := let ⟨_, X, G⟩ := T.ns; He.glo_ok X G (T.d.fact i h)
theorem GD.free (i : Nat) {x : Str} (h : fa[i]? = some (.free x) := by rfl) : mg x = none := let ⟨_, X, G⟩ := T.ns; He.free_ok X G (T.d.fact i h)
theorem GD.meth (i : Nat) {x m : Str} (h : fa[i]? = some (.meth x m) := by rfl) : Meth K (He.ga K x) m (He.ma K (He.ga K x) m) := He.meth_ok (T.d.fact i h)
theorem GD.cls (i : Nat) {x : Str} (h : fa[i]? = some (.cls x) := by rfl) : Cls K (He.ga K x) := He.cls_ok (T.d.fact i h)
theorem GD.noat (i : Nat) {x f : Str} (h : fa[i]? = some (.noat x f) := by rfl) : NoAttr K (He.ga K x) f := He.noat_ok (T.d.fact i h)
theorem GD.mkr (i : Nat) {x : Str} (h : fa[i]? = some (.mkr x) := by rfl) : Mk K (He.ga K x) (He.ma K (He.ga K x) "__init__") := He.mkr_ok (T.d.fact i h)
theorem GD.fn_ (i : Nat) {d : He.DefD} (h : fn[i]? = some d := by rfl) : ∃ fd, FunD K d.name d.qual d.params d.body d.scope (d.dvs K) (d.kws K) (He.fAd K d.at_) fd := T.d.def_ i h
variable {X : Cx} (hK : X.K = K) (hm : X.mg = mg)
theorem GD.gd_int (i : Nat) {x : Str} {n : Int} (h : fa[i]? = some (.int x n) := by rfl) (hm : X.mg = mg := by rfl) : GlobD X x (.int n) := by
  obtain ⟨_, XI, G⟩ := T.ns
  obtain ⟨t, e⟩ := He.int_ok XI G (T.d.fact i h)
  exact ⟨_, .int n, by rw [hm]; exact e, ⟨t, rfl⟩, fun _ _ => rfl⟩
theorem GD.gd_str (i : Nat) {x n : Str} (h : fa[i]? = some (.str x n) := by rfl) (hm : X.mg = mg := by rfl) : GlobD X x (.str n) := by
  obtain ⟨_, XI, G⟩ := T.ns
  obtain ⟨t, e⟩ := He.str_ok XI G (T.d.fact i h)
  exact ⟨_, .str n, by rw [hm]; exact e, ⟨t, rfl⟩, fun _ _ => rfl⟩
theorem GD.gd_nm (i : Nat) {x : Str} (h : fa[i]? = some (.glo x) := by rfl) (hm : X.mg = mg := by rfl) : GlobD X x (.nm x) := by
  have e := T.glo i h
  exact ⟨_, .ref _, by rw [hm]; exact e, rfl, fun _ _ => ⟨_, by show X.mg x = _; rw [hm]; exact e, rfl⟩⟩
omit T in
theorem kt_of {K : Frag} {a : Addr} {xs : List V} (h : SqT K (fun _ => none) a xs) : KT K a xs := by
  rcases h with (h | ⟨_, h⟩) | h
  · cases h
  · cases h
  · exact h
/-- a tuple of ints, a constant of the module -/
theorem GD.gd_tup (i j : Nat) {x : Str} {ns : List Int} (h : fa[i]? = some (.glo x) := by rfl) (h2 : ex[j]? = some (fun K => He.tupB K x (ns.map He.Dv.int)) := by rfl) (hm : X.mg = mg := by rfl) (hK : X.K = K := by rfl) (hz : ns.length ≤ sizeLine := by decide) : GlobD X x (.tup (ns.map .int)) := by
  have e := T.glo i h
  have q := kt_of (He.tupB_ok (T.x j h2) (fun _ => none))
  refine ⟨_, .ref _, by rw [hm]; exact e, rfl, fun W H => ⟨_, ns.map V.int, rfl, .inr ?_, reps_ints ns, by rw [List.length_map]; exact hz⟩⟩
  show KT X.K _ _
  rw [hK]
  have e2 : (ns.map He.Dv.int).map (He.Dv.v K) = ns.map V.int := by
    rw [List.map_map]; rfl
  rw [e2] at q
  exact q
theorem GD.clsF (i j k : Nat) {c f : Str} (h1 : fa[i]? = some (.glo c) := by rfl) (h2 : fa[j]? = some (.cls c) := by rfl) (h3 : fa[k]? = some (.noat c f) := by rfl) (hm : X.mg = mg := by rfl) (hK : X.K = K := by rfl) : ClsF X c f := ⟨fun C e => by
  rw [hm, T.glo i h1] at e
  cases e
  rw [hK]
  exact ⟨T.cls j h2, T.noat k h3⟩⟩
theorem GD.clsM (i j k : Nat) {c m : Str} (h1 : fa[i]? = some (.glo c) := by rfl) (h2 : fa[j]? = some (.cls c) := by rfl) (h3 : fa[k]? = some (.meth c m) := by rfl) (hm : X.mg = mg := by rfl) (hK : X.K = K := by rfl) : ClsM X c m (He.ma K (He.ga K c) m) :=
  ⟨⟨_, by rw [hm]; exact T.glo i h1, by rw [hK]; exact T.cls j h2, by rw [hK]; exact T.meth k h3⟩⟩
theorem GD.clsN (i j : Nat) {c : Str} (h1 : fa[i]? = some (.glo c) := by rfl) (h2 : fa[j]? = some (.mkr c) := by rfl) (hm : X.mg = mg := by rfl) (hK : X.K = K := by rfl) : ClsN X c (He.ma K (He.ga K c) "__init__") :=
  ⟨⟨_, by rw [hm]; exact T.glo i h1, by rw [hK]; exact T.mkr j h2⟩⟩
theorem GD.tyC (i j k : Nat) {c : Str} (h1 : fa[i]? = some (.glo c) := by rfl) (h2 : fa[j]? = some (.cls c) := by rfl) (h3 : ex[k]? = some (tycN c) := by rfl) (hm : X.mg = mg := by rfl) (hK : X.K = K := by rfl) : TyC X c := ⟨fun C e => by
  rw [hm, T.glo i h1] at e
  cases e
  rw [hK]
  have q := T.x k h3
  unfold tycN at q
  simp only [Bool.and_eq_true] at q
  obtain ⟨q1, q2, q3, q4⟩ := q
  exact ⟨T.cls j h2, He.eqO_ok q1, He.eqO_ok q2, of_decide_eq_true q3, of_decide_eq_true q4⟩⟩
def ownTab (c : Str) (Ts : List String) : ITab := (.own c, true) :: Ts.map fun T => (Tg.ty T, false)
omit T in
theorem ownTab_ty {Ts : List String} {t : Tg} {b : Bool} : (Ts.map fun T => (Tg.ty T, false)).lookup t = some b → ∃ T ∈ Ts, t = .ty T ∧ b = false := by
  induction Ts with
  | nil => intro h; cases h
  | cons U Us ih =>
    intro h
    rw [List.map_cons, List.lookup_cons] at h
    cases q : t == Tg.ty U with
    | true => rw [q] at h; cases h; exact ⟨U, List.mem_cons_self, eq_of_beq q, rfl⟩
    | false => rw [q] at h; obtain ⟨V, h1, h2⟩ := ih h; exact ⟨V, List.mem_cons_of_mem _ h1, h2⟩
/-- isinstance of an own class -/
theorem GD.isC (i j k l : Nat) {c : Str} {Ts : List String} (h1 : fa[i]? = some (.glo c) := by rfl) (h2 : fa[j]? = some (.cls c) := by rfl) (h3 : ex[k]? = some (tycN c) := by rfl) (h4 : ex[l]? = some (isiN c Ts) := by rfl) (hm : X.mg = mg := by rfl) (hK : X.K = K := by rfl) : IsC X (.nm c) (ownTab c Ts) := by
  have e := T.glo i h1
  have q := T.x l h4
  unfold isiN at q
  refine ⟨⟨.ref (He.ga K c), .ref (He.ga K c), .own _, fun W H v r => ?_, fun t b tv h r => ?_⟩, fun c' b h => ?_⟩
  · obtain ⟨a, e2, rfl⟩ := r
    have e3 : X.mg c = some (.ref a) := e2
    rw [hm, e] at e3
    cases e3; rfl
  · unfold ownTab at h
    rw [List.lookup_cons] at h
    cases z : t == Tg.own c with
    | true =>
      rw [z] at h; cases h
      have ez : t = Tg.own c := eq_of_beq z
      subst ez
      obtain ⟨C, e3, rfl⟩ := r
      rw [hm, e] at e3
      cases e3
      show PySem.W.kitOne X.K _ _ = _
      unfold PySem.W.kitOne
      simp
    | false =>
      rw [z] at h
      obtain ⟨U, hU, rfl, rfl⟩ := ownTab_ty h
      cases (show tv = .type U from r)
      rw [hK]
      exact of_decide_eq_true (List.all_eq_true.mp q U hU)
  · unfold ownTab at h
    rw [List.lookup_cons] at h
    cases z : Tg.own c' == Tg.own c with
    | true =>
      have ez : Tg.own c' = Tg.own c := eq_of_beq z
      cases ez
      exact T.tyC i j k h1 h2 h3 hm hK
    | false =>
      rw [z] at h
      obtain ⟨U, hU, e3, _⟩ := ownTab_ty h
      cases e3
theorem GD.eqC (i j k l m : Nat) {c : Str} {Ts : List String} (h1 : fa[i]? = some (.glo c) := by rfl) (h2 : fa[j]? = some (.cls c) := by rfl) (h3 : ex[k]? = some (tycN c) := by rfl) (h4 : ex[l]? = some (eqcN c Ts) := by rfl) (h5 : fa[m]? = some (.meth c "__eq__") := by rfl) (hm : X.mg = mg := by rfl) (hK : X.K = K := by rfl) :
    EqC X c (He.ma K (He.ga K c) "__eq__") Ts := by
  have q := T.x l h4
  unfold eqcN at q
  rw [Bool.and_eq_true] at q
  have M := T.meth m h5
  have ty := T.tyC (X := X) i j k h1 h2 h3 hm hK
  have e := T.glo i h1
  refine ⟨⟨_, by rw [hm]; exact e, by rw [hK]; exact M.at_, by rw [hK]; exact M.fn, by rw [hK]; exact He.eqO_ok q.1, (ty.ok _ (by rw [hm]; exact e)).2.2.2.2, fun U hU => ?_⟩, ty⟩
  rw [hK]
  exact of_decide_eq_true (List.all_eq_true.mp q.2 U hU)
theorem GD.xfn (i j k : Nat) {c f : Str} (h1 : fa[i]? = some (.glo c) := by rfl) (h2 : ex[j]? = some (xfN c) := by rfl) (h3 : fa[k]? = some (.noat c f) := by rfl) (hm : X.mg = mg := by rfl) (hK : X.K = K := by rfl) : XfN X c f := ⟨fun C e => by
  rw [hm, T.glo i h1] at e
  cases e
  rw [hK]
  exact ⟨xfB_ok (T.x j h2), T.noat k h3⟩⟩
theorem GD.names (i : Nat) {c : Str} (h1 : fa[i]? = some (.glo c) := by rfl) (hg : Gl X c := by rfl) (hd : (c == ("__debug__" : Str)) = false := by decide) (hm : X.mg = mg := by rfl) : Names X c (.ref (He.ga K c)) := ⟨hg, hd, .inl (by rw [hm]; exact T.glo i h1)⟩
end
/-- the data that a default, an entry is -/
def dvD : He.Dv → D
  | .non => .non
  | .bl b => .bl b
  | .int i => .int i
  | .str x => .str x
  | .ty n => .ty n
  | .glo x => .nm x
  | _ => .non
def dvOk : He.Dv → Bool
  | .non => true
  | .bl _ => true
  | .int _ => true
  | .str _ => true
  | .ty _ => true
  | _ => false
theorem dvD_rep {K : Frag} {v : He.Dv} (h : dvOk v = true) (c : Cn) (W : Wd) (H : Hp) : Rep c W H (dvD v) (v.v K) := by
  cases v <;> first | rfl | cases h
section
variable {fa : List He.Fa} {fn : List He.DefD} {ts : List He.Tab} {ex : Exs} {w : World} {K : Frag} {mg : Str → Option Value} (T : GD fa fn ts ex w K mg) {X : Cx}
include T
/-- a dict of the module -/
theorem GD.kd (i j k : Nat) {x : Str} {tab : List (Str × Option He.Dv)} {t : He.Tab} (h1 : fa[i]? = some (.glo x) := by rfl) (h2 : ex[j]? = some (kdN x tab) := by rfl) (h3 : ts[k]? = some t := by rfl) (h4 : t.1 K = He.ga K x := by rfl) (h5 : (tab.all fun q => (q.2.map dvOk).getD true) = true := by rfl) (hm : X.mg = mg := by rfl) (hK : X.K = K := by rfl) (hw : X.w = w := by rfl) :
    KD X x (tab.map fun q => (q.1, q.2.map dvD)) := by
  obtain ⟨es, n, hd⟩ := T.t.tab k h3
  rw [h4] at hd
  refine ⟨⟨_, es, n, by rw [hm]; exact T.glo i h1, by rw [hK, hw]; exact hd, fun z r h => ?_⟩⟩
  have q := T.x j h2
  unfold kdN at q
  have fnd : ∀ l : List (Str × Option He.Dv), (l.map fun q => (q.1, q.2.map dvD)).lookup z = some r → ∃ v, (z, v) ∈ l ∧ r = v.map dvD := by
    intro l
    induction l with
    | nil => intro h; cases h
    | cons p l ih =>
      intro h
      rw [List.map_cons, List.lookup_cons] at h
      cases y : z == p.1 with
      | true =>
        rw [y] at h; cases h
        have ey : z = p.1 := eq_of_beq y
        subst ey
        exact ⟨p.2, List.mem_cons_self, rfl⟩
      | false =>
        rw [y] at h
        obtain ⟨v, h1, h2⟩ := ih h
        exact ⟨v, List.mem_cons_of_mem _ h1, h2⟩
  obtain ⟨v, hv, rfl⟩ := fnd tab h
  have q1 := List.all_eq_true.mp q _ hv
  have q2 := List.all_eq_true.mp h5 _ hv
  rw [hK]
  simp only at q1 q2
  cases e : PySem.W.nsIn K (He.ga K x) z with
  | none => rw [e] at q1; cases q1
  | some ro =>
    rw [e] at q1
    refine ⟨ro, rfl, ?_⟩
    cases v with
    | none => cases ro with
      | none => rfl
      | some u => cases q1
    | some v => cases ro with
      | none => cases q1
      | some u => exact ⟨u, v.v K, rfl, He.relB_ok q1, fun W H => dvD_rep q2 _ W H⟩
end
theorem takes0 {X : Cx} : Takes X Wx0 := fun u s' h => by
  obtain ⟨_, _, _, _, _, _, _, _, _, _, _, _, _, _, _, _, q⟩ := h
  exact q.elim
theorem Room.u64 {k : Nat} {A : Around} (r : Room k A) : A.units + 64 < cLine := by have := r.un; omega
theorem Room.u66 {k : Nat} {A : Around} (r : Room k A) : A.units + 66 < cLine := by have := r.un; omega
end DL

namespace DL
open PySem PySem.Spec PyProof.Rows L2
def bfN (x : Str) (id : String) (K : Frag) : Bool := He.eqO (PySem.W.nsIn K mainGlobals x) (some (some (.builtin id)))
theorem GD.bfun {fa : List He.Fa} {fn : List He.DefD} {ts : List He.Tab} {ex : Exs} {w : World} {K : Frag} {mg : Str → Option Value} (T : GD fa fn ts ex w K mg) (j : Nat) {x : Str} {id : String} (h : ex[j]? = some (bfN x id) := by rfl) : mg x = some (.builtin id) :=
  let ⟨_, X, G⟩ := T.ns; PySem.W.mg_of X G (He.eqO_ok (T.x j h))
theorem mem_lookup {α β : Type} [BEq α] [LawfulBEq α] {n : α} {b : β} : ∀ {l : List (α × β)}, l.lookup n = some b → (n, b) ∈ l
  | [], h => by cases h
  | p :: l, h => by
    rw [List.lookup_cons] at h
    cases q : n == p.1 with
    | true => rw [q] at h; cases h; rw [eq_of_beq q]; exact List.mem_cons_self
    | false => rw [q] at h; exact List.mem_cons_of_mem _ (mem_lookup h)
theorem _root_.L2.FnOk.g {P : Program} {w : World} {K : PySem.W.Frag} {mg : Str → Option Value} {base : Heap} {k : Nat} {f : Addr} {fd : FuncData} {ps : List Str} {sp : Sp} (F : FnOk P w K mg base (L2.CX P w) k f fd ps sp) : FnG P w K mg base k f fd ps sp :=
  ⟨F.len, fun A outer s H args us vs Q E _ hr e0 hb r h => F.run A outer s H args us vs Q E hr e0 hb r h⟩
section
variable {X : Cx} {Wx : WX}
theorem pd_bfun {x : Str} {p pos : Pos} {e : Expr} {es : List Expr} {g : DA} {id : String} {r : List V → Hp → VK → Prop} {op : List D → Sto → Out D} (hc : CallR X (.builtin id) r) (hr : RCallP X r op) (hm : X.mg x = some (.builtin id)) (ha : PDAP X Wx (e :: es) g)
    (hg : Gl X x := by rfl) (hdb : (x == ("__debug__" : Str)) = false := by decide)
    (he : starEach (e :: es) X.env = (false, eval e X.env) :: starEach es X.env := by rfl) (hpl : (backTo pos (starEach es X.env)).any (·.1) = false := by rfl) : PDE X Wx (.Call (.Name x p) (e :: es) [] pos) (dCB op g) := by
  obtain ⟨t, a1, a2⟩ := ha
  exact ⟨_, pe_callBfun hc hg hm a1 hdb he hpl, snd_CBP hr a2⟩
end
end DL

namespace DL
open PySem PySem.Spec PyProof.Rows L2
section
variable {X : Cx} {Wx : WX}
/-- two new lists, each taken by a name -/
theorem two_taken {i j : Nat} {f h : DL} {t u : TE} {kk : List D → List D → Sto → Rs} (t2 : SndL X Wx f t) (u2 : SndL X Wx h u) {B : Bs} {th : List Addr} {ρ : En} {S : Sto} {σ : L2.St} {H : Hp} {D' : Ends} {Q : V → V → Hp → Prop} (rf : RF (cn X) B th ρ S σ H)
    (hl : i < ρ.length ∧ j < ρ.length) (p : PostS (cn X) B th ρ σ H Wx D' ((f ρ S).st ρ fun xs S1 => (h ρ S1).st ρ fun ys S2 => kk xs ys S2))
    (go : ∀ xs ys a1 a2 th2 S2 H2, RF (cn X) B th2 ((ρ.set i (some (.own xs))).set j (some (.own ys))) S2 ((σ.set i (some (.ref a1))).set j (some (.ref a2))) H2 →
      Xs th ρ σ H th2 ((ρ.set i (some (.own xs))).set j (some (.own ys))) ((σ.set i (some (.ref a1))).set j (some (.ref a2))) H2 → PostS (cn X) B th ρ σ H Wx D' (kk xs ys S2) → Q (.ref a1) (.ref a2) H2) :
    t σ H fun x H1 => u σ H1 fun y H2 => Q x y H2 := by
  refine t2 (B.w th ρ σ) ρ S σ H _ rf.re ?_
  cases e : f ρ S with
  | exc n y S' =>
    rw [e] at p
    exact fun C d th' H' hm x rs xr => p C d σ H' th' hm (x.xs ρ σ) (rf.xt x rs) xr
  | bad => rw [e] at p; exact p.elim
  | ok xs S1 =>
    rw [e] at p
    simp only [Out.st] at p
    intro a1 vs1 th1 H1 x1 h01 h11 h21 rs1 r1 z1
    have re1 := rf.re.hd x1 h01 rs1
    refine u2 ((B.w th ρ σ).hd th1 a1) ρ S1 σ H1 _ re1 ?_
    cases e2 : h ρ S1 with
    | exc n y S' =>
      rw [e2] at p
      intro C d th' H' hm x rs xr
      have x' := x1.trans x
      have rs' : RS (cn X) (B.w th' ρ σ) S' H' := rs.less (fun b q => .inl q) rfl
      exact p C d σ H' th' hm (x'.xs ρ σ) (rf.xt x' rs') (XR.mv (W := ((B.w th ρ σ).hd th1 a1).to th') (W' := B.w th' ρ σ) (Mv.less (fun b q => Or.inl q) rfl) _ _ xr)
    | bad => rw [e2] at p; exact p.elim
    | ok ys S2 =>
      rw [e2] at p
      simp only [Out.st] at p
      intro a2 vs2 th2 H2 x2 h02 h12 h22 rs2 r2 z2
      have re2 := re1.hd x2 h02 rs2
      have x12 := x1.trans x2
      obtain ⟨k1, k2⟩ := x2.keep a1 _ h11 h21
      have na2 : a2 ≠ a1 := fun q => by rw [q, h11] at h02; cases h02
      have none2 : H a2 = none := by
        cases q : H a2 with
        | none => rfl
        | some o =>
          by_cases hm : a2 ∈ th
          · obtain ⟨n, hn, e3⟩ := List.mem_iff_getElem.mp hm
            exact (h22 (List.mem_of_getElem? (x12.get (n := n) (a := a2) (by rw [List.getElem?_eq_getElem hn, e3])))).elim
          · have := (x1.keep a2 o q hm).1
            rw [h02] at this; cases this
      have noow : ∀ b, H b = none → ¬ ownd ρ σ b := fun b hb q => by
        obtain ⟨o, e⟩ := rf.rs.prt b (.inr q)
        rw [hb] at e; cases e
      have nop : ∀ b, H b = none → ¬ B.P0 b := fun b hb q => by
        obtain ⟨o, e⟩ := rf.rs.prt b (.inl q)
        rw [hb] at e; cases e
      let B1 : Bs := ⟨fun b => B.P0 b ∨ b = a2, B.xc⟩
      let B2 : Bs := ⟨fun b => B1.P0 b ∨ b = a1, B.xc⟩
      have rfb : RF (cn X) B2 th2 ρ S2 σ H2 := by
        refine ⟨re2.less (fun b => ?_) rfl rfl, fun b q => ?_, rf.inj, rf.len⟩
        · show (((B.P0 b ∨ b = a2) ∨ b = a1) ∨ ownd ρ σ b) ↔ (((B.P0 b ∨ ownd ρ σ b) ∨ b = a1) ∨ b = a2)
          constructor
          · rintro (((q | q) | q) | q)
            · exact .inl (.inl (.inl q))
            · exact .inr q
            · exact .inl (.inr q)
            · exact .inl (.inl (.inr q))
          · rintro (((q | q) | q) | q)
            · exact .inl (.inl (.inl q))
            · exact .inr q
            · exact .inl (.inr q)
            · exact .inl (.inl (.inr q))
        · rintro ((z | z) | z)
          · exact rf.p0 b q z
          · exact noow b (by rw [z]; exact none2) q
          · exact noow b (by rw [z]; exact h01) q
      have rr1 : Reps (cn X) (Bs.w B2 th2 ρ σ) H2 xs vs1 := by
        have nxt : Mv (((B.w th ρ σ).hd th1 a1)) H1 (Bs.w B2 th2 ρ σ) H2 := ⟨fun b o e n => by
          obtain ⟨w1, w2⟩ := x2.keep b o e fun q => n (.inl q)
          refine ⟨w1, fun q => q.elim w2 ?_⟩
          rintro (((q | q) | q) | q)
          · exact n (.inr (.inl (.inl q)))
          · exact ne_of_none e h02 q
          · exact n (.inr (.inr q))
          · exact n (.inr (.inl (.inr q))), fun n b e => x2.get e⟩
        exact Reps.mv nxt _ _ r1
      have rf1 : RF (cn X) B1 th2 (ρ.set i (some (.own xs))) S2 (σ.set i (some (.ref a1))) H2 := RF.take (B := B1) rfb i hl.1 (fun q => q.elim (nop a1 h01) fun q => na2 q.symm) k1 k2 rr1 z1
      have rr2 : Reps (cn X) (Bs.w B1 th2 (ρ.set i (some (.own xs))) (σ.set i (some (.ref a1)))) H2 ys vs2 := by
        refine Reps.mv (Mv.less (W := ((B.w th ρ σ).hd th1 a1).hd th2 a2) (W' := Bs.w B1 th2 (ρ.set i (some (.own xs))) (σ.set i (some (.ref a1)))) (fun b q => ?_) rfl) _ _ r2
        rcases q with (q | q) | ⟨j', es, q1, q2⟩
        · exact .inl (.inl (.inl q))
        · exact .inr q
        · by_cases hj' : i = j'
          · subst hj'
            rw [List.getElem?_set_self (by rw [← rf.len]; exact hl.1)] at q2
            simp only [Option.some.injEq, V.ref.injEq] at q2
            exact .inl (.inr q2.symm)
          · rw [List.getElem?_set_ne hj'] at q1 q2
            exact .inl (.inl (.inr ⟨j', es, q1, q2⟩))
      have rf2 := RF.take (B := B) rf1 j (by rw [List.length_set]; exact hl.2) (nop a2 none2) h12 h22 rr2 z2
      refine go xs ys a1 a2 th2 S2 H2 rf2 ⟨fun b o e n q => ?_, x12.th⟩ p
      obtain ⟨w1, w2⟩ := x12.keep b o e n
      refine ⟨w1, w2, fun z => ?_⟩
      obtain ⟨j', es, q1, q2⟩ := z
      by_cases hj' : j = j'
      · subst hj'
        rw [List.getElem?_set_self (by rw [List.length_set, ← rf.len]; exact hl.2)] at q2
        simp only [Option.some.injEq, V.ref.injEq] at q2
        exact ne_of_none e none2 q2.symm
      · rw [List.getElem?_set_ne hj'] at q1 q2
        by_cases hi' : i = j'
        · subst hi'
          rw [List.getElem?_set_self (by rw [← rf.len]; exact hl.1)] at q2
          simp only [Option.some.injEq, V.ref.injEq] at q2
          exact ne_of_none e h01 q2.symm
        · rw [List.getElem?_set_ne hi'] at q1 q2
          exact q ⟨j', es, q1, q2⟩
/-- a, b, c = x, [..], [..]: a value and two lists that the frame alone holds -/
def dParVOO (i j l : Nat) (f : DE) (g h : DL) : DS := fun ρ S => if j < ρ.length ∧ l < ρ.length then (f ρ S).st ρ fun d S0 => (g ρ S0).st ρ fun xs S1 => (h ρ S1).st ρ fun ys S2 => .nx (((ρ.set i (some (.val d))).set j (some (.own xs))).set l (some (.own ys))) S2 else .bad
theorem pds_parVOO {i j l : Nat} {x y z : Str} {a b c : Expr} {f : DE} {g h : DL} {px py pz pt pos : Pos} {kt k2 : Nat} {pt2 : Pos} (hc : X.calm = true) (hN : X.N.Nodup) (hij : i ≠ j) (hil : i ≠ l) (hjl : j ≠ l) (h0 : PDE X Wx a f) (h1 : PDL X Wx b g) (h2 : PDL X Wx c h)
    (hi : X.N[i]? = some x := by rfl) (hj : X.N[j]? = some y := by rfl) (hl : X.N[l]? = some z := by rfl)
    (hx : X.env.scope.names.lookup x = some .local := by rfl) (hy : X.env.scope.names.lookup y = some .local := by rfl) (hz : X.env.scope.names.lookup z = some .local := by rfl)
    (hw : swappedStores [.Tuple [.Name x px, .Name y py, .Name z pz] kt pt] (.Tuple [a, b, c] k2 pt2) X.env = pure (some [x, y, z]) := by rfl)
    (hs : swapsWithSole [.Tuple [.Name x px, .Name y py, .Name z pz] kt pt] (.Tuple [a, b, c] k2 pt2) pos.line X.env = pure false := by rfl)
    (hsa : starEach [a, b, c] X.env = (false, eval a X.env) :: starEach [b, c] X.env := by rfl) (hsb : starEach [b, c] X.env = (false, eval b X.env) :: starEach [c] X.env := by rfl) (hsc : starEach [c] X.env = (false, eval c X.env) :: starEach [] X.env := by rfl) :
    PDS X Wx (.Assign [.Tuple [.Name x px, .Name y py, .Name z pz] kt pt] (.Tuple [a, b, c] k2 pt2) pos) (dParVOO i j l f g h) := by
  obtain ⟨t, t1, t2⟩ := h0
  obtain ⟨u, u1, u2⟩ := h1
  obtain ⟨w, w1, w2⟩ := h2
  refine ⟨_, ps_par3 hc hN hi hj hl hij hil hjl hx hy hz (pa_cons t1 (pa_cons u1 (pa_cons w1 pa_nil hsc) hsb) hsa) hw hs, fun B th ρ S σ H D rf p => ?_⟩
  unfold dParVOO at p
  split at p
  · rename_i hlt
    refine t2.runS rf p fun d v th0 S0 H0 rf0 r0 x0 p0 => ?_
    refine two_taken (Q := fun a b H => ∃ v0 w0 u0, _ ∧ _) u2 w2 rf0 hlt p0 fun xs ys a1 a2 th2 S2 H2 rf2 xs2 p2 => ?_
    have hn : ∀ ds, Sl.val d ≠ .own ds := fun _ z => by cases z
    have m1 : Mv (B.w th0 ρ σ) H0 (B.w th2 ((ρ.set j (some (.own xs))).set l (some (.own ys))) ((σ.set j (some (.ref a1))).set l (some (.ref a2)))) H2 := ⟨fun b o e n => by
      obtain ⟨q1, q2, q3⟩ := xs2.keep b o e (fun q => n (.inl q)) (fun q => n (.inr (.inr q)))
      exact ⟨q1, fun q => q.elim q2 fun q => q.elim (fun q => n (.inr (.inl q))) q3⟩, fun n b e => by
      obtain ⟨k, ek⟩ := xs2.th
      show th2[n]? = some b
      rw [ek, List.getElem?_append_left (List.getElem?_eq_some_iff.mp e).1]
      exact e⟩
    have m2 : Mv (B.w th2 ((ρ.set j (some (.own xs))).set l (some (.own ys))) ((σ.set j (some (.ref a1))).set l (some (.ref a2)))) H2 (B.w th2 (((ρ.set j (some (.own xs))).set l (some (.own ys))).set i (some (.val d))) (((σ.set j (some (.ref a1))).set l (some (.ref a2))).set i (some v))) H2 :=
      Mv.less (fun a (z : B.P0 a ∨ _) => z.elim .inl fun q => .inr (ownd_set rf2.len hn q)) rfl
    obtain ⟨rf3, x3⟩ := rf2.set i (d := .val d) (v := v) hn (Rep.mv m2 _ _ (Rep.mv m1 _ _ r0))
    have eρ : ((ρ.set j (some (.own xs))).set l (some (.own ys))).set i (some (.val d)) = ((ρ.set i (some (.val d))).set j (some (.own xs))).set l (some (.own ys)) := by
      rw [List.set_comm _ _ hil.symm, List.set_comm _ _ hij.symm]
    have eσ : ((σ.set j (some (V.ref a1))).set l (some (.ref a2))).set i (some v) = ((σ.set i (some v)).set j (some (.ref a1))).set l (some (.ref a2)) := by
      rw [List.set_comm _ _ hil.symm, List.set_comm _ _ hij.symm]
    rw [eρ, eσ] at rf3 x3
    exact ⟨v, _, _, rfl, p2 _ _ _ (xs2.trans x3) rf3⟩
  · exact p.elim
end
end DL

namespace DL
open PySem PySem.Spec PyProof.Rows L2
/-! ### several except clauses, with names or without -/
abbrev HQ := Value × Option Nat × (Addr → Value → Option Addr → TS)
abbrev SuOk (X : Cx) (sts : List Stmt) (ts : Addr → Value → Option Addr → TS) : Prop := ∀ (a : Addr) (oe : Obj) (cls : Value) (d : Option Addr) (pn : List (Addr × Obj)), Zc cls d oe → (∃ vs, oe.data = .fields vs) → PSs (X.suite a ((a, oe) :: pn)) sts (ts a cls d)
inductive HdA (X : Cx) : ExceptHandler → HQ → Prop
  | plain {x : Str} {c : Value} {ts : Addr → Value → Option Addr → TS} {s1 : Stmt} {ss : List Stmt} {np p : Pos} (hc : Names X x c) (hs : SuOk X (s1 :: ss) ts) : HdA X (.ExceptHandler (some (.Name x np)) none (s1 :: ss) p) (c, none, ts)
  | named {x n : Str} {i : Nat} {c : Value} {ts : Addr → Value → Option Addr → TS} {s1 : Stmt} {ss : List Stmt} {np p : Pos} (hc : Names X x c) (hi : X.N[i]? = some n) (hl : X.env.kindOf n = some .local) (hs : SuOk X (s1 :: ss) ts) :
      HdA X (.ExceptHandler (some (.Name x np)) (some n) (s1 :: ss) p) (c, some i, ts)
inductive HdsA (X : Cx) : List ExceptHandler → List HQ → Prop
  | nil : HdsA X [] []
  | cons {h : ExceptHandler} {q : HQ} {hs : List ExceptHandler} {qs : List HQ} (a : HdA X h q) (r : HdsA X hs qs) : HdsA X (h :: hs) (q :: qs)
def endI : Option Nat → Ends → Ends
  | none, D => D
  | some i, D => { nx := fun σ H => D.nx (σ.set i none) H, rt := D.rt, bk := fun σ H => D.bk (σ.set i none) H, ct := fun σ H => D.ct (σ.set i none) H }
def setI : Option Nat → Addr → L2.St → L2.St
  | none, _, σ => σ
  | some i, a, σ => σ.set i (some (.ref a))
/-- what the clauses wish -/
def wA (K : PySem.W.Frag) (Wo : WX) (D : Ends) : List HQ → WX
  | [] => Wo
  | q :: r => fun cls d σ H => ∃ b, PySem.W.exmOne K cls q.1 = some b ∧ (b = true → ∀ a, H a = none → q.2.2 a cls d (endI q.2.1 D) (setI q.2.1 a σ) H) ∧ (b = false → wA K Wo D r cls d σ H)
section
variable {X : Cx} {body : List Stmt} {h0 : ExceptHandler} {hds : List ExceptHandler} {qs : List HQ} {pos : Pos} {tb : WX → TS} {Wo : WX}
theorem ps_trys (hN : X.N.Nodup) (st : X.stack = X.env :: X.outer) (fm : X.env.frame = some X.env.locals) (tk : Takes X Wo)
    (hb : ∀ (W : WX) (pn : List (Addr × Obj)) (xe : Value → Shared → Prop), Takes (X.tr pn xe) W → PassesOwn (model X.prog X.w) X.A X.env xe → PSs (X.tr pn xe) body (tb W))
    (hh : HdsA X (h0 :: hds) qs) : PS X (.Try body (h0 :: hds) [] [] pos) (fun D σ H => tb (wA X.K Wo D qs) D σ H) := by
  refine ⟨fun pins s σ H D inv wish => ?_⟩
  have ok := inv.ok
  have fr : X.A.frames = some (X.env :: X.outer) := by rw [ok.frames, st]
  refine wpAny_Try_except ?_
  have run := (hb (wA X.K Wo D qs) (X.pn ++ pins) (fun e s₁ => wpAny (model X.prog X.w) X.A (noteFrame e X.env) (fun _ s₂ => wpAny (model X.prog X.w) X.A (setFlight e none) (fun _ s₃ => wpAny (model X.prog X.w) X.A (handleBy e X.env (h0 :: hds)) (SP X pins D) X.xe s₃) X.xe s₂) X.xe s₁) (fun u s' got => ?_) PassesOwn.looking).run [] s σ H D (inv.toTry _) wish
  · refine wpAny_mono run (fun f s1 sp => ?_) fun e s1 he => he
    cases f with
    | next => obtain ⟨σ1, H1, j, q⟩ := sp; exact wpAny_execs_nil ⟨σ1, H1, j.ofTry ok, q⟩
    | brk => obtain ⟨σ1, H1, j, q⟩ := sp; exact ⟨σ1, H1, j.ofTry ok, q⟩
    | cont => obtain ⟨σ1, H1, j, q⟩ := sp; exact ⟨σ1, H1, j.ofTry ok, q⟩
    | ret u => obtain ⟨v, σ1, H1, j, r, q⟩ := sp; exact ⟨v, σ1, H1, j.ofTry ok, r, q⟩
  · -- an exception is caught
    obtain ⟨a, lim, sI, pins1, σ1, H1, cls, d, rfl, j1, above, risen, sky, fresh, os, ag, want⟩ := got
    have J : Inv X pins σ1 H1 sI := j1.ofTry ok
    have sky1 : Sky lim (X.env :: X.outer) a (Zc cls d) X.env.locals s'.heap := by rw [← st]; exact sky
    show wpAny (model X.prog X.w) X.A (noteFrame (.ref a) X.env) _ _ _
    refine Sky.land Zc.steady fr fm sky1 fun h3 fl3 up3 => ?_
    have J3 : Inv X pins σ1 H1 { s' with heap := h3 } := J.landed above fl3.1 (risen.trans up3) os ag
    obtain ⟨oe3, vs3, he3, hz3, hd3⟩ := fl3.there
    have apart : a ∉ frs (X.env :: X.outer) := fun hm => by
      obtain ⟨_, o', e', hnf⟩ := fl3.2.2.1.mem hm
      rw [he3] at e'
      cases e'
      exact hnf _ hd3
    have nL : a ≠ X.env.locals := fun z => apart (List.mem_filterMap.mpr ⟨_, List.mem_cons_self, by rw [fm, z]⟩)
    have nF : a ∉ X.fs := fun hm => by
      obtain ⟨e, he, q⟩ := List.mem_filterMap.mp hm
      exact apart (List.mem_filterMap.mpr ⟨e, List.mem_cons_of_mem _ he, q⟩)
    have S3 := J3.suite he3 hd3 fresh nL nF
    have LT : PySem.W.Looks (model X.prog X.w) h3 (typeOf (.ref a)) cls := fun A Q E s k q => wpAny_typeOf_ref (k _ _ he3) (by rw [hz3.1]; exact q)
    have asks : ∀ {x : Str} {c : Value} {np : Pos} {Q : Value → Shared → Prop} {E : Value → Shared → Prop}, Names X x c → Q c { s' with heap := h3 } → wpAny (model X.prog X.w) (X.A.mark (some (.ref a))) (eval (.Name x np) X.env) Q E { s' with heap := h3 } := fun hc q => by
      obtain ⟨hg, hdbg, hm | ⟨hm, hv, hnn⟩⟩ := hc
      · exact ld_glob (X := X.suite a ((a, oe3) :: (X.pn ++ pins))) S3 hg hm q hdbg
      · exact ld_blt (X := X.suite a ((a, oe3) :: (X.pn ++ pins))) S3 hg hm hv q hnn hdbg
    have go : ∀ {hs' : List ExceptHandler} {qs' : List HQ}, HdsA X hs' qs' → wA X.K Wo D qs' cls d σ1 H1 → wpAny (model X.prog X.w) X.A (handleBy (.ref a) X.env hs') (SP X pins D) X.xe { s' with heap := h3 } := by
      intro hs' qs' hk
      induction hk with
      | nil =>
        intro want
        refine wpAny_handleBy_nil ?_
        obtain ⟨k1, k2, k3, oe, vs, T, oT, ts', he, hz, hd, h1, hr⟩ := id fl3
        unfold PySem.passOn
        refine wpAny_bind (wpAny_field he hd h1 ?_)
        rw [if_neg (show ¬ ((Value.ref T == Value.none) = true) from by simp)]
        have out : wpAny (model X.prog X.w) X.A (setFlight (.ref a) X.env.frame) (fun _ s4 => wpAny (model X.prog X.w) X.A (throw (.ref a) : Sem Flow) (SP X pins D) X.xe s4) X.xe { s' with heap := h3 } := by
          rw [fm]
          exact HandSPX.setFlight_upZ fl3 fun h4 hh4 up4 => wpAny_throw (tk _ _ ⟨a, lim, sI, pins, σ1, H1, cls, d, rfl, J, above, (risen.trans up3).trans up4, .inr (.inr (by rw [st]; exact hh4)), fresh, os, ag, want⟩)
        first
          | exact wpAny_bind (wpAny_pure (wpAny_bind out))
          | exact wpAny_bind out
      | @cons h q hs2 qs2 ha r ih =>
        intro want
        obtain ⟨b, hb1, yes, no⟩ := want
        have LM := PySem.W.exm_one (M := model X.prog X.w) (J3.kIn) LT hb1
        cases ha with
        | @plain x c ts s1 ss np p hc hsu =>
          refine wpAny_handleBy_cons (codeAny_handlers_test ?_) (by intro q; cases q)
          refine asks hc (LM.here ?_)
          cases b with
          | false => exact ih (no rfl)
          | true =>
            refine codeAny_handlers_suite (HandSPX.lands_againZ fl3 fun h4 fl4 up4 => ?_)
            have J4 : Inv X pins σ1 H1 { s' with heap := h4 } := J.landed above fl4.1 ((risen.trans up3).trans up4) os ag
            obtain ⟨oe4, vs4, he4, hz4, hd4⟩ := fl4.there
            have S4 := J4.suite he4 hd4 fresh nL nF
            refine wpAny_mono ((hsu a oe4 cls d (X.pn ++ pins) hz4 ⟨_, hd4⟩).run [] _ _ H1 _ S4 (yes rfl a fresh)) (fun f s6 sp => ?_) fun _ _ z => False.elim z
            cases f with
            | next => obtain ⟨σ6, H6, S6, q6⟩ := sp; exact ⟨_, _, S6.unsuite ok, q6⟩
            | brk => obtain ⟨σ6, H6, S6, q6⟩ := sp; exact ⟨_, _, S6.unsuite ok, q6⟩
            | cont => obtain ⟨σ6, H6, S6, q6⟩ := sp; exact ⟨_, _, S6.unsuite ok, q6⟩
            | ret u => obtain ⟨v6, σ6, H6, S6, r6, q6⟩ := sp; exact ⟨_, _, _, S6.unsuite ok, r6, q6⟩
        | @named x n i c ts s1 ss np p hc hi hl hsu =>
          refine wpAny_handleBy_cons (codeAny_handlers_test ?_) (by intro q; cases q)
          refine asks hc (LM.here ?_)
          cases b with
          | false => exact ih (no rfl)
          | true =>
            refine codeAny_handlers_suite_as (HandSPX.lands_againZ fl3 fun h4 fl4 up4 => ?_)
            have J4 : Inv X pins σ1 H1 { s' with heap := h4 } := J.landed above fl4.1 ((risen.trans up3).trans up4) os ag
            obtain ⟨oe4, vs4, he4, hz4, hd4⟩ := fl4.there
            have S4 := J4.suite he4 hd4 fresh nL nF
            refine store_ok (X := X.suite a ((a, oe4) :: (X.pn ++ pins))) (v := .ref a) S4 hN hi (.inl hl) rfl (fun s5 S5 => ?_) (.inr hl)
            refine wpAny_mono ((hsu a oe4 cls d (X.pn ++ pins) hz4 ⟨_, hd4⟩).run [] s5 _ H1 _ S5 (yes rfl a fresh)) (fun f s6 sp => ?_) fun _ _ z => False.elim z
            cases f with
            | next => obtain ⟨σ6, H6, S6, q6⟩ := sp; exact gone_ok (S6.unsuite ok) hN hi hl fun s7 J7 => ⟨_, _, J7, q6⟩
            | brk => obtain ⟨σ6, H6, S6, q6⟩ := sp; exact gone_ok (S6.unsuite ok) hN hi hl fun s7 J7 => ⟨_, _, J7, q6⟩
            | cont => obtain ⟨σ6, H6, S6, q6⟩ := sp; exact gone_ok (S6.unsuite ok) hN hi hl fun s7 J7 => ⟨_, _, J7, q6⟩
            | ret u => obtain ⟨v6, σ6, H6, S6, r6, q6⟩ := sp; exact gone_ok (S6.unsuite ok) hN hi hl fun s7 J7 => ⟨_, _, _, J7, r6, q6⟩
    exact go hh want
end
end DL

namespace DL
open PySem PySem.Spec PyProof.Rows L2
open PySem.W PySem.Calls in
theorem kin_clsX {prog : Program} {w : World} {A : Around} {E : Value → Shared → Prop} {s : Shared} {K : PySem.W.Frag} {x D : Addr} {ox : Obj} {od : Option Obj} {Q : Option Value → Shared → Prop} (C : L2.ExcC K D)
    (X : K.In s.heap) (I : InstAt s.heap x ox D od) (h : Q (some (.ref D)) { s with toks := s.toks + 1 }) : wpAny (model prog w) A (getAttr? (.ref x) "__class__") Q E s := by
  have fo : findObj K D od "__class__" = some (.bind (.builtin "getset_descriptor.__get__") (.builtin "object.__class__")) := by
    obtain ⟨cd, hc, _⟩ := any_some C.hd
    unfold findObj
    rw [hc, Option.bind_some, C.ha, Option.bind_some]
    simp [C.hn, C.ht]
  obtain ⟨hp, g, d, t, os⟩ := s
  have Lt := I.type (M := model prog w)
  have La := looks_findIn (M := model prog w) X C.hg
  have Lb := looks_findIn (M := model prog w) X C.hk
  have Lc := looks_find (M := model prog w) X I fo
  have sub : Looks (model prog w) hp (isInstance (.ref x) (.type "BaseException")) true := Lt.andThen (looks_subIn X C.hs)
  have z2 : (Value.builtin "BaseException.__getattribute__" == Value.builtin "object.__getattribute__") = false := by decide +kernel
  unfold getAttr? getAttrBy? getAttrBy
  refine wpAny_bind (wpAny_mkText (wpAny_bind (wpAny_attempt (wpAny_holding (wpAny_bind (Lt.at (wpAny_bind (La.at ?_))))))))
  show wpAny _ _ (if (onTheHeap (Value.ref D) && Value.builtin "BaseException.__getattribute__" == Value.builtin "object.__getattribute__") = true then _ else _) _ _ _
  rw [show (onTheHeap (Value.ref D) && Value.builtin "BaseException.__getattribute__" == Value.builtin "object.__getattribute__") = false by rw [z2]; rfl, if_neg Bool.false_ne_true]
  unfold getAttrByItsOwn hookBefore
  refine wpAny_bind ?_
  rw [if_pos (show onTheHeap (Value.ref D) = true from rfl)]
  refine Lb.at (wpAny_bind (wpAny_attempt (wpAny_holding ?_)))
  unfold callGetattribute
  rw [show (false && onTheHeap (Value.builtin "BaseException.__getattribute__")) = false from rfl, if_neg Bool.false_ne_true]
  unfold boundAndCalled
  rw [PySem.F.excAttr_ValueError.ga.bind (.ref x)]
  refine wpAny_bind (wpAny_pure ?_)
  show wpAny _ _ (call (.builtin "BaseException.__getattribute__") [.ref x, .str "__class__" t]) _ _ _
  refine wpAny_call (codeAny_call_builtin PySem.F.excAttr_ValueError.ga.plain PySem.F.entry_bexc_ga (@check_slot (model prog w) _ _ ⟨hp, g, d, t + 1, os⟩ "BaseException.__getattribute__" "BaseException" "__getattribute__" (.ref x) [.str "__class__" t] [] _ (by decide +kernel) (by decide +kernel) sub (PySem.F.args_bexc_ga (.ref x) (.str "__class__" t)) ?_))
  unfold Builtin.«object.__getattribute__»
  refine wpAny_bind (wpAny_of_eq (a := ((Value.ref x : Value), [Value.str "__class__" t])) (by first | rfl | (simp only [slotArgs]; rfl)) (wpAny_bind (wpAny_pure (wpAny_bind (Lt.at (wpAny_bind (Lc.at ?_)))))))
  show wpAny _ _ (holding [Value.builtin "object.__class__"] (call (.builtin "getset_descriptor.__get__") [.builtin "object.__class__", .ref x, .ref D]) >>= ret) _ _ _
  refine wpAny_bind (wpAny_holding (wpAny_call (class_get (s := ⟨hp, g, d, t + 1, os⟩) (ox := ox) (od := od) X I C.hm (wpAny_pure ?_))))
  show wpAny _ _ (handedOut (.ref D)) _ _ _
  rw [handedOut_of (v := .ref D) rfl]
  first
    | exact wpAny_pure (wpAny_pure h)
    | exact wpAny_pure h
    | exact wpAny_pure (wpAny_bind (wpAny_pure (wpAny_pure h)))
open PySem.W in
theorem kitX_exc {K : PySem.W.Frag} {x D : Addr} {ox : Obj} {od : Option Obj} (C : L2.ExcC K D) : KitX K (.ref x) (.ref D) (fun h => InstAt h x ox D od) where
  ty := fun _ _ _ I => I.type
  it := fun M h X _ => by
    obtain ⟨cd, hc, _⟩ := any_some C.hd
    unfold clsIn at hc
    split at hc
    · rename_i ho
      intro A' Q' E' s' k q
      unfold isType loadHead
      exact wpAny_bind (wpAny_loadPart (k _ _ (X _ _ ho)) (wpAny_pure q))
    · cases hc
  ne := (handS_kitx_exc (x := x) (ox := ox) C.hg C.hk C.hs C.hd C.ha C.hn C.ht C.hm).ne
  ca := fun X I k => kin_clsX C X I k
/-- isinstance(e, c), e the exception in hand, its dict d -/
def rIsX (K : PySem.W.Frag) (D a : Addr) (d : Option Addr) : List V → Hp → VK → Prop := fun xs H Q => ∃ (c : V) (cv : Value) (b : Bool), xs = [.ref a, c] ∧ (∀ u, RelV c u → u = cv) ∧ PySem.W.kitOne K (.ref D) cv = some b ∧ (d = none ∨ ∃ dd fs, d = some dd ∧ H dd = some (.xd fs)) ∧ Q (.bl b) H
theorem call_isX {X : Cx} {a D : Addr} {oe : Obj} {d : Option Addr} {pn : List (Addr × Obj)} (C : L2.ExcC X.K D) (hz : Zc (.ref D) d oe) (hf : ∃ vs, oe.data = .fields vs) : CallR (X.suite a ((a, oe) :: pn)) (.builtin "isinstance") (rIsX X.K D a d) := by
  intro pins s σ H xs us Q I r h
  obtain ⟨c, cv, b, rfl, hcv, e, hd, q⟩ := h
  cases r with
  | cons rx rr =>
    cases rr with
    | cons rt rr =>
      cases rr
      cases rx
      have ec := hcv _ rt
      subst ec
      obtain ⟨hget, _⟩ := I.pin (a, oe) (List.mem_append.mpr (.inl List.mem_cons_self))
      obtain ⟨vs, hv⟩ := hf
      have no : PySem.W.notCls oe = true := by unfold PySem.W.notCls; rw [hv] <;> rfl
      obtain ⟨od, J⟩ : ∃ od, PySem.W.InstAt s.heap a oe D od := by
        rcases hd with rfl | ⟨dd, fs, rfl, hx⟩
        · exact ⟨none, hget, hz.1, no, by rw [hz.2] <;> trivial⟩
        · have ob : ObjOk X.prog X.w H s.heap dd (.xd fs) := I.hok dd _ hx
          obtain ⟨mA, hns, _⟩ := ob
          obtain ⟨od, ho, _⟩ := lookIn_ns hns
          exact ⟨some od, hget, hz.1, no, by rw [hz.2] <;> exact ho⟩
      exact PySem.W.kia_one (kitX_exc C) I.kIn J e (fun z => nomatch z) fun tk => ⟨.bl b, H, I.kept (t' := tk) fun _ _ z => z, rfl, q⟩
/-! ### what a clause does, on data -/
abbrev HF := Str → Option (Str × D) → En → Sto → Rs
def goH : List (XTab × HF) → HF
  | [], n, y, ρ, S => .ex n y ρ S
  | (tab, f) :: r, n, y, ρ, S => match tab.lookup n with
    | some true => f n y ρ S
    | some false => goH r n y ρ S
    | none => .bad
def dTryM (hs : List (XTab × HF)) (bd : DS) : DS := fun ρ S => match bd ρ S with
  | .ex n y ρ' S' => goH hs n y ρ' S'
  | r => r
/-- return e.f -/
def hFld (i : Nat) (f : Str) (ns : List Str) : HF := fun n y ρ S => match y with
  | some (g, d) => if g = f ∧ n ∈ ns ∧ i < ρ.length then .rt d S else .bad
  | none => .bad
/-- return e.f if isinstance(e, C) else k -/
def hIsF (i : Nat) (f : Str) (ns : List Str) (it : List (Str × Bool)) (k : D) : HF := fun n y ρ S => match it.lookup n with
  | some true => hFld i f ns n y ρ S
  | some false => if i < ρ.length ∧ n ∈ ns then .rt k S else .bad
  | none => .bad
/-- return not isinstance(e, C) -/
def hNis (i : Nat) (it : List (Str × Bool)) : HF := fun n y ρ S => match it.lookup n with
  | some b => if i < ρ.length then .rt (.bl (!b)) S else .bad
  | none => .bad
/-- return isinstance(e, C) -/
def hIs (i : Nat) (it : List (Str × Bool)) : HF := fun n y ρ S => match it.lookup n with
  | some b => if i < ρ.length then .rt (.bl b) S else .bad
  | none => .bad
/-- a suite that does not look at the exception -/
def hSu (f : DS) : HF := fun _ _ ρ S => f ρ S
section
variable {X : Cx} {Wx : WX}
/-- what an exception of class n is asked: is it a c? -/
structure XcI (X : Cx) (n c : Str) (b : Bool) : Prop where
  ok : ∀ C, X.mg n = some (.ref C) → L2.ExcC X.K C ∧ ∃ c', X.mg c = some (.ref c') ∧ PySem.W.kitOne X.K (.ref C) (.ref c') = some b
/-- one clause -/
structure OneH (X : Cx) (Wx : WX) (h : ExceptHandler) (tab : XTab) (f : HF) : Prop where
  ex : ∃ q, HdA X h q ∧ (∀ n b C, tab.lookup n = some b → X.mg n = some (.ref C) → PySem.W.exmOne X.K (.ref C) q.1 = some b) ∧
    ∀ (B : Bs) th ρ S σ H D n y C d a, X.mg n = some (.ref C) → RF (cn X) B th ρ S σ H → XR (cn X) (B.w th ρ σ) H y d → H a = none → PostS (cn X) B th ρ σ H Wx D (f n y ρ S) → q.2.2 a (.ref C) d (endI q.2.1 D) (setI q.2.1 a σ) H
inductive AllH (X : Cx) (Wx : WX) : List ExceptHandler → List (XTab × HF) → Prop
  | nil : AllH X Wx [] []
  | cons {h : ExceptHandler} {tab : XTab} {f : HF} {hs : List ExceptHandler} {fs : List (XTab × HF)} (a : OneH X Wx h tab f) (r : AllH X Wx hs fs) : AllH X Wx (h :: hs) ((tab, f) :: fs)
theorem AllH.hds {hs : List ExceptHandler} {fs : List (XTab × HF)} (h : AllH X Wx hs fs) : ∃ qs, HdsA X hs qs ∧ ∀ (B : Bs) th ρ S σ H D n y C d, X.mg n = some (.ref C) → RF (cn X) B th ρ S σ H → XR (cn X) (B.w th ρ σ) H y d → PostS (cn X) B th ρ σ H Wx D (goH fs n y ρ S) → wA X.K Wx D qs (.ref C) d σ H := by
  induction h with
  | nil => exact ⟨[], .nil, fun B th ρ S σ H D n y C d hC rf xr p => p C d σ H th hC Xs.refl rf xr⟩
  | cons a r ih =>
    obtain ⟨qs, q1, q2⟩ := ih
    obtain ⟨q, a1, a2, a3⟩ := a.ex
    refine ⟨q :: qs, .cons a1 q1, fun B th ρ S σ H D n y C d hC rf xr p => ?_⟩
    rename_i h tab f hs fs
    unfold goH at p
    cases e : tab.lookup n with
    | none => rw [e] at p; exact p.elim
    | some b =>
      rw [e] at p
      refine ⟨b, a2 n b C e hC, fun hb x hx => ?_, fun hb => ?_⟩
      · subst hb; exact a3 B th ρ S σ H D n y C d x hC rf xr hx p
      · subst hb; exact q2 B th ρ S σ H D n y C d hC rf xr p
theorem pds_tryM {body : List Stmt} {h0 : ExceptHandler} {hds : List ExceptHandler} {fs : List (XTab × HF)} {bd : DS} {pos : Pos} (hh : AllH X Wx (h0 :: hds) fs) (hst : X.stack = X.env :: X.outer) (hfr : X.env.frame = some X.env.locals) (hN : X.N.Nodup) (tk : Takes X Wx)
    (hb : ∀ (W : WX) (pn : List (Addr × Obj)) (xe : Value → Shared → Prop), Takes (X.tr pn xe) W → PassesOwn (model X.prog X.w) X.A X.env xe → PDSs (X.tr pn xe) W body bd) : PDS X Wx (.Try body (h0 :: hds) [] [] pos) (dTryM fs bd) := by
  obtain ⟨qs, q1, q2⟩ := hh.hds
  refine ⟨_, ps_trys (tb := fun W => tOfS (cn X) W bd) hN hst hfr tk (fun W pn xe h1 h2 => PDSs.pss (hb W pn xe h1 h2)) q1, fun B th ρ S σ H D rf p => ⟨B, th, ρ, S, rf, ?_⟩⟩
  unfold dTryM at p
  cases e : bd ρ S with
  | nx ρ' S' => rw [e] at p; exact p
  | rt d S' => rw [e] at p; exact p
  | bk ρ' S' => rw [e] at p; exact p
  | ct ρ' S' => rw [e] at p; exact p
  | bad => rw [e] at p; exact p.elim
  | ex n y ρ' S' =>
    rw [e] at p
    exact fun C d σ' H' th' hC xs rf' xr => q2 B th' ρ' S' σ' H' D n y C d hC rf' xr (PostS.mono p xs)
/-! ### the clauses -/
variable {i : Nat} {x en f : Str} {np p1 p2 p3 p4 p5 p6 pos pos' : Pos} {tab : XTab} {ns : List Str}
/-- behind a return in a clause -/
theorem rt_of {B : Bs} {th : List Addr} {ρ : En} {S : Sto} {σ : L2.St} {H : Hp} {D' : Ends} {d : D} {v : V} {W : Wd} (rf : RF (cn X) B th ρ S σ H) (p : PostS (cn X) B th ρ σ H Wx D' (.rt d S)) (r : Rep (cn X) W H d v) (hW : W.th = th) (hp : ∀ a, B.P0 a → W.pr a) : D'.rt v H :=
  p v H th ⟨fun a o q n _ => ⟨q, n, fun ⟨j, ds, h1, _⟩ => by simp at h1⟩, [], by simp⟩ rf.rs0 (Rep.mv (Mv.less (W := W) (W' := B.w0 th) (fun a z => hp a z) hW.symm) _ _ r)
theorem oneH_fld (hc : Catch X x tab) (hns : ∀ n ∈ ns, XfN X n f) (hN : X.N.Nodup) (hi : X.N[i]? = some en := by rfl) (hln : X.env.kindOf en = some .local := by rfl) (hv : Vis X.env.scope en := by first | exact Or.inl rfl | exact Or.inr (Or.inl rfl) | exact Or.inr (Or.inr rfl))
    (hd : (en == ("__debug__" : Str)) = false := by decide) (hcd : (en == ("__classdict__" : Str)) = false := by decide)
    (hat : ∀ (Y : Cx), Y.env = X.env → attributeBase (.Name en p1) f Y.env (eval (.Name en p1) Y.env) = eval (.Name en p1) Y.env := by intro Y h; rw [h]; rfl) :
    OneH X Wx (.ExceptHandler (some (.Name x np)) (some en) [.Return (some (.Attribute (.Name en p1) f p2)) p3] pos') tab (hFld i f ns) := by
  obtain ⟨c, hnm, hm⟩ := hc.ex
  let ts : Addr → Value → Option Addr → TS := fun a cls d D σ H => ∃ C, cls = .ref C ∧ XfC X.K C ∧ PySem.W.findIn X.K (.ref C) f = some none ∧ tRet (tXf a cls d C f (tVar i)) D σ H
  refine ⟨(c, some i, ts), .named hnm hi hln fun a oe cls d pn hz hf => ⟨fun pins s σ H D I h => ?_⟩, hm, fun B th ρ S σ H D n y C d a hC rf xr ha p => ?_⟩
  · obtain ⟨C, rfl, T, hno, h⟩ := h
    exact (pss_one (ps_ret (pe_xf T hno hz hf (pe_var hi hv hd hcd) (hat _ rfl)))).run pins s σ H D I h
  · cases y with
    | none => exact p.elim
    | some gd =>
      obtain ⟨g, dd⟩ := gd
      unfold hFld at p
      simp only at p
      split at p
      · rename_i hg
        obtain ⟨rfl, hn, hil⟩ := hg
        obtain ⟨q1, q2⟩ := (hns n hn).ok C hC
        obtain ⟨da, v, rfl, h3, h4, h5⟩ := xr
        refine ⟨C, rfl, q1, q2, .ref a, ?_, rfl, rfl, da, [(g, v)], v, rfl, h3, by simp [List.lookup], rt_of (Wx := Wx) rf p h5 rfl fun a z => Or.inl z⟩
        have hl : i < σ.length := by rw [← rf.len]; exact hil
        exact List.getElem?_set_self hl
      · exact p.elim
theorem oneH_su {suite : List Stmt} {s1 : Stmt} {g : DS} (hc : Catch X x tab) (hs : ∀ (a : Addr) (pn : List (Addr × Obj)), PDSs (X.suite a pn) Wx0 (s1 :: suite) g) (hno : ∀ ρ S n y ρ' S', g ρ S ≠ .ex n y ρ' S') : OneH X Wx (.ExceptHandler (some (.Name x np)) none (s1 :: suite) pos') tab (hSu g) := by
  obtain ⟨c, hnm, hm⟩ := hc.ex
  refine ⟨(c, none, fun a cls d => tOfS (cn X) Wx0 g), .plain hnm fun a oe cls d pn hz hf => PDSs.pss (hs a _), hm, fun B th ρ S σ H D n y C d a hC rf xr ha p => ⟨B, th, ρ, S, rf, ?_⟩⟩
  have p : PostS (cn X) B th ρ σ H Wx D (g ρ S) := p
  cases e : g ρ S with
  | ex n y ρ' S' => exact (hno _ _ _ _ _ _ e).elim
  | nx ρ' S' => rw [e] at p; exact p
  | rt d S' => rw [e] at p; exact p
  | bk ρ' S' => rw [e] at p; exact p
  | ct ρ' S' => rw [e] at p; exact p
  | bad => rw [e] at p; exact p
/-- the call isinstance(e, c) in a suite -/
theorem pe_isX {a C c' : Addr} {oe : Obj} {d : Option Addr} {pn : List (Addr × Obj)} {c : Str} (hX : L2.ExcC X.K C) (hz : Zc (.ref C) d oe) (hf : ∃ vs, oe.data = .fields vs) (hm : X.mg "isinstance" = none) (hg : Gl X "isinstance") (hc : X.mg c = some (.ref c')) (hgc : Gl X c) (hdc : (c == ("__debug__" : Str)) = false)
    (hi : X.N[i]? = some en) (hv : Vis X.env.scope en) (hd : (en == ("__debug__" : Str)) = false) (hcd : (en == ("__classdict__" : Str)) = false)
    (h1 : starEach [.Name en p1, .Name c p2] X.env = (false, eval (.Name en p1) X.env) :: starEach [.Name c p2] X.env) (h2 : starEach [.Name c p2] X.env = (false, eval (.Name c p2) X.env) :: starEach [] X.env) (h3 : ∀ pos, (backTo pos (starEach [.Name c p2] X.env)).any (·.1) = false) :
    PE (X.suite a ((a, oe) :: pn)) (.Call (.Name "isinstance" p3) [.Name en p1, .Name c p2] [] pos) (tCB (rIsX X.K C a d) (tCons (tVar i) (tCons (tC (.ref c')) tNil))) :=
  pe_callB (X := X.suite a ((a, oe) :: pn)) (call_isX hX hz hf) hg hm rfl (pa_cons (X := X.suite a ((a, oe) :: pn)) (pe_var (X := X.suite a ((a, oe) :: pn)) hi hv hd hcd) (pa_cons (X := X.suite a ((a, oe) :: pn)) (pe_glob (X := X.suite a ((a, oe) :: pn)) hgc hc rfl hdc) pa_nil h2) h1) (by decide) (by decide) h1 (h3 _)
theorem isX_run {C a c' : Addr} {d : Option Addr} {b : Bool} {B : Bs} {th : List Addr} {ρ : En} {σ : L2.St} {H : Hp} {y : Option (Str × D)} {Q : V → Hp → Prop} (hk : PySem.W.kitOne X.K (.ref C) (.ref c') = some b) (xr : XR (cn X) (B.w th ρ σ) H y d) (hi : i < σ.length) (q : Q (.bl b) H) :
    tCB (rIsX X.K C a d) (tCons (tVar i) (tCons (tC (.ref c')) tNil)) (σ.set i (some (.ref a))) H Q := by
  refine ⟨.ref a, List.getElem?_set_self hi, .ref c', .ref c', b, rfl, fun u r => r, hk, ?_, q⟩
  cases y with
  | none => exact .inl xr
  | some gd => obtain ⟨g, dd⟩ := gd; obtain ⟨da, v, rfl, h3, _⟩ := xr; exact .inr ⟨da, _, rfl, h3⟩
section
variable {it : List (Str × Bool)} {c : Str} (hc : Catch X x tab) (hit : ∀ n b, it.lookup n = some b → XcI X n c b) (hN : X.N.Nodup) (him : X.mg "isinstance" = none)
include hc hit hN him
theorem oneH_nis (hi : X.N[i]? = some en := by rfl) (hln : X.env.kindOf en = some .local := by rfl) (hv : Vis X.env.scope en := by first | exact Or.inl rfl | exact Or.inr (Or.inl rfl) | exact Or.inr (Or.inr rfl))
    (hd : (en == ("__debug__" : Str)) = false := by decide) (hcd : (en == ("__classdict__" : Str)) = false := by decide) (hg : Gl X "isinstance" := by rfl) (hgc : Gl X c := by rfl) (hdc : (c == ("__debug__" : Str)) = false := by decide)
    (h1 : starEach [.Name en p1, .Name c p2] X.env = (false, eval (.Name en p1) X.env) :: starEach [.Name c p2] X.env := by rfl) (h2 : starEach [.Name c p2] X.env = (false, eval (.Name c p2) X.env) :: starEach [] X.env := by rfl) (h3 : ∀ pos, (backTo pos (starEach [.Name c p2] X.env)).any (·.1) = false := by intro _; rfl) :
    OneH X Wx (.ExceptHandler (some (.Name x np)) (some en) [.Return (some (.UnaryOp .Not (.Call (.Name "isinstance" p3) [.Name en p1, .Name c p2] [] p4) p5)) p6] pos') tab (hNis i it) := by
  obtain ⟨cv, hnm, hm⟩ := hc.ex
  let ts : Addr → Value → Option Addr → TS := fun a cls d D σ H => ∃ C c', cls = .ref C ∧ L2.ExcC X.K C ∧ X.mg c = some (.ref c') ∧ tRet (tNotV (tCB (rIsX X.K C a d) (tCons (tVar i) (tCons (tC (.ref c')) tNil)))) D σ H
  refine ⟨(cv, some i, ts), .named hnm hi hln fun a oe cls d pn hz hf => ⟨fun pins s σ H D I h => ?_⟩, hm, fun B th ρ S σ H D n y C d a hC rf xr ha p => ?_⟩
  · obtain ⟨C, c', rfl, T, hc', h⟩ := h
    exact (pss_one (ps_ret (pe_not (pe_isX T hz hf him hg hc' hgc hdc hi hv hd hcd h1 h2 h3)))).run pins s σ H D I h
  · unfold hNis at p
    cases e : it.lookup n with
    | none => rw [e] at p; exact p.elim
    | some b =>
      rw [e] at p
      simp only at p
      split at p
      · rename_i hl
        obtain ⟨q1, c', q2, q3⟩ := (hit n b e).ok C hC
        have hl' : i < σ.length := by rw [← rf.len]; exact hl
        exact ⟨C, c', rfl, q1, q2, isX_run q3 xr hl' ⟨b, rfl, rt_of (Wx := Wx) (W := B.w th ρ σ) rf p rfl rfl fun a z => Or.inl z⟩⟩
      · exact p.elim
theorem oneH_is (hi : X.N[i]? = some en := by rfl) (hln : X.env.kindOf en = some .local := by rfl) (hv : Vis X.env.scope en := by first | exact Or.inl rfl | exact Or.inr (Or.inl rfl) | exact Or.inr (Or.inr rfl))
    (hd : (en == ("__debug__" : Str)) = false := by decide) (hcd : (en == ("__classdict__" : Str)) = false := by decide) (hg : Gl X "isinstance" := by rfl) (hgc : Gl X c := by rfl) (hdc : (c == ("__debug__" : Str)) = false := by decide)
    (h1 : starEach [.Name en p1, .Name c p2] X.env = (false, eval (.Name en p1) X.env) :: starEach [.Name c p2] X.env := by rfl) (h2 : starEach [.Name c p2] X.env = (false, eval (.Name c p2) X.env) :: starEach [] X.env := by rfl) (h3 : ∀ pos, (backTo pos (starEach [.Name c p2] X.env)).any (·.1) = false := by intro _; rfl) :
    OneH X Wx (.ExceptHandler (some (.Name x np)) (some en) [.Return (some (.Call (.Name "isinstance" p3) [.Name en p1, .Name c p2] [] p4)) p6] pos') tab (hIs i it) := by
  obtain ⟨cv, hnm, hm⟩ := hc.ex
  let ts : Addr → Value → Option Addr → TS := fun a cls d D σ H => ∃ C c', cls = .ref C ∧ L2.ExcC X.K C ∧ X.mg c = some (.ref c') ∧ tRet (tCB (rIsX X.K C a d) (tCons (tVar i) (tCons (tC (.ref c')) tNil))) D σ H
  refine ⟨(cv, some i, ts), .named hnm hi hln fun a oe cls d pn hz hf => ⟨fun pins s σ H D I h => ?_⟩, hm, fun B th ρ S σ H D n y C d a hC rf xr ha p => ?_⟩
  · obtain ⟨C, c', rfl, T, hc', h⟩ := h
    exact (pss_one (ps_ret (pe_isX T hz hf him hg hc' hgc hdc hi hv hd hcd h1 h2 h3))).run pins s σ H D I h
  · unfold hIs at p
    cases e : it.lookup n with
    | none => rw [e] at p; exact p.elim
    | some b =>
      rw [e] at p
      simp only at p
      split at p
      · rename_i hl
        obtain ⟨q1, c', q2, q3⟩ := (hit n b e).ok C hC
        have hl' : i < σ.length := by rw [← rf.len]; exact hl
        exact ⟨C, c', rfl, q1, q2, isX_run q3 xr hl' (rt_of (Wx := Wx) (W := B.w th ρ σ) rf p rfl rfl fun a z => Or.inl z)⟩
      · exact p.elim
theorem oneH_isF {k : D} {kv : V} {ke : Expr} {p7 p8 : Pos} (hns : ∀ n ∈ ns, XfN X n f) (hk : ∀ W H, Rep (cn X) W H k kv) (hke : ∀ (a : Addr) (pn : List (Addr × Obj)), PE (X.suite a pn) ke (tC kv))
    (hi : X.N[i]? = some en := by rfl) (hln : X.env.kindOf en = some .local := by rfl) (hv : Vis X.env.scope en := by first | exact Or.inl rfl | exact Or.inr (Or.inl rfl) | exact Or.inr (Or.inr rfl))
    (hd : (en == ("__debug__" : Str)) = false := by decide) (hcd : (en == ("__classdict__" : Str)) = false := by decide) (hg : Gl X "isinstance" := by rfl) (hgc : Gl X c := by rfl) (hdc : (c == ("__debug__" : Str)) = false := by decide)
    (hat : ∀ (Y : Cx), Y.env = X.env → attributeBase (.Name en p7) f Y.env (eval (.Name en p7) Y.env) = eval (.Name en p7) Y.env := by intro Y h; rw [h]; rfl)
    (h1 : starEach [.Name en p1, .Name c p2] X.env = (false, eval (.Name en p1) X.env) :: starEach [.Name c p2] X.env := by rfl) (h2 : starEach [.Name c p2] X.env = (false, eval (.Name c p2) X.env) :: starEach [] X.env := by rfl) (h3 : ∀ pos, (backTo pos (starEach [.Name c p2] X.env)).any (·.1) = false := by intro _; rfl) :
    OneH X Wx (.ExceptHandler (some (.Name x np)) (some en) [.Return (some (.IfExp (.Call (.Name "isinstance" p3) [.Name en p1, .Name c p2] [] p4) (.Attribute (.Name en p7) f p8) ke p5)) p6] pos') tab (hIsF i f ns it k) := by
  obtain ⟨cv, hnm, hm⟩ := hc.ex
  let ts : Addr → Value → Option Addr → TS := fun a cls d D σ H => ∃ C c', cls = .ref C ∧ L2.ExcC X.K C ∧ X.mg c = some (.ref c') ∧ XfC X.K C ∧ PySem.W.findIn X.K (.ref C) f = some none ∧
    tRet (tIf (tB (tCB (rIsX X.K C a d) (tCons (tVar i) (tCons (tC (.ref c')) tNil)))) (tXf a cls d C f (tVar i)) (tC kv)) D σ H
  refine ⟨(cv, some i, ts), .named hnm hi hln fun a oe cls d pn hz hf => ⟨fun pins s σ H D I h => ?_⟩, hm, fun B th ρ S σ H D n y C d a hC rf xr ha p => ?_⟩
  · obtain ⟨C, c', rfl, T, hc', T2, hno, h⟩ := h
    exact (pss_one (ps_ret (pe_ifExp (pt_val (pe_isX T hz hf him hg hc' hgc hdc hi hv hd hcd h1 h2 h3)) (pe_xf T2 hno hz hf (pe_var hi hv hd hcd) (hat _ rfl)) (hke a _)))).run pins s σ H D I h
  · unfold hIsF at p
    cases e : it.lookup n with
    | none => rw [e] at p; exact p.elim
    | some b =>
      rw [e] at p
      obtain ⟨q1, c', q2, q3⟩ := (hit n b e).ok C hC
      cases b with
      | true =>
        simp only at p
        cases y with
        | none => exact p.elim
        | some gd =>
          obtain ⟨g, dd⟩ := gd
          unfold hFld at p
          simp only at p
          split at p
          · rename_i hg'
            obtain ⟨rfl, hn, hil⟩ := hg'
            obtain ⟨w1, w2⟩ := (hns n hn).ok C hC
            have hl' : i < σ.length := by rw [← rf.len]; exact hil
            refine ⟨C, c', rfl, q1, q2, w1, w2, isX_run q3 xr hl' ⟨true, rfl, ?_⟩⟩
            refine iteT ?_
            obtain ⟨da, v, rfl, h3', h4, h5⟩ := xr
            exact ⟨.ref a, List.getElem?_set_self hl', rfl, rfl, da, [(g, v)], v, rfl, h3', by simp [List.lookup], rt_of (Wx := Wx) rf p h5 rfl fun a z => Or.inl z⟩
          · exact p.elim
      | false =>
        simp only at p
        split at p
        · rename_i hl
          obtain ⟨w1, w2⟩ := (hns n hl.2).ok C hC
          have hl' : i < σ.length := by rw [← rf.len]; exact hl.1
          refine ⟨C, c', rfl, q1, q2, w1, w2, isX_run q3 xr hl' ⟨false, rfl, ?_⟩⟩
          refine iteF ?_
          exact rt_of (Wx := Wx) rf p (hk (B.w th ρ σ) H) rfl fun a z => Or.inl z
        · exact p.elim
end
end
/-! ### facts -/
def kieN (x y : Str) (b : Bool) (K : Frag) : Bool := decide (PySem.W.kitOne K (.ref (He.ga K x)) (.ref (He.ga K y)) = some b)
section
variable {fa : List He.Fa} {fn : List He.DefD} {ts : List He.Tab} {ex : Exs} {w : World} {K : Frag} {mg : Str → Option Value} (T : GD fa fn ts ex w K mg) {X : Cx}
include T
theorem GD.xci (i j k l m : Nat) {n c : Str} {b : Bool} (h1 : fa[i]? = some (.glo n) := by rfl) (h2 : ex[j]? = some (xfN n) := by rfl) (h3 : ex[k]? = some (tycN n) := by rfl) (h4 : fa[l]? = some (.glo c) := by rfl) (h5 : ex[m]? = some (kieN n c b) := by rfl) (hm : X.mg = mg := by rfl) (hK : X.K = K := by rfl) : XcI X n c b := ⟨fun C e => by
  rw [hm, T.glo i h1] at e
  cases e
  rw [hK]
  have f := xfB_ok (T.x j h2)
  have q := T.x k h3
  unfold tycN at q
  obtain ⟨q1, q⟩ := Bool.and_eq_true_iff.mp q
  obtain ⟨q2, q⟩ := Bool.and_eq_true_iff.mp q
  obtain ⟨q3, q4⟩ := Bool.and_eq_true_iff.mp q
  exact ⟨⟨f.ga, f.gg, f.exC, f.hdC, He.eqO_ok q1, He.eqO_ok q2, of_decide_eq_true q3, of_decide_eq_true q4⟩, _, by rw [hm]; exact T.glo l h4, of_decide_eq_true (T.x m h5)⟩⟩
end
theorem xci1 {X : Cx} {n c : Str} {b : Bool} (h : XcI X n c b) : ∀ n' b', ([(n, b)] : List (Str × Bool)).lookup n' = some b' → XcI X n' c b' := fun n' b' e => by
  have := mem_lookup e
  cases List.mem_singleton.mp this
  exact h
end DL

namespace DL
open PySem PySem.Spec PyProof.Rows L2
/-! ### raise C(), C a class over ValueError without an own __init__ -/
abbrev bmV : List Value := [.type "ValueError", .type "Exception", .type "BaseException", .type "object"]
structure ExN (X : Cx) (n : Str) : Prop where
  ex : ∃ C, X.mg n = some (.ref C) ∧ PySem.W.excIn X.K C bmV "ValueError.__new__" = true ∧ PySem.W.keepIn X.K (.ref C) = true ∧ PySem.W.subIn X.K (.ref C) (.type "BaseException") = some true ∧ PySem.W.typeIn X.K (.ref C) = some (.type "type")
def exnN (x : Str) (K : Frag) : Bool := PySem.W.excIn K (He.ga K x) bmV "ValueError.__new__" && (PySem.W.keepIn K (.ref (He.ga K x)) && (decide (PySem.W.subIn K (.ref (He.ga K x)) (.type "BaseException") = some true) && decide (PySem.W.typeIn K (.ref (He.ga K x)) = some (.type "type"))))
section
variable {fa : List He.Fa} {fn : List He.DefD} {ts : List He.Tab} {ex : Exs} {w : World} {K : Frag} {mg : Str → Option Value} (T : GD fa fn ts ex w K mg) {X : Cx}
include T
theorem GD.exn (i j : Nat) {n : Str} (h1 : fa[i]? = some (.glo n) := by rfl) (h2 : ex[j]? = some (exnN n) := by rfl) (hm : X.mg = mg := by rfl) (hK : X.K = K := by rfl) : ExN X n := by
  have q := T.x j h2
  unfold exnN at q
  obtain ⟨q1, q⟩ := Bool.and_eq_true_iff.mp q
  obtain ⟨q2, q⟩ := Bool.and_eq_true_iff.mp q
  obtain ⟨q3, q4⟩ := Bool.and_eq_true_iff.mp q
  exact ⟨⟨_, by rw [hm]; exact T.glo i h1, by rw [hK]; exact q1, by rw [hK]; exact q2, by rw [hK]; exact of_decide_eq_true q3, by rw [hK]; exact of_decide_eq_true q4⟩⟩
end
section
variable {X : Cx} {Wx : WX}
theorem pmk_own0 {C : Addr} {x : Str} {p pos : Pos} (q : PySem.W.excIn X.K C bmV "ValueError.__new__" = true) (gC : X.mg x = some (.ref C)) (kC : PySem.W.keepIn X.K (.ref C) = true) (r : Raises X (.ref C)) (hg : Gl X x) (hdb : (x == ("__debug__" : Str)) = false) :
    PMk X (.Call (.Name x p) [] [] pos) (fun _ H Q => Q (.ref C) none H) := by
  intro pins s σ H Q I h
  refine wpAny_Call_Name_kw (ld_glob I hg gC ?_ hdb)
  refine PySem.W.callWith_K0 I.kIn kC ?_
  obtain ⟨bm, N, nm, qn, bs, hdct, sn, sub, ab, col, dd, k0, k1, k2, k3, k5, mN, hC, hN, hni, T⟩ := exc_obj I.kIn q
  exact wpAny_call_exc_subT PySem.F.excBase_ValueError T hC hN hni (fun h' e hm => mk_of I hm r h (I.hok.gone hm.new)) (Nat.zero_le _)
def dRaise0 (n : Str) : DS := fun ρ S => .ex n none ρ S
theorem pds_raise0 {n : Str} {p pos pos' : Pos} (hX : ExN X n) (hc : X.calm = true) (tk : Takes X Wx) (hg : Gl X n := by rfl) (hdb : (n == ("__debug__" : Str)) = false := by decide) : PDS X Wx (.Raise (some (.Call (.Name n p) [] [] pos)) none pos') (dRaise0 n) := by
  obtain ⟨C, h1, h2, h3, h4, h5⟩ := hX.ex
  exact ⟨_, ps_raise hc tk (pmk_own0 h2 h1 h3 (raises_own h4 h5) hg hdb), fun B th ρ S σ H D rf p => p C none σ H th h1 Xs.refl rf rfl⟩
/-! ### a slice of a list is a new list -/
def dCut (f : DE) (lo hi : DO) : En → Sto → Out (D × Option Int × Option Int) := fun ρ S => (f ρ S).bind fun x S1 => (lo ρ S1).bind fun i S2 => (hi ρ S2).bind fun j S3 => .ok (x, i, j) S3
def cutOf : D × Option Int × Option Int → Option (List D)
  | (.lst ds, i, j) => some (cutD ds i j)
  | _ => none
def dSlL (f : DE) (lo hi : DO) : DL := fun ρ S => (dCut f lo hi ρ S).bind fun a S1 => optO (cutOf a) S1
theorem pdl_sl {a : Expr} {lo hi : Option Expr} {f : DE} {l h : DO} {p2 pos : Pos} (he : PDP X Wx a f) (hl : PDO X Wx lo l) (hh : PDO X Wx hi h) : PDL X Wx (.Subscript a (.Slice lo hi none p2) pos) (dSlL f l h) := by
  obtain ⟨ta, a1, a2⟩ := he; obtain ⟨tl, l1, l2⟩ := hl; obtain ⟨tu, u1, u2⟩ := hh
  have sn : Snd X Wx (fun W H (a : D × Option Int × Option Int) (b : V × Option Int × Option Int) => rP X W H a.1 b.1 ∧ a.2 = b.2) (dCut f l h) (fun σ H Q => ta σ H fun x H1 => tl σ H1 fun i H2 => tu σ H2 fun j H3 => Q (x, i, j) H3) := by
    intro W ρ S σ H Q re p
    refine a2.run re p fun x v th1 S1 H1 re1 r1 x1 p1 => ?_
    refine l2.run re1 p1 fun i i' th2 S2 H2 re2 r2 x2 p2 => ?_
    cases r2
    refine u2.run re2 p2 fun j j' th3 S3 H3 re3 r3 x3 p3 => ?_
    cases r3
    exact p3 (v, i, j) th3 H3 Xt.refl re3.rs ⟨rP.xt (W := W.to th2) (rP.xt (W := W.to th1) r1 x2) x3, rfl⟩
  refine ⟨_, pe_slice sl_any a1 l1 u1, SndL.of (t := fun σ H Q => ta σ H fun x H1 => tl σ H1 fun i H2 => tu σ H2 fun j H3 => Q (x, i, j) H3) (g := cutOf) (G := fun (b : V × Option Int × Option Int) H Q => rSl X.K b.1 b.2.1 b.2.2 H Q) sn fun W S H a b ds Q rs r e => ?_⟩
  obtain ⟨x, i, j⟩ := a
  obtain ⟨v, i', j'⟩ := b
  obtain ⟨r1, r2⟩ := r
  cases r2
  cases x with
  | lst es =>
    cases e
    obtain ⟨q, vs, e1, rd, rr, z⟩ := rP.lst rs r1 rfl
    subst e1
    exact ⟨cutV vs i j, rr.cut i j, Nat.le_trans (cutD_len _ _ _) z, fun go => .inr (.inl ⟨q, vs, rfl, rd, go⟩)⟩
  | _ => cases e
/-! ### repr of a list display, whose items may be lists that the frame holds -/
def oReprL (xs : List D) (S : Sto) : Out D := if xs.length ≤ LIM then oRepr [.lst (xs.map (drS S))] S else .bad
def dReprL (g : DA) : DE := fun ρ S => (g ρ S).bind oReprL
theorem dpAll_rP {W : Wd} {S : Sto} {H : Hp} (rs : RS (cn X) W S H) : ∀ {xs : List D} {vs : List V}, rPs X W H xs vs → (xs.map (drS S)).all (isDat 23) = true → DpAll X.K H vs (pys (xs.map (drS S)))
  | [], vs, r, _ => by rw [show vs = [] from r]; exact .nil
  | x :: xs, vs, r, h => by
    obtain ⟨v, q, rfl, r1, r2⟩ := r
    rw [List.map_cons, List.all_cons, Bool.and_eq_true] at h
    rw [List.map_cons]
    exact .cons (rP.dp (n := 22) rs r1 h.1) (dpAll_rP rs r2 h.2)
theorem rPs_len {W : Wd} {H : Hp} : ∀ {xs : List D} {vs : List V}, rPs X W H xs vs → vs.length = xs.length
  | [], vs, r => by rw [show vs = [] from r]; rfl
  | x :: xs, vs, r => by obtain ⟨v, q, rfl, _, r2⟩ := r; rw [List.length_cons, List.length_cons, rPs_len r2]
theorem pd_reprL {p pos pos' : Pos} {es : List Expr} {g : DA} {k : Nat} (hgd : X.A.guards = some []) (hu : X.A.units + 66 < cLine) (hm : X.mg "repr" = none) (ha : PDAP X Wx es g) (hg : Gl X "repr" := by rfl)
    (he : starEach [.List es pos'] X.env = (false, eval (.List es pos') X.env) :: starEach [] X.env := by rfl) (hpl : (backTo pos (starEach [] X.env)).any (·.1) = false := by rfl) :
    PDE X Wx (.Call (.Name "repr" p) [.List es pos'] [] pos) (dReprL g) := by
  obtain ⟨t, a1, a2⟩ := ha
  refine ⟨_, pe_callB (call_reprD hgd hu) hg hm (by decide +kernel) (pa_cons (pe_lst a1) pa_nil he) (by decide) (by decide) he hpl, fun W ρ S σ H Q re p0 => ?_⟩
  refine a2.run re p0 fun xs vs th1 S1 H1 re1 r1 x1 p1 => ?_
  unfold oReprL at p1
  split at p1
  · rename_i hz
    have hl : vs.length = xs.length := rPs_len r1
    refine ⟨by rw [hl]; exact lim_le hz, fun q hq => ?_⟩
    have rs2 := re1.rs.new (o := .lst vs) hq
    have r2 : rPs X (W.to th1) (upd H1 q (.lst vs)) xs vs := rPs.xt (W := W.to th1) (Xt.new (th := th1) hq) r1
    have p2 : Post (cn X) (W.to th1) H1 (fun e d H' => Wx e d σ H') (rD X) Q (if isDat DEP (.lst (xs.map (drS S1))) && (PyData.showable (py (.lst (xs.map (drS S1)))) && decide ((PyData.shown (py (.lst (xs.map (drS S1))))).length ≤ LIM)) then .ok (.str (PyData.shown (py (.lst (xs.map (drS S1)))))) S1 else .bad) := p1
    split at p2
    · rename_i hx
      rw [Bool.and_eq_true, Bool.and_eq_true] at hx
      obtain ⟨h1, h2, h3⟩ := hx
      have h3 := of_decide_eq_true h3
      have sh := py_shape DEP _ h1
      exact ⟨.ref q, _, rfl, .lst (SqL.of upd_same) (dpAll_rP rs2 r2 h1), py_noDict _ _ h1, Nat.le_trans sh.2 (by decide), h2, lim_le h3, p2 _ th1 _ (Xt.new hq) rs2 rfl⟩
    · exact p2.elim
  · exact p1.elim
end
end DL

namespace DL
open PySem PySem.Spec PyProof.Rows L2
section
variable {X : Cx} {Wx : WX} {o e : Expr} {f g : DE} {apos pos : Pos}
/-! ### an expression that is never reached -/
def dNever : DE := fun _ _ => .bad
theorem pd_never {e : Expr} : PDE X Wx e dNever := ⟨fun _ _ _ => False, ⟨fun _ _ _ _ _ _ h => h.elim⟩, fun _ _ _ _ _ _ _ p => p.elim⟩
/-! ### methods of texts -/
def dM0 (op : Str → Sto → Out D) (f : DE) : DE := fun ρ S => (f ρ S).bind fun x S1 => match x with
  | .str a => op a S1
  | _ => .bad
def dM1 (op : Str → D → Sto → Out D) (f g : DE) : DE := fun ρ S => (f ρ S).bind fun x S1 => match x with
  | .str a => (g ρ S1).bind fun y S2 => op a y S2
  | _ => .bad
def RM0 (X : Cx) (r : V → List V → Hp → VK → Prop) (op : Str → Sto → Out D) : Prop :=
  ∀ W S a H Q Wy, RS (cn X) W S H → Post (cn X) W H Wy (rD X) Q (op a S) → r (.str a) [] H Q
def RM1 (X : Cx) (r : V → List V → Hp → VK → Prop) (op : Str → D → Sto → Out D) : Prop :=
  ∀ W S a y w H Q Wy, RS (cn X) W S H → Rep (cn X) W H y w → Post (cn X) W H Wy (rD X) Q (op a y S) → r (.str a) [w] H Q
theorem snd_m0 {r : V → List V → Hp → VK → Prop} {op : Str → Sto → Out D} {ta : TE} (h1 : Snd X Wx (rD X) f ta) (hr : RM0 X r op) : Snd X Wx (rD X) (dM0 op f) (tM0 r ta) := by
  intro W ρ S σ H Q re p
  refine h1.run re p fun x v th1 S1 H1 re1 r1 _ p1 => ?_
  cases x with
  | str a => cases (show v = V.str a from r1); exact ⟨⟨a, rfl⟩, hr _ S1 a H1 Q _ re1.rs p1⟩
  | _ => exact p1.elim
theorem snd_m1 {r : V → List V → Hp → VK → Prop} {op : Str → D → Sto → Out D} {ta tb : TE} (h1 : Snd X Wx (rD X) f ta) (h2 : Snd X Wx (rD X) g tb) (hr : RM1 X r op) : Snd X Wx (rD X) (dM1 op f g) (tM1 r ta tb) := by
  intro W ρ S σ H Q re p
  refine h1.run re p fun x v th1 S1 H1 re1 r1 _ p1 => ?_
  cases x with
  | str a =>
    cases (show v = V.str a from r1)
    exact ⟨⟨a, rfl⟩, h2.run re1 p1 fun y w th2 S2 H2 re2 r2 x2 p2 => hr _ S2 a y w H2 Q _ re2.rs r2 p2⟩
  | _ => exact p1.elim
theorem reps_strs {c : Cn} {W : Wd} {H : Hp} : ∀ ys : List Str, Reps c W H (ys.map D.str) (ys.map V.str)
  | [] => rfl
  | y :: ys => ⟨.str y, _, rfl, rfl, reps_strs ys⟩
/-- x.split(sep) -/
def oSplit : Str → D → Sto → Out D := fun a y S => match y with
  | .str b => if b.length ≠ 0 ∧ a.length + 2 ≤ LIM ∧ (Txt.split a b).length ≤ LIM then .ok (.lst ((Txt.split a b).map .str)) S else .bad
  | _ => .bad
theorem pd_split (ho : PDE X Wx o f) (he : PDE X Wx e g) (hs : starEach [e] X.env = [(false, eval e X.env)] := by rfl) (hbase : attributeBase o "split" X.env (eval o X.env) = eval o X.env := by rfl) (hline : (apos.endLine == pos.line) = true := by rfl) :
    PDE X Wx (.Call (.Attribute o "split" apos) [e] [] pos) (dM1 oSplit f g) := by
  obtain ⟨ta, a1, a2⟩ := ho; obtain ⟨tb, b1, b2⟩ := he
  refine ⟨_, pe_split a1 b1 hs hbase hline, snd_m1 a2 b2 fun W S a y w H Q Wy rs r p => ?_⟩
  cases y with
  | str b =>
    cases (show w = V.str b from r)
    simp only [oSplit] at p
    split at p
    · rename_i hz
      exact ⟨a, b, rfl, rfl, by simpa using hz.1, lim_le hz.2.1, post_lst rs p (reps_strs _) (by rw [List.length_map]; exact lim_le hz.2.2)⟩
    · exact p.elim
  | _ => exact p.elim
/-- x.index(y), where it is found -/
def oIndex : Str → D → Sto → Out D := fun a y S => match y with
  | .str b => (match Builtin.Str.occurrences a b 0 a.length 1 with
    | i :: _ => .ok (.int (i : Nat)) S
    | [] => .bad)
  | _ => .bad
theorem pd_index (ho : PDE X Wx o f) (he : PDE X Wx e g) (hs : starEach [e] X.env = [(false, eval e X.env)] := by rfl) (hbase : attributeBase o "index" X.env (eval o X.env) = eval o X.env := by rfl) (hline : (apos.endLine == pos.line) = true := by rfl) :
    PDE X Wx (.Call (.Attribute o "index" apos) [e] [] pos) (dM1 oIndex f g) := by
  obtain ⟨ta, a1, a2⟩ := ho; obtain ⟨tb, b1, b2⟩ := he
  refine ⟨_, pe_m1 F.slot_str_index F.type_str_index mt_sindex a1 b1 hs hbase hline, snd_m1 a2 b2 fun W S a y w H Q Wy rs r p => ?_⟩
  cases y with
  | str b =>
    cases (show w = V.str b from r)
    simp only [oIndex] at p
    cases e1 : Builtin.Str.occurrences a b 0 a.length 1 with
    | nil => simp only [e1] at p; exact p.elim
    | cons i rest => simp only [e1] at p; exact ⟨a, b, i, rest, rfl, rfl, e1, post_same rs p rfl⟩
  | _ => exact p.elim
/-- x.upper() -/
def oUpper : Str → Sto → Out D := fun a S => if a.length ≤ LIM then .ok (.str (Txt.upper a)) S else .bad
theorem pd_upper (ho : PDE X Wx o f) (hbase : attributeBase o "upper" X.env (eval o X.env) = eval o X.env := by rfl) (hline : (apos.endLine == pos.line) = true := by rfl) :
    PDE X Wx (.Call (.Attribute o "upper" apos) [] [] pos) (dM0 oUpper f) := by
  obtain ⟨ta, a1, a2⟩ := ho
  refine ⟨_, pe_upper a1 hbase hline, snd_m0 a2 fun W S a H Q Wy rs p => ?_⟩
  simp only [oUpper] at p
  split at p
  · rename_i hz
    exact ⟨a, rfl, rfl, Nat.le_trans hz (by decide), post_same rs p rfl⟩
  · exact p.elim
/-! ### str(int) -/
def oStr : List D → Sto → Out D
  | [.int i], S => if i.natAbs.log2 < 1920 then .ok (.str (toString i)) S else .bad
  | _, _ => .bad
theorem rc_str : RCallP X (fun xs H Q => ∃ i, xs = [V.int i] ∧ i.natAbs.log2 < 1920 ∧ Q (.str (toString i)) H) oStr := by
  intro W S ds vs H Q Wy rs r p
  unfold oStr at p
  split at p
  · split at p
    · rename_i h
      obtain ⟨v, rfl, r1⟩ := rps1 r
      cases r1.int
      exact ⟨_, rfl, h, post_same rs p rfl⟩
    · exact p.elim
  · exact p.elim
theorem pd_str_ {p pos : Pos} {e : Expr} {es : List Expr} {g : DA} (hm : X.mg "str" = none) (ha : PDAP X Wx (e :: es) g) (hg : Gl X "str" := by rfl) (he : starEach (e :: es) X.env = (false, eval e X.env) :: starEach es X.env := by rfl) (hpl : (backTo pos (starEach es X.env)).any (·.1) = false := by rfl) :
    PDE X Wx (.Call (.Name "str" p) (e :: es) [] pos) (dCB oStr g) := pd_bltn call_str_int rc_str hm ha (.inr ⟨_, rfl⟩) (hg := hg) (he := he) (hpl := hpl)
/-! ### x in a list, a tuple, a text -/
def flD : D → Option V
  | .non => some .non
  | .bl b => some (.bl b)
  | .int i => some (.int i)
  | .str x => some (.str x)
  | _ => none
theorem flD_ok {d : D} {u : V} (h : flD d = some u) : flatV u = true ∧ ∀ {W : Wd} {H : Hp} {v : V}, Rep (cn X) W H d v → v = u := by
  cases d <;> cases h <;> exact ⟨rfl, fun r => r⟩
def flDs : List D → Option (List V)
  | [] => some []
  | d :: ds => match flD d, flDs ds with
    | some u, some us => some (u :: us)
    | _, _ => none
theorem flDs_ok : ∀ {ds : List D} {us : List V}, flDs ds = some us → us.all flatV = true ∧ ∀ {W : Wd} {H : Hp} {vs : List V}, Reps (cn X) W H ds vs → vs = us
  | [], us, h => by cases h; exact ⟨rfl, fun r => r⟩
  | d :: ds, us, h => by
    unfold flDs at h
    cases e1 : flD d with
    | none => rw [e1] at h; cases h
    | some u =>
      cases e2 : flDs ds with
      | none => rw [e1, e2] at h; cases h
      | some ws =>
        rw [e1, e2] at h
        cases h
        obtain ⟨a1, a2⟩ := flD_ok (X := X) e1
        obtain ⟨b1, b2⟩ := flDs_ok e2
        refine ⟨by rw [List.all_cons, a1, b1]; rfl, fun r => ?_⟩
        obtain ⟨v, q, rfl, r1, r2⟩ := r
        rw [a2 r1, b2 r2]
def oIn : D → D → Sto → Out D := fun x y S => match seqS S y with
  | some ds => (match flD x, flDs ds with
    | some u, some us => .ok (.bl (inV u us)) S
    | _, _ => .bad)
  | none => (match x, y with
    | .str a, .str z => (match a.cps.toList with
      | [c] => .ok (.bl (decide (c ∈ z.cps.toList))) S
      | _ => .bad)
    | _, _ => .bad)
theorem op_inA : OpR X (compareOp .In) (fun x y H Q => rIn X.K false x y H Q ∨ ∃ (c : Nat) (z : Str), x = .str ⟨#[c]⟩ ∧ y = .str z ∧ Q (.bl (decide (c ∈ z.cps.toList))) H) := op_in_seq.or op_in_sign
theorem rP_fl {W : Wd} {H : Hp} {d : D} {u v : V} (h : flD d = some u) (r : rP X W H d v) : v = u := by
  rcases r with r | ⟨_, _, _, e, _⟩
  · exact (flD_ok (X := X) h).2 r
  · subst e; cases h
theorem pop_in : POp X (fun x y H Q => rIn X.K false x y H Q ∨ ∃ (c : Nat) (z : Str), x = .str ⟨#[c]⟩ ∧ y = .str z ∧ Q (.bl (decide (c ∈ z.cps.toList))) H) oIn := by
  intro W S x y v w H Q Wy rs r1 r2 p
  unfold oIn at p
  cases e : seqS S y with
  | some ds =>
    rw [e] at p
    simp only at p
    cases e1 : flD x with
    | none => rw [e1] at p; exact p.elim
    | some u =>
      cases e2 : flDs ds with
      | none => rw [e1, e2] at p; exact p.elim
      | some us =>
        rw [e1, e2] at p
        simp only at p
        obtain ⟨a, vs, q1, q2, q3, q4⟩ := r2.seq rs e
        obtain ⟨b1, b2⟩ := flDs_ok (X := X) e2
        have ev := rP_fl e1 r1
        have ew := b2 q3
        subst ev ew q1
        refine .inl ⟨a, _, rfl, ?_, (flD_ok (X := X) e1).1, b1, ?_⟩
        · rcases q2 with q2 | q2
          · first | exact .inl q2 | exact .inr q2
          · first | exact .inr q2 | exact .inl q2
        · exact post_same rs p rfl
  | none =>
    rw [e] at p
    cases x with
    | str a =>
      cases y with
      | str z =>
        cases r1.str; cases r2.str
        simp only at p
        split at p
        · rename_i c hc
          refine .inr ⟨c, z, ?_, rfl, post_same rs p rfl⟩
          rw [show a = (⟨#[c]⟩ : Str) from Str.ext' (Array.toList_inj.mp (by rw [hc]))]
        · exact p.elim
      | _ => exact p.elim
    | _ => exact p.elim
variable {a b : Expr}
theorem pd_in (ha : PDP X Wx a f) (hb : PDP X Wx b g) (hm : behindInMarks .In b = false := by rfl) : PDE X Wx (.Compare a [.In] [b] pos) (dOp oIn f g) := by
  obtain ⟨ta, a1, a2⟩ := ha; obtain ⟨tb, b1, b2⟩ := hb
  exact ⟨_, pe_cmpR op_inA a1 b1 hm, snd_opP a2 b2 pop_in⟩
theorem pdt_in (ha : PDP X Wx a f) (hb : PDP X Wx b g) (hm : behindInMarks .In b = false := by rfl) : PDT X Wx (.Compare a [.In] [b] pos) (dTst (dOp oIn f g)) := by
  obtain ⟨ta, a1, a2⟩ := ha; obtain ⟨tb, b1, b2⟩ := hb
  exact ⟨_, pt_cmpR op_inA a1 b1 hm, snd_tst (snd_opP a2 b2 pop_in)⟩
/-! ### an empty dict -/
def dDct : DE := fun _ S => .ok (.ref S.length) (S ++ [.dct])
theorem pd_dct : PDE X Wx (.Dict [] [] pos) dDct := by
  refine ⟨_, pe_dnewK, fun W ρ S σ H Q re p q hq => ?_⟩
  obtain ⟨rs1, x1⟩ := re.rs.push (a := q) (o := .dct) (u := .dK []) hq upd_same
  refine p (.ref q) _ _ x1 rs1 ⟨q, ?_, rfl⟩
  show (W.th ++ [q])[S.length]? = some q
  rw [List.getElem?_append_right (by rw [re.rs.len]; omega), re.rs.len]; simp
def oReprX : List D → Sto → Out D
  | [.ref n], S => (match S[n]? with
    | some .dct => .ok (.str "{}") S
    | _ => oRepr [.ref n] S)
  | xs, S => oRepr xs S
abbrev rReprX (K : PySem.W.Frag) : List V → Hp → VK → Prop := fun xs H Q => rRepr K xs H Q ∨ ∃ a, xs = [.ref a] ∧ H a = some (.dK []) ∧ Q (.str "{}") H
theorem call_reprX (hg : X.A.guards = some []) (hu : X.A.units + 66 < cLine) : CallR X (.builtin "repr") (rReprX X.K) := by
  intro pins s σ H xs us Q I r h
  rcases h with h | ⟨a, rfl, ea, q⟩
  · exact call_reprD hg hu pins s σ H xs us Q I r h
  · obtain ⟨u, rfl, rx⟩ := vals1 r
    cases rx
    obtain ⟨_, nm, vs, kv, o, es, ep, h1, h2, h3, h4, h5, h6⟩ := (show ObjOk X.prog X.w H s.heap a (.dK []) from I.hok a _ ea)
    have ev : vs = [] := by cases kv; rfl
    subst ev
    have ee : es.toList = [] := by
      revert h5
      cases es.toList with
      | nil => intro _; rfl
      | cons _ _ => intro h5; cases h5
    have ne : sysModules ∉ [a] := fun z => by
      rw [List.mem_singleton] at z
      rw [z] at nm; simp at nm
    refine repr_of_reads' (d := .dict []) (as := [a] ++ []) (.dict (as := []) (bs := []) h1 h2.1 h3 (by rw [ee]; exact .nil) (by rw [ee]; exact .nil)) (by rfl) (fun _ => by simpa using ne) hg (by have := (by decide : (PyData.dict []).depth ≤ 64); omega) (fun _ _ e => e) (fun h' u tk hk => ⟨.str _, H, I.kept (t' := tk) hk, ⟨u, rfl⟩, q⟩) (by decide)
theorem rc_reprX : RCallP X (rReprX X.K) oReprX := by
  intro W S ds vs H Q Wy rs r p
  unfold oReprX at p
  split at p
  · split at p
    · rename_i n _ e
      obtain ⟨v, rfl, r1⟩ := rps1 r
      obtain ⟨a, h1, h2⟩ := rs.ob n _ e
      have h2 : H a = some (.dK []) := h2
      rcases r1 with r1 | ⟨_, _, _, e, _⟩
      · obtain ⟨b, k1, rfl⟩ := r1
        cases h1.symm.trans k1
        exact .inr ⟨a, rfl, h2, post_same rs p rfl⟩
      · cases e
    · exact .inl (rc_repr W S _ vs H Q Wy rs r p)
  · exact .inl (rc_repr W S _ vs H Q Wy rs r p)
theorem pd_reprX {p pos : Pos} {e : Expr} {es : List Expr} {g : DA} (hgd : X.A.guards = some []) (hu : X.A.units + 66 < cLine) (hm : X.mg "repr" = none) (ha : PDAP X Wx (e :: es) g) (hg : Gl X "repr" := by rfl) (he : starEach (e :: es) X.env = (false, eval e X.env) :: starEach es X.env := by rfl) (hpl : (backTo pos (starEach es X.env)).any (·.1) = false := by rfl) :
    PDE X Wx (.Call (.Name "repr" p) (e :: es) [] pos) (dCB oReprX g) := pd_bltn (call_reprX hgd hu) rc_reprX hm ha (.inl ⟨_, rfl⟩) (hg := hg) (he := he) (hpl := hpl)
end
section
variable {X : Cx} {Wx : WX} {c : Str} {f : Addr} {den : List D → Sto → Out D} {k j : Nat} {p pos : Pos} {g : DA}
/-- C(k = e, ..): by keywords alone, in the parameters' order -/
theorem pd_makeK {kws : List Keyword} {ks : List Str} (hN : ClsN X c f) {fd : FuncData} {ps : List Str} (F1 : FnOk X.prog X.w X.K X.mg X.base (L2.CX X.prog X.w) k f fd ps (spD (cn X) den)) (hb : ∀ (s : Shared) (a : Value) (ws : List Value), X.K.In s.heap → ([a] ++ ws).length = ps.length → BindsTo s fd ⟨[a], ks.zip ws⟩ (ps.zip ([a] ++ ws)))
    (hr : Room j X.A) (hkj : k + 1 ≤ j) (tk : Takes X Wx) (hkw : ∃ t, PK X kws t ∧ Snd X Wx (rDs X) g t) (hg : Gl X c := by rfl) (hall : (backToKw pos (keywordEach kws X.env)).all (·.1.isSome) = true := by rfl) (hks : (backToKw pos (keywordEach kws X.env)).filterMap (·.1) = ks := by rfl)
    (hdb : (c == ("__debug__" : Str)) = false := by decide) (hpl : ((backTo pos (starEach [] X.env)).any (·.1) || (backToKw pos (keywordEach kws X.env)).any (·.1.isNone)) = false := by rfl) : PDE X Wx (.Call (.Name c p) [] kws pos) (dMake c den g) := by
  obtain ⟨C, hC, M⟩ := hN.ex
  obtain ⟨t, t1, t2⟩ := hkw
  refine ⟨fun σ H Q => t σ H fun vs H1 => ∀ x dx, H1 x = none → H1 dx = none → dx ≠ x → spD (cn X) den (.ref x :: (vs ++ [])) (upd (upd H1 dx (.own x)) x (.ins C dx [])) (fun v H2 => v = .non ∧ Q (.ref x) H2) (WE Wx σ), ⟨fun pins s σ H Q I h => ?_⟩, fun W ρ S σ H Q re p => ?_⟩
  · refine wpAny_Call_Name_kw (ld_glob I hg hC ?_ hdb)
    refine PySem.W.callWith_KW0 (h₀ := X.base) I.ok.mod.kin M.kp hall ?_ hpl
    refine thn (t1.run pos pins s σ H _ I h) fun ws s2 ⟨zs, H2, I2, rz, q2⟩ => ⟨I2.kIn, ?_⟩
    rw [hks]
    have hq := q2 (s2.heap.objs.size + 1) s2.heap.objs.size (I2.hok.fresh (Nat.le_succ _)) (I2.hok.fresh (Nat.le_refl _)) (Nat.ne_of_lt (Nat.lt_succ_self _))
    rw [List.append_nil] at hq
    have I3 := Inv.made (C := C) I2
    have r2 : Vals (V.ref (s2.heap.objs.size + 1) :: zs) (Value.ref (s2.heap.objs.size + 1) :: ws) := .cons rfl rz
    have hl : ([Value.ref (s2.heap.objs.size + 1)] ++ ws).length = ps.length := by
      have e := r2.length
      rw [F1.len _ _ _ _ hq] at e
      exact e.symm
    refine wpAny_call (make_map (vs := []) (f := f) I2.kIn M.makes M.init (beq_iff_eq.mp M.fn) (codeAny_mono (F1.run _ X.stack _ _ ⟨[Value.ref (s2.heap.objs.size + 1)], ks.zip ws⟩ (Value.ref (s2.heap.objs.size + 1) :: ws) _ _ (WE Wx σ) ((hr.mono hkj).make C [] (ks.zip ws))
      (I3.env0.make C [] (ks.zip ws)) (hb _ (Value.ref (s2.heap.objs.size + 1)) ws I3.kIn hl) r2 hq) fun r s' hq' => ?_))
    cases r with
    | error e => exact passAt tk σ pins _ _ e s' I3 hq'
    | ok fl =>
      cases fl with
      | ret u =>
        obtain ⟨v, H', I4, rv, ev, q3⟩ := I3.after hq'
        subst ev
        exact ⟨rv, ⟨V.ref (s2.heap.objs.size + 1), H', I4, rfl, q3⟩⟩
      | next => exact False.elim hq'
      | brk => exact False.elim hq'
      | cont => exact False.elim hq'
  · refine t2.run re p fun xs vs th1 S1 H1 re1 r1 _ p1 => ?_
    intro x dx hx hdx hne
    exact mk_sp (dds := []) (dvs := []) hC (fun _ _ => rfl) re1.rs r1 (by simpa using p1) hx hdx hne
end
/-! ### a tuple of constants of the module -/
section
variable {fa : List He.Fa} {fn : List He.DefD} {ts : List He.Tab} {ex : Exs} {w : World} {K : Frag} {mg : Str → Option Value} (T : GD fa fn ts ex w K mg) {X : Cx}
include T
theorem GD.gd_tupS (i j : Nat) {x : Str} {ns : List Str} (h : fa[i]? = some (.glo x) := by rfl) (h2 : ex[j]? = some (fun K => He.tupB K x (ns.map He.Dv.str)) := by rfl) (hm : X.mg = mg := by rfl) (hK : X.K = K := by rfl) (hz : ns.length ≤ sizeLine := by decide) : GlobD X x (.tup (ns.map D.str)) := by
  have e := T.glo i h
  have q := kt_of (He.tupB_ok (T.x j h2) (fun _ => none))
  refine ⟨_, .ref _, by rw [hm]; exact e, rfl, fun W H => ⟨_, ns.map V.str, rfl, .inr ?_, reps_strs ns, by rw [List.length_map]; exact hz⟩⟩
  show KT X.K _ _
  rw [hK]
  have e2 : (ns.map He.Dv.str).map (He.Dv.v K) = ns.map V.str := by
    rw [List.map_map]; rfl
  rw [e2] at q
  exact q
end
end DL

namespace DL
open PySem PySem.Spec PyProof.Rows L2
/-! ### text.replace(y, z) if c in text else .. : behind the written c a token is out -/
section
variable {X : Cx} {Wx : WX} {o o2 b : Expr} {f f2 g : DE} {to t2 tb : TE} {cs y z : Str} {j j1 j2 : Nat} {pc c0 c1 apos pos p1 p2 : Pos}
theorem pe_replIf {op : CmpOp} {r : R2} (hr : OpR X (compareOp op) r) (h2 : PE X o2 t2) (ho : PE X o to) (hb : PE X b tb) (hyz : (y == z) = false := by decide) (hm : behindInMarks op o2 = false := by rfl)
    (hst : starEach [.Constant (.str y) j1 c0, .Constant (.str z) j2 c1] X.env = [(false, eval (.Constant (.str y) j1 c0) X.env), (false, eval (.Constant (.str z) j2 c1) X.env)] := by rfl)
    (hbase : attributeBase o "replace" X.env (eval o X.env) = eval o X.env := by rfl) (hline : (apos.endLine == p2.line) = true := by rfl) :
    PE X (.IfExp (.Compare (.Constant (.str cs) j pc) [op] [o2] p1) (.Call (.Attribute o "replace" apos) [.Constant (.str y) j1 c0, .Constant (.str z) j2 c1] [] p2) b pos) (tIf (tTest (tOp r (tC (.str cs)) t2)) (CwR.tReplC to y z) tb) := by
  refine ⟨fun pins s σ H Q I h => ?_⟩
  refine wpAny_IfExp (wpAny_mono (Q := fun (d : Bool) s1 => 1 ≤ s1.toks ∧ ∃ H1, Inv X pins σ H1 s1 ∧ if d = true then CwR.tReplC to y z σ H1 Q else tb σ H1 Q) (wpAny_isTrue_Compare1 (Calls.Constant_str ?_) hm) (fun d s1 q => ?_) fun _ _ e => e)
  · have I1 : Inv X pins σ H { s with toks := s.toks + 1 } := I.tok _
    refine wpAny_mono (wpAny_toks_of (n := 1) (by show 1 ≤ s.toks + 1; omega) (h2.run pins { s with toks := s.toks + 1 } σ H _ I1 h)) (fun u s2 q2 => ?_) fun _ _ e => e.2
    obtain ⟨n2, y', H2, I2, r2, q2⟩ := q2
    refine wpAny_mono (wpAny_toks_of n2 (hr pins s2 σ H2 (.str cs) y' _ u _ I2 ⟨_, rfl⟩ r2 q2)) (fun c s3 q3 => ?_) fun _ _ e => e.2
    obtain ⟨n3, z', H3, I3, r3, k, ek, q3⟩ := q3
    subst ek
    cases r3
    exact wpAny_truthy_bool ⟨n3, H3, I3, q3⟩
  · obtain ⟨n1, H1, I1, q⟩ := q
    cases d with
    | true => exact CwR.pet_replC ho hyz hst hbase hline pins s1 σ H1 Q n1 I1 q
    | false => exact hb.run pins s1 σ H1 Q I1 q
def oRepl (y z : Str) : Str → Sto → Out D := fun x S => if x.length + (x.length + 1) * z.length ≤ LIM then .ok (.str (Txt.replace x y z)) S else .bad
def dReplIf (cs y z : Str) (f2 f g : DE) : DE := dIf (dTst (dOp oIn (dC (.str cs)) f2)) (dM0 (oRepl y z) f) g
theorem pd_replIf (h2 : PDE X Wx o2 f2) (ho : PDE X Wx o f) (hb : PDE X Wx b g) (hyz : (y == z) = false := by decide) (hm : behindInMarks .In o2 = false := by rfl)
    (hst : starEach [.Constant (.str y) j1 c0, .Constant (.str z) j2 c1] X.env = [(false, eval (.Constant (.str y) j1 c0) X.env), (false, eval (.Constant (.str z) j2 c1) X.env)] := by rfl)
    (hbase : attributeBase o "replace" X.env (eval o X.env) = eval o X.env := by rfl) (hline : (apos.endLine == p2.line) = true := by rfl) :
    PDE X Wx (.IfExp (.Compare (.Constant (.str cs) j pc) [.In] [o2] p1) (.Call (.Attribute o "replace" apos) [.Constant (.str y) j1 c0, .Constant (.str z) j2 c1] [] p2) b pos) (dReplIf cs y z f2 f g) := by
  obtain ⟨ta, a1, a2⟩ := pdp_of h2; obtain ⟨tb, b1, b2⟩ := ho; obtain ⟨td, d1, d2⟩ := hb
  refine ⟨_, pe_replIf op_inA a1 b1 d1 hyz hm hst hbase hline, fun W ρ S σ H Q re p => ?_⟩
  have sc : Snd X Wx (rP X) (dC (.str cs)) (tC (.str cs)) := fun W ρ S σ H Q re p => p (.str cs) W.th H Xt.refl re.rs (.inl rfl)
  have st := snd_tst (snd_opP sc a2 pop_in)
  unfold dReplIf dIf at p
  refine st.run re p fun x v th1 S1 H1 re1 r1 _ p1 => ?_
  cases r1
  cases x with
  | false => exact iteF (d2 _ ρ S1 σ H1 Q re1 p1)
  | true =>
    refine iteT (b2.run re1 p1 fun x v th2 S2 H2 re2 r2 _ p2 => ?_)
    cases x with
    | str a =>
      cases (show v = V.str a from r2)
      have p2 : Post (cn X) (W.to th2) H2 (fun e d H' => Wx e d σ H') (rD X) Q (oRepl y z a S2) := p2
      unfold oRepl at p2
      split at p2
      · rename_i hz
        exact ⟨a, rfl, Nat.le_trans hz (by decide), post_same re2.rs p2 rfl⟩
      · exact p2.elim
    | _ => exact p2.elim
end
end DL

namespace DL
open PySem PySem.Spec PyProof.Rows L2
section
variable {X : Cx} {Wx : WX}
/-! ### except x as e: return [k, repr(e.f), isinstance(e, c)] -/
def hLine (k : Str) (i : Nat) (f : Str) (ns : List Str) (it : List (Str × Bool)) : HF := fun n y ρ S => match it.lookup n with
  | some b => (match y with
    | some (g, d) => if g = f ∧ n ∈ ns ∧ i < ρ.length then (match oReprX [d] S with
      | .ok z S' => .rt (.lst [.str k, z, .bl b]) S'
      | _ => .bad) else .bad
    | none => .bad)
  | none => .bad
variable {i : Nat} {x en f : Str} {np p1 p2 p3 p4 p5 p6 p7 p8 p9 q1 q2 q3 pos pos' : Pos} {tab : XTab} {ns : List Str} {it : List (Str × Bool)} {c k : Str} {kj : Nat} (hc : Catch X x tab) (hit : ∀ n b, it.lookup n = some b → XcI X n c b) (hN : X.N.Nodup) (him : X.mg "isinstance" = none)
include hc hit hN him
theorem oneH_line (hgd : X.A.guards = some []) (hu : X.A.units + 66 < cLine) (hrm : X.mg "repr" = none) (hns : ∀ n ∈ ns, XfN X n f)
    (hi : X.N[i]? = some en := by rfl) (hln : X.env.kindOf en = some .local := by rfl) (hv : Vis X.env.scope en := by first | exact Or.inl rfl | exact Or.inr (Or.inl rfl) | exact Or.inr (Or.inr rfl))
    (hd : (en == ("__debug__" : Str)) = false := by decide) (hcd : (en == ("__classdict__" : Str)) = false := by decide) (hg : Gl X "isinstance" := by rfl) (hrg : Gl X "repr" := by rfl) (hgc : Gl X c := by rfl) (hdc : (c == ("__debug__" : Str)) = false := by decide)
    (hat : ∀ (Y : Cx), Y.env = X.env → attributeBase (.Name en p7) f Y.env (eval (.Name en p7) Y.env) = eval (.Name en p7) Y.env := by intro Y h; rw [h]; rfl)
    (h1 : starEach [.Name en p1, .Name c p2] X.env = (false, eval (.Name en p1) X.env) :: starEach [.Name c p2] X.env := by rfl) (h2 : starEach [.Name c p2] X.env = (false, eval (.Name c p2) X.env) :: starEach [] X.env := by rfl) (h3 : ∀ pos, (backTo pos (starEach [.Name c p2] X.env)).any (·.1) = false := by intro _; rfl)
    (e1 : starEach [.Attribute (.Name en p7) f p8] X.env = (false, eval (.Attribute (.Name en p7) f p8) X.env) :: starEach [] X.env := by rfl) (e2 : ∀ pos, (backTo pos (starEach [] X.env)).any (·.1) = false := by intro _; rfl)
    (d1 : starEach [.Constant (.str k) kj q1, .Call (.Name "repr" q2) [.Attribute (.Name en p7) f p8] [] q3, .Call (.Name "isinstance" p3) [.Name en p1, .Name c p2] [] p4] X.env = (false, eval (.Constant (.str k) kj q1) X.env) :: starEach [.Call (.Name "repr" q2) [.Attribute (.Name en p7) f p8] [] q3, .Call (.Name "isinstance" p3) [.Name en p1, .Name c p2] [] p4] X.env := by rfl)
    (d2 : starEach [.Call (.Name "repr" q2) [.Attribute (.Name en p7) f p8] [] q3, .Call (.Name "isinstance" p3) [.Name en p1, .Name c p2] [] p4] X.env = (false, eval (.Call (.Name "repr" q2) [.Attribute (.Name en p7) f p8] [] q3) X.env) :: starEach [.Call (.Name "isinstance" p3) [.Name en p1, .Name c p2] [] p4] X.env := by rfl)
    (d3 : starEach [.Call (.Name "isinstance" p3) [.Name en p1, .Name c p2] [] p4] X.env = (false, eval (.Call (.Name "isinstance" p3) [.Name en p1, .Name c p2] [] p4) X.env) :: starEach [] X.env := by rfl) :
    OneH X Wx (.ExceptHandler (some (.Name x np)) (some en) [.Return (some (.List [.Constant (.str k) kj q1, .Call (.Name "repr" q2) [.Attribute (.Name en p7) f p8] [] q3, .Call (.Name "isinstance" p3) [.Name en p1, .Name c p2] [] p4] p5)) p6] pos') tab (hLine k i f ns it) := by
  obtain ⟨cv, hnm, hm⟩ := hc.ex
  let ts : Addr → Value → Option Addr → TS := fun a cls d D σ H => ∃ C c', cls = .ref C ∧ L2.ExcC X.K C ∧ X.mg c = some (.ref c') ∧ XfC X.K C ∧ PySem.W.findIn X.K (.ref C) f = some none ∧
    tRet (fun σ H Q => tCons (tC (.str k)) (tCons (tCB (rReprX X.K) (tCons (tXf a cls d C f (tVar i)) tNil)) (tCons (tCB (rIsX X.K C a d) (tCons (tVar i) (tCons (tC (.ref c')) tNil))) tNil)) σ H fun xs H1 => xs.length ≤ sizeLine ∧ ∀ p, H1 p = none → Q (.ref p) (upd H1 p (.lst xs))) D σ H
  refine ⟨(cv, some i, ts), .named hnm hi hln fun a oe cls d pn hz hf => ⟨fun pins s σ H D I h => ?_⟩, hm, fun B th ρ S σ H D n y C d a hC rf xr ha p => ?_⟩
  · obtain ⟨C, c', rfl, T, hc', T2, hno, h⟩ := h
    have u1 : PE (X.suite a ((a, oe) :: pn)) (.Attribute (.Name en p7) f p8) (tXf a (.ref C) d C f (tVar i)) := pe_xf T2 hno hz hf (pe_var hi hv hd hcd) (hat _ rfl)
    have u2 : PE (X.suite a ((a, oe) :: pn)) (.Call (.Name "repr" q2) [.Attribute (.Name en p7) f p8] [] q3) (tCB (rReprX X.K) (tCons (tXf a (.ref C) d C f (tVar i)) tNil)) :=
      pe_callB (X := X.suite a ((a, oe) :: pn)) (call_reprX (X := X.suite a ((a, oe) :: pn)) hgd hu) hrg hrm rfl (pa_cons u1 pa_nil e1) (by decide) (by decide) e1 (e2 _)
    have u3 := pe_isX (a := a) (en := en) (p1 := p1) (p2 := p2) (p3 := p3) (pos := p4) (pn := pn) T hz hf him hg hc' hgc hdc hi hv hd hcd h1 h2 h3
    exact (pss_one (ps_ret (pe_lst (pa_cons (pe_str) (pa_cons u2 (pa_cons u3 pa_nil d3) d2) d1)))).run pins s σ H D I h
  · unfold hLine at p
    cases e : it.lookup n with
    | none => rw [e] at p; exact p.elim
    | some b =>
      rw [e] at p
      obtain ⟨q1, c', q2, q3⟩ := (hit n b e).ok C hC
      simp only at p
      cases y with
      | none => exact p.elim
      | some gd =>
        obtain ⟨g, dd⟩ := gd
        simp only at p
        split at p
        · rename_i hg'
          obtain ⟨rfl, hn, hil⟩ := hg'
          obtain ⟨w1, w2⟩ := (hns n hn).ok C hC
          have hl' : i < σ.length := by rw [← rf.len]; exact hil
          refine ⟨C, c', rfl, q1, q2, w1, w2, ?_⟩
          obtain ⟨da, v, rfl, h3', h4, h5⟩ := id xr
          cases e3 : oReprX [dd] S with
          | bad => rw [e3] at p; exact p.elim
          | exc _ _ _ => rw [e3] at p; exact p.elim
          | ok z S' =>
            rw [e3] at p
            simp only at p
            refine ⟨.ref a, List.getElem?_set_self hl', rfl, rfl, da, [(g, v)], v, rfl, h3', by simp [List.lookup], ?_⟩
            refine rc_reprX (X := X) (B.w th ρ σ) S [dd] [v] H _ (fun _ _ _ => False) rf.rs ⟨v, [], rfl, .inl h5, rfl⟩ ?_
            rw [e3]
            intro zv th' H' xt rs' rz
            have p' : Post (cn X) (B.w0 th') H' (fun _ _ _ => False) (rD X) D.rt (.ok (.lst [.str k, z, .bl b]) S') := fun b2 th2 H2 x2 rs2 r2 =>
              p b2 H2 th2 ⟨fun a o q n _ => let ⟨k1, k2⟩ := (xt.trans x2).keep a o q n; ⟨k1, k2, fun ⟨j, ds, z1, _⟩ => by simp at z1⟩, (xt.trans x2).th⟩ rs2 r2
            have rs2 : RS (cn X) (B.w0 th') S' H' := rs'.less (fun a h => .inl h) rfl
            have m2 : Mv ((B.w th ρ σ).to th') H' (B.w0 th') H' := Mv.less (fun a h => .inl h) rfl
            refine isX_run q3 (XR.mv xt.mv _ _ xr) hl' ⟨by show 3 ≤ sizeLine; decide, ?_⟩
            exact post_lst rs2 p' ⟨_, _, rfl, rfl, _, _, rfl, Rep.mv m2 _ _ rz, _, _, rfl, rfl, rfl⟩ (by show 3 ≤ sizeLine; decide)
        · exact p.elim
end
end DL

namespace DL
open PySem PySem.Spec PyProof.Rows L2
/-- an expression's reading on data -/
def tOfE (c : Cn) (Wx : WX) (f : DE) : TE := fun σ H Q => ∃ W ρ S, RE c W ρ S σ H ∧ Post c W H (fun e d H' => Wx e d σ H') (fun W H d v => Rep c W H d v) Q (f ρ S)
theorem PDE.peO {X : Cx} {Wx : WX} {e : Expr} {f : DE} (h : PDE X Wx e f) : PE X e (tOfE (cn X) Wx f) := by
  obtain ⟨t, h1, h2⟩ := h
  refine ⟨fun pins s σ H Q I hw => ?_⟩
  obtain ⟨W, ρ, S, re, p⟩ := hw
  exact h1.run pins s σ H Q I (h2 W ρ S σ H Q re p)
section
variable {X : Cx} {pins : List (Addr × Obj)} {σ : L2.St} {H : Hp} {s : Shared}
/-- a lambda is made; the maker's table alone may be longer -/
theorem lam_make3 {c P : Addr} {ps : Array Value} {params : Arguments} {body : Expr} {scope : Scope} {pos : Pos} {E : Value → Shared → Prop} {Q : Value → Shared → Prop} (I : Inv X pins σ H s) (TB : LamX.TabB X.base X.mg c P) (hcode : X.env.code = .ref c)
    (hP : H P = some (.tbl ps)) (ht : TriplesOk ps.toList) (ha : ∀ (pos : Pos) (cv : Value), codeAmong pos ps.toList = some cv → ∃ c, cv = .ref c ∧ H c = some (LamX.CodeO c (X.env.qual ++ "<lambda>"))) (hdef : defaultsOf params X.env = ([], [])) (hfree : ∀ y ∈ scope.names, y.2 = .free → ∃ c, X.env.cells.lookup y.1 = some c)
    (h : ∀ (f c' : Addr) (pm ctv : Value) (H1 : Hp) (s' : Shared), Inv X pins σ H1 s' → (H1 = H ∨ (H c' = none ∧ H1 = upd (upd H P (.tbl (ps ++ #[rawInt pos.line, rawInt pos.col, .ref c']))) c' (LamX.CodeO c' (X.env.qual ++ "<lambda>")))) →
      s'.heap.get? f = some (PySem.W.kla_obj "<lambda>" (X.env.qual ++ "<lambda>") params body scope (cloFrom X.env.cells scope.names []) pm c' ctv) → H1 f = none → f ∉ frs X.stack → H1 c' = some (LamX.CodeO c' (X.env.qual ++ "<lambda>")) → Q (.ref f) s') :
    wpAny (model X.prog X.w) X.A (eval (.Lambda params body scope pos) X.env) Q E s := by
  refine PySem.W.kla_eval hdef ?_
  have bP : s.heap.BuiltinsAt X.mg P := TB.bm.keeps I.bk
  have hP' : s.heap.get? P = some { cls := .none, data := .fields ps } := I.hok P _ hP
  have hC := TB.code.keeps I.bk
  have hG := I.mod.glob.keeps I.bk
  have far : ∀ f, s.heap.objs.size ≤ f → f ∉ frs X.stack := by
    intro f hf z
    cases List.mem_cons.mp (I.stkSub _ z) with
    | inl e =>
      have h1 := I.lt
      rw [← e] at h1
      exact Nat.lt_irrefl _ (Nat.lt_of_lt_of_le h1 hf)
    | inr e => exact I.nofs hf e
  cases hc : codeAmong pos ps.toList with
  | some cv =>
    obtain ⟨c', rfl, hco⟩ := ha pos cv hc
    refine PySem.W.kla_makeFunctionHit (mg := X.mg) (c := c) (P := P) (ps := ps) (closure_ok hfree) I.ok.glob hG hcode hC hP' ht hc bP fun ctv h' tk hx hsz => ?_
    exact h h'.objs.size c' _ ctv H _ (I.kept fun b o e => Heap.get?_push_of_some _ (hx b o e)) (.inl rfl) (Heap.get?_push_size _ rfl) (I.hok.fresh hsz) (far _ hsz) hco
  | none =>
    refine PySem.W.kla_makeFunction (mg := X.mg) (c := c) (P := P) (ps := ps) (closure_ok hfree) I.ok.glob hG hcode hC hP' ht hc TB.gP bP fun c' ctv h' tk hx hge hlt hrec htb => ?_
    obtain ⟨c2, oc, vs, t, e2, hoc, hd, hv⟩ := hrec
    cases e2
    have hsz : s.heap.objs.size ≤ h'.objs.size := Nat.le_trans hge (Nat.le_of_lt hlt)
    have nC : H c' = none := I.hok.fresh hge
    have n1 : h'.objs.size ≠ c' := Nat.ne_of_gt hlt
    have n2 : h'.objs.size ≠ P := Nat.ne_of_gt (Nat.lt_of_lt_of_le (Heap.lt_size hP') hsz)
    refine h h'.objs.size c' ((X.mg "__name__").getD .none) ctv _ _ (LamX.inv_table (t' := tk) (more := #[rawInt pos.line, rawInt pos.col, .ref c']) (h' := h'.push (PySem.W.kla_obj "<lambda>" (X.env.qual ++ "<lambda>") params body scope (cloFrom X.env.cells scope.names []) ((X.mg "__name__").getD .none) c' ctv)) I hP
      (fun b o hb e => Heap.get?_push_of_some _ (hx b o hb e)) (Heap.get?_push_of_some _ htb) hge ⟨oc, vs, t, Heap.get?_push_of_some _ hoc, hd, hv⟩) (.inr ⟨nC, rfl⟩) (Heap.get?_push_size _ rfl) ?_ (far _ hsz) upd_same
    rw [upd_ne n1, upd_ne n2]
    exact I.hok.fresh hsz
/-- the store behind it -/
theorem RS.lam {c : Cn} {W : Wd} {S : Sto} {H H1 : Hp} {m : Nat} {p : Str × Option Str} {q : Str} {ps : Array Value} {c' : Addr} {pos : Pos} (rs : RS c W S H) (hS : S[m]? = some (.tab p q)) (hth : W.th[m]? = some (He.cT c.K p).2) (hP : H (He.cT c.K p).2 = some (.tbl ps)) (ht : TriplesOk ps.toList)
    (ha : ∀ (pos : Pos) (cv : Value), codeAmong pos ps.toList = some cv → ∃ cc, cv = .ref cc ∧ H cc = some (LamX.CodeO cc q) ∧ ¬ W.U cc) (h : H1 = H ∨ (H c' = none ∧ H1 = upd (upd H (He.cT c.K p).2 (.tbl (ps ++ #[rawInt pos.line, rawInt pos.col, .ref c']))) c' (LamX.CodeO c' q))) :
    RS c W S H1 ∧ Xt W.th H W.th H1 := by
  rcases h with rfl | ⟨hn, rfl⟩
  · exact ⟨rs, Xt.refl⟩
  · have rsA : RS c W S (upd H c' (LamX.CodeO c' q)) := rs.new hn
    have xA : Xt W.th H W.th (upd H c' (LamX.CodeO c' q)) := Xt.new hn
    have nPc : (He.cT c.K p).2 ≠ c' := ne_of_none hP hn
    have eL : (ps ++ #[rawInt pos.line, rawInt pos.col, .ref c']).toList = ps.toList ++ [rawInt pos.line, rawInt pos.col, .ref c'] := by simp
    obtain ⟨rsB, xB⟩ := rsA.wr (n := m) (a := (He.cT c.K p).2) (o := .tab p q) (u := .tbl (ps ++ #[rawInt pos.line, rawInt pos.col, .ref c'])) hth ⟨rfl, _, upd_same, by rw [eL]; exact PySem.TriplesOk_snoc _ _ _ _ ht, fun p' cv hc => by
      rw [eL] at hc
      rcases LamX.among_app _ ht hc with z | z
      · obtain ⟨cc, e1, e2, e3⟩ := ha p' cv z
        refine ⟨cc, e1, ?_, e3⟩
        have n1 : cc ≠ (He.cT c.K p).2 := fun z => by
          rw [z, hP] at e2
          exact LamX.codeO_ne _ (Option.some.inj e2).symm
        rw [upd_ne n1, upd_ne (ne_of_none e2 hn)]
        exact e2
      · subst z
        refine ⟨c', rfl, ?_, rs.nU hn⟩
        rw [upd_ne (Ne.symm nPc)]
        exact upd_same⟩
    have eS : S.set m (.tab p q) = S := by
      apply List.ext_getElem?
      intro i
      by_cases hi : m = i
      · subst hi
        rw [List.getElem?_set_self (List.getElem?_eq_some_iff.mp hS).1, hS]
      · rw [List.getElem?_set_ne hi]
    have eH : upd (upd H c' (LamX.CodeO c' q)) (He.cT c.K p).2 (.tbl (ps ++ #[rawInt pos.line, rawInt pos.col, .ref c'])) = upd (upd H (He.cT c.K p).2 (.tbl (ps ++ #[rawInt pos.line, rawInt pos.col, .ref c']))) c' (LamX.CodeO c' q) := by
      funext b
      by_cases h1 : b = (He.cT c.K p).2
      · subst h1; rw [upd_same, upd_ne nPc, upd_same]
      · by_cases h2 : b = c'
        · subst h2; rw [upd_same, upd_ne h1, upd_same]
        · rw [upd_ne h1, upd_ne h2, upd_ne h2, upd_ne h1]
    rw [eS, eH] at rsB
    rw [eH] at xB
    exact ⟨rsB, xA.trans xB⟩
/-- the lambda, called where the slots are known -/
theorem pe_act2 {CXg : CXT} {Eg : XK} {Ng : List Str} {qg : Str} {sg : Scope} {g f c' : Addr} {cdg pm ctv : Value} {params : Arguments} {body : Expr} {scope : Scope} {k i : Nat} {a : Str} {pn : List (Addr × Obj)} {xe : Value → Shared → Prop} {W : WX} {tb : TE} {p1 p2 : Pos} {σ0 : L2.St}
    (I : Inv X pins σ H s) (L : LamX.LamS X.env.scope scope) (hf : s.heap.get? f = some (PySem.W.kla_obj "<lambda>" (X.env.qual ++ "<lambda>") params body scope (cloFrom X.env.cells scope.names []) pm c' ctv)) (hfn : H f = none) (hfr : f ∉ frs X.stack)
    (hbind : bindArgs (PySem.W.kla_fn "<lambda>" (X.env.qual ++ "<lambda>") params body scope (cloFrom X.env.cells scope.names []) pm (.ref c') ctv) ⟨[], []⟩ = pure [])
    (tk : Takes ((cxOf CXg X.prog X.w X.K X.mg X.base Ng qg sg g cdg X.A X.stack s H Eg).tr pn xe) W) (hr : Room (k + 1) (X.A.deeper (envOfC qg sg s.heap.objs.size g cdg)))
    (hbody : ∀ (A : Around) (outer : List Env) (s : Shared) (H : Hp), Room k (A.deeper (LamX.lamEnv X scope s.heap.objs.size f c')) → PE (LamX.lamCx X A outer s H (WE W σ0) scope f c') body tb)
    (hN : Ng[i]? = some a) (hv : Vis sg a) (hd : (a == ("__debug__" : Str)) = false := by decide) (hcd : (a == ("__classdict__" : Str)) = false := by decide) :
    PE ((cxOf CXg X.prog X.w X.K X.mg X.base Ng qg sg g cdg X.A X.stack s H Eg).tr pn xe) (.Call (.Name a p1) [] [] p2)
      (fun σZ HZ Q => σZ = σ0 ∧ σZ[i]? = some (some (.ref f)) ∧ HZ c' = some (LamX.CodeO c' (X.env.qual ++ "<lambda>")) ∧ tb σ HZ Q) := by
  refine ⟨fun pinsZ sZ σZ HZ Q IZ h => ?_⟩
  obtain ⟨e0, hs, hc, ht⟩ := h
  subst e0
  refine wpAny_Call_Name_kw (thn ((pe_var (pos := p1) (i := i) hN hv hd hcd).run pinsZ sZ σZ HZ (fun v H1 => v = .ref f ∧ H1 = HZ) IZ ⟨.ref f, hs, rfl, rfl⟩) fun u s1 ⟨v, H1, I1, r1, q1⟩ => ?_)
  obtain ⟨ev, eH⟩ := q1
  subst ev
  rw [eH] at I1
  obtain rfl : u = Value.ref f := r1
  have of1 := I1.base.keep f _ hf hfn hfr (fun z => nomatch (show f ∈ ([] : List Addr) from z))
  refine PySem.W.callWith_F0 ⟨_, _, _, _, of1⟩ ?_
  obtain ⟨⟨oc, vs, t, hoc, hdc, hvc⟩, _, _⟩ := I1.hok c' _ hc
  have rc : codeAny (model X.prog X.w) (X.A.deeper (envOfC qg sg s.heap.objs.size g cdg)) (.call (.ref f) ⟨[], []⟩) (CR (L2.CX X.prog X.w) (envOfC qg sg s.heap.objs.size g cdg :: X.stack) X.prog X.w HZ s1 Q (WE W σZ)) s1 := by
    refine PySem.W.kla_callFunE hr.depth of1 rfl L.co L.gen rfl ⟨c', oc, vs, t, rfl, hoc, hdc, hvc⟩ ?_
    rw [hbind]
    refine wpAny_pure (wpAny_newFunctionEnv (fun y hy => (L.own y hy).2) (fun y hy => absurd hy (by simp)) (fun h₁ hns hsb => ⟨I1.nolimit.fresh _ hsb, ?_⟩) L.kind)
    show codeAny _ _ (.expr body (LamX.lamEnv X scope s1.heap.objs.size f c')) _ _
    have kp : ∀ b o, s1.heap.get? b = some o → h₁.get? b = some o := fun b o e => hsb.extBut b o (Nat.ne_of_lt (Heap.lt_size e)) (Heap.get?_push_of_some _ e)
    have J : Inv (LamX.lamCx X (X.A.deeper (envOfC qg sg s.heap.objs.size g cdg)) (envOfC qg sg s.heap.objs.size g cdg :: X.stack) s1 HZ (WE W σZ) scope f c') [] σ HZ { s1 with heap := h₁, toks := s1.toks + ([] : List (Str × Value)).length } :=
      LamX.lam_start2 I L I1.env0 hr.hd I1.base hns kp
    refine PySem.W.kla_codeExpr (wpAny_mono ((hbody _ _ s1 HZ (hr.deeper _)).run [] _ _ HZ Q J ht) (fun v s' hq => ?_) fun e s' hq => hq)
    obtain ⟨w', H', J', rv, q⟩ := hq
    exact ⟨w', H', J'.os, J'.bare, J'.base, J'.hok, rv, q⟩
  refine wpAny_call (codeAny_mono rc fun r s' hq => ?_)
  cases r with
  | error e => exact passAt tk σZ pinsZ HZ s1 e s' I1 hq
  | ok fl =>
    cases fl with
    | ret u => exact I1.after hq
    | next => exact False.elim hq
    | brk => exact False.elim hq
    | cont => exact False.elim hq
end
/-! ### g(lambda: e), g's body: try: a() / except .. / return None -/
def isTab (m : Nat) (p : Str × Option Str) (q : Str) (S : Sto) : Bool := match S[m]? with
  | some (.tab p' q') => decide (p' = p) && decide (q' = q)
  | _ => false
theorem isTab_ok {m : Nat} {p : Str × Option Str} {q : Str} {S : Sto} (h : isTab m p q S = true) : S[m]? = some (.tab p q) := by
  unfold isTab at h
  split at h
  · rename_i p' q' e
    rw [Bool.and_eq_true] at h
    have h1 := of_decide_eq_true h.1
    have h2 := of_decide_eq_true h.2
    rw [e, h1, h2]
  · cases h
def dRef (m : Nat) (p : Str × Option Str) (q : Str) (nN : Nat) (fs : List (XTab × HF)) (gb : DE) : DE := fun ρ S => if isTab m p q S = true then (match gb ρ S with
  | .ok _ S' => .ok .non S'
  | .exc n y S' => (match goH fs n y (List.replicate nN none) S' with
    | .rt d S2 => .ok d S2
    | _ => .bad)
  | .bad => .bad) else .bad
abbrev Wx0' : WX := fun _ _ _ _ => False
abbrev cxR (X : Cx) (Ng : List Str) (x : Str) (sg : Scope) (g : Addr) (cdv : Value) (s' : Shared) (H1 : Hp) : Cx := cxOf (L2.CX X.prog X.w) X.prog X.w X.K X.mg X.base Ng x sg g cdv X.A X.stack s' H1 (fun _ _ _ => False)
theorem rf_none {c : Cn} {W : Wd} {S : Sto} {H : Hp} {σ : L2.St} (rs : RS c W S H) : RF c ⟨W.pr, W.xc⟩ W.th (List.replicate σ.length none) S σ H := by
  have nn : ∀ (i : Nat) (s : Sl), (List.replicate σ.length (none : Option Sl))[i]? ≠ some (some s) := fun i s e => by
    rw [List.getElem?_replicate] at e
    split at e <;> cases e
  have no : ∀ a, ¬ ownd (List.replicate σ.length none) σ a := fun a ⟨i, es, h1, _⟩ => nn i _ h1
  refine ⟨⟨rs.less (fun a z => z.elim id fun q => (no a q).elim) rfl, fun i s e => (nn i s e).elim, by simp⟩, fun a q => (no a q).elim, fun i j es _ _ e1 _ _ _ => (nn i _ e1).elim, by simp⟩
theorem pd_refused {X : Cx} {Wx : WX} {x a : Str} {g : Addr} {k m : Nat} {pg : Arguments} {sg : Scope} {fd : FuncData} {Ng : List Str} {pf : Str × Option Str} {q : Str} {params : Arguments} {body : Expr} {scope : Scope} {h0 : ExceptHandler} {hds : List ExceptHandler} {fs : List (XTab × HF)} {gb : DE} {p lpos pos p1 p2 p3 p4 p5 p6 : Pos} {j6 : Nat}
    (F : FunD X.K x x pg [.Try [.Expr (.Call (.Name a p1) [] [] p2) p3] (h0 :: hds) [] [] p4, .Return (some (.Constant .none j6 p6)) p5] sg [] [] g fd) (hb : Binds X.K fd [a] []) (Sg : FnScope Ng [a] sg) (hm : X.mg x = some (.ref g)) (hk : PySem.W.keepIn X.K (.ref g) = true) (hNg : Ng[0]? = some a) (hva : Vis sg a)
    (TB : LamX.TabB X.base X.mg (He.cT X.K pf).1 (He.cT X.K pf).2) (hcode : X.env.code = .ref (He.cT X.K pf).1) (hq : q = X.env.qual ++ "<lambda>") (hr : Room (k + 2) X.A) (L : LamX.LamS X.env.scope scope) (hdef : defaultsOf params X.env = ([], []))
    (hbind : ∀ (q : Str) (cl : List (Str × Addr)) (pm cv ctv : Value), bindArgs (PySem.W.kla_fn "<lambda>" q params body scope cl pm cv ctv) ⟨[], []⟩ = pure [])
    (hh : ∀ (cdv : Value) (s' : Shared) (H1 : Hp), Room (k + 1) (X.A.deeper (envOfC x sg s'.heap.objs.size g cdv)) → AllH (cxR X Ng x sg g cdv s' H1) Wx0' (h0 :: hds) fs)
    (hbody : ∀ (A : Around) (outer : List Env) (s : Shared) (H : Hp) (E : XK) (f c' : Addr), Room k (A.deeper (LamX.lamEnv X scope s.heap.objs.size f c')) → Takes (LamX.lamCx X A outer s H E scope f c') (fun cls d _ H => E cls d H) → PDE (LamX.lamCx X A outer s H E scope f c') (fun cls d _ H => E cls d H) body gb)
    (hg : Gl X x := by rfl) (hdb : (x == ("__debug__" : Str)) = false := by decide) (hd : (a == ("__debug__" : Str)) = false := by decide) (hcd : (a == ("__classdict__" : Str)) = false := by decide)
    (hsw : ∀ Y : Cx, Y.env.scope = sg → swapsWith (.Call (.Name a p1) [] [] p2) none p3.line Y.env = pure false := by intro Y _; rfl) :
    PDE X Wx (.Call (.Name x p) [.Lambda params body scope lpos] [] pos) (dRef m pf q Ng.length fs gb) := by
  refine ⟨tOfE (cn X) Wx (dRef m pf q Ng.length fs gb), ⟨fun pins s σ H Q I hw => ?_⟩, fun W ρ S σ H Q re p => ⟨W, ρ, S, re, p⟩⟩
  obtain ⟨W, ρ, S, re, p⟩ := hw
  subst hq
  unfold dRef at p
  split at p
  · rename_i hi
    have hS := isTab_ok hi
    obtain ⟨P', hth, e0, ps, hP, ht, ha⟩ := re.rs.ob m _ hS
    have e0 : P' = (He.cT X.K pf).2 := e0
    subst e0
    refine wpAny_Call_Name_kw (ld_glob I hg hm ?_ hdb)
    refine PySem.W.callWith_K (h₀ := X.base) I.ok.mod.kin hk ?_ (by rfl) (by rfl)
    show wpAny _ _ (spliced ((false, eval (.Lambda params body scope lpos) X.env) :: backTo pos (starEach [] X.env))) _ _ s
    refine Calls.spliced_cons (lam_make3 I TB hcode hP ht (fun pos cv hc => let ⟨cc, c1, c2, _⟩ := ha pos cv hc; ⟨cc, c1, c2⟩) hdef (L.has I.ok) fun f c' pm' ctv H1 s' I1 hH1 hf hfn hfr hco => ?_)
    refine Calls.spliced_nil ⟨I1.kIn, ?_⟩
    obtain ⟨rs1, x1⟩ := RS.lam re.rs hS hth hP ht ha hH1
    have re1 : RE (cn X) W ρ S σ H1 := re.xt x1 rs1
    obtain ⟨oc, od, dV, kV, doc, pm, an, cdv, ct, osl, rfl, lk, hcg, _, _⟩ := F.ex
    have rc : codeAny (model X.prog X.w) X.A (.call (.ref g) ⟨[.ref f], []⟩) (CR (L2.CX X.prog X.w) X.stack X.prog X.w H1 s' Q (fun _ _ _ => False)) s' := by
      refine LamX.run_ofS (N := Ng) (ps := [a]) (us := [.ref f]) (vs := [.ref f]) lk hcg Sg hr I1.env0 (by simpa using hb s' [.ref f] I1.kIn rfl) (.cons rfl .nil) rfl fun hr' => ?_
      obtain ⟨qs, q1, q2⟩ := (hh cdv s' H1 hr').hds
      have l0 : (L2.start Ng [V.ref f]).length = Ng.length := by
        have : 0 < Ng.length := (List.getElem?_eq_some_iff.mp hNg).1
        unfold L2.start
        simp
        omega
      let tt : WX → TS := fun W' D σZ HZ => σZ = L2.start Ng [V.ref f] ∧ σZ[0]? = some (some (V.ref f)) ∧ HZ c' = some (LamX.CodeO c' (X.env.qual ++ "<lambda>")) ∧ tOfE (cn X) (fun cls d _ H' => W' cls d (L2.start Ng [V.ref f]) H') gb σ HZ (fun _ H' => D.nx (L2.start Ng [V.ref f]) H')
      refine ⟨_, pss_cons (ps_trys (X := cxR X Ng x sg g cdv s' H1) (tb := tt) Sg.nd rfl rfl takes0 (fun W' pn xe tk hp => ?_) q1) (pss_one (ps_ret pe_non)), ?_⟩
      · have act := pe_act2 (X := X) (i := 0) (p1 := p1) (p2 := p2) (σ0 := L2.start Ng [V.ref f]) (tb := tOfE (cn X) (fun cls d _ H' => W' cls d (L2.start Ng [V.ref f]) H') gb) I1 L hf hfn hfr (hbind _ _ _ _ _) tk hr' (fun A outer s H hr2 => (hbody A outer s H _ f c' hr2 (takes_of rfl rfl rfl rfl)).peO) hNg hva hd hcd
        have st := pss_one (ps_expr (pos := p3) act (hsw _ rfl))
        refine ⟨fun pins2 s2 σ2 H2 D2 I2 hw => ?_⟩
        obtain ⟨w1, w2, w3, w4⟩ := hw
        refine st.run pins2 s2 σ2 H2 D2 I2 ?_
        subst w1
        exact ⟨rfl, w2, w3, w4⟩
      · refine ⟨rfl, rfl, hco, W, ρ, S, re1, ?_⟩
        cases e : gb ρ S with
        | bad => rw [e] at p; exact p.elim
        | ok d S' =>
          rw [e] at p
          exact fun b th' H' xt rs' r => p V.non th' H' (x1.trans xt) rs' rfl
        | exc n y S' =>
          rw [e] at p
          simp only at p
          intro C d th' H' hC xt rs' xr
          have rf := rf_none (σ := L2.start Ng [V.ref f]) rs'
          rw [l0] at rf
          have mv : Mv (W.to th') H' (Bs.w ⟨W.pr, W.xc⟩ th' (List.replicate Ng.length none) (L2.start Ng [V.ref f])) H' := Mv.less (fun a (z : W.pr a ∨ ownd _ _ a) => z.elim id fun q => by
            obtain ⟨i, es, z1, _⟩ := q
            rw [List.getElem?_replicate] at z1
            split at z1 <;> cases z1) rfl
          refine q2 ⟨W.pr, W.xc⟩ th' _ S' _ H' _ n y C d hC rf (XR.mv mv _ _ xr) ?_
          cases e2 : goH fs n y (List.replicate Ng.length none) S' with
          | rt d2 S2 =>
            rw [e2] at p
            exact fun v H2 th2 x2 rs2 r2 => p v th2 H2 (x1.trans (xt.trans ⟨fun a o q n => let ⟨k1, k2, _⟩ := x2.keep a o q n (fun ⟨i, es, z1, _⟩ => by rw [List.getElem?_replicate] at z1; split at z1 <;> cases z1); ⟨k1, k2⟩, x2.th⟩)) rs2 r2
          | _ => rw [e2] at p; exact p.elim
    refine wpAny_call (codeAny_mono rc fun r s2 hq => ?_)
    cases r with
    | error e =>
      obtain ⟨_, _, _, _, _, _, _, _, _, _, _, _, z⟩ := hq
      exact z.elim
    | ok fl =>
      cases fl with
      | ret u => exact I1.after hq
      | next => exact False.elim hq
      | brk => exact False.elim hq
      | cont => exact False.elim hq
  · exact p.elim
end DL

namespace DL
open PySem PySem.Spec PyProof.Rows L2
/-! ### a def whose code object is asked -/
theorem fokGT {P : Program} {w : World} {K : PySem.W.Frag} {mg : Str → Option Value} {base : Heap} {x qual : Str} {params : Arguments} {body : List Stmt} {scope : Scope} {dvs : List V} {kws : List (Str × V)} {pf : Str × Option Str} {fd : FuncData} {N ps : List Str} {k : Nat} {bd : DS} (F : FunD K x qual params body scope dvs kws (He.fAd K pf) fd) (S : FnScope N ps scope)
    (hb : ∀ (cdv : Value) (A : Around) (outer : List PySem.Env) (s : Shared) (H : Hp) (E : XK), cdv = .ref (He.cT K pf).1 → A.guards = some [] → Room k (A.deeper (envOfC qual scope s.heap.objs.size (He.fAd K pf) cdv)) →
      Takes (cxOf (L2.CX P w) P w K mg base N qual scope (He.fAd K pf) cdv A outer s H E) (fun cls d _ H => E cls d H) →
      PassesOwn (model P w) (A.deeper (envOfC qual scope s.heap.objs.size (He.fAd K pf) cdv)) (envOfC qual scope s.heap.objs.size (He.fAd K pf) cdv) (cxOf (L2.CX P w) P w K mg base N qual scope (He.fAd K pf) cdv A outer s H E).xe →
      PDSs (cxOf (L2.CX P w) P w K mg base N qual scope (He.fAd K pf) cdv A outer s H E) (fun cls d _ H => E cls d H) body bd) :
    FnG P w K mg base (k + 1) (He.fAd K pf) fd ps (spD ⟨K, mg⟩ (dFn ps.length N.length bd)) := by
  obtain ⟨oc, od, dV, kV, doc, pm, an, cdv, ct, osl, rfl, lk, hcd, q1, q2⟩ := F.ex
  have hc : cdv = .ref (He.cT K pf).1 := by
    obtain ⟨c, e⟩ := He.codeIn_ref hcd
    rw [e]
    exact congrArg Value.ref (He.codeOf_eq lk e).symm
  have len : ∀ vs H Q E, spD ⟨K, mg⟩ (dFn ps.length N.length bd) vs H Q E → vs.length = ps.length := fun vs H Q E h => by
    obtain ⟨W, ds, S, rs, r, p⟩ := h
    unfold dFn at p
    split at p
    · rename_i e
      rw [r.len, e]
    · exact p.elim
  refine ⟨len, fun A outer s H args us vs Q E hg hr e0 hbi r hsp => ?_⟩
  have hl := len _ _ _ _ hsp
  have old : ∀ b o, base.get? b = some o → s.heap.get? b = some o := fun b o e => (e0.bs b o e).1
  have KX : K.In s.heap := e0.mod.kin.keeps old
  have lim : s.heap.NoLimit := e0.mod.nolimit.keeps old
  have hkind : ∀ y ∈ ps.zip us, scope.names.lookup y.1 = some .local ∨ (scope.names.lookup y.1 = some .cell ∧ ((cellsFrom (s.heap.objs.size + 1) scope.names []).lookup y.1).isSome = true) := by
    intro y hy
    rcases S.par y.1 (List.of_mem_zip (a := y.1) (b := y.2) hy).1 with q | q
    · exact .inl q
    · exact .inr ⟨q, PySem.W.cellsFrom_some _ _ _ (.inl q)⟩
  refine codeAny_call_function hr.depth (KX _ _ lk) rfl S.co S.gen rfl (PySem.W.codeRec_of KX hcd) (hbi _ _ _ _ ?_)
  refine wpAny_newFunctionEnv_cells S.kind hkind fun env he s1 hin => ?_
  subst he
  refine ⟨lim.keeps hin.toInCall.keep, codeAny_func ?_⟩
  obtain ⟨W, ds, S', rs, rr, p⟩ := hsp
  obtain ⟨t, a1, a2⟩ := hb cdv A outer s H E hc hg (hr.deeper _) (takes_of rfl rfl rfl rfl) (passes_of rfl)
  have hq : t { nx := fun _ H' => Q .non H', rt := Q } (start N vs) H := by
    refine a2 ⟨W.pr, W.xc⟩ W.th (frame N.length ds) S' (start N vs) H _ (rf_start rs rr) ?_
    have no : ∀ a, ¬ ownd (frame N.length ds) (start N vs) a := fun a ⟨i, es, h1, _⟩ => by
      obtain ⟨d, _, e⟩ := frame_val h1
      cases e
    unfold dFn at p
    split at p
    · cases e : bd (frame N.length ds) S' with
      | nx ρ' S' =>
        rw [e] at p
        intro σ' H' th' x rf
        exact p V.non th' H' ⟨fun a o q n => let ⟨k1, k2, _⟩ := x.keep a o q n (no a); ⟨k1, k2⟩, x.th⟩ rf.rs0 rfl
      | rt d S' =>
        rw [e] at p
        intro v H' th' x rs' r'
        exact p v th' H' ⟨fun a o q n => let ⟨k1, k2, _⟩ := x.keep a o q n (no a); ⟨k1, k2⟩, x.th⟩ rs' r'
      | ex n y ρ' S' =>
        rw [e] at p
        intro C d σ' H' th' hm x rf xr
        have m : Mv (Bs.w ⟨W.pr, W.xc⟩ th' ρ' σ') H' (W.to th') H' := Mv.less (fun a z => Or.inl z) rfl
        exact p C d th' H' hm ⟨fun a o q n => let ⟨k1, k2, _⟩ := x.keep a o q n (no a); ⟨k1, k2⟩, x.th⟩ rf.rs0 (XR.mv m _ _ xr)
      | bk _ _ => rw [e] at p; exact p.elim
      | ct _ _ => rw [e] at p; exact p.elim
      | bad => rw [e] at p; exact p.elim
    · exact p.elim
  refine wpAny_mono (a1.run [] s1 (start N vs) H _ (inv_start S hr.hd e0 hl r hin) hq) (fun fl s' hs => ?_) fun e s' hs => hs
  cases fl with
  | ret u =>
    obtain ⟨v, σ', H', J, rv, q⟩ := hs
    exact ⟨v, H', J.os, J.bare, J.base, J.hok, rv, q⟩
  | next =>
    obtain ⟨σ', H', J, q⟩ := hs
    exact ⟨V.non, H', J.os, J.bare, J.base, J.hok, rfl, q⟩
  | brk =>
    obtain ⟨_, _, _, q⟩ := hs
    exact False.elim q
  | cont =>
    obtain ⟨_, _, _, q⟩ := hs
    exact False.elim q
/-! ### the Hook, the defs' tables left out of what is known -/
def obsXT (n : Nat) (fa : List He.Fa) (fn : List He.DefD) (ts : List He.Tab) (tf : List He.Defn) (ex : Exs) (g : Addr → Option Obj) : AlX := (He.obsT fa fn ts (He.frT g (He.asD g n)), (ex.all fun b => b (He.frT g (He.asD g n))) && He.tabsB g tf (He.frT g (He.asD g n)))
structure TabsX (tf : List He.Defn) (K : Frag) (h : Heap) : Prop where
  hd : ∀ p ∈ tf, PySem.W.codeHdIn K (He.cT K p).1 (He.cT K p).2 = true
  out : ∀ p ∈ tf, K.lookup (He.cT K p).2 = none
  empty : ∀ p ∈ tf, h.get? (He.cT K p).2 = some { cls := .none, data := .fields #[] }
theorem saysXT_of {n : Nat} {fa : List He.Fa} {fn : List He.DefD} {ts : List He.Tab} {tf : List He.Defn} {ex : Exs} {w : World} {h : Heap} (e : obsXT n fa fn ts tf ex h.get? = (He.valT fn ts w, true)) :
    SaysX fa fn ts ex w (He.frT h.get? (He.asD h.get? n)) ∧ TabsX tf (He.frT h.get? (He.asD h.get? n)) h := by
  have e1 : He.obsT fa fn ts (He.frT h.get? (He.asD h.get? n)) = He.valT fn ts w := congrArg (fun z : AlX => z.1) e
  have e2 : ((ex.all fun b => b (He.frT h.get? (He.asD h.get? n))) && He.tabsB h.get? tf (He.frT h.get? (He.asD h.get? n))) = true := congrArg (fun z : AlX => z.2) e
  rw [Bool.and_eq_true] at e2
  obtain ⟨h1, h2⟩ := e2
  refine ⟨by show (_, _) = (_, _); rw [e1, h1], ?_⟩
  have key : ∀ p ∈ tf, PySem.W.codeHdIn (He.frT h.get? (He.asD h.get? n)) (He.cT (He.frT h.get? (He.asD h.get? n)) p).1 (He.cT (He.frT h.get? (He.asD h.get? n)) p).2 = true ∧ ∃ o, h.get? (He.cT (He.frT h.get? (He.asD h.get? n)) p).2 = some o ∧ He.emptyTab o = true := fun p hp => by
    have q := List.all_eq_true.mp h2 p hp
    rw [Bool.and_eq_true] at q
    refine ⟨q.1, ?_⟩
    have q2 := q.2
    cases z : h.get? (He.cT (He.frT h.get? (He.asD h.get? n)) p).2 with
    | none => rw [z] at q2; cases q2
    | some o => rw [z] at q2; exact ⟨o, rfl, q2⟩
  exact ⟨fun p hp => (key p hp).1, fun p hp => by
    obtain ⟨_, o, q, z⟩ := key p hp
    exact He.frT_none q z, fun p hp => by
    obtain ⟨_, o, q, z⟩ := key p hp
    rw [q, He.emptyTab_eq z]⟩
def hookXT (n : Nat) (fa : List He.Fa) (fn : List He.DefD) (ts : List He.Tab) (tf : List He.Defn) (ex : Exs) : PySem.W.Hook where
  α := AlX
  obs := fun s => obsXT n fa fn ts tf ex s.heap.get?
  val := fun w => (He.valT fn ts w, true)
  says := fun w h => ∃ K : Frag, K.In h ∧ SaysX fa fn ts ex w K ∧ TabsX tf K h
  of := fun _ _ e => ⟨_, He.frT_in, saysXT_of e⟩
  keeps := fun _ _ _ ⟨K, hK, c, t⟩ k => ⟨K, PySem.W.Frag.In.keeps hK k, c, ⟨t.hd, t.out, fun p hp => k _ _ (t.empty p hp)⟩⟩
theorem obsXT_eq {n : Nat} {fa : List He.Fa} {fn : List He.DefD} {ts : List He.Tab} {tf : List He.Defn} {ex : Exs} {g : Addr → Option Obj} {s : Shared} (h : ∀ a, g a = s.heap.get? a) : obsXT n fa fn ts tf ex g = (hookXT n fa fn ts tf ex).obs s := by
  rw [show g = s.heap.get? from funext h]
  rfl
/-! ### the end, with tables -/
abbrev TBs (K : Frag) (mg : Str → Option Value) (base : Heap) (tf : List He.Defn) : Prop := ∀ p ∈ tf, LamX.TabB base mg (He.cT K p).1 (He.cT K p).2
def lamQ (p : He.Defn) : Str := (p.1 ++ ".<locals>.") ++ "<lambda>"
def S0 (tf : List He.Defn) : Sto := tf.map fun p => .tab p (lamQ p)
theorem law_endT {P : Program} {w : World} {K : Frag} {mg mb : Str → Option Value} {k : Nat} {fa a : Addr} {tf : List He.Defn} {fd : FuncData} {x : Str} {den : List D → Sto → Out D} {s₁ : Shared} {vs : List Value} {ns : List Int}
    (KX : K.In s₁.heap) (hns : s₁.heap.Ns mainGlobals mg) (hb : s₁.heap.Ns builtinsNs mb) (hbb : ∀ x : Str, x ≠ "__name__" → mb x = bootBuiltins x) (hlim : s₁.heap.NoLimit) (hg : s₁.gens = #[]) (hT : TabsX tf K s₁.heap) (nd : (tf.map fun p => (He.cT K p).2).Nodup)
    (hbm : ∃ (bm : Addr) (ob : Obj), mg "__builtins__" = some (.ref bm) ∧ bm ≠ builtinsNs ∧ s₁.heap.get? bm = some ob ∧ ob.cls = .type "module" ∧ ob.dict = some builtinsNs ∧ ob.data = .plain)
    (ha : s₁.heap.get? a = some { cls := .type "list", data := .seq vs.toArray }) (hi : IntsAre vs ns) (hl : ns.length ≤ sizeLine) (hr : Room k callerA)
    (F : ∀ base : Heap, K.In base → base.Ns mainGlobals mg → TBs K mg base tf → FnG P w K mg base k fa fd [x] (spD ⟨K, mg⟩ den)) (hbind : ∀ (s : Shared) (u : Value), BindsTo s fd ⟨[u], []⟩ [(x, u)]) {S' : Sto} (hden : den [.lst (ns.map .int)] (S0 tf) = .ok (.bl true) S') :
    codeAny (model P w) callerA (.call (.ref fa) ⟨[.ref a], []⟩) (fun r s' => r = .ok (.ret (.bool true)) ∧ OldK s₁.heap s'.heap ∧ s'.os = s₁.os ∧ AllBare s'.gens) s₁ := by
  have rv := vals_ints hi
  have lenV := hi.length
  let th := tf.map fun p => (He.cT K p).2
  have memT : ∀ p ∈ tf, (He.cT K p).2 ∈ th := fun p hp => List.mem_map.mpr ⟨p, hp, rfl⟩
  have isT : ∀ b : Addr, b ∈ th → s₁.heap.get? b = some { cls := .none, data := .fields #[] } := fun b hb => by
    obtain ⟨p, hp, e⟩ := List.mem_map.mp hb
    rw [← e]
    exact hT.empty p hp
  have outT : ∀ b : Addr, b ∈ th → K.lookup b = none := fun b hb => by
    obtain ⟨p, hp, e⟩ := List.mem_map.mp hb
    rw [← e]
    exact hT.out p hp
  have aT : a ∉ th := fun z => by
    have q := isT a z
    rw [ha] at q
    cases q
  have core : ∀ H : Hp, (∀ b ∈ th, H b = some (.tbl #[])) → (∀ b, b ∉ th → H b = none ∨ ∃ o xs, H b = some (.frz o (.lst xs))) → FL K ⟨th, fun _ => False, none⟩ H a (ns.map V.int) → HOk P w H s₁.heap → (∀ b, H b ≠ none → b = a ∨ b ∈ th) → (H a ≠ none → K.lookup a = none) →
      codeAny (model P w) callerA (.call (.ref fa) ⟨[.ref a], []⟩) (fun r s' => r = .ok (.ret (.bool true)) ∧ OldK s₁.heap s'.heap ∧ s'.os = s₁.os ∧ AllBare s'.gens) s₁ := by
    intro H hH hO hS hok hA hK
    have under : ∀ {b : Addr} {o : Obj}, s₁.heap.get? b = some o → H b = none → (hidT s₁.heap H).get? b = some o := fun e n => hidT_get e n
    have other : ∀ {b : Addr} {o : Obj}, s₁.heap.get? b = some o → (∀ vs n, o.data ≠ .seq vs n) → o.data ≠ .fields #[] → H b = none := by
      intro b o e h1 h2
      by_cases q : H b = none
      · exact q
      · exfalso
        rcases hA b q with e' | e'
        · rw [e', ha] at e
          cases e
          exact h1 _ _ rfl
        · rw [isT b e'] at e
          cases e
          exact h2 rfl
    have dicts : ∀ {b : Addr} {o : Obj} {es : Array DictEntry} {ep : Nat}, s₁.heap.get? b = some o → o.data = .dict es ep → H b = none := fun {b o es ep} e d => other e (fun vs n z => by rw [d] at z; cases z) fun z => by rw [d] at z; cases z
    have ns_under : ∀ {b : Addr} {m : Str → Option Value}, s₁.heap.Ns b m → (hidT s₁.heap H).Ns b m := fun {b m} ⟨o, es, ep, e, d, r⟩ => ⟨o, es, ep, under e (dicts e d), d, r⟩
    have K_under : K.In (hidT s₁.heap H) := by
      intro b o e
      refine under (KX b o e) ?_
      by_cases q : H b = none
      · exact q
      · exfalso
        rcases hA b q with e' | e'
        · subst e'
          rw [hK q] at e
          cases e
        · rw [outT b e'] at e
          cases e
    have hM : Mod K mg (hidT s₁.heap H) := ⟨K_under, ns_under hns, ⟨mb, ns_under hb, hbb⟩, let ⟨mc, h1, h2⟩ := hlim; ⟨mc, ns_under h1, h2⟩⟩
    have TB : TBs K mg (hidT s₁.heap H) tf := by
      intro p hp
      have e1 := hT.empty p hp
      refine ⟨PySem.W.codeHd_of_K K_under (hT.hd p hp), ?_, fun z => ?_⟩
      · obtain ⟨bm, ob, b1, b2, b3, b4, b5, b6⟩ := hbm
        refine ⟨bm, ob, b1, b2, fun q => ?_, fun q => ?_, under b3 (other b3 (fun vs n z => by rw [b6] at z; cases z) fun z => by rw [b6] at z; cases z), b4, b5, b6⟩
        · obtain ⟨o, es, ep, e, hd, _⟩ := hns
          rw [q, e] at b3
          cases b3
          rw [hd] at b6
          cases b6
        · rw [q, e1] at b3
          cases b3
          cases b6
      · obtain ⟨o, es, ep, e, hd, _⟩ := hns
        rw [z, e1] at e
        cases e
        cases hd
    have e0 : Env0 P w K mg (hidT s₁.heap H) callerA [] s₁ H := ⟨rfl, hM, fun b o e => of_hidT e, Nat.le_of_eq (hidT_size _ _), trivial, fun b hb => absurd (show b ∈ ([] : List Addr) from hb) (by simp), hok, .of_eq hg⟩
    have sp : spD ⟨K, mg⟩ den [.ref a] H (fun v _ => v = .bl true) (fun _ _ _ => False) := by
      refine ⟨⟨th, fun _ => False, none⟩, [.lst (ns.map .int)], S0 tf, ⟨by simp [th, S0], nd, fun _ _ q => q, fun _ q => q.elim, fun n o e => ?_⟩, Reps.one ⟨a, _, rfl, hS, reps_ints ns, by rw [List.length_map]; exact hl⟩, ?_⟩
      · unfold S0 at e
        rw [List.getElem?_map] at e
        cases q : tf[n]? with
        | none => rw [q] at e; cases e
        | some p =>
          rw [q] at e
          cases e
          have hp := List.mem_of_getElem? q
          refine ⟨(He.cT K p).2, by show (tf.map fun p => (He.cT K p).2)[n]? = _; rw [List.getElem?_map, q]; rfl, rfl, #[], hH _ (memT p hp), True.intro, fun pos cv hc => ?_⟩
          have z : codeAmong pos [] = some cv := hc
          simp [codeAmong] at z
      · rw [hden]
        exact fun b th' H' _ _ r => r
    refine codeAny_mono ((F _ K_under (ns_under hns) TB).run callerA [] s₁ H ⟨[.ref a], []⟩ [.ref a] [.ref a] _ _ rfl hr e0 (hbind s₁ (.ref a)) (.cons rfl .nil) sp) fun r s' h => ?_
    cases r with
    | error e =>
      obtain ⟨_, _, _, _, _, _, _, _, _, _, _, _, q⟩ := h
      exact q.elim
    | ok fl =>
      cases fl with
      | next => exact False.elim h
      | brk => exact False.elim h
      | cont => exact False.elim h
      | ret u =>
        obtain ⟨v, H', os, bare, un, hok', r', q⟩ := h
        cases (show v = V.bl true from q)
        cases (show u = Value.bool true from r')
        have kept : ∀ b o, b ∉ th → s₁.heap.get? b = some o → s'.heap.get? b = some o := by
          intro b o nb e
          rcases hO b nb with z | ⟨ob, xs, z⟩
          · exact un.keep b o e z (fun y => absurd (show b ∈ ([] : List Addr) from y) (by simp)) (by simp)
          · have z2 := un.frzs b ob _ z
            obtain ⟨e1, _⟩ := hok b _ z
            obtain ⟨e2, _⟩ := hok' b _ z2
            rw [e] at e1
            cases e1
            exact e2
        have grown : ∀ b ∈ th, ∃ more : Array Value, s'.heap.get? b = some { cls := .none, data := .fields more } := fun b hb => by
          obtain ⟨more, z⟩ := un.tbls b #[] (hH b hb)
          exact ⟨_, hok' b _ z⟩
        refine ⟨rfl, ⟨fun b o e => ?_, fun b o e => ?_⟩, os, bare⟩
        · by_cases hb : b ∈ th
          · obtain ⟨p, hp, ep⟩ := List.mem_map.mp hb
            obtain ⟨more, hm⟩ := grown b hb
            rw [isT b hb] at e
            cases e
            have C : PySem.W.CodeHd s₁.heap (He.cT K p).1 (He.cT K p).2 := PySem.W.codeHd_of_K KX (hT.hd p hp)
            have C2 := (C.tab (hT.empty p hp)).isCodeTable
            have ep : (He.cT K p).2 = b := ep
            rw [ep] at C2
            exact .inr (.inl ⟨C2, rfl, #[], more, rfl, by rw [Array.empty_append]; exact hm⟩)
          · exact .inl (kept b o hb e)
        · by_cases hb : b ∈ th
          · obtain ⟨more, hm⟩ := grown b hb
            exact ⟨_, hm⟩
          · exact ⟨o, kept b o hb e⟩
  cases hk : K.lookup a with
  | some o =>
    have e := KX a o hk
    rw [ha] at e
    cases e
    refine core (fun b => if b ∈ th then some (.tbl #[]) else none) (fun b hb => if_pos hb) (fun b nb => .inl (if_neg nb)) (.inr ⟨_, vs.toArray, _, hk, rfl, rfl, rfl, by rw [List.size_toArray, lenV]; exact hl, by simpa using rv⟩) (fun b u z => ?_) (fun b z => ?_) fun z => absurd (if_neg aT) z
    · by_cases hb : b ∈ th
      · cases (if_pos hb).symm.trans z
        exact isT b hb
      · cases (if_neg hb).symm.trans z
    · by_cases hb : b ∈ th
      · exact .inr hb
      · exact absurd (if_neg hb) z
  | none =>
    have Ha : (fun b => if b = a then some (HO.frz { cls := .type "list", data := .seq vs.toArray } (.lst (ns.map V.int))) else if b ∈ th then some (.tbl #[]) else none) a = some (HO.frz { cls := .type "list", data := .seq vs.toArray } (.lst (ns.map V.int))) := if_pos rfl
    refine core (fun b => if b = a then some (.frz { cls := .type "list", data := .seq vs.toArray } (.lst (ns.map V.int))) else if b ∈ th then some (.tbl #[]) else none) (fun b hb => (if_neg (fun z => aT (by rw [← z]; exact hb))).trans (if_pos hb)) (fun b nb => ?_) (.inl ⟨.inr ⟨_, Ha⟩, fun z => z.elim (fun z => aT z) id⟩) (fun b u z => ?_) (fun b z => ?_) fun _ => hk
    · by_cases hb : b = a
      · exact .inr ⟨_, _, if_pos hb⟩
      · exact .inl ((if_neg hb).trans (if_neg nb))
    · by_cases hb : b = a
      · subst hb
        cases (if_pos rfl).symm.trans z
        exact ⟨ha, by rw [List.length_map]; exact hl, vs, _, rv, ha⟩
      · have z1 := (if_neg hb).symm.trans z
        by_cases hb2 : b ∈ th
        · cases (if_pos hb2).symm.trans z1
          exact isT b hb2
        · cases (if_neg hb2).symm.trans z1
    · by_cases hb : b = a
      · exact .inl hb
      · by_cases hb2 : b ∈ th
        · exact .inr hb2
        · exact absurd ((if_neg hb).trans (if_neg hb2)) z
/-- the end: the law answers True to every script -/
theorem law_walkT {l : PySem.W.OpenLaw} {n k : Nat} {q : Program} {loose : List Str} {XP : (Str → Option Value) → Heap → Prop} {YP : World → Heap → Prop} {d : DefRec} {x : Str}
    (hn : l.most = some n) (hn2 : n ≤ sizeLine) (hdf : d.params.defaults = []) (hr : Room k callerA)
    (F : ∀ (w : World) (mg : Str → Option Value) (fa : Addr) (h : Heap), YP w h → h.Ns mainGlobals mg → mg d.name = some (.ref fa) →
      ∃ (K : Frag) (tf : List He.Defn) (fd : FuncData) (den : List D → Sto → Out D), K.In h ∧ TabsX tf K h ∧ (tf.map fun p => (He.cT K p).2).Nodup ∧ (∀ (s : Shared) (u : Value), BindsTo s fd ⟨[u], []⟩ [(x, u)]) ∧
        (∀ ns : List Int, ns.length ≤ n → (∀ z ∈ ns, Builtin.Int.intBits z ≤ 1048576) → ∃ S', den [.lst (ns.map .int)] (S0 tf) = .ok (.bl true) S') ∧
        ∀ base : Heap, K.In base → base.Ns mainGlobals mg → TBs K mg base tf → FnG l.prog w K mg base k fa fd [x] (spD ⟨K, mg⟩ den)) :
    PySem.W.WalkO q loose XP YP l.row.toRowW d [] (fun f vs => PySem.call f vs) := by
  refine Att.attach_callB hn hdf fun w s₀ s₁ mg mb fa o pm cd doc a vs ns G Y ho hd hcd hmg hobj hints hlen hbits hg => ?_
  obtain ⟨K, tf, fd, den, KX, hT, nd, hb, hsp, hF⟩ := F w mg fa _ Y G.T.g hmg
  obtain ⟨S', hden⟩ := hsp ns hlen hbits
  exact law_endT KX G.T.g G.T.b G.T.builtins G.T.nolimit hg hT nd G.T.bmain hobj hints (Nat.le_trans hlen hn2) hr hF hb hden
end DL

/-! ## law_k85_lines_not_understood: the functions as data, and their walks; printed by gen.py -/
namespace DL
open PySem PySem.Spec PyProof.Rows L2
abbrev top (i : Nat) : Stmt := PySem.Challenge.pw_squaresapart_k85_lines_not_understood.main.body.getD i (.Pass ⟨0, 0, 0, 0⟩)
def clsBody : Stmt → List Stmt
  | .ClassDef _ _ _ b _ _ _ _ _ _ _ => b
  | _ => []
abbrev mth (i j : Nat) : Stmt := (clsBody (top i)).getD j (.Pass ⟨0, 0, 0, 0⟩)
def FUEL : Nat := 100000
def t_SIZES : List (Str × Option He.Dv) := [("put", some (.int 2)), ("take", some (.int 1)), ("set", some (.int 4))]
/-! InvalidDeed.__init__ -/
def dd_d_InvalidDeedU_initU : He.DefD := ⟨("InvalidDeed", some "__init__"), "__init__", "InvalidDeed.__init__", defArgs (mth 7 0), defBody (mth 7 0), defScope (mth 7 0), [], []⟩
theorem sc_d_InvalidDeedU_initU : FnScope ["self", "index"] ["self", "index"] (defScope (mth 7 0)) := ⟨rfl, rfl, rfl, by decide +kernel, rfl, by decide +kernel, by decide +kernel⟩
/-! Barred.__init__ -/
def dd_d_BarredU_initU : He.DefD := ⟨("Barred", some "__init__"), "__init__", "Barred.__init__", defArgs (mth 8 0), defBody (mth 8 0), defScope (mth 8 0), [], []⟩
theorem sc_d_BarredU_initU : FnScope ["self", "reason"] ["self", "reason"] (defScope (mth 8 0)) := ⟨rfl, rfl, rfl, by decide +kernel, rfl, by decide +kernel, by decide +kernel⟩
/-! InvalidLine.__init__ -/
def dd_d_InvalidLineU_initU : He.DefD := ⟨("InvalidLine", some "__init__"), "__init__", "InvalidLine.__init__", defArgs (mth 5 0), defBody (mth 5 0), defScope (mth 5 0), [], []⟩
theorem sc_d_InvalidLineU_initU : FnScope ["self", "given"] ["self", "given"] (defScope (mth 5 0)) := ⟨rfl, rfl, rfl, by decide +kernel, rfl, by decide +kernel, by decide +kernel⟩
/-! NotATray.__init__ -/
def dd_d_NotATrayU_initU : He.DefD := ⟨("NotATray", some "__init__"), "__init__", "NotATray.__init__", defArgs (mth 6 0), defBody (mth 6 0), defScope (mth 6 0), [], []⟩
theorem sc_d_NotATrayU_initU : FnScope ["self", "given"] ["self", "given"] (defScope (mth 6 0)) := ⟨rfl, rfl, rfl, by decide +kernel, rfl, by decide +kernel, by decide +kernel⟩
/-! Tray.__init__ -/
def dd_d_TrayU_initU : He.DefD := ⟨("Tray", some "__init__"), "__init__", "Tray.__init__", defArgs (mth 98 0), defBody (mth 98 0), defScope (mth 98 0), [], []⟩
def d_TrayU_initU : List D → Sto → Out D := dFn 1 1
    (dSeq (dSetF ["Tray"] "table" (dTup dNil) (dVar 0))
    (dSeq (dSetF ["Tray"] "deeds" (dTup dNil) (dVar 0))
    (dSetF ["Tray"] "past" (dLiv (dLstL dNil)) (dVar 0))))
theorem sc_d_TrayU_initU : FnScope ["self"] ["self"] (defScope (mth 98 0)) := ⟨rfl, rfl, rfl, by decide +kernel, rfl, by decide +kernel, by decide +kernel⟩
/-! is_string -/
def dd_d_is_string : He.DefD := ⟨("is_string", none), "is_string", "is_string", defArgs (top 15), defBody (top 15), defScope (top 15), [], []⟩
def d_is_string : List D → Sto → Out D := dFn 1 1
    (dRet (dCB (oIsi (.ty "str") (tyTab "str")) (dCons (dPv 0) (dCons (dC (.ty "str")) dNil))))
theorem sc_d_is_string : FnScope ["value"] ["value"] (defScope (top 15)) := ⟨rfl, rfl, rfl, by decide +kernel, rfl, by decide +kernel, by decide +kernel⟩
/-! has_form -/
def dd_d_has_form : He.DefD := ⟨("has_form", none), "has_form", "has_form", defArgs (top 92), defBody (top 92), defScope (top 92), [], []⟩
def d_has_form : List D → Sto → Out D := dFn 1 1
    (dSeq (dIfS (dOrT (dNotT (dTst (dCB (oIsi (.ty "tuple") (tyTab "tuple")) (dCons (dPv 0) (dCons (dC (.ty "tuple")) dNil))))) (dOrT (dTst (dOp (oEq false) (dCB oLen (dCons (dPv 0) dNil)) (dC (.int 0)))) (dNotT (dTst (dCall d_is_string (dCons (dOp oIx (dPv 0) (dC (.int 0))) dNil)))))) (dRet (dC (.bl false))) dNext)
    (dRet (dAnd (dOp (oInK "SIZES" (t_SIZES.map fun q => (q.1, q.2.map dvD)) false) (dOp oIx (dPv 0) (dC (.int 0))) (dC (.nm "SIZES"))) (dOp (oEq false) (dCB oLen (dCons (dPv 0) dNil)) (dOp (oIxK "SIZES" (t_SIZES.map fun q => (q.1, q.2.map dvD))) (dC (.nm "SIZES")) (dOp oIx (dPv 0) (dC (.int 0))))))))
theorem sc_d_has_form : FnScope ["value"] ["value"] (defScope (top 92)) := ⟨rfl, rfl, rfl, by decide +kernel, rfl, by decide +kernel, by decide +kernel⟩
/-! is_whole -/
def dd_d_is_whole : He.DefD := ⟨("is_whole", none), "is_whole", "is_whole", defArgs (top 12), defBody (top 12), defScope (top 12), [], []⟩
def d_is_whole : List D → Sto → Out D := dFn 1 1
    (dRet (dAnd (dCB (oIsi (.ty "int") (tyTab "int")) (dCons (dPv 0) (dCons (dC (.ty "int")) dNil))) (dNot (dCB (oIsi (.ty "bool") (tyTab "bool")) (dCons (dPv 0) (dCons (dC (.ty "bool")) dNil))))))
theorem sc_d_is_whole : FnScope ["value"] ["value"] (defScope (top 12)) := ⟨rfl, rfl, rfl, by decide +kernel, rfl, by decide +kernel, by decide +kernel⟩
/-! is_between -/
def dd_d_is_between : He.DefD := ⟨("is_between", none), "is_between", "is_between", defArgs (top 14), defBody (top 14), defScope (top 14), [], []⟩
def d_is_between : List D → Sto → Out D := dFn 3 3
    (dRet (dAnd (dCall d_is_whole (dCons (dVar 0) dNil)) (dChain oLe oLe (dVar 1) (dVar 0) (dVar 2))))
theorem sc_d_is_between : FnScope ["value", "least", "most"] ["value", "least", "most"] (defScope (top 14)) := ⟨rfl, rfl, rfl, by decide +kernel, rfl, by decide +kernel, by decide +kernel⟩
/-! is_square_number -/
def dd_d_is_square_number : He.DefD := ⟨("is_square_number", none), "is_square_number", "is_square_number", defArgs (top 31), defBody (top 31), defScope (top 31), [], []⟩
def d_is_square_number : List D → Sto → Out D := dFn 1 1
    (dRet (dCall d_is_between (dCons (dVar 0) (dCons (dC (.int 0)) (dCons (dC (.int 999)) dNil)))))
theorem sc_d_is_square_number : FnScope ["value"] ["value"] (defScope (top 31)) := ⟨rfl, rfl, rfl, by decide +kernel, rfl, by decide +kernel, by decide +kernel⟩
/-! is_squares -/
def dd_d_is_squares : He.DefD := ⟨("is_squares", none), "is_squares", "is_squares", defArgs (top 93), defBody (top 93), defScope (top 93), [], []⟩
def d_is_squares : List D → Sto → Out D := dFn 1 2
    (dRet (dAnd (dCB (oIsi (.ty "tuple") (tyTab "tuple")) (dCons (dPv 0) (dCons (dC (.ty "tuple")) dNil))) (dCB (oBls fun bs => bs.all id) (dCons (dFzL (dComp (dItr (dPv 0)) (.name 1) dYes (dCall d_is_square_number (dCons (dVar 1) dNil)) [1])) dNil))))
theorem sc_d_is_squares : FnScope ["value", "own"] ["value"] (defScope (top 93)) := ⟨rfl, rfl, rfl, by decide +kernel, rfl, by decide +kernel, by decide +kernel⟩
/-! is_number -/
def dd_d_is_number : He.DefD := ⟨("is_number", none), "is_number", "is_number", defArgs (top 13), defBody (top 13), defScope (top 13), [.int 0, .non], []⟩
def d_is_number0 : List D → Sto → Out D := dFn 3 3
    (dRet (dAnd (dCall d_is_whole (dCons (dVar 0) dNil)) (dAnd (dOp oLe (dVar 1) (dVar 0)) (dOr (dIsN false (dVar 2)) (dOp oLe (dVar 0) (dVar 2))))))
theorem sc_d_is_number : FnScope ["value", "low", "high"] ["value", "low", "high"] (defScope (top 13)) := ⟨rfl, rfl, rfl, by decide +kernel, rfl, by decide +kernel, by decide +kernel⟩
def d_is_number_1 : List D → Sto → Out D := fun xs S => d_is_number0 (xs ++ [.int 0, .non]) S
/-! check_deed -/
def dd_d_check_deed : He.DefD := ⟨("check_deed", none), "check_deed", "check_deed", defArgs (top 94), defBody (top 94), defScope (top 94), [], []⟩
def d_check_deed : List D → Sto → Out D := dFn 1 1
    (dSeq (dIfS (dNotT (dTst (dCall d_has_form (dCons (dVar 0) dNil)))) (dRaise "InvalidDeed" "index" (dC (.int 0))) dNext)
    (dSeq (dIfS (dAndT (dTst (dOp (oEq false) (dOp oIx (dPv 0) (dC (.int 0))) (dC (.str "put")))) (dNotT (dTst (dCall d_is_squares (dCons (dOp oIx (dPv 0) (dC (.int 1))) dNil))))) (dRaise "InvalidDeed" "index" (dC (.int 1))) dNext)
    (dIfS (dTst (dOp (oEq false) (dOp oIx (dPv 0) (dC (.int 0))) (dC (.str "set")))) (dSeq (dIfS (dNotT (dTst (dCall d_is_number_1 (dCons (dOp oIx (dPv 0) (dC (.int 1))) dNil)))) (dRaise "InvalidDeed" "index" (dC (.int 1))) dNext)
    (dSeq (dIfS (dOrT (dNotT (dTst (dCall d_is_number_1 (dCons (dOp oIx (dPv 0) (dC (.int 2))) dNil)))) (dTst (dOp oLe (dOp oIx (dPv 0) (dC (.int 2))) (dOp oIx (dPv 0) (dC (.int 1)))))) (dRaise "InvalidDeed" "index" (dC (.int 2))) dNext)
    (dIfS (dNotT (dTst (dCall d_is_square_number (dCons (dOp oIx (dPv 0) (dC (.int 3))) dNil)))) (dRaise "InvalidDeed" "index" (dC (.int 3))) dNext))) dNext)))
theorem sc_d_check_deed : FnScope ["value"] ["value"] (defScope (top 94)) := ⟨rfl, rfl, rfl, by decide +kernel, rfl, by decide +kernel, by decide +kernel⟩
/-! things_of -/
def dd_d_things_of : He.DefD := ⟨("things_of", none), "things_of", "things_of", defArgs (top 32), defBody (top 32), defScope (top 32), [], []⟩
def d_things_of : List D → Sto → Out D := dFn 1 1
    (dRet (dOp oAdd (dCB oLen (dCons (dPv 0) dNil)) (dC (.int 1))))
theorem sc_d_things_of : FnScope ["table"] ["table"] (defScope (top 32)) := ⟨rfl, rfl, rfl, by decide +kernel, rfl, by decide +kernel, by decide +kernel⟩
/-! square_of -/
def dd_d_square_of : He.DefD := ⟨("square_of", none), "square_of", "square_of", defArgs (top 37), defBody (top 37), defScope (top 37), [], []⟩
def d_square_of : List D → Sto → Out D := dFn 3 3
    (dSeq (dIfS (dTst (dOp (oEq false) (dPv 1) (dPv 2))) (dRet (dC (.int 0))) dNext)
    (dRet (dOp oIx (dOp oIx (dPv 0) (dOp oSub (dCB oMax2 (dCons (dPv 1) (dCons (dPv 2) dNil))) (dC (.int 1)))) (dCB oMin2 (dCons (dPv 1) (dCons (dPv 2) dNil))))))
theorem sc_d_square_of : FnScope ["table", "one", "other"] ["table", "one", "other"] (defScope (top 37)) := ⟨rfl, rfl, rfl, by decide +kernel, rfl, by decide +kernel, by decide +kernel⟩
/-! reason_by_itself -/
def dd_d_reason_by_itself : He.DefD := ⟨("reason_by_itself", none), "reason_by_itself", "reason_by_itself", defArgs (top 96), defBody (top 96), defScope (top 96), [], []⟩
def d_reason_by_itself : List D → Sto → Out D := dFn 2 3
    (dSeq (dSet 2 (dCall d_things_of (dCons (dVar 0) dNil)))
    (dSeq (dIfS (dTst (dOp (oEq false) (dOp oIx (dPv 1) (dC (.int 0))) (dC (.str "take")))) (dRet (dIf (dTst (dOp (oEq false) (dPv 2) (dC (.int 1)))) (dC (.str "one")) (dC .non))) dNext)
    (dSeq (dIfS (dTst (dOp (oEq false) (dOp oIx (dPv 1) (dC (.int 0))) (dC (.str "put")))) (dSeq (dIfS (dTst (dOp (oEq false) (dPv 2) (dC (.int 6)))) (dRet (dC (.str "full"))) dNext)
    (dRet (dIf (dTst (dOp (oEq true) (dCB oLen (dCons (dOp oIx (dPv 1) (dC (.int 1))) dNil)) (dPv 2))) (dC (.str "many")) (dC .non)))) dNext)
    (dSeq (dIfS (dTst (dOp oGe (dOp oIx (dPv 1) (dC (.int 2))) (dVar 2))) (dRet (dC (.str "none"))) dNext)
    (dRet (dIf (dTst (dOp (oEq false) (dCall d_square_of (dCons (dVar 0) (dCons (dOp oIx (dPv 1) (dC (.int 1))) (dCons (dOp oIx (dPv 1) (dC (.int 2))) dNil)))) (dOp oIx (dPv 1) (dC (.int 3))))) (dC (.str "same")) (dC .non)))))))
theorem sc_d_reason_by_itself : FnScope ["table", "deed", "many"] ["table", "deed"] (defScope (top 96)) := ⟨rfl, rfl, rfl, by decide +kernel, rfl, by decide +kernel, by decide +kernel⟩
/-! all_things -/
def dd_d_all_things : He.DefD := ⟨("all_things", none), "all_things", "all_things", defArgs (top 33), defBody (top 33), defScope (top 33), [], []⟩
def d_all_things : List D → Sto → Out D := dFn 1 2
    (dRet (dCB oTup (dCons (dFzL (dComp (dRng1 (dCall d_things_of (dCons (dVar 0) dNil))) (.name 1) dYes (dVar 1) [1])) dNil)))
theorem sc_d_all_things : FnScope ["table", "thing"] ["table"] (defScope (top 33)) := ⟨rfl, rfl, rfl, by decide +kernel, rfl, by decide +kernel, by decide +kernel⟩
/-! doubled -/
def dd_d_doubled : He.DefD := ⟨("doubled", none), "doubled", "doubled", defArgs (top 43), defBody (top 43), defScope (top 43), [], []⟩
def d_doubled : List D → Sto → Out D := dFn 1 6
    (dSeq (dSet 1 (dSl oSl (dCall d_all_things (dCons (dVar 0) dNil)) (dPart (dC (.int 1))) dNoPart))
    (dSeq (dSetO 2 (dLstL dNil))
    (dSeq (dFor (dItr (dVar 1)) (.name 3) (dSeq (dSet 4 (dCall d_square_of (dCons (dVar 0) (dCons (dC (.int 0)) (dCons (dVar 3) dNil)))))
    (dOm 2 lApp (dCons (dFzL (dComp (dItr (dPv 1)) (.name 5) dYes (dOp oSub (dOp oAdd (dPv 4) (dCall d_square_of (dCons (dVar 0) (dCons (dC (.int 0)) (dCons (dVar 5) dNil))))) (dCall d_square_of (dCons (dVar 0) (dCons (dVar 3) (dCons (dVar 5) dNil))))) [5])) dNil) kDrop)))
    (dRet (dVar 2)))))
theorem sc_d_doubled : FnScope ["table", "some", "found", "one", "own", "other"] ["table"] (defScope (top 43)) := ⟨rfl, rfl, rfl, by decide +kernel, rfl, by decide +kernel, by decide +kernel⟩
/-! lowest -/
def dd_d_lowest : He.DefD := ⟨("lowest", none), "lowest", "lowest", defArgs (top 22), defBody (top 22), defScope (top 22), [], []⟩
def d_lowest : List D → Sto → Out D := dFn 2 3
    (dSeq (dSet 2 (dIf (dTst (dOp oGt (dVar 1) (dC (.int 0)))) (dCB oGcd (dCons (dPv 0) (dCons (dPv 1) dNil))) (dNeg (dCB oGcd (dCons (dPv 0) (dCons (dPv 1) dNil))))))
    (dRet (dTup (dCons (dOp oDiv (dVar 0) (dVar 2)) (dCons (dOp oDiv (dVar 1) (dVar 2)) dNil)))))
theorem sc_d_lowest : FnScope ["over", "under", "common"] ["over", "under"] (defScope (top 22)) := ⟨rfl, rfl, rfl, by decide +kernel, rfl, by decide +kernel, by decide +kernel⟩
/-! products_of -/
def dd_d_products_of : He.DefD := ⟨("products_of", none), "products_of", "products_of", defArgs (top 44), defBody (top 44), defScope (top 44), [], []⟩
def d_products_of : List D → Sto → Out D := dFn 1 3
    (dRet (dFzL (dComp (dItr (dCall d_doubled (dCons (dVar 0) dNil))) (.name 1) dYes (dFzL (dComp (dItr (dPv 1)) (.name 2) dYes (dCall d_lowest (dCons (dVar 2) (dCons (dC (.int 2)) dNil))) [2])) [1])))
theorem sc_d_products_of : FnScope ["table", "row", "own"] ["table"] (defScope (top 44)) := ⟨rfl, rfl, rfl, by decide +kernel, rfl, by decide +kernel, by decide +kernel⟩
/-! first_own -/
def dd_d_first_own : He.DefD := ⟨("first_own", none), "first_own", "first_own", defArgs (top 45), defBody (top 45), defScope (top 45), [], []⟩
def d_first_own : List D → Sto → Out D := dFn 1 4
    (dSeq (dSet 1 (dFzL (dComp (dEnum (dPv 0)) (.tup [2, 3]) (dTst (dOp (oEq true) (dOp oIx (dPv 3) (dVar 2)) (dC (.tup [.int 0, .int 1])))) (dVar 2) [2, 3])))
    (dRet (dIf (dTst (dOp (oEq true) (dPv 1) (dLst dNil))) (dOp oIx (dPv 1) (dC (.int 0))) (dC .non))))
theorem sc_d_first_own : FnScope ["products", "found", "at", "row"] ["products"] (defScope (top 45)) := ⟨rfl, rfl, rfl, by decide +kernel, rfl, by decide +kernel, by decide +kernel⟩
/-! is_less -/
def dd_d_is_less : He.DefD := ⟨("is_less", none), "is_less", "is_less", defArgs (top 27), defBody (top 27), defScope (top 27), [], []⟩
def d_is_less : List D → Sto → Out D := dFn 2 2
    (dRet (dOp oLt (dOp oMul (dOp oIx (dPv 0) (dC (.int 0))) (dOp oIx (dPv 1) (dC (.int 1)))) (dOp oMul (dOp oIx (dPv 1) (dC (.int 0))) (dOp oIx (dPv 0) (dC (.int 1))))))
theorem sc_d_is_less : FnScope ["one", "other"] ["one", "other"] (defScope (top 27)) := ⟨rfl, rfl, rfl, by decide +kernel, rfl, by decide +kernel, by decide +kernel⟩
/-! divided -/
def dd_d_divided : He.DefD := ⟨("divided", none), "divided", "divided", defArgs (top 26), defBody (top 26), defScope (top 26), [], []⟩
def d_divided : List D → Sto → Out D := dFn 2 2
    (dRet (dCall d_lowest (dCons (dOp oMul (dOp oIx (dPv 0) (dC (.int 0))) (dOp oIx (dPv 1) (dC (.int 1)))) (dCons (dOp oMul (dOp oIx (dPv 0) (dC (.int 1))) (dOp oIx (dPv 1) (dC (.int 0)))) dNil))))
theorem sc_d_divided : FnScope ["one", "other"] ["one", "other"] (defScope (top 26)) := ⟨rfl, rfl, rfl, by decide +kernel, rfl, by decide +kernel, by decide +kernel⟩
/-! less_by -/
def dd_d_less_by : He.DefD := ⟨("less_by", none), "less_by", "less_by", defArgs (top 24), defBody (top 24), defScope (top 24), [], []⟩
def d_less_by : List D → Sto → Out D := dFn 2 2
    (dRet (dCall d_lowest (dCons (dOp oSub (dOp oMul (dOp oIx (dPv 0) (dC (.int 0))) (dOp oIx (dPv 1) (dC (.int 1)))) (dOp oMul (dOp oIx (dPv 1) (dC (.int 0))) (dOp oIx (dPv 0) (dC (.int 1))))) (dCons (dOp oMul (dOp oIx (dPv 0) (dC (.int 1))) (dOp oIx (dPv 1) (dC (.int 1)))) dNil))))
theorem sc_d_less_by : FnScope ["one", "other"] ["one", "other"] (defScope (top 24)) := ⟨rfl, rfl, rfl, by decide +kernel, rfl, by decide +kernel, by decide +kernel⟩
/-! times -/
def dd_d_times : He.DefD := ⟨("times", none), "times", "times", defArgs (top 25), defBody (top 25), defScope (top 25), [], []⟩
def d_times : List D → Sto → Out D := dFn 2 2
    (dRet (dCall d_lowest (dCons (dOp oMul (dOp oIx (dPv 0) (dC (.int 0))) (dOp oIx (dPv 1) (dC (.int 0)))) (dCons (dOp oMul (dOp oIx (dPv 0) (dC (.int 1))) (dOp oIx (dPv 1) (dC (.int 1)))) dNil))))
theorem sc_d_times : FnScope ["one", "other"] ["one", "other"] (defScope (top 25)) := ⟨rfl, rfl, rfl, by decide +kernel, rfl, by decide +kernel, by decide +kernel⟩
/-! less_part -/
def dd_d_less_part : He.DefD := ⟨("less_part", none), "less_part", "less_part", defArgs (top 47), defBody (top 47), defScope (top 47), [], []⟩
def d_less_part : List D → Sto → Out D := dFn 3 5
    (dRet (dFzL (dComp (dZip (dPv 0) (dPv 2)) (.tup [3, 4]) dYes (dCall d_less_by (dCons (dVar 3) (dCons (dCall d_times (dCons (dVar 1) (dCons (dVar 4) dNil))) dNil))) [3, 4])))
theorem sc_d_less_part : FnScope ["row", "part", "other", "own", "more"] ["row", "part", "other"] (defScope (top 47)) := ⟨rfl, rfl, rfl, by decide +kernel, rfl, by decide +kernel, by decide +kernel⟩
/-! brought -/
def dd_d_brought : He.DefD := ⟨("brought", none), "brought", "brought", defArgs (top 46), defBody (top 46), defScope (top 46), [], []⟩
def d_brought : List D → Sto → Out D := dFn 1 12
    (dSeq (dSet 1 (dCall d_products_of (dCons (dVar 0) dNil)))
    (dSeq (dSet 2 (dFzL (dComp (dRng1 (dCB oLen (dCons (dPv 0) dNil))) (.name 5) dYes (dFzL (dComp (dRng1 (dCB oLen (dCons (dPv 0) dNil))) (.name 8) dYes (dIf (dTst (dOp (oEq false) (dPv 5) (dPv 8))) (dC (.tup [.int 1, .int 1])) (dC (.tup [.int 0, .int 1]))) [8])) [5])))
    (dSeq (dParO 3 4 (dLstL dNil) (dLstL dNil))
    (dSeq (dSet 5 (dCall d_first_own (dCons (dVar 1) dNil)))
    (dSeq (whGo (dAndT (dTst (dIsN true (dVar 5))) (dOrT (dTst (dOp (oEq false) (dPv 3) (dLst dNil))) (dTst (dCall d_is_less (dCons (dC (.tup [.int 0, .int 1])) (dCons (dOp oIx (dPv 3) (dNeg (dC (.int 1)))) dNil)))))) (dSeq (dSet 6 (dOp oIx (dOp oIx (dPv 1) (dVar 5)) (dVar 5)))
    (dSeq (dSet 7 (dFzL (dComp (dItr (dPv 1)) (.name 9) dYes (dCall d_divided (dCons (dOp oIx (dPv 9) (dVar 5)) (dCons (dVar 6) dNil))) [9])))
    (dSeq (dOm 3 lApp (dCons (dVar 6) dNil) kDrop)
    (dSeq (dOm 4 lApp (dCons (dVar 7) dNil) kDrop)
    (dSeq (dIfS (dTst (dCall d_is_less (dCons (dC (.tup [.int 0, .int 1])) (dCons (dVar 6) dNil)))) (dSeq (dSet 2 (dFzL (dComp (dZip (dPv 2) (dPv 7)) (.tup [10, 11]) dYes (dCall d_less_part (dCons (dVar 10) (dCons (dVar 11) (dCons (dOp oIx (dPv 2) (dVar 5)) dNil)))) [10, 11])))
    (dSet 1 (dFzL (dComp (dZip (dPv 1) (dPv 7)) (.tup [9, 11]) dYes (dCall d_less_part (dCons (dVar 9) (dCons (dVar 11) (dCons (dOp oIx (dPv 1) (dVar 5)) dNil)))) [9, 11])))) dNext)
    (dSet 5 (dCall d_first_own (dCons (dVar 1) dNil)))))))) FUEL)
    (dRet (dTup (dCons (dVar 3) (dCons (dVar 4) (dCons (dVar 1) (dCons (dVar 2) dNil)))))))))))
theorem sc_d_brought : FnScope ["table", "products", "ways", "told", "shares", "at", "own", "parts", "spot", "row", "way", "part"] ["table"] (defScope (top 46)) := ⟨rfl, rfl, rfl, by decide +kernel, rfl, by decide +kernel, by decide +kernel⟩
/-! first_left -/
def dd_d_first_left : He.DefD := ⟨("first_left", none), "first_left", "first_left", defArgs (top 48), defBody (top 48), defScope (top 48), [], []⟩
def d_first_left : List D → Sto → Out D := dFn 1 5
    (dSeq (dFor (dEnum (dVar 0)) (.tup [1, 2]) (dFor (dEnum (dVar 2)) (.tup [3, 4]) (dIfS (dTst (dOp (oEq true) (dPv 4) (dC (.tup [.int 0, .int 1])))) (dRet (dTup (dCons (dVar 1) (dCons (dVar 3) dNil)))) dNext)))
    (dRet (dC .non)))
theorem sc_d_first_left : FnScope ["products", "one", "row", "other", "own"] ["products"] (defScope (top 48)) := ⟨rfl, rfl, rfl, by decide +kernel, rfl, by decide +kernel, by decide +kernel⟩
/-! is_placed_by -/
def dd_d_is_placed_by : He.DefD := ⟨("is_placed_by", none), "is_placed_by", "is_placed_by", defArgs (top 49), defBody (top 49), defScope (top 49), [], []⟩
def d_is_placed_by : List D → Sto → Out D := dFn 1 6
    (dSeq (dAsg (dCall d_brought (dCons (dVar 0) dNil)) (gTupD 4 (gsCons (kSet 1) (gsCons (kSet 2) (gsCons (kSet 3) (gsCons (kSet 4) gsNil))))))
    (dRet (dAnd (dCB (oBls fun bs => bs.all id) (dCons (dFzL (dComp (dItr (dPv 1)) (.name 5) dYes (dCall d_is_less (dCons (dC (.tup [.int 0, .int 1])) (dCons (dVar 5) dNil))) [5])) dNil)) (dIsN false (dCall d_first_left (dCons (dVar 3) dNil))))))
theorem sc_d_is_placed_by : FnScope ["table", "told", "shares", "left", "ways", "own"] ["table"] (defScope (top 49)) := ⟨rfl, rfl, rfl, by decide +kernel, rfl, by decide +kernel, by decide +kernel⟩
/-! with_square -/
def dd_d_with_square : He.DefD := ⟨("with_square", none), "with_square", "with_square", defArgs (top 40), defBody (top 40), defScope (top 40), [], []⟩
def d_with_square : List D → Sto → Out D := dFn 4 7
    (dSeq (dPar [4, 5] (dCons (dOp oSub (dCB oMax2 (dCons (dPv 1) (dCons (dPv 2) dNil))) (dC (.int 1))) (dCons (dCB oMin2 (dCons (dPv 1) (dCons (dPv 2) dNil))) dNil)))
    (dSeq (dSet 6 (dTup (dStar (dSl oSl (dOp oIx (dPv 0) (dVar 4)) dNoPart (dPart (dVar 5))) (dCons (dVar 3) (dStar (dSl oSl (dOp oIx (dPv 0) (dVar 4)) (dPart (dOp oAdd (dPv 5) (dC (.int 1)))) dNoPart) dNil)))))
    (dRet (dTup (dStar (dSl oSl (dPv 0) dNoPart (dPart (dVar 4))) (dCons (dVar 6) (dStar (dSl oSl (dPv 0) (dPart (dOp oAdd (dPv 4) (dC (.int 1)))) dNoPart) dNil)))))))
theorem sc_d_with_square : FnScope ["table", "one", "other", "square", "row", "at", "later"] ["table", "one", "other", "square"] (defScope (top 40)) := ⟨rfl, rfl, rfl, by decide +kernel, rfl, by decide +kernel, by decide +kernel⟩
/-! table_behind -/
def dd_d_table_behind : He.DefD := ⟨("table_behind", none), "table_behind", "table_behind", defArgs (top 95), defBody (top 95), defScope (top 95), [], []⟩
def d_table_behind : List D → Sto → Out D := dFn 2 2
    (dSeq (dIfS (dTst (dOp (oEq false) (dOp oIx (dPv 1) (dC (.int 0))) (dC (.str "put")))) (dRet (dTup (dStar (dPv 0) (dCons (dOp oIx (dPv 1) (dC (.int 1))) dNil)))) dNext)
    (dRet (dIf (dTst (dOp (oEq false) (dOp oIx (dPv 1) (dC (.int 0))) (dC (.str "take")))) (dSl oSl (dPv 0) dNoPart (dPart (dNeg (dC (.int 1))))) (dCall d_with_square (dCons (dVar 0) (dCons (dOp oIx (dPv 1) (dC (.int 1))) (dCons (dOp oIx (dPv 1) (dC (.int 2))) (dCons (dOp oIx (dPv 1) (dC (.int 3))) dNil))))))))
theorem sc_d_table_behind : FnScope ["table", "deed"] ["table", "deed"] (defScope (top 95)) := ⟨rfl, rfl, rfl, by decide +kernel, rfl, by decide +kernel, by decide +kernel⟩
/-! reason_against -/
def dd_d_reason_against : He.DefD := ⟨("reason_against", none), "reason_against", "reason_against", defArgs (top 97), defBody (top 97), defScope (top 97), [], []⟩
def d_reason_against : List D → Sto → Out D := dFn 2 3
    (dSeq (dSet 2 (dCall d_reason_by_itself (dCons (dVar 0) (dCons (dVar 1) dNil))))
    (dSeq (dIfS (dOrT (dTst (dIsN true (dVar 2))) (dTst (dOp (oEq false) (dOp oIx (dPv 1) (dC (.int 0))) (dC (.str "take"))))) (dRet (dVar 2)) dNext)
    (dRet (dIf (dTst (dCall d_is_placed_by (dCons (dCall d_table_behind (dCons (dVar 0) (dCons (dVar 1) dNil))) dNil))) (dC .non) (dC (.str "barred"))))))
theorem sc_d_reason_against : FnScope ["table", "deed", "reason"] ["table", "deed"] (defScope (top 97)) := ⟨rfl, rfl, rfl, by decide +kernel, rfl, by decide +kernel, by decide +kernel⟩
/-! Tray.do -/
def dd_d_Tray_do : He.DefD := ⟨("Tray", some "do"), "do", "Tray.do", defArgs (mth 98 1), defBody (mth 98 1), defScope (mth 98 1), [], []⟩
def d_Tray_do : List D → Sto → Out D := dFn 2 3
    (dSeq (dDrop (dCall d_check_deed (dCons (dVar 1) dNil)))
    (dSeq (dSet 2 (dCall d_reason_against (dCons (dFld ["Tray"] "table" (dVar 0)) (dCons (dVar 1) dNil))))
    (dSeq (dIfS (dTst (dIsN true (dVar 2))) (dRaise "Barred" "reason" (dVar 2)) dNext)
    (dSeq (dDrop (dLm lApp (dFld ["Tray"] "past" (dVar 0)) (dCons (dFld ["Tray"] "table" (dVar 0)) dNil)))
    (dSeq (dSetF ["Tray"] "table" (dCall d_table_behind (dCons (dFld ["Tray"] "table" (dVar 0)) (dCons (dVar 1) dNil))) (dVar 0))
    (dSetF ["Tray"] "deeds" (dOp oAdd (dFld ["Tray"] "deeds" (dVar 0)) (dTup (dCons (dVar 1) dNil))) (dVar 0)))))))
theorem sc_d_Tray_do : FnScope ["self", "deed", "reason"] ["self", "deed"] (defScope (mth 98 1)) := ⟨rfl, rfl, rfl, by decide +kernel, rfl, by decide +kernel, by decide +kernel⟩
/-! _law_draw -/
def dd_d__law_draw : He.DefD := ⟨("_law_draw", none), "_law_draw", "_law_draw", defArgs (top 116), defBody (top 116), defScope (top 116), [], []⟩
def d__law_draw : List D → Sto → Out D := dFn 2 4
    (dSeq (dIfS (dTst (dOp oGt (dOp oIx (dPv 0) (dC (.int 1))) (dC (.int 0)))) (dSeq (dAsg (dCB oDivmod (dCons (dOp oIx (dPv 0) (dC (.int 1))) (dCons (dPv 1) dNil))) (gTupD 2 (gsCons (gSubL (dVar 0) (dC (.int 1))) (gsCons (kSet 2) gsNil))))
    (dRet (dVar 2))) dNext)
    (dSeq (dAsg (dOp oAdd (dOp oIx (dPv 0) (dC (.int 2))) (dC (.int 1))) (gSubL (dVar 0) (dC (.int 2))))
    (dSeq (dSet 3 (dCB oInt (dCons (dOp oIx (dPv 0) (dC (.int 0))) dNil)))
    (dSeq (dAsg (dOp oMod (dCB oInt (dCons (dOp oAdd (dOp oAdd (dOp oMul (dVar 3) (dOp oAdd (dOp oMod (dVar 3) (dC (.int 20011))) (dC (.int 30011)))) (dOp oMul (dC (.int 70001)) (dOp oIx (dPv 0) (dC (.int 2))))) (dC (.int 9))) dNil)) (dC (.int 2147482937))) (gSubL (dVar 0) (dC (.int 0))))
    (dRet (dOp oMod (dCB oInt (dCons (dOp oDiv (dOp oIx (dPv 0) (dC (.int 0))) (dC (.int 128))) dNil)) (dVar 1)))))))
theorem sc_d__law_draw : FnScope ["pool", "many", "figure", "held"] ["pool", "many"] (defScope (top 116)) := ⟨rfl, rfl, rfl, by decide +kernel, rfl, by decide +kernel, by decide +kernel⟩
/-! _law_pick -/
def dd_d__law_pick : He.DefD := ⟨("_law_pick", none), "_law_pick", "_law_pick", defArgs (top 117), defBody (top 117), defScope (top 117), [], []⟩
def d__law_pick : List D → Sto → Out D := dFn 2 2
    (dRet (dOp oIx (dPv 1) (dCall d__law_draw (dCons (dVar 0) (dCons (dCB oLen (dCons (dPv 1) dNil)) dNil)))))
theorem sc_d__law_pick : FnScope ["pool", "some"] ["pool", "some"] (defScope (top 117)) := ⟨rfl, rfl, rfl, by decide +kernel, rfl, by decide +kernel, by decide +kernel⟩
/-! check_tray -/
def dd_d_check_tray : He.DefD := ⟨("check_tray", none), "check_tray", "check_tray", defArgs (top 99), defBody (top 99), defScope (top 99), [], []⟩
def d_check_tray : List D → Sto → Out D := dFn 1 1
    (dIfS (dNotT (dTst (dCB (oIsi (.nm "Tray") (ownTab "Tray" ["NoneType", "bool", "int", "str", "tuple", "list", "dict"])) (dCons (dPv 0) (dCons (dC (.nm "Tray")) dNil))))) (dRaise "NotATray" "given" (dVar 0)) dNext)
theorem sc_d_check_tray : FnScope ["value"] ["value"] (defScope (top 99)) := ⟨rfl, rfl, rfl, by decide +kernel, rfl, by decide +kernel, by decide +kernel⟩
/-! copy_of -/
def dd_d_copy_of : He.DefD := ⟨("copy_of", none), "copy_of", "copy_of", defArgs (top 100), defBody (top 100), defScope (top 100), [], []⟩
def d_copy_of : List D → Sto → Out D := dFn 1 3
    (dSeq (dSet 1 (dMake "Tray" d_TrayU_initU dNil))
    (dSeq (dFor (dItr (dFld ["Tray"] "deeds" (dVar 0))) (.name 2) (dDrop (dMeth "Tray" "do" d_Tray_do (dVar 1) (dCons (dVar 2) dNil))))
    (dRet (dVar 1))))
theorem sc_d_copy_of : FnScope ["tray", "found", "deed"] ["tray"] (defScope (top 100)) := ⟨rfl, rfl, rfl, by decide +kernel, rfl, by decide +kernel, by decide +kernel⟩
/-! Console.__init__ -/
def dd_d_ConsoleU_initU : He.DefD := ⟨("Console", some "__init__"), "__init__", "Console.__init__", defArgs (mth 113 0), defBody (mth 113 0), defScope (mth 113 0), [], []⟩
def d_ConsoleU_initU : List D → Sto → Out D := dFn 2 2
    (dSeq (dDrop (dCall d_check_tray (dCons (dVar 1) dNil)))
    (dSetF ["Console"] "tray" (dCall d_copy_of (dCons (dVar 1) dNil)) (dVar 0)))
theorem sc_d_ConsoleU_initU : FnScope ["self", "tray"] ["self", "tray"] (defScope (mth 113 0)) := ⟨rfl, rfl, rfl, by decide +kernel, rfl, by decide +kernel, by decide +kernel⟩
/-! words_of -/
def dd_d_words_of : He.DefD := ⟨("words_of", none), "words_of", "words_of", defArgs (top 17), defBody (top 17), defScope (top 17), [], []⟩
def d_words_of : List D → Sto → Out D := dFn 1 2
    (dSeq (dSet 1 (dM1 oSplit (dVar 0) (dC (.str " "))))
    (dRet (dIf (dTst (dOp oIn (dC (.str "")) (dPv 1))) (dC .non) (dVar 1))))
theorem sc_d_words_of : FnScope ["line", "words"] ["line"] (defScope (top 17)) := ⟨rfl, rfl, rfl, by decide +kernel, rfl, by decide +kernel, by decide +kernel⟩
/-! is_made_of -/
def dd_d_is_made_of : He.DefD := ⟨("is_made_of", none), "is_made_of", "is_made_of", defArgs (top 16), defBody (top 16), defScope (top 16), [], []⟩
def d_is_made_of : List D → Sto → Out D := dFn 2 3
    (dRet (dAnd (dOp (oEq true) (dPv 0) (dC (.str ""))) (dCB (oBls fun bs => bs.all id) (dCons (dFzL (dComp (dItr (dPv 0)) (.name 2) dYes (dOp oIn (dPv 2) (dPv 1)) [2])) dNil))))
theorem sc_d_is_made_of : FnScope ["text", "signs", "sign"] ["text", "signs"] (defScope (top 16)) := ⟨rfl, rfl, rfl, by decide +kernel, rfl, by decide +kernel, by decide +kernel⟩
/-! number_in -/
def dd_d_number_in : He.DefD := ⟨("number_in", none), "number_in", "number_in", defArgs (top 18), defBody (top 18), defScope (top 18), [], []⟩
def d_number_in : List D → Sto → Out D := dFn 1 3
    (dSeq (dIfS (dOrT (dNotT (dTst (dCall d_is_made_of (dCons (dVar 0) (dCons (dC (.str "0123456789")) dNil))))) (dAndT (dTst (dOp oGt (dCB oLen (dCons (dPv 0) dNil)) (dC (.int 1)))) (dTst (dOp (oEq false) (dOp oIx (dPv 0) (dC (.int 0))) (dC (.str "0")))))) (dRet (dC .non)) dNext)
    (dSeq (dSet 1 (dC (.int 0)))
    (dSeq (dFor (dItr (dVar 0)) (.name 2) (dSet 1 (dOp oAdd (dOp oMul (dC (.int 10)) (dVar 1)) (dM1 oIndex (dC (.str "0123456789")) (dVar 2)))))
    (dRet (dVar 1)))))
theorem sc_d_number_in : FnScope ["word", "found", "sign"] ["word"] (defScope (top 18)) := ⟨rfl, rfl, rfl, by decide +kernel, rfl, by decide +kernel, by decide +kernel⟩
/-! numbers_in -/
def dd_d_numbers_in : He.DefD := ⟨("numbers_in", none), "numbers_in", "numbers_in", defArgs (top 19), defBody (top 19), defScope (top 19), [], []⟩
def d_numbers_in : List D → Sto → Out D := dFn 1 3
    (dSeq (dSet 1 (dCB oTup (dCons (dFzL (dComp (dItr (dPv 0)) (.name 2) dYes (dCall d_number_in (dCons (dVar 2) dNil)) [2])) dNil)))
    (dRet (dIf (dTst (dOp oIn (dC .non) (dPv 1))) (dC .non) (dVar 1))))
theorem sc_d_numbers_in : FnScope ["words", "found", "word"] ["words"] (defScope (top 19)) := ⟨rfl, rfl, rfl, by decide +kernel, rfl, by decide +kernel, by decide +kernel⟩
/-! deed_in -/
def dd_d_deed_in : He.DefD := ⟨("deed_in", none), "deed_in", "deed_in", defArgs (top 108), defBody (top 108), defScope (top 108), [], []⟩
def d_deed_in : List D → Sto → Out D := dFn 2 2
    (dSeq (dIfS (dTst (dOp (oEq false) (dPv 0) (dLst (dCons (dC (.str "take")) dNil)))) (dRet (dTup (dCons (dC (.str "take")) dNil))) dNext)
    (dSeq (dIfS (dTst (dOp (oEq false) (dOp oIx (dPv 0) (dC (.int 0))) (dC (.str "set")))) (dRet (dTup (dCons (dC (.str "set")) (dStar (dPv 1) dNil)))) dNext)
    (dRet (dIf (dTst (dOp (oEq false) (dOp oIx (dPv 0) (dC (.int 0))) (dC (.str "put")))) (dTup (dCons (dC (.str "put")) (dCons (dVar 1) dNil))) (dC .non)))))
theorem sc_d_deed_in : FnScope ["words", "numbers"] ["words", "numbers"] (defScope (top 108)) := ⟨rfl, rfl, rfl, by decide +kernel, rfl, by decide +kernel, by decide +kernel⟩
/-! said_of_deed -/
def dd_d_said_of_deed : He.DefD := ⟨("said_of_deed", none), "said_of_deed", "said_of_deed", defArgs (top 109), defBody (top 109), defScope (top 109), [], []⟩
def d_said_of_deed : List D → Sto → Out D := dFn 2 3
    (dSeq (dTryM [([("InvalidNumber", false), ("InvalidLine", false), ("NotATray", false), ("InvalidDeed", true), ("Barred", false), ("NothingToUndo", false)], hSu (dRet (dC (.str "not understood")))), ([("InvalidNumber", false), ("InvalidLine", false), ("NotATray", false), ("InvalidDeed", false), ("Barred", true), ("NothingToUndo", false)], hFld 2 "reason" ["Barred"])] (dDrop (dMeth "Tray" "do" d_Tray_do (dVar 0) (dCons (dVar 1) dNil))))
    (dRet (dC (.str "done"))))
theorem sc_d_said_of_deed : FnScope ["tray", "deed", "barred"] ["tray", "deed"] (defScope (top 109)) := ⟨rfl, rfl, rfl, by decide +kernel, rfl, by decide +kernel, by decide +kernel⟩
/-! is_thing -/
def dd_d_is_thing : He.DefD := ⟨("is_thing", none), "is_thing", "is_thing", defArgs (top 34), defBody (top 34), defScope (top 34), [], []⟩
def d_is_thing : List D → Sto → Out D := dFn 2 2
    (dRet (dCall d_is_between (dCons (dVar 1) (dCons (dC (.int 0)) (dCons (dCB oLen (dCons (dPv 0) dNil)) dNil)))))
theorem sc_d_is_thing : FnScope ["table", "value"] ["table", "value"] (defScope (top 34)) := ⟨rfl, rfl, rfl, by decide +kernel, rfl, by decide +kernel, by decide +kernel⟩
/-! said_of_two -/
def dd_d_said_of_two : He.DefD := ⟨("said_of_two", none), "said_of_two", "said_of_two", defArgs (top 112), defBody (top 112), defScope (top 112), [], []⟩
def d_said_of_two : List D → Sto → Out D := dFn 4 7
    (dSeq (dIfS (dOrT (dNotT (dTst (dCall d_is_thing (dCons (dVar 0) (dCons (dVar 2) dNil))))) (dNotT (dTst (dCall d_is_thing (dCons (dVar 0) (dCons (dVar 3) dNil)))))) (dRet (dC (.str "none"))) dNext)
    (dSeq (dIfS (dTst (dOp (oEq false) (dPv 1) (dC (.str "square")))) (dRet (dCB oStr (dCons (dCall d_square_of (dCons (dVar 0) (dCons (dVar 2) (dCons (dVar 3) dNil)))) dNil))) dNext)
    (dSeq (dIfS (dOrT (dTst (dOp (oEq false) (dPv 2) (dPv 3))) (dTst (dOp oLt (dCall d_things_of (dCons (dVar 0) dNil)) (dC (.int 3))))) (dRet (dC (.str "none"))) dNext)
    (dSeq (dIfS (dTst (dOp (oEq false) (dPv 1) (dC (.str "room")))) (dSeq (dSet 4 dNever)
    (dRet (dIf (dTst (dIsN false (dVar 4))) (dC (.str "none")) dNever))) dNext)
    (dSeq (dSet 5 dNever)
    (dRet (dIf (dTst (dOp oGt (dCB oLen (dCons (dPv 5) dNil)) (dC (.int 0)))) dNever (dC (.str "none")))))))))
theorem sc_d_said_of_two : FnScope ["table", "word", "one", "other", "told", "squares", "own"] ["table", "word", "one", "other"] (defScope (top 112)) := ⟨rfl, rfl, rfl, by decide +kernel, rfl, by decide +kernel, by decide +kernel⟩
/-! Tray.undo -/
def dd_d_Tray_undo : He.DefD := ⟨("Tray", some "undo"), "undo", "Tray.undo", defArgs (mth 98 2), defBody (mth 98 2), defScope (mth 98 2), [], []⟩
def d_Tray_undo : List D → Sto → Out D := dFn 1 1
    (dSeq (dIfS (dTst (dOp (oEq false) (dFld ["Tray"] "past" (dVar 0)) (dLst dNil))) (dRaise0 "NothingToUndo") dNext)
    (dSeq (dSetF ["Tray"] "table" (dLm lPop (dFld ["Tray"] "past" (dVar 0)) dNil) (dVar 0))
    (dSetF ["Tray"] "deeds" (dSl oSl (dFld ["Tray"] "deeds" (dVar 0)) dNoPart (dPart (dNeg (dC (.int 1))))) (dVar 0))))
theorem sc_d_Tray_undo : FnScope ["self"] ["self"] (defScope (mth 98 2)) := ⟨rfl, rfl, rfl, by decide +kernel, rfl, by decide +kernel, by decide +kernel⟩
/-! said_of_undo -/
def dd_d_said_of_undo : He.DefD := ⟨("said_of_undo", none), "said_of_undo", "said_of_undo", defArgs (top 110), defBody (top 110), defScope (top 110), [], []⟩
def d_said_of_undo : List D → Sto → Out D := dFn 1 1
    (dSeq (dTryM [([("InvalidNumber", false), ("InvalidLine", false), ("NotATray", false), ("InvalidDeed", false), ("Barred", false), ("NothingToUndo", true)], hSu (dRet (dC (.str "nothing"))))] (dDrop (dMeth "Tray" "undo" d_Tray_undo (dVar 0) dNil)))
    (dRet (dC (.str "done"))))
theorem sc_d_said_of_undo : FnScope ["tray"] ["tray"] (defScope (top 110)) := ⟨rfl, rfl, rfl, by decide +kernel, rfl, by decide +kernel, by decide +kernel⟩
/-! said_of_word -/
def dd_d_said_of_word : He.DefD := ⟨("said_of_word", none), "said_of_word", "said_of_word", defArgs (top 111), defBody (top 111), defScope (top 111), [], []⟩
def d_said_of_word : List D → Sto → Out D := dFn 2 2
    (dSeq (dIfS (dTst (dOp (oEq false) (dPv 1) (dC (.str "undo")))) (dRet (dCall d_said_of_undo (dCons (dVar 0) dNil))) dNext)
    (dSeq (dIfS (dTst (dOp (oEq false) (dPv 1) (dC (.str "things")))) (dRet (dCB oStr (dCons (dCall d_things_of (dCons (dFld ["Tray"] "table" (dVar 0)) dNil)) dNil))) dNext)
    (dSeq (dIfS (dTst (dOp (oEq false) (dPv 1) (dC (.str "dimension")))) (dRet (dCB oStr (dCons dNever dNil))) dNext)
    (dRet (dIf (dTst (dOp (oEq false) (dPv 1) (dC (.str "ball")))) dNever (dC (.str "not understood")))))))
theorem sc_d_said_of_word : FnScope ["tray", "word"] ["tray", "word"] (defScope (top 111)) := ⟨rfl, rfl, rfl, by decide +kernel, rfl, by decide +kernel, by decide +kernel⟩
/-! Console.say -/
def dd_d_Console_say : He.DefD := ⟨("Console", some "say"), "say", "Console.say", defArgs (mth 113 1), defBody (mth 113 1), defScope (mth 113 1), [], []⟩
def d_Console_say : List D → Sto → Out D := dFn 2 5
    (dSeq (dIfS (dNotT (dTst (dCall d_is_string (dCons (dVar 1) dNil)))) (dRaise "InvalidLine" "given" (dVar 1)) dNext)
    (dSeq (dSet 2 (dCall d_words_of (dCons (dVar 1) dNil)))
    (dSeq (dSet 3 (dIf (dTst (dIsN true (dVar 2))) (dCall d_numbers_in (dCons (dSl oSl (dPv 2) (dPart (dC (.int 1))) dNoPart) dNil)) (dC .non)))
    (dSeq (dIfS (dTst (dIsN false (dVar 3))) (dRet (dC (.str "not understood"))) dNext)
    (dSeq (dSet 4 (dCall d_deed_in (dCons (dVar 2) (dCons (dVar 3) dNil))))
    (dSeq (dIfS (dTst (dIsN true (dVar 4))) (dRet (dCall d_said_of_deed (dCons (dFld ["Console"] "tray" (dVar 0)) (dCons (dVar 4) dNil)))) dNext)
    (dSeq (dIfS (dAndT (dTst (dOp oIn (dOp oIx (dPv 2) (dC (.int 0))) (dC (.tup [.str "square", .str "room", .str "whole"])))) (dTst (dOp (oEq false) (dCB oLen (dCons (dPv 3) dNil)) (dC (.int 2))))) (dRet (dCall d_said_of_two (dCons (dFld ["Tray"] "table" (dFld ["Console"] "tray" (dVar 0))) (dCons (dOp oIx (dPv 2) (dC (.int 0))) (dCons (dOp oIx (dPv 3) (dC (.int 0))) (dCons (dOp oIx (dPv 3) (dC (.int 1))) dNil)))))) dNext)
    (dRet (dIf (dTst (dOp (oEq false) (dCB oLen (dCons (dPv 2) dNil)) (dC (.int 1)))) (dCall d_said_of_word (dCons (dFld ["Console"] "tray" (dVar 0)) (dCons (dOp oIx (dPv 2) (dC (.int 0))) dNil))) (dC (.str "not understood")))))))))))
theorem sc_d_Console_say : FnScope ["self", "line", "words", "numbers", "deed"] ["self", "line"] (defScope (mth 113 1)) := ⟨rfl, rfl, rfl, by decide +kernel, rfl, by decide +kernel, by decide +kernel⟩
/-! _law_odd_line -/
def dd_d__law_odd_line : He.DefD := ⟨("_law_odd_line", none), "_law_odd_line", "_law_odd_line", defArgs (top 118), defBody (top 118), defScope (top 118), [], []⟩
def d__law_odd_line : List D → Sto → Out D := dFn 1 5
    (dSeq (dSet 1 (dLst (dCons (dC (.str "put 9 16")) (dCons (dC (.str "take")) (dCons (dC (.str "set 0 1 4")) (dCons (dC (.str "undo")) (dCons (dC (.str "things")) (dCons (dC (.str "dimension")) (dCons (dC (.str "square 0 1")) (dCons (dC (.str "ball")) dNil))))))))))
    (dSeq (dSet 1 (dOp oAdd (dPv 1) (dLst (dCons (dC (.str "room 0 1")) (dCons (dC (.str "whole 0 1")) dNil)))))
    (dSeq (dPar [2, 3] (dCons (dCall d__law_pick (dCons (dVar 0) (dCons (dVar 1) dNil))) (dCons (dCall d__law_draw (dCons (dVar 0) (dCons (dC (.int 6)) dNil))) dNil)))
    (dSeq (dIfS (dTst (dOp (oEq false) (dPv 3) (dC (.int 0)))) (dRet (dOp oAdd (dPv 2) (dCall d__law_pick (dCons (dVar 0) (dCons (dLst (dCons (dC (.str " ")) (dCons (dC (.str " x")) (dCons (dC (.str "  ")) (dCons (dC (.str "\t")) (dCons (dC (.str ".")) (dCons (dC (.str "-")) (dCons (dC (.str " 01")) dNil)))))))) dNil))))) dNext)
    (dSeq (dIfS (dTst (dOp (oEq false) (dPv 3) (dC (.int 1)))) (dRet (dOp oAdd (dCall d__law_pick (dCons (dVar 0) (dCons (dLst (dCons (dC (.str " ")) (dCons (dC (.str "x")) (dCons (dC (.str "-")) dNil)))) dNil))) (dPv 2))) dNext)
    (dSeq (dIfS (dTst (dOp (oEq false) (dPv 3) (dC (.int 2)))) (dRet (dReplIf " " " " "  " (dVar 2) (dVar 2) (dOp oAdd (dOp oAdd (dPv 2) (dC (.str "  "))) (dPv 2)))) dNext)
    (dSeq (dIfS (dTst (dOp (oEq false) (dPv 3) (dC (.int 3)))) (dRet (dOp oAdd (dM0 oUpper (dSl oSl (dPv 2) dNoPart (dPart (dC (.int 1))))) (dSl oSl (dPv 2) (dPart (dC (.int 1))) dNoPart))) dNext)
    (dSeq (dIfS (dAndT (dTst (dOp (oEq false) (dPv 3) (dC (.int 4)))) (dTst (dOp oIn (dC (.str " ")) (dPv 2)))) (dRet (dOp oAdd (dPv 2) (dCall d__law_pick (dCons (dVar 0) (dCons (dLst (dCons (dC (.str " -1")) (dCons (dC (.str " x")) (dCons (dC (.str " +1")) (dCons (dC (.str " 1.")) (dCons (dC (.str "\t")) dNil)))))) dNil))))) dNext)
    (dSeq (dSet 4 (dLst (dCons (dC (.str "")) (dCons (dC (.str " ")) (dCons (dC (.str "what")) (dCons (dC (.str "put 1000")) (dCons (dC (.str "put x")) (dCons (dC (.str "set")) (dCons (dC (.str "set 0 1")) (dCons (dC (.str "set 1 0 4")) (dCons (dC (.str "set 0 0 4")) dNil)))))))))))
    (dSeq (dSet 4 (dOp oAdd (dPv 4) (dLst (dCons (dC (.str "set 0 1 1000")) (dCons (dC (.str "set 0 1 4 4")) dNil)))))
    (dSeq (dSet 4 (dOp oAdd (dPv 4) (dLst (dCons (dC (.str "take 1")) (dCons (dC (.str "things 1")) (dCons (dC (.str "square")) (dCons (dC (.str "square 0")) (dCons (dC (.str "square 0 1 2")) (dCons (dC (.str "ball 1")) (dCons (dC (.str "room 0")) dNil))))))))))
    (dRet (dCall d__law_pick (dCons (dVar 0) (dCons (dOp oAdd (dPv 4) (dLst (dCons (dC (.str "whole x y")) dNil))) dNil)))))))))))))))
theorem sc_d__law_odd_line : FnScope ["pool", "good", "line", "way", "some"] ["pool"] (defScope (top 118)) := ⟨rfl, rfl, rfl, by decide +kernel, rfl, by decide +kernel, by decide +kernel⟩
/-! _law_refused -/
def dd_d__law_refused : He.DefD := ⟨("_law_refused", none), "_law_refused", "_law_refused", defArgs (top 119), defBody (top 119), defScope (top 119), [], []⟩
theorem sc_d__law_refused : FnScope ["call", "e"] ["call"] (defScope (top 119)) := ⟨rfl, rfl, rfl, by decide +kernel, rfl, by decide +kernel, by decide +kernel⟩
/-! _law_right -/
def dd_d__law_right : He.DefD := ⟨("_law_right", none), "_law_right", "_law_right", defArgs (top 120), defBody (top 120), defScope (top 120), [], []⟩
def d__law_right : List D → Sto → Out D := dFn 1 8
    (dSeq (dSet 1 (dMake "Tray" d_TrayU_initU dNil))
    (dSeq (dDrop (dMeth "Tray" "do" d_Tray_do (dVar 1) (dCons (dTup (dCons (dC (.str "put")) (dCons (dTup (dCons (dCall d__law_pick (dCons (dVar 0) (dCons (dLst (dCons (dC (.int 4)) (dCons (dC (.int 9)) dNil))) dNil))) dNil)) dNil))) dNil)))
    (dSeq (dSet 2 (dMake "Console" d_ConsoleU_initU (dCons (dVar 1) dNil)))
    (dSeq (dSet 3 (dLst (dCons (dMeth "Console" "say" d_Console_say (dVar 2) (dCons (dC (.str "things")) dNil)) (dCons (dMeth "Console" "say" d_Console_say (dVar 2) (dCons (dC (.str "square 0 1")) dNil)) dNil))))
    (dSeq (dFor (dRng1 (dC (.int 40))) (.name 4) (dSeq (dSet 5 (dCall d__law_odd_line (dCons (dVar 0) dNil)))
    (dSeq (dSet 6 (dLst (dCons (dMeth "Console" "say" d_Console_say (dVar 2) (dCons (dVar 5) dNil)) (dCons (dMeth "Console" "say" d_Console_say (dVar 2) (dCons (dC (.str "things")) dNil)) (dCons (dMeth "Console" "say" d_Console_say (dVar 2) (dCons (dC (.str "square 0 1")) dNil)) dNil)))))
    (dIfS (dTst (dOp (oEq true) (dCB oReprX (dCons (dPv 6) dNil)) (dCB oRepr (dCons (dOp oAdd (dLst (dCons (dC (.str "not understood")) dNil)) (dPv 3)) dNil)))) (dRet (dC (.bl false))) dNext))))
    (dSeq (dFor (dItr (dLst (dCons (dC .non) (dCons (dC (.int 5)) (dCons (dTup (dCons (dC (.str "ball")) dNil)) (dCons (dLst (dCons (dC (.str "ball")) dNil)) (dCons (dC (.bl true)) (dCons dDct dNil)))))))) (.name 7) (dSeq (dIfS (dTst (dOp (oEq true) (dRef 0 ("_law_right", none) (lamQ ("_law_right", none)) 2 [([("InvalidNumber", false), ("InvalidLine", true), ("NotATray", false), ("InvalidDeed", false), ("Barred", false), ("NothingToUndo", false)], hLine "line" 1 "given" ["InvalidLine"] [("InvalidLine", true)]), ([("InvalidNumber", false), ("InvalidLine", false), ("NotATray", true), ("InvalidDeed", false), ("Barred", false), ("NothingToUndo", false)], hLine "tray" 1 "given" ["NotATray"] [("NotATray", true)])] (dMeth "Console" "say" d_Console_say (dVar 2) (dCons (dVar 7) dNil))) (dLst (dCons (dC (.str "line")) (dCons (dCB oReprX (dCons (dPv 7) dNil)) (dCons (dC (.bl true)) dNil)))))) (dRet (dC (.bl false))) dNext)
    (dIfS (dTst (dOp (oEq true) (dRef 0 ("_law_right", none) (lamQ ("_law_right", none)) 2 [([("InvalidNumber", false), ("InvalidLine", true), ("NotATray", false), ("InvalidDeed", false), ("Barred", false), ("NothingToUndo", false)], hLine "line" 1 "given" ["InvalidLine"] [("InvalidLine", true)]), ([("InvalidNumber", false), ("InvalidLine", false), ("NotATray", true), ("InvalidDeed", false), ("Barred", false), ("NothingToUndo", false)], hLine "tray" 1 "given" ["NotATray"] [("NotATray", true)])] (dMake "Console" d_ConsoleU_initU (dCons (dVar 7) dNil))) (dLst (dCons (dC (.str "tray")) (dCons (dCB oReprX (dCons (dPv 7) dNil)) (dCons (dC (.bl true)) dNil)))))) (dRet (dC (.bl false))) dNext)))
    (dRet (dAnd (dOp (oEq false) (dOp oIx (dPv 3) (dC (.int 0))) (dC (.str "2"))) (dAnd (dOp (oEq false) (dCB oLen (dCons (dFld ["Tray"] "deeds" (dVar 1)) dNil)) (dC (.int 1))) (dOp (oEq false) (dMeth "Console" "say" d_Console_say (dVar 2) (dCons (dC (.str "undo")) dNil)) (dC (.str "done"))))))))))))
theorem sc_d__law_right : FnScope ["pool", "tray", "console", "told", "turn", "line", "answers", "thing"] ["pool"] (defScope (top 120)) := ⟨rfl, rfl, rfl, by decide +kernel, rfl, by decide +kernel, by decide +kernel⟩
/-! _law_pool -/
def dd_d__law_pool : He.DefD := ⟨("_law_pool", none), "_law_pool", "_law_pool", defArgs (top 115), defBody (top 115), defScope (top 115), [], []⟩
def d__law_pool : List D → Sto → Out D := dFn 2 5
    (dSeq (dPar [2, 3] (dCons (dIf (dTst (dOp oLt (dVar 1) (dCB oLen (dCons (dPv 0) dNil)))) (dCB oInt (dCons (dOp oIx (dPv 0) (dVar 1)) dNil)) (dOp oAdd (dOp oMul (dC (.int 70001)) (dVar 1)) (dC (.int 89)))) (dCons (dOp oAdd (dC (.int 60089)) (dOp oMul (dC (.int 5059)) (dVar 1))) dNil)))
    (dSeq (dFor (dItr (dSl oSl (dPv 0) dNoPart (dPart (dC (.int 6))))) (.name 4) (dSet 3 (dOp oMod (dCB oInt (dCons (dOp oAdd (dOp oAdd (dOp oMul (dVar 3) (dC (.int 48271))) (dOp oMod (dCB oInt (dCons (dPv 4) dNil)) (dC (.int 2147482937)))) (dC (.int 43))) dNil)) (dC (.int 2147482937)))))
    (dRet (dLiv (dLstL (dCons (dOp oMod (dCB oInt (dCons (dOp oAdd (dPv 3) (dOp oMul (dVar 2) (dC (.int 1033)))) dNil)) (dC (.int 2147482937))) (dCons (dIf (dOrT (dTst (dOp oLt (dVar 2) (dC (.int 0)))) (dTst (dOp oGe (dVar 2) (dOp oPow (dC (.int 10)) (dC (.int 18)))))) (dCB oAbs (dCons (dPv 2) dNil)) (dC (.int 0))) (dCons (dC (.int 0)) dNil))))))))
theorem sc_d__law_pool : FnScope ["script", "turn", "own", "stirred", "cell"] ["script", "turn"] (defScope (top 115)) := ⟨rfl, rfl, rfl, by decide +kernel, rfl, by decide +kernel, by decide +kernel⟩
/-! law -/
def dd_d_law : He.DefD := ⟨("law", none), "law", "law", defArgs (top 121), defBody (top 121), defScope (top 121), [], []⟩
def d_law : List D → Sto → Out D := dFn 1 2
    (dRet (dCB (oBls fun bs => bs.all id) (dCons (dFzL (dComp (dRng1 (dCB oMax2 (dCons (dC (.int 2)) (dCons (dCB oMin2 (dCons (dCB oLen (dCons (dPv 0) dNil)) (dCons (dC (.int 3)) dNil))) dNil)))) (.name 1) dYes (dCall d__law_right (dCons (dCall d__law_pool (dCons (dVar 0) (dCons (dVar 1) dNil))) dNil)) [1])) dNil)))
theorem sc_d_law : FnScope ["script", "turn"] ["script"] (defScope (top 121)) := ⟨rfl, rfl, rfl, by decide +kernel, rfl, by decide +kernel, by decide +kernel⟩
/-! the facts -/
def fa : List He.Fa := [.meth "InvalidDeed" "__init__", .glo "InvalidDeed", .noat "InvalidDeed" "index", .meth "Barred" "__init__", .glo "Barred", .noat "Barred" "reason", .meth "InvalidLine" "__init__", .glo "InvalidLine", .noat "InvalidLine" "given", .meth "NotATray" "__init__", .glo "NotATray", .noat "NotATray" "given", .free "range", .free "len", .free "min", .free "max", .glo "Tray", .cls "Tray", .noat "Tray" "table", .noat "Tray" "deeds", .noat "Tray" "past", .meth "Tray" "__init__", .mkr "Tray", .free "tuple", .free "isinstance", .free "str", .glo "is_string", .glo "SIZES", .glo "has_form", .free "int", .free "bool", .glo "is_whole", .glo "is_between", .int "MOST_SQUARE" 999, .glo "is_square_number", .free "all", .glo "is_squares", .glo "is_number", .glo "check_deed", .glo "things_of", .str "ONE_trays" "one", .int "MOST_THINGS" 6, .str "FULL" "full", .str "MANY" "many", .str "NONE_trays" "none", .glo "square_of", .str "SAME" "same", .glo "reason_by_itself", .glo "all_things", .glo "doubled", .glo "lowest", .glo "products_of", .glo "ONE_values", .glo "ZERO", .free "enumerate", .glo "first_own", .glo "is_less", .glo "divided", .free "zip", .glo "less_by", .glo "times", .glo "less_part", .glo "brought", .glo "first_left", .glo "is_placed_by", .glo "with_square", .glo "table_behind", .str "BARRED" "barred", .glo "reason_against", .meth "Tray" "do", .free "divmod", .glo "_law_draw", .glo "_law_pick", .glo "check_tray", .glo "Console", .cls "Console", .noat "Console" "tray", .glo "copy_of", .meth "Console" "__init__", .mkr "Console", .glo "words_of", .glo "is_made_of", .str "FIGURES" "0123456789", .glo "number_in", .glo "numbers_in", .str "LOST" "not understood", .glo "deed_in", .str "DONE" "done", .glo "said_of_deed", .glo "OF_TWO", .glo "is_thing", .str "NONE_consoles" "none", .int "FEWEST_STRETCHED" 3, .glo "said_of_two", .glo "NothingToUndo", .str "NOTHING" "nothing", .meth "Tray" "undo", .glo "said_of_undo", .glo "said_of_word", .meth "Console" "say", .glo "_law_odd_line", .free "repr", .glo "_law_refused", .glo "SquareError", .glo "_law_right", .free "abs", .glo "_law_pool", .glo "law", .exm "InvalidNumber" "InvalidDeed" false, .glo "InvalidNumber", .exm "InvalidLine" "InvalidDeed" false, .exm "NotATray" "InvalidDeed" false, .exm "InvalidDeed" "InvalidDeed" true, .exm "Barred" "InvalidDeed" false, .exm "NothingToUndo" "InvalidDeed" false, .exm "InvalidNumber" "Barred" false, .exm "InvalidLine" "Barred" false, .exm "NotATray" "Barred" false, .exm "InvalidDeed" "Barred" false, .exm "Barred" "Barred" true, .exm "NothingToUndo" "Barred" false, .exm "InvalidNumber" "NothingToUndo" false, .exm "InvalidLine" "NothingToUndo" false, .exm "NotATray" "NothingToUndo" false, .exm "InvalidDeed" "NothingToUndo" false, .exm "Barred" "NothingToUndo" false, .exm "NothingToUndo" "NothingToUndo" true, .exm "InvalidNumber" "InvalidLine" false, .exm "InvalidLine" "InvalidLine" true, .exm "NotATray" "InvalidLine" false, .exm "InvalidDeed" "InvalidLine" false, .exm "Barred" "InvalidLine" false, .exm "NothingToUndo" "InvalidLine" false, .exm "InvalidNumber" "NotATray" false, .exm "InvalidLine" "NotATray" false, .exm "NotATray" "NotATray" true, .exm "InvalidDeed" "NotATray" false, .exm "Barred" "NotATray" false, .exm "NothingToUndo" "NotATray" false]
def exs : Exs := [oexN "InvalidDeed", oexN "Barred", oexN "InvalidLine", oexN "NotATray", kdN "SIZES" t_SIZES, bfN "gcd" "math.gcd", fun K => He.tupB K "ONE_values" (List.map He.Dv.int [1, 1]), fun K => He.tupB K "ZERO" (List.map He.Dv.int [0, 1]), tycN "Tray", isiN "Tray" ["NoneType", "bool", "int", "str", "tuple", "list", "dict"], xfN "Barred", fun K => He.tupB K "OF_TWO" (List.map He.Dv.str ["square", "room", "whole"]), exnN "NothingToUndo", xfN "InvalidLine", tycN "InvalidLine", kieN "InvalidLine" "SquareError" true, xfN "NotATray", tycN "NotATray", kieN "NotATray" "SquareError" true, fun K => decide (([("_law_right", none)] : List He.Defn).map fun p => (He.cT K p).2).Nodup]
def tabs : List He.Tab := [(fun K => He.ga K "SIZES", ["put", "take", "set"])]
def fns : List He.DefD := [dd_d_InvalidDeedU_initU, dd_d_BarredU_initU, dd_d_InvalidLineU_initU, dd_d_NotATrayU_initU, dd_d_TrayU_initU, dd_d_is_string, dd_d_has_form, dd_d_is_whole, dd_d_is_between, dd_d_is_square_number, dd_d_is_squares, dd_d_is_number, dd_d_check_deed, dd_d_things_of, dd_d_square_of, dd_d_reason_by_itself, dd_d_all_things, dd_d_doubled, dd_d_lowest, dd_d_products_of, dd_d_first_own, dd_d_is_less, dd_d_divided, dd_d_less_by, dd_d_times, dd_d_less_part, dd_d_brought, dd_d_first_left, dd_d_is_placed_by, dd_d_with_square, dd_d_table_behind, dd_d_reason_against, dd_d_Tray_do, dd_d__law_draw, dd_d__law_pick, dd_d_check_tray, dd_d_copy_of, dd_d_ConsoleU_initU, dd_d_words_of, dd_d_is_made_of, dd_d_number_in, dd_d_numbers_in, dd_d_deed_in, dd_d_said_of_deed, dd_d_is_thing, dd_d_said_of_two, dd_d_Tray_undo, dd_d_said_of_undo, dd_d_said_of_word, dd_d_Console_say, dd_d__law_odd_line, dd_d__law_refused, dd_d__law_right, dd_d__law_pool, dd_d_law]
section
variable {P : Program} {w : World} {K : Frag} {mg : Str → Option Value} {base : Heap}
theorem exf_InvalidDeed (T : GD fa fns tabs exs w K mg) {X : Cx} (hp : X.prog = P := by rfl) (hw : X.w = w := by rfl) (hK : X.K = K := by rfl) (hm : X.mg = mg := by rfl) : ExF X 1 "InvalidDeed" "index" := by
  obtain ⟨fd, F⟩ := T.fn_ 0 (d := dd_d_InvalidDeedU_initU)
  have M := T.meth 0
  subst hp hw hK hm
  exact ⟨⟨_, _, fd, _, T.glo 1, oexN_ok (T.x 0), M.at_, beq_iff_eq.mp M.fn, fok_xi F sc_d_InvalidDeedU_initU (oexN_ok (T.x 0)) (T.noat 2) (by decide) (by decide) (by decide) (by decide) (.inl rfl) (.inl rfl) (fun X h => by rw [show X.env = X.env from rfl]; first | rfl | (simp only [swapsWith, h]; rfl)), F.bindsN fun _ _ _ _ _ _ us hl => match us, hl with | [_, _], _ => rfl⟩⟩
theorem exf_Barred (T : GD fa fns tabs exs w K mg) {X : Cx} (hp : X.prog = P := by rfl) (hw : X.w = w := by rfl) (hK : X.K = K := by rfl) (hm : X.mg = mg := by rfl) : ExF X 1 "Barred" "reason" := by
  obtain ⟨fd, F⟩ := T.fn_ 1 (d := dd_d_BarredU_initU)
  have M := T.meth 3
  subst hp hw hK hm
  exact ⟨⟨_, _, fd, _, T.glo 4, oexN_ok (T.x 1), M.at_, beq_iff_eq.mp M.fn, fok_xi F sc_d_BarredU_initU (oexN_ok (T.x 1)) (T.noat 5) (by decide) (by decide) (by decide) (by decide) (.inl rfl) (.inl rfl) (fun X h => by rw [show X.env = X.env from rfl]; first | rfl | (simp only [swapsWith, h]; rfl)), F.bindsN fun _ _ _ _ _ _ us hl => match us, hl with | [_, _], _ => rfl⟩⟩
theorem exf_InvalidLine (T : GD fa fns tabs exs w K mg) {X : Cx} (hp : X.prog = P := by rfl) (hw : X.w = w := by rfl) (hK : X.K = K := by rfl) (hm : X.mg = mg := by rfl) : ExF X 1 "InvalidLine" "given" := by
  obtain ⟨fd, F⟩ := T.fn_ 2 (d := dd_d_InvalidLineU_initU)
  have M := T.meth 6
  subst hp hw hK hm
  exact ⟨⟨_, _, fd, _, T.glo 7, oexN_ok (T.x 2), M.at_, beq_iff_eq.mp M.fn, fok_xi F sc_d_InvalidLineU_initU (oexN_ok (T.x 2)) (T.noat 8) (by decide) (by decide) (by decide) (by decide) (.inl rfl) (.inl rfl) (fun X h => by rw [show X.env = X.env from rfl]; first | rfl | (simp only [swapsWith, h]; rfl)), F.bindsN fun _ _ _ _ _ _ us hl => match us, hl with | [_, _], _ => rfl⟩⟩
theorem exf_NotATray (T : GD fa fns tabs exs w K mg) {X : Cx} (hp : X.prog = P := by rfl) (hw : X.w = w := by rfl) (hK : X.K = K := by rfl) (hm : X.mg = mg := by rfl) : ExF X 1 "NotATray" "given" := by
  obtain ⟨fd, F⟩ := T.fn_ 3 (d := dd_d_NotATrayU_initU)
  have M := T.meth 9
  subst hp hw hK hm
  exact ⟨⟨_, _, fd, _, T.glo 10, oexN_ok (T.x 3), M.at_, beq_iff_eq.mp M.fn, fok_xi F sc_d_NotATrayU_initU (oexN_ok (T.x 3)) (T.noat 11) (by decide) (by decide) (by decide) (by decide) (.inl rfl) (.inl rfl) (fun X h => by rw [show X.env = X.env from rfl]; first | rfl | (simp only [swapsWith, h]; rfl)), F.bindsN fun _ _ _ _ _ _ us hl => match us, hl with | [_, _], _ => rfl⟩⟩
theorem catch_InvalidDeed (T : GD fa fns tabs exs w K mg) {X : Cx} (hK : X.K = K := by rfl) (hm : X.mg = mg := by rfl) : ∀ (n : Str) (b : Bool) (C : Addr), ([("InvalidNumber", false), ("InvalidLine", false), ("NotATray", false), ("InvalidDeed", true), ("Barred", false), ("NothingToUndo", false)] : XTab).lookup n = some b → X.mg n = some (.ref C) → PySem.W.exmOne X.K (.ref C) (.ref (He.ga K "InvalidDeed")) = some b := by
  subst hK hm
  intro n b C h e
  have h := mem_lookup h
  rcases List.mem_cons.mp h with h | h
  · cases h; rw [T.glo 109] at e; cases e; exact He.exm_ok (T.d.fact 108)
  rcases List.mem_cons.mp h with h | h
  · cases h; rw [T.glo 7] at e; cases e; exact He.exm_ok (T.d.fact 110)
  rcases List.mem_cons.mp h with h | h
  · cases h; rw [T.glo 10] at e; cases e; exact He.exm_ok (T.d.fact 111)
  rcases List.mem_cons.mp h with h | h
  · cases h; rw [T.glo 1] at e; cases e; exact He.exm_ok (T.d.fact 112)
  rcases List.mem_cons.mp h with h | h
  · cases h; rw [T.glo 4] at e; cases e; exact He.exm_ok (T.d.fact 113)
  cases List.mem_singleton.mp h; rw [T.glo 94] at e; cases e; exact He.exm_ok (T.d.fact 114)
theorem catch_Barred (T : GD fa fns tabs exs w K mg) {X : Cx} (hK : X.K = K := by rfl) (hm : X.mg = mg := by rfl) : ∀ (n : Str) (b : Bool) (C : Addr), ([("InvalidNumber", false), ("InvalidLine", false), ("NotATray", false), ("InvalidDeed", false), ("Barred", true), ("NothingToUndo", false)] : XTab).lookup n = some b → X.mg n = some (.ref C) → PySem.W.exmOne X.K (.ref C) (.ref (He.ga K "Barred")) = some b := by
  subst hK hm
  intro n b C h e
  have h := mem_lookup h
  rcases List.mem_cons.mp h with h | h
  · cases h; rw [T.glo 109] at e; cases e; exact He.exm_ok (T.d.fact 115)
  rcases List.mem_cons.mp h with h | h
  · cases h; rw [T.glo 7] at e; cases e; exact He.exm_ok (T.d.fact 116)
  rcases List.mem_cons.mp h with h | h
  · cases h; rw [T.glo 10] at e; cases e; exact He.exm_ok (T.d.fact 117)
  rcases List.mem_cons.mp h with h | h
  · cases h; rw [T.glo 1] at e; cases e; exact He.exm_ok (T.d.fact 118)
  rcases List.mem_cons.mp h with h | h
  · cases h; rw [T.glo 4] at e; cases e; exact He.exm_ok (T.d.fact 119)
  cases List.mem_singleton.mp h; rw [T.glo 94] at e; cases e; exact He.exm_ok (T.d.fact 120)
theorem catch_NothingToUndo (T : GD fa fns tabs exs w K mg) {X : Cx} (hK : X.K = K := by rfl) (hm : X.mg = mg := by rfl) : ∀ (n : Str) (b : Bool) (C : Addr), ([("InvalidNumber", false), ("InvalidLine", false), ("NotATray", false), ("InvalidDeed", false), ("Barred", false), ("NothingToUndo", true)] : XTab).lookup n = some b → X.mg n = some (.ref C) → PySem.W.exmOne X.K (.ref C) (.ref (He.ga K "NothingToUndo")) = some b := by
  subst hK hm
  intro n b C h e
  have h := mem_lookup h
  rcases List.mem_cons.mp h with h | h
  · cases h; rw [T.glo 109] at e; cases e; exact He.exm_ok (T.d.fact 121)
  rcases List.mem_cons.mp h with h | h
  · cases h; rw [T.glo 7] at e; cases e; exact He.exm_ok (T.d.fact 122)
  rcases List.mem_cons.mp h with h | h
  · cases h; rw [T.glo 10] at e; cases e; exact He.exm_ok (T.d.fact 123)
  rcases List.mem_cons.mp h with h | h
  · cases h; rw [T.glo 1] at e; cases e; exact He.exm_ok (T.d.fact 124)
  rcases List.mem_cons.mp h with h | h
  · cases h; rw [T.glo 4] at e; cases e; exact He.exm_ok (T.d.fact 125)
  cases List.mem_singleton.mp h; rw [T.glo 94] at e; cases e; exact He.exm_ok (T.d.fact 126)
theorem catch_InvalidLine (T : GD fa fns tabs exs w K mg) {X : Cx} (hK : X.K = K := by rfl) (hm : X.mg = mg := by rfl) : ∀ (n : Str) (b : Bool) (C : Addr), ([("InvalidNumber", false), ("InvalidLine", true), ("NotATray", false), ("InvalidDeed", false), ("Barred", false), ("NothingToUndo", false)] : XTab).lookup n = some b → X.mg n = some (.ref C) → PySem.W.exmOne X.K (.ref C) (.ref (He.ga K "InvalidLine")) = some b := by
  subst hK hm
  intro n b C h e
  have h := mem_lookup h
  rcases List.mem_cons.mp h with h | h
  · cases h; rw [T.glo 109] at e; cases e; exact He.exm_ok (T.d.fact 127)
  rcases List.mem_cons.mp h with h | h
  · cases h; rw [T.glo 7] at e; cases e; exact He.exm_ok (T.d.fact 128)
  rcases List.mem_cons.mp h with h | h
  · cases h; rw [T.glo 10] at e; cases e; exact He.exm_ok (T.d.fact 129)
  rcases List.mem_cons.mp h with h | h
  · cases h; rw [T.glo 1] at e; cases e; exact He.exm_ok (T.d.fact 130)
  rcases List.mem_cons.mp h with h | h
  · cases h; rw [T.glo 4] at e; cases e; exact He.exm_ok (T.d.fact 131)
  cases List.mem_singleton.mp h; rw [T.glo 94] at e; cases e; exact He.exm_ok (T.d.fact 132)
theorem catch_NotATray (T : GD fa fns tabs exs w K mg) {X : Cx} (hK : X.K = K := by rfl) (hm : X.mg = mg := by rfl) : ∀ (n : Str) (b : Bool) (C : Addr), ([("InvalidNumber", false), ("InvalidLine", false), ("NotATray", true), ("InvalidDeed", false), ("Barred", false), ("NothingToUndo", false)] : XTab).lookup n = some b → X.mg n = some (.ref C) → PySem.W.exmOne X.K (.ref C) (.ref (He.ga K "NotATray")) = some b := by
  subst hK hm
  intro n b C h e
  have h := mem_lookup h
  rcases List.mem_cons.mp h with h | h
  · cases h; rw [T.glo 109] at e; cases e; exact He.exm_ok (T.d.fact 133)
  rcases List.mem_cons.mp h with h | h
  · cases h; rw [T.glo 7] at e; cases e; exact He.exm_ok (T.d.fact 134)
  rcases List.mem_cons.mp h with h | h
  · cases h; rw [T.glo 10] at e; cases e; exact He.exm_ok (T.d.fact 135)
  rcases List.mem_cons.mp h with h | h
  · cases h; rw [T.glo 1] at e; cases e; exact He.exm_ok (T.d.fact 136)
  rcases List.mem_cons.mp h with h | h
  · cases h; rw [T.glo 4] at e; cases e; exact He.exm_ok (T.d.fact 137)
  cases List.mem_singleton.mp h; rw [T.glo 94] at e; cases e; exact He.exm_ok (T.d.fact 138)
noncomputable def fd_d_TrayU_initU (T : GD fa fns tabs exs w K mg) : FuncData := (T.fn_ 4 (d := dd_d_TrayU_initU)).choose
theorem bi_d_TrayU_initU (T : GD fa fns tabs exs w K mg) : Binds K (fd_d_TrayU_initU T) ["self"] [] := (T.fn_ 4 (d := dd_d_TrayU_initU)).choose_spec.bindsN fun _ _ _ _ _ _ us hl => match us, hl with | [_], _ => rfl
theorem fo_d_TrayU_initU (T : GD fa fns tabs exs w K mg) : FnOk P w K mg base (L2.CX P w) 1 (He.fAd K ("Tray", some "__init__")) (fd_d_TrayU_initU T) ["self"] (spD ⟨K, mg⟩ d_TrayU_initU) := by
  have sc := sc_d_TrayU_initU
  have F := (T.fn_ 4 (d := dd_d_TrayU_initU)).choose_spec
  exact fok F sc fun cdv A outer s H E hr tk hp =>
    (pdss_cons (pds_fld (fun c hc => (List.mem_singleton.mp hc) ▸ (T.clsF 16 17 18)) (pd_var 0) (pd_tup pda_nil))
    (pdss_cons (pds_fld (fun c hc => (List.mem_singleton.mp hc) ▸ (T.clsF 16 17 19)) (pd_var 0) (pd_tup pda_nil))
    (pdss_one (pds_fld (fun c hc => (List.mem_singleton.mp hc) ▸ (T.clsF 16 17 20)) (pd_var 0) (pd_liv (pdl_lst (k := 0) pda_nil))))))
theorem ok_d_TrayU_initU (T : GD fa fns tabs exs w K mg) : Fo P w ⟨K, mg⟩ base 1 (He.fAd K ("Tray", some "__init__")) d_TrayU_initU   := Fo.of (fo_d_TrayU_initU T) (bi_d_TrayU_initU T) (T.fn_ 4 (d := dd_d_TrayU_initU)).choose_spec.kp
noncomputable def fd_d_is_string (T : GD fa fns tabs exs w K mg) : FuncData := (T.fn_ 5 (d := dd_d_is_string)).choose
theorem bi_d_is_string (T : GD fa fns tabs exs w K mg) : Binds K (fd_d_is_string T) ["value"] [] := (T.fn_ 5 (d := dd_d_is_string)).choose_spec.bindsN fun _ _ _ _ _ _ us hl => match us, hl with | [_], _ => rfl
theorem fo_d_is_string (T : GD fa fns tabs exs w K mg) : FnOk P w K mg base (L2.CX P w) 1 (He.fAd K ("is_string", none)) (fd_d_is_string T) ["value"] (spD ⟨K, mg⟩ d_is_string) := by
  have sc := sc_d_is_string
  have F := (T.fn_ 5 (d := dd_d_is_string)).choose_spec
  exact fok F sc fun cdv A outer s H E hr tk hp =>
    (pdss_one (pds_ret (pd_isi (isC_ty "str") (T.free 24) (pdap_cons (pdp_var 0) (pdap_cons (pdp_of (pd_ty (T.free 25) (by decide +kernel))) pdap_nil)))))
theorem ok_d_is_string (T : GD fa fns tabs exs w K mg) : Fo P w ⟨K, mg⟩ base 1 (He.fAd K ("is_string", none)) d_is_string   := Fo.of (fo_d_is_string T) (bi_d_is_string T) (T.fn_ 5 (d := dd_d_is_string)).choose_spec.kp
noncomputable def fd_d_has_form (T : GD fa fns tabs exs w K mg) : FuncData := (T.fn_ 6 (d := dd_d_has_form)).choose
theorem bi_d_has_form (T : GD fa fns tabs exs w K mg) : Binds K (fd_d_has_form T) ["value"] [] := (T.fn_ 6 (d := dd_d_has_form)).choose_spec.bindsN fun _ _ _ _ _ _ us hl => match us, hl with | [_], _ => rfl
theorem fo_d_has_form (T : GD fa fns tabs exs w K mg) : FnOk P w K mg base (L2.CX P w) 2 (He.fAd K ("has_form", none)) (fd_d_has_form T) ["value"] (spD ⟨K, mg⟩ d_has_form) := by
  have sc := sc_d_has_form
  have F := (T.fn_ 6 (d := dd_d_has_form)).choose_spec
  exact fok F sc fun cdv A outer s H E hr tk hp =>
    (pdss_cons (pds_if (PDW.pdt (pdw_or (pdt_not (pdt_val (pd_isi (isC_ty "tuple") (T.free 24) (pdap_cons (pdp_var 0) (pdap_cons (pdp_of (pd_ty (T.free 23) (by decide +kernel))) pdap_nil))))) (pdw_or (pdt_eq (Room.u64 hr) (pdp_of (pd_len (T.free 13) (pdap_cons (pdp_var 0) pdap_nil))) (pdp_of pd_int)) (pdw_or1 (pdt_not (pdt_val (pd_call (ok_d_is_string T) hr (by decide) (T.glo 26) tk (pda_cons (pd_ix (pdp_var 0) pd_int) pda_nil)))))))) (pdss_one (pds_ret pd_bl)) pdss_nil)
    (pdss_one (pds_ret (pd_and (pd_inK (T.kd 27 4 0) (pd_ix (pdp_var 0) pd_int) (pd_glob (T.gd_nm 27))) (pd_one (pd_eq (Room.u64 hr) (pdp_of (pd_len (T.free 13) (pdap_cons (pdp_var 0) pdap_nil))) (pdp_of (pd_ixK (T.kd 27 4 0) (pd_glob (T.gd_nm 27)) (pd_ix (pdp_var 0) pd_int)))))))))
theorem ok_d_has_form (T : GD fa fns tabs exs w K mg) : Fo P w ⟨K, mg⟩ base 2 (He.fAd K ("has_form", none)) d_has_form   := Fo.of (fo_d_has_form T) (bi_d_has_form T) (T.fn_ 6 (d := dd_d_has_form)).choose_spec.kp
noncomputable def fd_d_is_whole (T : GD fa fns tabs exs w K mg) : FuncData := (T.fn_ 7 (d := dd_d_is_whole)).choose
theorem bi_d_is_whole (T : GD fa fns tabs exs w K mg) : Binds K (fd_d_is_whole T) ["value"] [] := (T.fn_ 7 (d := dd_d_is_whole)).choose_spec.bindsN fun _ _ _ _ _ _ us hl => match us, hl with | [_], _ => rfl
theorem fo_d_is_whole (T : GD fa fns tabs exs w K mg) : FnOk P w K mg base (L2.CX P w) 1 (He.fAd K ("is_whole", none)) (fd_d_is_whole T) ["value"] (spD ⟨K, mg⟩ d_is_whole) := by
  have sc := sc_d_is_whole
  have F := (T.fn_ 7 (d := dd_d_is_whole)).choose_spec
  exact fok F sc fun cdv A outer s H E hr tk hp =>
    (pdss_one (pds_ret (pd_and (pd_isi (isC_ty "int") (T.free 24) (pdap_cons (pdp_var 0) (pdap_cons (pdp_of (pd_ty (T.free 29) (by decide +kernel))) pdap_nil))) (pd_one (pd_not (pd_isi (isC_ty "bool") (T.free 24) (pdap_cons (pdp_var 0) (pdap_cons (pdp_of (pd_ty (T.free 30) (by decide +kernel))) pdap_nil))))))))
theorem ok_d_is_whole (T : GD fa fns tabs exs w K mg) : Fo P w ⟨K, mg⟩ base 1 (He.fAd K ("is_whole", none)) d_is_whole   := Fo.of (fo_d_is_whole T) (bi_d_is_whole T) (T.fn_ 7 (d := dd_d_is_whole)).choose_spec.kp
noncomputable def fd_d_is_between (T : GD fa fns tabs exs w K mg) : FuncData := (T.fn_ 8 (d := dd_d_is_between)).choose
theorem bi_d_is_between (T : GD fa fns tabs exs w K mg) : Binds K (fd_d_is_between T) ["value", "least", "most"] [] := (T.fn_ 8 (d := dd_d_is_between)).choose_spec.bindsN fun _ _ _ _ _ _ us hl => match us, hl with | [_, _, _], _ => rfl
theorem fo_d_is_between (T : GD fa fns tabs exs w K mg) : FnOk P w K mg base (L2.CX P w) 2 (He.fAd K ("is_between", none)) (fd_d_is_between T) ["value", "least", "most"] (spD ⟨K, mg⟩ d_is_between) := by
  have sc := sc_d_is_between
  have F := (T.fn_ 8 (d := dd_d_is_between)).choose_spec
  exact fok F sc fun cdv A outer s H E hr tk hp =>
    (pdss_one (pds_ret (pd_and (pd_call (ok_d_is_whole T) hr (by decide) (T.glo 31) tk (pda_cons (pd_var 0) pda_nil)) (pd_one (pd_chain op_le rop_le op_le rop_le (pd_var 1) (pd_var 0) (pd_var 2))))))
theorem ok_d_is_between (T : GD fa fns tabs exs w K mg) : Fo P w ⟨K, mg⟩ base 2 (He.fAd K ("is_between", none)) d_is_between   := Fo.of (fo_d_is_between T) (bi_d_is_between T) (T.fn_ 8 (d := dd_d_is_between)).choose_spec.kp
noncomputable def fd_d_is_square_number (T : GD fa fns tabs exs w K mg) : FuncData := (T.fn_ 9 (d := dd_d_is_square_number)).choose
theorem bi_d_is_square_number (T : GD fa fns tabs exs w K mg) : Binds K (fd_d_is_square_number T) ["value"] [] := (T.fn_ 9 (d := dd_d_is_square_number)).choose_spec.bindsN fun _ _ _ _ _ _ us hl => match us, hl with | [_], _ => rfl
theorem fo_d_is_square_number (T : GD fa fns tabs exs w K mg) : FnOk P w K mg base (L2.CX P w) 3 (He.fAd K ("is_square_number", none)) (fd_d_is_square_number T) ["value"] (spD ⟨K, mg⟩ d_is_square_number) := by
  have sc := sc_d_is_square_number
  have F := (T.fn_ 9 (d := dd_d_is_square_number)).choose_spec
  exact fok F sc fun cdv A outer s H E hr tk hp =>
    (pdss_one (pds_ret (pd_call (ok_d_is_between T) hr (by decide) (T.glo 32) tk (pda_cons (pd_var 0) (pda_cons pd_int (pda_cons (pd_glob (T.gd_int 33)) pda_nil))))))
theorem ok_d_is_square_number (T : GD fa fns tabs exs w K mg) : Fo P w ⟨K, mg⟩ base 3 (He.fAd K ("is_square_number", none)) d_is_square_number   := Fo.of (fo_d_is_square_number T) (bi_d_is_square_number T) (T.fn_ 9 (d := dd_d_is_square_number)).choose_spec.kp
noncomputable def fd_d_is_squares (T : GD fa fns tabs exs w K mg) : FuncData := (T.fn_ 10 (d := dd_d_is_squares)).choose
theorem bi_d_is_squares (T : GD fa fns tabs exs w K mg) : Binds K (fd_d_is_squares T) ["value"] [] := (T.fn_ 10 (d := dd_d_is_squares)).choose_spec.bindsN fun _ _ _ _ _ _ us hl => match us, hl with | [_], _ => rfl
theorem fo_d_is_squares (T : GD fa fns tabs exs w K mg) : FnOk P w K mg base (L2.CX P w) 4 (He.fAd K ("is_squares", none)) (fd_d_is_squares T) ["value"] (spD ⟨K, mg⟩ d_is_squares) := by
  have sc := sc_d_is_squares
  have F := (T.fn_ 10 (d := dd_d_is_squares)).choose_spec
  exact fok F sc fun cdv A outer s H E hr tk hp =>
    (pdss_one (pds_ret (pd_and (pd_isi (isC_ty "tuple") (T.free 24) (pdap_cons (pdp_var 0) (pdap_cons (pdp_of (pd_ty (T.free 23) (by decide +kernel))) pdap_nil))) (pd_one (pd_all rfl (T.free 35) (pdap_cons (pdp_of (pd_fzL (pdl_comp (own := [("own", 1)]) rfl sc.nd (pdi_seqP (pdp_var 0)) ⟨fun s H C cl fp => (pdg_name sc.nd), fun s H C cl fp => pdts_nil, fun s H C cl fp => (pd_call (ok_d_is_square_number T) hr (by decide) (T.glo 34) takes0 (pda_cons (pd_var 1) pda_nil))⟩))) pdap_nil))))))
theorem ok_d_is_squares (T : GD fa fns tabs exs w K mg) : Fo P w ⟨K, mg⟩ base 4 (He.fAd K ("is_squares", none)) d_is_squares   := Fo.of (fo_d_is_squares T) (bi_d_is_squares T) (T.fn_ 10 (d := dd_d_is_squares)).choose_spec.kp
theorem ok_d_is_number_1 (T : GD fa fns tabs exs w K mg) : Fo P w ⟨K, mg⟩ base 2 (He.fAd K ("is_number", none)) d_is_number_1 := by
  have sc := sc_d_is_number
  obtain ⟨fd, F⟩ := T.fn_ 11 (d := dd_d_is_number)
  obtain ⟨ds, v, b⟩ := F.binds1 (ps := ["value", "low", "high"]) 1 0 (by simp [dd_d_is_number, He.DefD.dvs]) rfl fun T kV doc pm an cdv ct us its hl hi => match us, its, hl, hi with | [_], [_, _], _, _ => ⟨_, rfl, rfl⟩
  exact ⟨⟨fd, _, ds, _, [.int 0, .non], d_is_number0, fok F sc fun cdv A outer s H E hr tk hp =>
    (pdss_one (pds_ret (pd_and (pd_call (ok_d_is_whole T) hr (by decide) (T.glo 31) tk (pda_cons (pd_var 0) pda_nil)) (pd_and (pd_cmp op_le rop_le (pd_var 1) (pd_var 0)) (pd_one (pd_or (pd_isN (pd_var 2)) (pd_one (pd_cmp op_le rop_le (pd_var 0) (pd_var 2))))))))), b, v, fun _ _ => ⟨_, _, rfl, rfl, ⟨_, _, rfl, rfl, rfl⟩⟩, rfl⟩, F.kp⟩
noncomputable def fd_d_check_deed (T : GD fa fns tabs exs w K mg) : FuncData := (T.fn_ 12 (d := dd_d_check_deed)).choose
theorem bi_d_check_deed (T : GD fa fns tabs exs w K mg) : Binds K (fd_d_check_deed T) ["value"] [] := (T.fn_ 12 (d := dd_d_check_deed)).choose_spec.bindsN fun _ _ _ _ _ _ us hl => match us, hl with | [_], _ => rfl
theorem fo_d_check_deed (T : GD fa fns tabs exs w K mg) : FnOk P w K mg base (L2.CX P w) 5 (He.fAd K ("check_deed", none)) (fd_d_check_deed T) ["value"] (spD ⟨K, mg⟩ d_check_deed) := by
  have sc := sc_d_check_deed
  have F := (T.fn_ 12 (d := dd_d_check_deed)).choose_spec
  exact fok F sc fun cdv A outer s H E hr tk hp =>
    (pdss_cons (pds_if (pdt_not (pdt_val (pd_call (ok_d_has_form T) hr (by decide) (T.glo 28) tk (pda_cons (pd_var 0) pda_nil)))) (pdss_one (pds_raise (exf_InvalidDeed T) rfl tk hr (by decide) pd_int)) pdss_nil)
    (pdss_cons (pds_if (PDW.pdt (pdw_and (pdt_eq (Room.u64 hr) (pdp_of (pd_ix (pdp_var 0) pd_int)) (pdp_of pd_str)) (pdw_and1 (pdt_not (pdt_val (pd_call (ok_d_is_squares T) hr (by decide) (T.glo 36) tk (pda_cons (pd_ix (pdp_var 0) pd_int) pda_nil))))))) (pdss_one (pds_raise (exf_InvalidDeed T) rfl tk hr (by decide) pd_int)) pdss_nil)
    (pdss_one (pds_if (pdt_eq (Room.u64 hr) (pdp_of (pd_ix (pdp_var 0) pd_int)) (pdp_of pd_str)) (pdss_cons (pds_if (pdt_not (pdt_val (pd_call (ok_d_is_number_1 T) hr (by decide) (T.glo 37) tk (pda_cons (pd_ix (pdp_var 0) pd_int) pda_nil)))) (pdss_one (pds_raise (exf_InvalidDeed T) rfl tk hr (by decide) pd_int)) pdss_nil)
    (pdss_cons (pds_if (PDW.pdt (pdw_or (pdt_not (pdt_val (pd_call (ok_d_is_number_1 T) hr (by decide) (T.glo 37) tk (pda_cons (pd_ix (pdp_var 0) pd_int) pda_nil)))) (pdw_or1 (pdt_cmp op_le rop_le (pd_ix (pdp_var 0) pd_int) (pd_ix (pdp_var 0) pd_int))))) (pdss_one (pds_raise (exf_InvalidDeed T) rfl tk hr (by decide) pd_int)) pdss_nil)
    (pdss_one (pds_if (pdt_not (pdt_val (pd_call (ok_d_is_square_number T) hr (by decide) (T.glo 34) tk (pda_cons (pd_ix (pdp_var 0) pd_int) pda_nil)))) (pdss_one (pds_raise (exf_InvalidDeed T) rfl tk hr (by decide) pd_int)) pdss_nil)))) pdss_nil))))
theorem ok_d_check_deed (T : GD fa fns tabs exs w K mg) : Fo P w ⟨K, mg⟩ base 5 (He.fAd K ("check_deed", none)) d_check_deed   := Fo.of (fo_d_check_deed T) (bi_d_check_deed T) (T.fn_ 12 (d := dd_d_check_deed)).choose_spec.kp
noncomputable def fd_d_things_of (T : GD fa fns tabs exs w K mg) : FuncData := (T.fn_ 13 (d := dd_d_things_of)).choose
theorem bi_d_things_of (T : GD fa fns tabs exs w K mg) : Binds K (fd_d_things_of T) ["table"] [] := (T.fn_ 13 (d := dd_d_things_of)).choose_spec.bindsN fun _ _ _ _ _ _ us hl => match us, hl with | [_], _ => rfl
theorem fo_d_things_of (T : GD fa fns tabs exs w K mg) : FnOk P w K mg base (L2.CX P w) 1 (He.fAd K ("things_of", none)) (fd_d_things_of T) ["table"] (spD ⟨K, mg⟩ d_things_of) := by
  have sc := sc_d_things_of
  have F := (T.fn_ 13 (d := dd_d_things_of)).choose_spec
  exact fok F sc fun cdv A outer s H E hr tk hp =>
    (pdss_one (pds_ret (pd_add (pdp_of (pd_len (T.free 13) (pdap_cons (pdp_var 0) pdap_nil))) (pdp_of pd_int))))
theorem ok_d_things_of (T : GD fa fns tabs exs w K mg) : Fo P w ⟨K, mg⟩ base 1 (He.fAd K ("things_of", none)) d_things_of   := Fo.of (fo_d_things_of T) (bi_d_things_of T) (T.fn_ 13 (d := dd_d_things_of)).choose_spec.kp
noncomputable def fd_d_square_of (T : GD fa fns tabs exs w K mg) : FuncData := (T.fn_ 14 (d := dd_d_square_of)).choose
theorem bi_d_square_of (T : GD fa fns tabs exs w K mg) : Binds K (fd_d_square_of T) ["table", "one", "other"] [] := (T.fn_ 14 (d := dd_d_square_of)).choose_spec.bindsN fun _ _ _ _ _ _ us hl => match us, hl with | [_, _, _], _ => rfl
theorem fo_d_square_of (T : GD fa fns tabs exs w K mg) : FnOk P w K mg base (L2.CX P w) 1 (He.fAd K ("square_of", none)) (fd_d_square_of T) ["table", "one", "other"] (spD ⟨K, mg⟩ d_square_of) := by
  have sc := sc_d_square_of
  have F := (T.fn_ 14 (d := dd_d_square_of)).choose_spec
  exact fok F sc fun cdv A outer s H E hr tk hp =>
    (pdss_cons (pds_if (pdt_eq (Room.u64 hr) (pdp_var 1) (pdp_var 2)) (pdss_one (pds_ret pd_int)) pdss_nil)
    (pdss_one (pds_ret (pd_ix (pdp_of (pd_ix (pdp_var 0) (pd_sub (pd_max2 rfl (T.free 15) (pdap_cons (pdp_var 1) (pdap_cons (pdp_var 2) pdap_nil))) pd_int))) (pd_min2 rfl (T.free 14) (pdap_cons (pdp_var 1) (pdap_cons (pdp_var 2) pdap_nil)))))))
theorem ok_d_square_of (T : GD fa fns tabs exs w K mg) : Fo P w ⟨K, mg⟩ base 1 (He.fAd K ("square_of", none)) d_square_of   := Fo.of (fo_d_square_of T) (bi_d_square_of T) (T.fn_ 14 (d := dd_d_square_of)).choose_spec.kp
noncomputable def fd_d_reason_by_itself (T : GD fa fns tabs exs w K mg) : FuncData := (T.fn_ 15 (d := dd_d_reason_by_itself)).choose
theorem bi_d_reason_by_itself (T : GD fa fns tabs exs w K mg) : Binds K (fd_d_reason_by_itself T) ["table", "deed"] [] := (T.fn_ 15 (d := dd_d_reason_by_itself)).choose_spec.bindsN fun _ _ _ _ _ _ us hl => match us, hl with | [_, _], _ => rfl
theorem fo_d_reason_by_itself (T : GD fa fns tabs exs w K mg) : FnOk P w K mg base (L2.CX P w) 2 (He.fAd K ("reason_by_itself", none)) (fd_d_reason_by_itself T) ["table", "deed"] (spD ⟨K, mg⟩ d_reason_by_itself) := by
  have sc := sc_d_reason_by_itself
  have F := (T.fn_ 15 (d := dd_d_reason_by_itself)).choose_spec
  exact fok F sc fun cdv A outer s H E hr tk hp =>
    (pdss_cons (pds_set (i := 2) (pd_call (ok_d_things_of T) hr (by decide) (T.glo 39) tk (pda_cons (pd_var 0) pda_nil)) sc.nd)
    (pdss_cons (pds_if (pdt_eq (Room.u64 hr) (pdp_of (pd_ix (pdp_var 1) pd_int)) (pdp_of pd_str)) (pdss_one (pds_ret (pd_if (pdt_eq (Room.u64 hr) (pdp_var 2) (pdp_of pd_int)) (pd_glob (T.gd_str 40)) pd_non))) pdss_nil)
    (pdss_cons (pds_if (pdt_eq (Room.u64 hr) (pdp_of (pd_ix (pdp_var 1) pd_int)) (pdp_of pd_str)) (pdss_cons (pds_if (pdt_eq (Room.u64 hr) (pdp_var 2) (pdp_of (pd_glob (T.gd_int 41)))) (pdss_one (pds_ret (pd_glob (T.gd_str 42)))) pdss_nil)
    (pdss_one (pds_ret (pd_if (pdt_ne (Room.u64 hr) (pdp_of (pd_len (T.free 13) (pdap_cons (pdp_of (pd_ix (pdp_var 1) pd_int)) pdap_nil))) (pdp_var 2)) (pd_glob (T.gd_str 43)) pd_non)))) pdss_nil)
    (pdss_cons (pds_if (pdt_cmp op_ge rop_ge (pd_ix (pdp_var 1) pd_int) (pd_var 2)) (pdss_one (pds_ret (pd_glob (T.gd_str 44)))) pdss_nil)
    (pdss_one (pds_ret (pd_if (pdt_eq (Room.u64 hr) (pdp_of (pd_call (ok_d_square_of T) hr (by decide) (T.glo 45) tk (pda_cons (pd_var 0) (pda_cons (pd_ix (pdp_var 1) pd_int) (pda_cons (pd_ix (pdp_var 1) pd_int) pda_nil))))) (pdp_of (pd_ix (pdp_var 1) pd_int))) (pd_glob (T.gd_str 46)) pd_non)))))))
theorem ok_d_reason_by_itself (T : GD fa fns tabs exs w K mg) : Fo P w ⟨K, mg⟩ base 2 (He.fAd K ("reason_by_itself", none)) d_reason_by_itself   := Fo.of (fo_d_reason_by_itself T) (bi_d_reason_by_itself T) (T.fn_ 15 (d := dd_d_reason_by_itself)).choose_spec.kp
noncomputable def fd_d_all_things (T : GD fa fns tabs exs w K mg) : FuncData := (T.fn_ 16 (d := dd_d_all_things)).choose
theorem bi_d_all_things (T : GD fa fns tabs exs w K mg) : Binds K (fd_d_all_things T) ["table"] [] := (T.fn_ 16 (d := dd_d_all_things)).choose_spec.bindsN fun _ _ _ _ _ _ us hl => match us, hl with | [_], _ => rfl
theorem fo_d_all_things (T : GD fa fns tabs exs w K mg) : FnOk P w K mg base (L2.CX P w) 2 (He.fAd K ("all_things", none)) (fd_d_all_things T) ["table"] (spD ⟨K, mg⟩ d_all_things) := by
  have sc := sc_d_all_things
  have F := (T.fn_ 16 (d := dd_d_all_things)).choose_spec
  exact fok F sc fun cdv A outer s H E hr tk hp =>
    (pdss_one (pds_ret (pd_tuple (T.free 23) (pdap_cons (pdp_of (pd_fzL (pdl_comp (own := [("thing", 1)]) rfl sc.nd (pdi_rng1 (T.free 12) (pd_call (ok_d_things_of T) hr (by decide) (T.glo 39) tk (pda_cons (pd_var 0) pda_nil))) ⟨fun s H C cl fp => (pdg_name sc.nd), fun s H C cl fp => pdts_nil, fun s H C cl fp => (pd_var 1)⟩))) pdap_nil))))
theorem ok_d_all_things (T : GD fa fns tabs exs w K mg) : Fo P w ⟨K, mg⟩ base 2 (He.fAd K ("all_things", none)) d_all_things   := Fo.of (fo_d_all_things T) (bi_d_all_things T) (T.fn_ 16 (d := dd_d_all_things)).choose_spec.kp
noncomputable def fd_d_doubled (T : GD fa fns tabs exs w K mg) : FuncData := (T.fn_ 17 (d := dd_d_doubled)).choose
theorem bi_d_doubled (T : GD fa fns tabs exs w K mg) : Binds K (fd_d_doubled T) ["table"] [] := (T.fn_ 17 (d := dd_d_doubled)).choose_spec.bindsN fun _ _ _ _ _ _ us hl => match us, hl with | [_], _ => rfl
theorem fo_d_doubled (T : GD fa fns tabs exs w K mg) : FnOk P w K mg base (L2.CX P w) 3 (He.fAd K ("doubled", none)) (fd_d_doubled T) ["table"] (spD ⟨K, mg⟩ d_doubled) := by
  have sc := sc_d_doubled
  have F := (T.fn_ 17 (d := dd_d_doubled)).choose_spec
  exact fok F sc fun cdv A outer s H E hr tk hp =>
    (pdss_cons (pds_set (i := 1) (pd_sl (pdp_of (pd_call (ok_d_all_things T) hr (by decide) (T.glo 48) tk (pda_cons (pd_var 0) pda_nil))) (pdo_some pd_int) pdo_none) sc.nd)
    (pdss_cons (pds_setO (i := 2) (pdl_lst (k := 0) pda_nil) sc.nd)
    (pdss_cons (pds_for hp rfl (pdi_seq (pd_var 1)) (pdg_name sc.nd) (pdss_cons (pds_set (i := 4) (pd_call (ok_d_square_of T) hr (by decide) (T.glo 45) tk (pda_cons (pd_var 0) (pda_cons pd_int (pda_cons (pd_var 3) pda_nil)))) sc.nd)
    (pdss_one (pds_om 2 lm_app (pda_cons (pd_fzL (pdl_comp (own := [("other", 5)]) rfl sc.nd (pdi_seqP (pdp_var 1)) ⟨fun s H C cl fp => (pdg_name sc.nd), fun s H C cl fp => pdts_nil, fun s H C cl fp => (pd_sub (pd_add (pdp_var 4) (pdp_of (pd_call (ok_d_square_of T) hr (by decide) (T.glo 45) takes0 (pda_cons (pd_var 0) (pda_cons pd_int (pda_cons (pd_var 5) pda_nil)))))) (pd_call (ok_d_square_of T) hr (by decide) (T.glo 45) takes0 (pda_cons (pd_var 0) (pda_cons (pd_var 3) (pda_cons (pd_var 5) pda_nil)))))⟩)) pda_nil)))))
    (pdss_one (pds_ret (pd_var 2))))))
theorem ok_d_doubled (T : GD fa fns tabs exs w K mg) : Fo P w ⟨K, mg⟩ base 3 (He.fAd K ("doubled", none)) d_doubled   := Fo.of (fo_d_doubled T) (bi_d_doubled T) (T.fn_ 17 (d := dd_d_doubled)).choose_spec.kp
noncomputable def fd_d_lowest (T : GD fa fns tabs exs w K mg) : FuncData := (T.fn_ 18 (d := dd_d_lowest)).choose
theorem bi_d_lowest (T : GD fa fns tabs exs w K mg) : Binds K (fd_d_lowest T) ["over", "under"] [] := (T.fn_ 18 (d := dd_d_lowest)).choose_spec.bindsN fun _ _ _ _ _ _ us hl => match us, hl with | [_, _], _ => rfl
theorem fo_d_lowest (T : GD fa fns tabs exs w K mg) : FnOk P w K mg base (L2.CX P w) 1 (He.fAd K ("lowest", none)) (fd_d_lowest T) ["over", "under"] (spD ⟨K, mg⟩ d_lowest) := by
  have sc := sc_d_lowest
  have F := (T.fn_ 18 (d := dd_d_lowest)).choose_spec
  exact fok F sc fun cdv A outer s H E hr tk hp =>
    (pdss_cons (pds_set (i := 2) (pd_if (pdt_cmp op_gt rop_gt (pd_var 1) pd_int) (pd_bfun cr_gcd rcp_gcd (T.bfun 5) (pdap_cons (pdp_var 0) (pdap_cons (pdp_var 1) pdap_nil))) (pd_neg (pd_bfun cr_gcd rcp_gcd (T.bfun 5) (pdap_cons (pdp_var 0) (pdap_cons (pdp_var 1) pdap_nil))))) sc.nd)
    (pdss_one (pds_ret (pd_tup (pda_cons (pd_div (pd_var 0) (pd_var 2)) (pda_cons (pd_div (pd_var 1) (pd_var 2)) pda_nil))))))
theorem ok_d_lowest (T : GD fa fns tabs exs w K mg) : Fo P w ⟨K, mg⟩ base 1 (He.fAd K ("lowest", none)) d_lowest   := Fo.of (fo_d_lowest T) (bi_d_lowest T) (T.fn_ 18 (d := dd_d_lowest)).choose_spec.kp
noncomputable def fd_d_products_of (T : GD fa fns tabs exs w K mg) : FuncData := (T.fn_ 19 (d := dd_d_products_of)).choose
theorem bi_d_products_of (T : GD fa fns tabs exs w K mg) : Binds K (fd_d_products_of T) ["table"] [] := (T.fn_ 19 (d := dd_d_products_of)).choose_spec.bindsN fun _ _ _ _ _ _ us hl => match us, hl with | [_], _ => rfl
theorem fo_d_products_of (T : GD fa fns tabs exs w K mg) : FnOk P w K mg base (L2.CX P w) 4 (He.fAd K ("products_of", none)) (fd_d_products_of T) ["table"] (spD ⟨K, mg⟩ d_products_of) := by
  have sc := sc_d_products_of
  have F := (T.fn_ 19 (d := dd_d_products_of)).choose_spec
  exact fok F sc fun cdv A outer s H E hr tk hp =>
    (pdss_one (pds_ret (pd_fzL (pdl_comp (own := [("row", 1)]) rfl sc.nd (pdi_seqP (pdp_of (pd_call (ok_d_doubled T) hr (by decide) (T.glo 49) tk (pda_cons (pd_var 0) pda_nil)))) ⟨fun s H C cl fp => (pdg_name sc.nd), fun s H C cl fp => pdts_nil, fun s H C cl fp => (pd_fzL (pdl_comp (own := [("own", 2)]) rfl sc.nd (pdi_seqP (pdp_var 1)) ⟨fun s H C cl fp => (pdg_name sc.nd), fun s H C cl fp => pdts_nil, fun s H C cl fp => (pd_call (ok_d_lowest T) hr (by decide) (T.glo 50) takes0 (pda_cons (pd_var 2) (pda_cons pd_int pda_nil)))⟩))⟩))))
theorem ok_d_products_of (T : GD fa fns tabs exs w K mg) : Fo P w ⟨K, mg⟩ base 4 (He.fAd K ("products_of", none)) d_products_of   := Fo.of (fo_d_products_of T) (bi_d_products_of T) (T.fn_ 19 (d := dd_d_products_of)).choose_spec.kp
noncomputable def fd_d_first_own (T : GD fa fns tabs exs w K mg) : FuncData := (T.fn_ 20 (d := dd_d_first_own)).choose
theorem bi_d_first_own (T : GD fa fns tabs exs w K mg) : Binds K (fd_d_first_own T) ["products"] [] := (T.fn_ 20 (d := dd_d_first_own)).choose_spec.bindsN fun _ _ _ _ _ _ us hl => match us, hl with | [_], _ => rfl
theorem fo_d_first_own (T : GD fa fns tabs exs w K mg) : FnOk P w K mg base (L2.CX P w) 1 (He.fAd K ("first_own", none)) (fd_d_first_own T) ["products"] (spD ⟨K, mg⟩ d_first_own) := by
  have sc := sc_d_first_own
  have F := (T.fn_ 20 (d := dd_d_first_own)).choose_spec
  exact fok F sc fun cdv A outer s H E hr tk hp =>
    (pdss_cons (pds_setLcV (i := 1) (own := [("at", 2), ("row", 3)]) rfl sc.nd (pdi_enumP (T.free 54) (pdp_var 0)) ⟨fun s H C cl fp => (pdg_tup rfl (pdgs_cons sc.nd (pdgs_cons sc.nd pdgs_nil))), fun s H C cl fp => pdts_one (pdt_ne (Room.u64 hr) (pdp_of (pd_ix (pdp_var 3) (pd_var 2))) (pdp_of (pd_glob (T.gd_tup (ns := [0, 1]) 53 7)))), fun s H C cl fp => (pd_var 2)⟩)
    (pdss_one (pds_ret (pd_if (pdt_ne (Room.u64 hr) (pdp_var 1) (pdp_of (pd_lst (k := 0) pda_nil))) (pd_ix (pdp_var 1) pd_int) pd_non))))
theorem ok_d_first_own (T : GD fa fns tabs exs w K mg) : Fo P w ⟨K, mg⟩ base 1 (He.fAd K ("first_own", none)) d_first_own   := Fo.of (fo_d_first_own T) (bi_d_first_own T) (T.fn_ 20 (d := dd_d_first_own)).choose_spec.kp
noncomputable def fd_d_is_less (T : GD fa fns tabs exs w K mg) : FuncData := (T.fn_ 21 (d := dd_d_is_less)).choose
theorem bi_d_is_less (T : GD fa fns tabs exs w K mg) : Binds K (fd_d_is_less T) ["one", "other"] [] := (T.fn_ 21 (d := dd_d_is_less)).choose_spec.bindsN fun _ _ _ _ _ _ us hl => match us, hl with | [_, _], _ => rfl
theorem fo_d_is_less (T : GD fa fns tabs exs w K mg) : FnOk P w K mg base (L2.CX P w) 1 (He.fAd K ("is_less", none)) (fd_d_is_less T) ["one", "other"] (spD ⟨K, mg⟩ d_is_less) := by
  have sc := sc_d_is_less
  have F := (T.fn_ 21 (d := dd_d_is_less)).choose_spec
  exact fok F sc fun cdv A outer s H E hr tk hp =>
    (pdss_one (pds_ret (pd_cmp op_lt rop_lt (pd_mul (pd_ix (pdp_var 0) pd_int) (pd_ix (pdp_var 1) pd_int)) (pd_mul (pd_ix (pdp_var 1) pd_int) (pd_ix (pdp_var 0) pd_int)))))
theorem ok_d_is_less (T : GD fa fns tabs exs w K mg) : Fo P w ⟨K, mg⟩ base 1 (He.fAd K ("is_less", none)) d_is_less   := Fo.of (fo_d_is_less T) (bi_d_is_less T) (T.fn_ 21 (d := dd_d_is_less)).choose_spec.kp
noncomputable def fd_d_divided (T : GD fa fns tabs exs w K mg) : FuncData := (T.fn_ 22 (d := dd_d_divided)).choose
theorem bi_d_divided (T : GD fa fns tabs exs w K mg) : Binds K (fd_d_divided T) ["one", "other"] [] := (T.fn_ 22 (d := dd_d_divided)).choose_spec.bindsN fun _ _ _ _ _ _ us hl => match us, hl with | [_, _], _ => rfl
theorem fo_d_divided (T : GD fa fns tabs exs w K mg) : FnOk P w K mg base (L2.CX P w) 2 (He.fAd K ("divided", none)) (fd_d_divided T) ["one", "other"] (spD ⟨K, mg⟩ d_divided) := by
  have sc := sc_d_divided
  have F := (T.fn_ 22 (d := dd_d_divided)).choose_spec
  exact fok F sc fun cdv A outer s H E hr tk hp =>
    (pdss_one (pds_ret (pd_call (ok_d_lowest T) hr (by decide) (T.glo 50) tk (pda_cons (pd_mul (pd_ix (pdp_var 0) pd_int) (pd_ix (pdp_var 1) pd_int)) (pda_cons (pd_mul (pd_ix (pdp_var 0) pd_int) (pd_ix (pdp_var 1) pd_int)) pda_nil)))))
theorem ok_d_divided (T : GD fa fns tabs exs w K mg) : Fo P w ⟨K, mg⟩ base 2 (He.fAd K ("divided", none)) d_divided   := Fo.of (fo_d_divided T) (bi_d_divided T) (T.fn_ 22 (d := dd_d_divided)).choose_spec.kp
noncomputable def fd_d_less_by (T : GD fa fns tabs exs w K mg) : FuncData := (T.fn_ 23 (d := dd_d_less_by)).choose
theorem bi_d_less_by (T : GD fa fns tabs exs w K mg) : Binds K (fd_d_less_by T) ["one", "other"] [] := (T.fn_ 23 (d := dd_d_less_by)).choose_spec.bindsN fun _ _ _ _ _ _ us hl => match us, hl with | [_, _], _ => rfl
theorem fo_d_less_by (T : GD fa fns tabs exs w K mg) : FnOk P w K mg base (L2.CX P w) 2 (He.fAd K ("less_by", none)) (fd_d_less_by T) ["one", "other"] (spD ⟨K, mg⟩ d_less_by) := by
  have sc := sc_d_less_by
  have F := (T.fn_ 23 (d := dd_d_less_by)).choose_spec
  exact fok F sc fun cdv A outer s H E hr tk hp =>
    (pdss_one (pds_ret (pd_call (ok_d_lowest T) hr (by decide) (T.glo 50) tk (pda_cons (pd_sub (pd_mul (pd_ix (pdp_var 0) pd_int) (pd_ix (pdp_var 1) pd_int)) (pd_mul (pd_ix (pdp_var 1) pd_int) (pd_ix (pdp_var 0) pd_int))) (pda_cons (pd_mul (pd_ix (pdp_var 0) pd_int) (pd_ix (pdp_var 1) pd_int)) pda_nil)))))
theorem ok_d_less_by (T : GD fa fns tabs exs w K mg) : Fo P w ⟨K, mg⟩ base 2 (He.fAd K ("less_by", none)) d_less_by   := Fo.of (fo_d_less_by T) (bi_d_less_by T) (T.fn_ 23 (d := dd_d_less_by)).choose_spec.kp
noncomputable def fd_d_times (T : GD fa fns tabs exs w K mg) : FuncData := (T.fn_ 24 (d := dd_d_times)).choose
theorem bi_d_times (T : GD fa fns tabs exs w K mg) : Binds K (fd_d_times T) ["one", "other"] [] := (T.fn_ 24 (d := dd_d_times)).choose_spec.bindsN fun _ _ _ _ _ _ us hl => match us, hl with | [_, _], _ => rfl
theorem fo_d_times (T : GD fa fns tabs exs w K mg) : FnOk P w K mg base (L2.CX P w) 2 (He.fAd K ("times", none)) (fd_d_times T) ["one", "other"] (spD ⟨K, mg⟩ d_times) := by
  have sc := sc_d_times
  have F := (T.fn_ 24 (d := dd_d_times)).choose_spec
  exact fok F sc fun cdv A outer s H E hr tk hp =>
    (pdss_one (pds_ret (pd_call (ok_d_lowest T) hr (by decide) (T.glo 50) tk (pda_cons (pd_mul (pd_ix (pdp_var 0) pd_int) (pd_ix (pdp_var 1) pd_int)) (pda_cons (pd_mul (pd_ix (pdp_var 0) pd_int) (pd_ix (pdp_var 1) pd_int)) pda_nil)))))
theorem ok_d_times (T : GD fa fns tabs exs w K mg) : Fo P w ⟨K, mg⟩ base 2 (He.fAd K ("times", none)) d_times   := Fo.of (fo_d_times T) (bi_d_times T) (T.fn_ 24 (d := dd_d_times)).choose_spec.kp
noncomputable def fd_d_less_part (T : GD fa fns tabs exs w K mg) : FuncData := (T.fn_ 25 (d := dd_d_less_part)).choose
theorem bi_d_less_part (T : GD fa fns tabs exs w K mg) : Binds K (fd_d_less_part T) ["row", "part", "other"] [] := (T.fn_ 25 (d := dd_d_less_part)).choose_spec.bindsN fun _ _ _ _ _ _ us hl => match us, hl with | [_, _, _], _ => rfl
theorem fo_d_less_part (T : GD fa fns tabs exs w K mg) : FnOk P w K mg base (L2.CX P w) 3 (He.fAd K ("less_part", none)) (fd_d_less_part T) ["row", "part", "other"] (spD ⟨K, mg⟩ d_less_part) := by
  have sc := sc_d_less_part
  have F := (T.fn_ 25 (d := dd_d_less_part)).choose_spec
  exact fok F sc fun cdv A outer s H E hr tk hp =>
    (pdss_one (pds_ret (pd_fzL (pdl_comp (own := [("own", 3), ("more", 4)]) rfl sc.nd (pdi_zipP (T.free 58) (pdp_var 0) (pdp_var 2)) ⟨fun s H C cl fp => (pdg_tup rfl (pdgs_cons sc.nd (pdgs_cons sc.nd pdgs_nil))), fun s H C cl fp => pdts_nil, fun s H C cl fp => (pd_call (ok_d_less_by T) hr (by decide) (T.glo 59) takes0 (pda_cons (pd_var 3) (pda_cons (pd_call (ok_d_times T) hr (by decide) (T.glo 60) takes0 (pda_cons (pd_var 1) (pda_cons (pd_var 4) pda_nil))) pda_nil)))⟩))))
theorem ok_d_less_part (T : GD fa fns tabs exs w K mg) : Fo P w ⟨K, mg⟩ base 3 (He.fAd K ("less_part", none)) d_less_part   := Fo.of (fo_d_less_part T) (bi_d_less_part T) (T.fn_ 25 (d := dd_d_less_part)).choose_spec.kp
noncomputable def fd_d_brought (T : GD fa fns tabs exs w K mg) : FuncData := (T.fn_ 26 (d := dd_d_brought)).choose
theorem bi_d_brought (T : GD fa fns tabs exs w K mg) : Binds K (fd_d_brought T) ["table"] [] := (T.fn_ 26 (d := dd_d_brought)).choose_spec.bindsN fun _ _ _ _ _ _ us hl => match us, hl with | [_], _ => rfl
theorem fo_d_brought (T : GD fa fns tabs exs w K mg) : FnOk P w K mg base (L2.CX P w) 5 (He.fAd K ("brought", none)) (fd_d_brought T) ["table"] (spD ⟨K, mg⟩ d_brought) := by
  have sc := sc_d_brought
  have F := (T.fn_ 26 (d := dd_d_brought)).choose_spec
  exact fok F sc fun cdv A outer s H E hr tk hp =>
    (pdss_cons (pds_set (i := 1) (pd_call (ok_d_products_of T) hr (by decide) (T.glo 51) tk (pda_cons (pd_var 0) pda_nil)) sc.nd)
    (pdss_cons (pds_set (i := 2) (pd_fzL (pdl_comp (own := [("at", 5)]) rfl sc.nd (pdi_rng1 (T.free 12) (pd_len (T.free 13) (pdap_cons (pdp_var 0) pdap_nil))) ⟨fun s H C cl fp => (pdg_name sc.nd), fun s H C cl fp => pdts_nil, fun s H C cl fp => (pd_fzL (pdl_comp (own := [("spot", 8)]) rfl sc.nd (pdi_rng1 (T.free 12) (pd_len (T.free 13) (pdap_cons (pdp_var 0) pdap_nil))) ⟨fun s H C cl fp => (pdg_name sc.nd), fun s H C cl fp => pdts_nil, fun s H C cl fp => (pd_if (pdt_eq (Room.u64 hr) (pdp_var 5) (pdp_var 8)) (pd_glob (T.gd_tup (ns := [1, 1]) 52 6)) (pd_glob (T.gd_tup (ns := [0, 1]) 53 7)))⟩))⟩)) sc.nd)
    (pdss_cons (pds_parO (i := 3) (j := 4) rfl sc.nd (by decide) (pdl_lst (k := 0) pda_nil) (pdl_lst (k := 0) pda_nil))
    (pdss_cons (pds_set (i := 5) (pd_call (ok_d_first_own T) hr (by decide) (T.glo 55) tk (pda_cons (pd_var 1) pda_nil)) sc.nd)
    (pdss_cons (pds_while FUEL hp (PDW.pdt (pdw_and (pdt_notN (pd_var 5)) (pdw_and1 (PDW.pdt (pdw_or (pdt_eq (Room.u64 hr) (pdp_var 3) (pdp_of (pd_lst (k := 0) pda_nil))) (pdw_or1 (pdt_val (pd_call (ok_d_is_less T) hr (by decide) (T.glo 56) tk (pda_cons (pd_glob (T.gd_tup (ns := [0, 1]) 53 7)) (pda_cons (pd_ix (pdp_var 3) (pd_neg pd_int)) pda_nil)))))))))) (pdss_cons (pds_set (i := 6) (pd_ix (pdp_of (pd_ix (pdp_var 1) (pd_var 5))) (pd_var 5)) sc.nd)
    (pdss_cons (pds_setLcV (i := 7) (own := [("row", 9)]) rfl sc.nd (pdi_seqP (pdp_var 1)) ⟨fun s H C cl fp => (pdg_name sc.nd), fun s H C cl fp => pdts_nil, fun s H C cl fp => (pd_call (ok_d_divided T) hr (by decide) (T.glo 57) takes0 (pda_cons (pd_ix (pdp_var 9) (pd_var 5)) (pda_cons (pd_var 6) pda_nil)))⟩)
    (pdss_cons (pds_om 3 lm_app (pda_cons (pd_var 6) pda_nil))
    (pdss_cons (pds_om 4 lm_app (pda_cons (pd_var 7) pda_nil))
    (pdss_cons (pds_if (pdt_val (pd_call (ok_d_is_less T) hr (by decide) (T.glo 56) tk (pda_cons (pd_glob (T.gd_tup (ns := [0, 1]) 53 7)) (pda_cons (pd_var 6) pda_nil)))) (pdss_cons (pds_set (i := 2) (pd_fzL (pdl_comp (own := [("way", 10), ("part", 11)]) rfl sc.nd (pdi_zipP (T.free 58) (pdp_var 2) (pdp_var 7)) ⟨fun s H C cl fp => (pdg_tup rfl (pdgs_cons sc.nd (pdgs_cons sc.nd pdgs_nil))), fun s H C cl fp => pdts_nil, fun s H C cl fp => (pd_call (ok_d_less_part T) hr (by decide) (T.glo 61) takes0 (pda_cons (pd_var 10) (pda_cons (pd_var 11) (pda_cons (pd_ix (pdp_var 2) (pd_var 5)) pda_nil))))⟩)) sc.nd)
    (pdss_one (pds_set (i := 1) (pd_fzL (pdl_comp (own := [("row", 9), ("part", 11)]) rfl sc.nd (pdi_zipP (T.free 58) (pdp_var 1) (pdp_var 7)) ⟨fun s H C cl fp => (pdg_tup rfl (pdgs_cons sc.nd (pdgs_cons sc.nd pdgs_nil))), fun s H C cl fp => pdts_nil, fun s H C cl fp => (pd_call (ok_d_less_part T) hr (by decide) (T.glo 61) takes0 (pda_cons (pd_var 9) (pda_cons (pd_var 11) (pda_cons (pd_ix (pdp_var 1) (pd_var 5)) pda_nil))))⟩)) sc.nd))) pdss_nil)
    (pdss_one (pds_set (i := 5) (pd_call (ok_d_first_own T) hr (by decide) (T.glo 55) tk (pda_cons (pd_var 1) pda_nil)) sc.nd))))))))
    (pdss_one (pds_ret (pd_tup (pda_cons (pd_var 3) (pda_cons (pd_var 4) (pda_cons (pd_var 1) (pda_cons (pd_var 2) pda_nil))))))))))))
theorem ok_d_brought (T : GD fa fns tabs exs w K mg) : Fo P w ⟨K, mg⟩ base 5 (He.fAd K ("brought", none)) d_brought   := Fo.of (fo_d_brought T) (bi_d_brought T) (T.fn_ 26 (d := dd_d_brought)).choose_spec.kp
noncomputable def fd_d_first_left (T : GD fa fns tabs exs w K mg) : FuncData := (T.fn_ 27 (d := dd_d_first_left)).choose
theorem bi_d_first_left (T : GD fa fns tabs exs w K mg) : Binds K (fd_d_first_left T) ["products"] [] := (T.fn_ 27 (d := dd_d_first_left)).choose_spec.bindsN fun _ _ _ _ _ _ us hl => match us, hl with | [_], _ => rfl
theorem fo_d_first_left (T : GD fa fns tabs exs w K mg) : FnOk P w K mg base (L2.CX P w) 1 (He.fAd K ("first_left", none)) (fd_d_first_left T) ["products"] (spD ⟨K, mg⟩ d_first_left) := by
  have sc := sc_d_first_left
  have F := (T.fn_ 27 (d := dd_d_first_left)).choose_spec
  exact fok F sc fun cdv A outer s H E hr tk hp =>
    (pdss_cons (pds_for hp rfl (pdi_enum (T.free 54) (pd_var 0)) (pdg_tup rfl (pdgs_cons sc.nd (pdgs_cons sc.nd pdgs_nil))) (pdss_one (pds_for hp rfl (pdi_enum (T.free 54) (pd_var 2)) (pdg_tup rfl (pdgs_cons sc.nd (pdgs_cons sc.nd pdgs_nil))) (pdss_one (pds_if (pdt_ne (Room.u64 hr) (pdp_var 4) (pdp_of (pd_glob (T.gd_tup (ns := [0, 1]) 53 7)))) (pdss_one (pds_ret (pd_tup (pda_cons (pd_var 1) (pda_cons (pd_var 3) pda_nil))))) pdss_nil)))))
    (pdss_one (pds_ret pd_non)))
theorem ok_d_first_left (T : GD fa fns tabs exs w K mg) : Fo P w ⟨K, mg⟩ base 1 (He.fAd K ("first_left", none)) d_first_left   := Fo.of (fo_d_first_left T) (bi_d_first_left T) (T.fn_ 27 (d := dd_d_first_left)).choose_spec.kp
noncomputable def fd_d_is_placed_by (T : GD fa fns tabs exs w K mg) : FuncData := (T.fn_ 28 (d := dd_d_is_placed_by)).choose
theorem bi_d_is_placed_by (T : GD fa fns tabs exs w K mg) : Binds K (fd_d_is_placed_by T) ["table"] [] := (T.fn_ 28 (d := dd_d_is_placed_by)).choose_spec.bindsN fun _ _ _ _ _ _ us hl => match us, hl with | [_], _ => rfl
theorem fo_d_is_placed_by (T : GD fa fns tabs exs w K mg) : FnOk P w K mg base (L2.CX P w) 6 (He.fAd K ("is_placed_by", none)) (fd_d_is_placed_by T) ["table"] (spD ⟨K, mg⟩ d_is_placed_by) := by
  have sc := sc_d_is_placed_by
  have F := (T.fn_ 28 (d := dd_d_is_placed_by)).choose_spec
  exact fok F sc fun cdv A outer s H E hr tk hp =>
    (pdss_cons (pds_asg (pd_call (ok_d_brought T) hr (by decide) (T.glo 62) tk (pda_cons (pd_var 0) pda_nil)) (pdgs_tup rfl (pdgss_cons (pdgs_nm sc.nd (j := 1)) (pdgss_cons (pdgs_nm sc.nd (j := 2)) (pdgss_cons (pdgs_nm sc.nd (j := 3)) (pdgss_cons (pdgs_nm sc.nd (j := 4)) pdgss_nil))))))
    (pdss_one (pds_ret (pd_and (pd_all rfl (T.free 35) (pdap_cons (pdp_of (pd_fzL (pdl_comp (own := [("own", 5)]) rfl sc.nd (pdi_seqP (pdp_var 1)) ⟨fun s H C cl fp => (pdg_name sc.nd), fun s H C cl fp => pdts_nil, fun s H C cl fp => (pd_call (ok_d_is_less T) hr (by decide) (T.glo 56) takes0 (pda_cons (pd_glob (T.gd_tup (ns := [0, 1]) 53 7)) (pda_cons (pd_var 5) pda_nil)))⟩))) pdap_nil)) (pd_one (pd_isN (pd_call (ok_d_first_left T) hr (by decide) (T.glo 63) tk (pda_cons (pd_var 3) pda_nil))))))))
theorem ok_d_is_placed_by (T : GD fa fns tabs exs w K mg) : Fo P w ⟨K, mg⟩ base 6 (He.fAd K ("is_placed_by", none)) d_is_placed_by   := Fo.of (fo_d_is_placed_by T) (bi_d_is_placed_by T) (T.fn_ 28 (d := dd_d_is_placed_by)).choose_spec.kp
noncomputable def fd_d_with_square (T : GD fa fns tabs exs w K mg) : FuncData := (T.fn_ 29 (d := dd_d_with_square)).choose
theorem bi_d_with_square (T : GD fa fns tabs exs w K mg) : Binds K (fd_d_with_square T) ["table", "one", "other", "square"] [] := (T.fn_ 29 (d := dd_d_with_square)).choose_spec.bindsN fun _ _ _ _ _ _ us hl => match us, hl with | [_, _, _, _], _ => rfl
theorem fo_d_with_square (T : GD fa fns tabs exs w K mg) : FnOk P w K mg base (L2.CX P w) 1 (He.fAd K ("with_square", none)) (fd_d_with_square T) ["table", "one", "other", "square"] (spD ⟨K, mg⟩ d_with_square) := by
  have sc := sc_d_with_square
  have F := (T.fn_ 29 (d := dd_d_with_square)).choose_spec
  exact fok F sc fun cdv A outer s H E hr tk hp =>
    (pdss_cons (pds_par2 (i := 4) (j := 5) rfl sc.nd (by decide) (pda_cons (pd_sub (pd_max2 rfl (T.free 15) (pdap_cons (pdp_var 1) (pdap_cons (pdp_var 2) pdap_nil))) pd_int) (pda_cons (pd_min2 rfl (T.free 14) (pdap_cons (pdp_var 1) (pdap_cons (pdp_var 2) pdap_nil))) pda_nil)))
    (pdss_cons (pds_set (i := 6) (pd_tup (pda_star (pdp_of (pd_sl (pdp_of (pd_ix (pdp_var 0) (pd_var 4))) pdo_none (pdo_some (pd_var 5)))) (pda_cons (pd_var 3) (pda_star (pdp_of (pd_sl (pdp_of (pd_ix (pdp_var 0) (pd_var 4))) (pdo_some (pd_add (pdp_var 5) (pdp_of pd_int))) pdo_none)) pda_nil)))) sc.nd)
    (pdss_one (pds_ret (pd_tup (pda_star (pdp_of (pd_sl (pdp_var 0) pdo_none (pdo_some (pd_var 4)))) (pda_cons (pd_var 6) (pda_star (pdp_of (pd_sl (pdp_var 0) (pdo_some (pd_add (pdp_var 4) (pdp_of pd_int))) pdo_none)) pda_nil))))))))
theorem ok_d_with_square (T : GD fa fns tabs exs w K mg) : Fo P w ⟨K, mg⟩ base 1 (He.fAd K ("with_square", none)) d_with_square   := Fo.of (fo_d_with_square T) (bi_d_with_square T) (T.fn_ 29 (d := dd_d_with_square)).choose_spec.kp
noncomputable def fd_d_table_behind (T : GD fa fns tabs exs w K mg) : FuncData := (T.fn_ 30 (d := dd_d_table_behind)).choose
theorem bi_d_table_behind (T : GD fa fns tabs exs w K mg) : Binds K (fd_d_table_behind T) ["table", "deed"] [] := (T.fn_ 30 (d := dd_d_table_behind)).choose_spec.bindsN fun _ _ _ _ _ _ us hl => match us, hl with | [_, _], _ => rfl
theorem fo_d_table_behind (T : GD fa fns tabs exs w K mg) : FnOk P w K mg base (L2.CX P w) 2 (He.fAd K ("table_behind", none)) (fd_d_table_behind T) ["table", "deed"] (spD ⟨K, mg⟩ d_table_behind) := by
  have sc := sc_d_table_behind
  have F := (T.fn_ 30 (d := dd_d_table_behind)).choose_spec
  exact fok F sc fun cdv A outer s H E hr tk hp =>
    (pdss_cons (pds_if (pdt_eq (Room.u64 hr) (pdp_of (pd_ix (pdp_var 1) pd_int)) (pdp_of pd_str)) (pdss_one (pds_ret (pd_tup (pda_star (pdp_var 0) (pda_cons (pd_ix (pdp_var 1) pd_int) pda_nil))))) pdss_nil)
    (pdss_one (pds_ret (pd_if (pdt_eq (Room.u64 hr) (pdp_of (pd_ix (pdp_var 1) pd_int)) (pdp_of pd_str)) (pd_sl (pdp_var 0) pdo_none (pdo_some (pd_neg pd_int))) (pd_call (ok_d_with_square T) hr (by decide) (T.glo 65) tk (pda_cons (pd_var 0) (pda_cons (pd_ix (pdp_var 1) pd_int) (pda_cons (pd_ix (pdp_var 1) pd_int) (pda_cons (pd_ix (pdp_var 1) pd_int) pda_nil)))))))))
theorem ok_d_table_behind (T : GD fa fns tabs exs w K mg) : Fo P w ⟨K, mg⟩ base 2 (He.fAd K ("table_behind", none)) d_table_behind   := Fo.of (fo_d_table_behind T) (bi_d_table_behind T) (T.fn_ 30 (d := dd_d_table_behind)).choose_spec.kp
noncomputable def fd_d_reason_against (T : GD fa fns tabs exs w K mg) : FuncData := (T.fn_ 31 (d := dd_d_reason_against)).choose
theorem bi_d_reason_against (T : GD fa fns tabs exs w K mg) : Binds K (fd_d_reason_against T) ["table", "deed"] [] := (T.fn_ 31 (d := dd_d_reason_against)).choose_spec.bindsN fun _ _ _ _ _ _ us hl => match us, hl with | [_, _], _ => rfl
theorem fo_d_reason_against (T : GD fa fns tabs exs w K mg) : FnOk P w K mg base (L2.CX P w) 7 (He.fAd K ("reason_against", none)) (fd_d_reason_against T) ["table", "deed"] (spD ⟨K, mg⟩ d_reason_against) := by
  have sc := sc_d_reason_against
  have F := (T.fn_ 31 (d := dd_d_reason_against)).choose_spec
  exact fok F sc fun cdv A outer s H E hr tk hp =>
    (pdss_cons (pds_set (i := 2) (pd_call (ok_d_reason_by_itself T) hr (by decide) (T.glo 47) tk (pda_cons (pd_var 0) (pda_cons (pd_var 1) pda_nil))) sc.nd)
    (pdss_cons (pds_if (PDW.pdt (pdw_or (pdt_notN (pd_var 2)) (pdw_or1 (pdt_eq (Room.u64 hr) (pdp_of (pd_ix (pdp_var 1) pd_int)) (pdp_of pd_str))))) (pdss_one (pds_ret (pd_var 2))) pdss_nil)
    (pdss_one (pds_ret (pd_if (pdt_val (pd_call (ok_d_is_placed_by T) hr (by decide) (T.glo 64) tk (pda_cons (pd_call (ok_d_table_behind T) hr (by decide) (T.glo 66) tk (pda_cons (pd_var 0) (pda_cons (pd_var 1) pda_nil))) pda_nil))) pd_non (pd_glob (T.gd_str 67)))))))
theorem ok_d_reason_against (T : GD fa fns tabs exs w K mg) : Fo P w ⟨K, mg⟩ base 7 (He.fAd K ("reason_against", none)) d_reason_against   := Fo.of (fo_d_reason_against T) (bi_d_reason_against T) (T.fn_ 31 (d := dd_d_reason_against)).choose_spec.kp
noncomputable def fd_d_Tray_do (T : GD fa fns tabs exs w K mg) : FuncData := (T.fn_ 32 (d := dd_d_Tray_do)).choose
theorem bi_d_Tray_do (T : GD fa fns tabs exs w K mg) : Binds K (fd_d_Tray_do T) ["self", "deed"] [] := (T.fn_ 32 (d := dd_d_Tray_do)).choose_spec.bindsN fun _ _ _ _ _ _ us hl => match us, hl with | [_, _], _ => rfl
theorem fo_d_Tray_do (T : GD fa fns tabs exs w K mg) : FnOk P w K mg base (L2.CX P w) 8 (He.fAd K ("Tray", some "do")) (fd_d_Tray_do T) ["self", "deed"] (spD ⟨K, mg⟩ d_Tray_do) := by
  have sc := sc_d_Tray_do
  have F := (T.fn_ 32 (d := dd_d_Tray_do)).choose_spec
  exact fok F sc fun cdv A outer s H E hr tk hp =>
    (pdss_cons (pds_expr (pd_call (ok_d_check_deed T) hr (by decide) (T.glo 38) tk (pda_cons (pd_var 1) pda_nil)))
    (pdss_cons (pds_set (i := 2) (pd_call (ok_d_reason_against T) hr (by decide) (T.glo 68) tk (pda_cons (pd_fld (fun c hc => (List.mem_singleton.mp hc) ▸ (T.clsF 16 17 18)) (pd_var 0)) (pda_cons (pd_var 1) pda_nil))) sc.nd)
    (pdss_cons (pds_if (pdt_notN (pd_var 2)) (pdss_one (pds_raise (exf_Barred T) rfl tk hr (by decide) (pd_var 2))) pdss_nil)
    (pdss_cons (pds_expr (pd_lm lm_app (pd_fld (fun c hc => (List.mem_singleton.mp hc) ▸ (T.clsF 16 17 20)) (pd_var 0)) (pda_cons (pd_fld (fun c hc => (List.mem_singleton.mp hc) ▸ (T.clsF 16 17 18)) (pd_var 0)) pda_nil)))
    (pdss_cons (pds_fld (fun c hc => (List.mem_singleton.mp hc) ▸ (T.clsF 16 17 18)) (pd_var 0) (pd_call (ok_d_table_behind T) hr (by decide) (T.glo 66) tk (pda_cons (pd_fld (fun c hc => (List.mem_singleton.mp hc) ▸ (T.clsF 16 17 18)) (pd_var 0)) (pda_cons (pd_var 1) pda_nil))))
    (pdss_one (pds_fld (fun c hc => (List.mem_singleton.mp hc) ▸ (T.clsF 16 17 19)) (pd_var 0) (pd_add (pdp_of (pd_fld (fun c hc => (List.mem_singleton.mp hc) ▸ (T.clsF 16 17 19)) (pd_var 0))) (pdp_of (pd_tup (pda_cons (pd_var 1) pda_nil)))))))))))
theorem ok_d_Tray_do (T : GD fa fns tabs exs w K mg) : Fo P w ⟨K, mg⟩ base 8 (He.fAd K ("Tray", some "do")) d_Tray_do   := Fo.of (fo_d_Tray_do T) (bi_d_Tray_do T) (T.fn_ 32 (d := dd_d_Tray_do)).choose_spec.kp
noncomputable def fd_d__law_draw (T : GD fa fns tabs exs w K mg) : FuncData := (T.fn_ 33 (d := dd_d__law_draw)).choose
theorem bi_d__law_draw (T : GD fa fns tabs exs w K mg) : Binds K (fd_d__law_draw T) ["pool", "many"] [] := (T.fn_ 33 (d := dd_d__law_draw)).choose_spec.bindsN fun _ _ _ _ _ _ us hl => match us, hl with | [_, _], _ => rfl
theorem fo_d__law_draw (T : GD fa fns tabs exs w K mg) : FnOk P w K mg base (L2.CX P w) 1 (He.fAd K ("_law_draw", none)) (fd_d__law_draw T) ["pool", "many"] (spD ⟨K, mg⟩ d__law_draw) := by
  have sc := sc_d__law_draw
  have F := (T.fn_ 33 (d := dd_d__law_draw)).choose_spec
  exact fok F sc fun cdv A outer s H E hr tk hp =>
    (pdss_cons (pds_if (pdt_cmp op_gt rop_gt (pd_ix (pdp_var 0) pd_int) pd_int) (pdss_cons (pds_asg (pd_divmod (T.free 70) (pdap_cons (pdp_of (pd_ix (pdp_var 0) pd_int)) (pdap_cons (pdp_var 1) pdap_nil))) (pdgs_tup rfl (pdgss_cons (pdgs_subL (pd_var 0) pd_int) (pdgss_cons (pdgs_nm sc.nd (j := 2)) pdgss_nil))))
    (pdss_one (pds_ret (pd_var 2)))) pdss_nil)
    (pdss_cons (pds_asg (pd_add (pdp_of (pd_ix (pdp_var 0) pd_int)) (pdp_of pd_int)) (pdgs_subL (pd_var 0) pd_int))
    (pdss_cons (pds_set (i := 3) (pd_intc (T.free 29) (pdap_cons (pdp_of (pd_ix (pdp_var 0) pd_int)) pdap_nil)) sc.nd)
    (pdss_cons (pds_asg (pd_mod (pd_intc (T.free 29) (pdap_cons (pdp_of (pd_add (pdp_of (pd_add (pdp_of (pd_mul (pd_var 3) (pd_add (pdp_of (pd_mod (pd_var 3) pd_int)) (pdp_of pd_int)))) (pdp_of (pd_mul pd_int (pd_ix (pdp_var 0) pd_int))))) (pdp_of pd_int))) pdap_nil)) pd_int) (pdgs_subL (pd_var 0) pd_int))
    (pdss_one (pds_ret (pd_mod (pd_intc (T.free 29) (pdap_cons (pdp_of (pd_div (pd_ix (pdp_var 0) pd_int) pd_int)) pdap_nil)) (pd_var 1))))))))
theorem ok_d__law_draw (T : GD fa fns tabs exs w K mg) : Fo P w ⟨K, mg⟩ base 1 (He.fAd K ("_law_draw", none)) d__law_draw   := Fo.of (fo_d__law_draw T) (bi_d__law_draw T) (T.fn_ 33 (d := dd_d__law_draw)).choose_spec.kp
noncomputable def fd_d__law_pick (T : GD fa fns tabs exs w K mg) : FuncData := (T.fn_ 34 (d := dd_d__law_pick)).choose
theorem bi_d__law_pick (T : GD fa fns tabs exs w K mg) : Binds K (fd_d__law_pick T) ["pool", "some"] [] := (T.fn_ 34 (d := dd_d__law_pick)).choose_spec.bindsN fun _ _ _ _ _ _ us hl => match us, hl with | [_, _], _ => rfl
theorem fo_d__law_pick (T : GD fa fns tabs exs w K mg) : FnOk P w K mg base (L2.CX P w) 2 (He.fAd K ("_law_pick", none)) (fd_d__law_pick T) ["pool", "some"] (spD ⟨K, mg⟩ d__law_pick) := by
  have sc := sc_d__law_pick
  have F := (T.fn_ 34 (d := dd_d__law_pick)).choose_spec
  exact fok F sc fun cdv A outer s H E hr tk hp =>
    (pdss_one (pds_ret (pd_ix (pdp_var 1) (pd_call (ok_d__law_draw T) hr (by decide) (T.glo 71) tk (pda_cons (pd_var 0) (pda_cons (pd_len (T.free 13) (pdap_cons (pdp_var 1) pdap_nil)) pda_nil))))))
theorem ok_d__law_pick (T : GD fa fns tabs exs w K mg) : Fo P w ⟨K, mg⟩ base 2 (He.fAd K ("_law_pick", none)) d__law_pick   := Fo.of (fo_d__law_pick T) (bi_d__law_pick T) (T.fn_ 34 (d := dd_d__law_pick)).choose_spec.kp
noncomputable def fd_d_check_tray (T : GD fa fns tabs exs w K mg) : FuncData := (T.fn_ 35 (d := dd_d_check_tray)).choose
theorem bi_d_check_tray (T : GD fa fns tabs exs w K mg) : Binds K (fd_d_check_tray T) ["value"] [] := (T.fn_ 35 (d := dd_d_check_tray)).choose_spec.bindsN fun _ _ _ _ _ _ us hl => match us, hl with | [_], _ => rfl
theorem fo_d_check_tray (T : GD fa fns tabs exs w K mg) : FnOk P w K mg base (L2.CX P w) 3 (He.fAd K ("check_tray", none)) (fd_d_check_tray T) ["value"] (spD ⟨K, mg⟩ d_check_tray) := by
  have sc := sc_d_check_tray
  have F := (T.fn_ 35 (d := dd_d_check_tray)).choose_spec
  exact fok F sc fun cdv A outer s H E hr tk hp =>
    (pdss_one (pds_if (pdt_not (pdt_val (pd_isi (T.isC 16 17 8 9) (T.free 24) (pdap_cons (pdp_var 0) (pdap_cons (pdp_of (pd_glob (T.gd_nm 16))) pdap_nil))))) (pdss_one (pds_raise (exf_NotATray T) rfl tk hr (by decide) (pd_var 0))) pdss_nil))
theorem ok_d_check_tray (T : GD fa fns tabs exs w K mg) : Fo P w ⟨K, mg⟩ base 3 (He.fAd K ("check_tray", none)) d_check_tray   := Fo.of (fo_d_check_tray T) (bi_d_check_tray T) (T.fn_ 35 (d := dd_d_check_tray)).choose_spec.kp
noncomputable def fd_d_copy_of (T : GD fa fns tabs exs w K mg) : FuncData := (T.fn_ 36 (d := dd_d_copy_of)).choose
theorem bi_d_copy_of (T : GD fa fns tabs exs w K mg) : Binds K (fd_d_copy_of T) ["tray"] [] := (T.fn_ 36 (d := dd_d_copy_of)).choose_spec.bindsN fun _ _ _ _ _ _ us hl => match us, hl with | [_], _ => rfl
theorem fo_d_copy_of (T : GD fa fns tabs exs w K mg) : FnOk P w K mg base (L2.CX P w) 9 (He.fAd K ("copy_of", none)) (fd_d_copy_of T) ["tray"] (spD ⟨K, mg⟩ d_copy_of) := by
  have sc := sc_d_copy_of
  have F := (T.fn_ 36 (d := dd_d_copy_of)).choose_spec
  exact fok F sc fun cdv A outer s H E hr tk hp =>
    (pdss_cons (pds_set (i := 1) (pd_make0 (T.clsN 16 22) (ok_d_TrayU_initU T) hr (by decide) tk) sc.nd)
    (pdss_cons (pds_for hp rfl (pdi_seq (pd_fld (fun c hc => (List.mem_singleton.mp hc) ▸ (T.clsF 16 17 19)) (pd_var 0))) (pdg_name sc.nd) (pdss_one (pds_expr (pd_meth (T.clsM 16 17 69) (ok_d_Tray_do T) hr (by decide) tk (pd_var 1) (pda_cons (pd_var 2) pda_nil)))))
    (pdss_one (pds_ret (pd_var 1)))))
theorem ok_d_copy_of (T : GD fa fns tabs exs w K mg) : Fo P w ⟨K, mg⟩ base 9 (He.fAd K ("copy_of", none)) d_copy_of   := Fo.of (fo_d_copy_of T) (bi_d_copy_of T) (T.fn_ 36 (d := dd_d_copy_of)).choose_spec.kp
noncomputable def fd_d_ConsoleU_initU (T : GD fa fns tabs exs w K mg) : FuncData := (T.fn_ 37 (d := dd_d_ConsoleU_initU)).choose
theorem bi_d_ConsoleU_initU (T : GD fa fns tabs exs w K mg) : Binds K (fd_d_ConsoleU_initU T) ["self", "tray"] [] := (T.fn_ 37 (d := dd_d_ConsoleU_initU)).choose_spec.bindsN fun _ _ _ _ _ _ us hl => match us, hl with | [_, _], _ => rfl
theorem fo_d_ConsoleU_initU (T : GD fa fns tabs exs w K mg) : FnOk P w K mg base (L2.CX P w) 10 (He.fAd K ("Console", some "__init__")) (fd_d_ConsoleU_initU T) ["self", "tray"] (spD ⟨K, mg⟩ d_ConsoleU_initU) := by
  have sc := sc_d_ConsoleU_initU
  have F := (T.fn_ 37 (d := dd_d_ConsoleU_initU)).choose_spec
  exact fok F sc fun cdv A outer s H E hr tk hp =>
    (pdss_cons (pds_expr (pd_call (ok_d_check_tray T) hr (by decide) (T.glo 73) tk (pda_cons (pd_var 1) pda_nil)))
    (pdss_one (pds_fld (fun c hc => (List.mem_singleton.mp hc) ▸ (T.clsF 74 75 76)) (pd_var 0) (pd_call (ok_d_copy_of T) hr (by decide) (T.glo 77) tk (pda_cons (pd_var 1) pda_nil)))))
theorem ok_d_ConsoleU_initU (T : GD fa fns tabs exs w K mg) : Fo P w ⟨K, mg⟩ base 10 (He.fAd K ("Console", some "__init__")) d_ConsoleU_initU   := Fo.of (fo_d_ConsoleU_initU T) (bi_d_ConsoleU_initU T) (T.fn_ 37 (d := dd_d_ConsoleU_initU)).choose_spec.kp
theorem kb_d_ConsoleU_initU (T : GD fa fns tabs exs w K mg) : ∀ (s : Shared) (a : Value) (ws : List Value), K.In s.heap → ([a] ++ ws).length = (["self", "tray"] : List Str).length → BindsTo s (fd_d_ConsoleU_initU T) ⟨[a], (["tray"] : List Str).zip ws⟩ ((["self", "tray"] : List Str).zip ([a] ++ ws)) := by
  intro s a ws X hl
  have F := (T.fn_ 37 (d := dd_d_ConsoleU_initU)).choose_spec
  unfold fd_d_ConsoleU_initU
  generalize (T.fn_ 37 (d := dd_d_ConsoleU_initU)).choose = fd at F ⊢
  obtain ⟨oc, od, dV, kV, doc, pm, an, cdv, ct, osl, rfl, lk, hcd, hD, hK⟩ := F.ex
  rcases hD with ⟨_, rfl⟩ | ⟨e, _⟩
  · exact match ws, hl with | [_], _ => .of_eq rfl
  · exact absurd rfl e
noncomputable def fd_d_words_of (T : GD fa fns tabs exs w K mg) : FuncData := (T.fn_ 38 (d := dd_d_words_of)).choose
theorem bi_d_words_of (T : GD fa fns tabs exs w K mg) : Binds K (fd_d_words_of T) ["line"] [] := (T.fn_ 38 (d := dd_d_words_of)).choose_spec.bindsN fun _ _ _ _ _ _ us hl => match us, hl with | [_], _ => rfl
theorem fo_d_words_of (T : GD fa fns tabs exs w K mg) : FnOk P w K mg base (L2.CX P w) 1 (He.fAd K ("words_of", none)) (fd_d_words_of T) ["line"] (spD ⟨K, mg⟩ d_words_of) := by
  have sc := sc_d_words_of
  have F := (T.fn_ 38 (d := dd_d_words_of)).choose_spec
  exact fok F sc fun cdv A outer s H E hr tk hp =>
    (pdss_cons (pds_set (i := 1) (pd_split (pd_var 0) pd_str) sc.nd)
    (pdss_one (pds_ret (pd_if (pdt_in (pdp_of pd_str) (pdp_var 1)) pd_non (pd_var 1)))))
theorem ok_d_words_of (T : GD fa fns tabs exs w K mg) : Fo P w ⟨K, mg⟩ base 1 (He.fAd K ("words_of", none)) d_words_of   := Fo.of (fo_d_words_of T) (bi_d_words_of T) (T.fn_ 38 (d := dd_d_words_of)).choose_spec.kp
noncomputable def fd_d_is_made_of (T : GD fa fns tabs exs w K mg) : FuncData := (T.fn_ 39 (d := dd_d_is_made_of)).choose
theorem bi_d_is_made_of (T : GD fa fns tabs exs w K mg) : Binds K (fd_d_is_made_of T) ["text", "signs"] [] := (T.fn_ 39 (d := dd_d_is_made_of)).choose_spec.bindsN fun _ _ _ _ _ _ us hl => match us, hl with | [_, _], _ => rfl
theorem fo_d_is_made_of (T : GD fa fns tabs exs w K mg) : FnOk P w K mg base (L2.CX P w) 1 (He.fAd K ("is_made_of", none)) (fd_d_is_made_of T) ["text", "signs"] (spD ⟨K, mg⟩ d_is_made_of) := by
  have sc := sc_d_is_made_of
  have F := (T.fn_ 39 (d := dd_d_is_made_of)).choose_spec
  exact fok F sc fun cdv A outer s H E hr tk hp =>
    (pdss_one (pds_ret (pd_and (pd_ne (Room.u64 hr) (pdp_var 0) (pdp_of pd_str)) (pd_one (pd_all rfl (T.free 35) (pdap_cons (pdp_of (pd_fzL (pdl_comp (own := [("sign", 2)]) rfl sc.nd (pdi_seqP (pdp_var 0)) ⟨fun s H C cl fp => (pdg_name sc.nd), fun s H C cl fp => pdts_nil, fun s H C cl fp => (pd_in (pdp_var 2) (pdp_var 1))⟩))) pdap_nil))))))
theorem ok_d_is_made_of (T : GD fa fns tabs exs w K mg) : Fo P w ⟨K, mg⟩ base 1 (He.fAd K ("is_made_of", none)) d_is_made_of   := Fo.of (fo_d_is_made_of T) (bi_d_is_made_of T) (T.fn_ 39 (d := dd_d_is_made_of)).choose_spec.kp
noncomputable def fd_d_number_in (T : GD fa fns tabs exs w K mg) : FuncData := (T.fn_ 40 (d := dd_d_number_in)).choose
theorem bi_d_number_in (T : GD fa fns tabs exs w K mg) : Binds K (fd_d_number_in T) ["word"] [] := (T.fn_ 40 (d := dd_d_number_in)).choose_spec.bindsN fun _ _ _ _ _ _ us hl => match us, hl with | [_], _ => rfl
theorem fo_d_number_in (T : GD fa fns tabs exs w K mg) : FnOk P w K mg base (L2.CX P w) 2 (He.fAd K ("number_in", none)) (fd_d_number_in T) ["word"] (spD ⟨K, mg⟩ d_number_in) := by
  have sc := sc_d_number_in
  have F := (T.fn_ 40 (d := dd_d_number_in)).choose_spec
  exact fok F sc fun cdv A outer s H E hr tk hp =>
    (pdss_cons (pds_if (PDW.pdt (pdw_or (pdt_not (pdt_val (pd_call (ok_d_is_made_of T) hr (by decide) (T.glo 81) tk (pda_cons (pd_var 0) (pda_cons (pd_glob (T.gd_str 82)) pda_nil))))) (pdw_or1 (PDW.pdt (pdw_and (pdt_cmp op_gt rop_gt (pd_len (T.free 13) (pdap_cons (pdp_var 0) pdap_nil)) pd_int) (pdw_and1 (pdt_eq (Room.u64 hr) (pdp_of (pd_ix (pdp_var 0) pd_int)) (pdp_of pd_str)))))))) (pdss_one (pds_ret pd_non)) pdss_nil)
    (pdss_cons (pds_set (i := 1) pd_int sc.nd)
    (pdss_cons (pds_for hp rfl (pdi_seq (pd_var 0)) (pdg_name sc.nd) (pdss_one (pds_set (i := 1) (pd_add (pdp_of (pd_mul pd_int (pd_var 1))) (pdp_of (pd_index (pd_glob (T.gd_str 82)) (pd_var 2)))) sc.nd)))
    (pdss_one (pds_ret (pd_var 1))))))
theorem ok_d_number_in (T : GD fa fns tabs exs w K mg) : Fo P w ⟨K, mg⟩ base 2 (He.fAd K ("number_in", none)) d_number_in   := Fo.of (fo_d_number_in T) (bi_d_number_in T) (T.fn_ 40 (d := dd_d_number_in)).choose_spec.kp
noncomputable def fd_d_numbers_in (T : GD fa fns tabs exs w K mg) : FuncData := (T.fn_ 41 (d := dd_d_numbers_in)).choose
theorem bi_d_numbers_in (T : GD fa fns tabs exs w K mg) : Binds K (fd_d_numbers_in T) ["words"] [] := (T.fn_ 41 (d := dd_d_numbers_in)).choose_spec.bindsN fun _ _ _ _ _ _ us hl => match us, hl with | [_], _ => rfl
theorem fo_d_numbers_in (T : GD fa fns tabs exs w K mg) : FnOk P w K mg base (L2.CX P w) 3 (He.fAd K ("numbers_in", none)) (fd_d_numbers_in T) ["words"] (spD ⟨K, mg⟩ d_numbers_in) := by
  have sc := sc_d_numbers_in
  have F := (T.fn_ 41 (d := dd_d_numbers_in)).choose_spec
  exact fok F sc fun cdv A outer s H E hr tk hp =>
    (pdss_cons (pds_set (i := 1) (pd_tuple (T.free 23) (pdap_cons (pdp_of (pd_fzL (pdl_comp (own := [("word", 2)]) rfl sc.nd (pdi_seqP (pdp_var 0)) ⟨fun s H C cl fp => (pdg_name sc.nd), fun s H C cl fp => pdts_nil, fun s H C cl fp => (pd_call (ok_d_number_in T) hr (by decide) (T.glo 83) takes0 (pda_cons (pd_var 2) pda_nil))⟩))) pdap_nil)) sc.nd)
    (pdss_one (pds_ret (pd_if (pdt_in (pdp_of pd_non) (pdp_var 1)) pd_non (pd_var 1)))))
theorem ok_d_numbers_in (T : GD fa fns tabs exs w K mg) : Fo P w ⟨K, mg⟩ base 3 (He.fAd K ("numbers_in", none)) d_numbers_in   := Fo.of (fo_d_numbers_in T) (bi_d_numbers_in T) (T.fn_ 41 (d := dd_d_numbers_in)).choose_spec.kp
noncomputable def fd_d_deed_in (T : GD fa fns tabs exs w K mg) : FuncData := (T.fn_ 42 (d := dd_d_deed_in)).choose
theorem bi_d_deed_in (T : GD fa fns tabs exs w K mg) : Binds K (fd_d_deed_in T) ["words", "numbers"] [] := (T.fn_ 42 (d := dd_d_deed_in)).choose_spec.bindsN fun _ _ _ _ _ _ us hl => match us, hl with | [_, _], _ => rfl
theorem fo_d_deed_in (T : GD fa fns tabs exs w K mg) : FnOk P w K mg base (L2.CX P w) 1 (He.fAd K ("deed_in", none)) (fd_d_deed_in T) ["words", "numbers"] (spD ⟨K, mg⟩ d_deed_in) := by
  have sc := sc_d_deed_in
  have F := (T.fn_ 42 (d := dd_d_deed_in)).choose_spec
  exact fok F sc fun cdv A outer s H E hr tk hp =>
    (pdss_cons (pds_if (pdt_eq (Room.u64 hr) (pdp_var 0) (pdp_of (pd_lst (k := 0) (pda_cons pd_str pda_nil)))) (pdss_one (pds_ret (pd_tup (pda_cons pd_str pda_nil)))) pdss_nil)
    (pdss_cons (pds_if (pdt_eq (Room.u64 hr) (pdp_of (pd_ix (pdp_var 0) pd_int)) (pdp_of pd_str)) (pdss_one (pds_ret (pd_tup (pda_cons pd_str (pda_star (pdp_var 1) pda_nil))))) pdss_nil)
    (pdss_one (pds_ret (pd_if (pdt_eq (Room.u64 hr) (pdp_of (pd_ix (pdp_var 0) pd_int)) (pdp_of pd_str)) (pd_tup (pda_cons pd_str (pda_cons (pd_var 1) pda_nil))) pd_non)))))
theorem ok_d_deed_in (T : GD fa fns tabs exs w K mg) : Fo P w ⟨K, mg⟩ base 1 (He.fAd K ("deed_in", none)) d_deed_in   := Fo.of (fo_d_deed_in T) (bi_d_deed_in T) (T.fn_ 42 (d := dd_d_deed_in)).choose_spec.kp
noncomputable def fd_d_said_of_deed (T : GD fa fns tabs exs w K mg) : FuncData := (T.fn_ 43 (d := dd_d_said_of_deed)).choose
theorem bi_d_said_of_deed (T : GD fa fns tabs exs w K mg) : Binds K (fd_d_said_of_deed T) ["tray", "deed"] [] := (T.fn_ 43 (d := dd_d_said_of_deed)).choose_spec.bindsN fun _ _ _ _ _ _ us hl => match us, hl with | [_, _], _ => rfl
theorem fo_d_said_of_deed (T : GD fa fns tabs exs w K mg) : FnOk P w K mg base (L2.CX P w) 9 (He.fAd K ("said_of_deed", none)) (fd_d_said_of_deed T) ["tray", "deed"] (spD ⟨K, mg⟩ d_said_of_deed) := by
  have sc := sc_d_said_of_deed
  have F := (T.fn_ 43 (d := dd_d_said_of_deed)).choose_spec
  exact fok F sc fun cdv A outer s H E hr tk hp =>
    (pdss_cons (pds_tryM (.cons (oneH_su ⟨⟨_, T.names 1, catch_InvalidDeed T⟩⟩ (fun a pn => (pdss_one (pds_ret (pd_glob (T.gd_str 85))))) (fun _ _ _ _ _ _ h => by cases h)) (.cons (oneH_fld (i := 2) ⟨⟨_, T.names 4, catch_Barred T⟩⟩ (fun c hc => (List.mem_singleton.mp hc) ▸ (T.xfn 4 10 5)) sc.nd) .nil)) rfl rfl sc.nd tk (fun W pn xe tk hp => (pdss_one (pds_expr (pd_meth (T.clsM 16 17 69) (ok_d_Tray_do T) hr (by decide) tk (pd_var 0) (pda_cons (pd_var 1) pda_nil))))))
    (pdss_one (pds_ret (pd_glob (T.gd_str 87)))))
theorem ok_d_said_of_deed (T : GD fa fns tabs exs w K mg) : Fo P w ⟨K, mg⟩ base 9 (He.fAd K ("said_of_deed", none)) d_said_of_deed   := Fo.of (fo_d_said_of_deed T) (bi_d_said_of_deed T) (T.fn_ 43 (d := dd_d_said_of_deed)).choose_spec.kp
noncomputable def fd_d_is_thing (T : GD fa fns tabs exs w K mg) : FuncData := (T.fn_ 44 (d := dd_d_is_thing)).choose
theorem bi_d_is_thing (T : GD fa fns tabs exs w K mg) : Binds K (fd_d_is_thing T) ["table", "value"] [] := (T.fn_ 44 (d := dd_d_is_thing)).choose_spec.bindsN fun _ _ _ _ _ _ us hl => match us, hl with | [_, _], _ => rfl
theorem fo_d_is_thing (T : GD fa fns tabs exs w K mg) : FnOk P w K mg base (L2.CX P w) 3 (He.fAd K ("is_thing", none)) (fd_d_is_thing T) ["table", "value"] (spD ⟨K, mg⟩ d_is_thing) := by
  have sc := sc_d_is_thing
  have F := (T.fn_ 44 (d := dd_d_is_thing)).choose_spec
  exact fok F sc fun cdv A outer s H E hr tk hp =>
    (pdss_one (pds_ret (pd_call (ok_d_is_between T) hr (by decide) (T.glo 32) tk (pda_cons (pd_var 1) (pda_cons pd_int (pda_cons (pd_len (T.free 13) (pdap_cons (pdp_var 0) pdap_nil)) pda_nil))))))
theorem ok_d_is_thing (T : GD fa fns tabs exs w K mg) : Fo P w ⟨K, mg⟩ base 3 (He.fAd K ("is_thing", none)) d_is_thing   := Fo.of (fo_d_is_thing T) (bi_d_is_thing T) (T.fn_ 44 (d := dd_d_is_thing)).choose_spec.kp
noncomputable def fd_d_said_of_two (T : GD fa fns tabs exs w K mg) : FuncData := (T.fn_ 45 (d := dd_d_said_of_two)).choose
theorem bi_d_said_of_two (T : GD fa fns tabs exs w K mg) : Binds K (fd_d_said_of_two T) ["table", "word", "one", "other"] [] := (T.fn_ 45 (d := dd_d_said_of_two)).choose_spec.bindsN fun _ _ _ _ _ _ us hl => match us, hl with | [_, _, _, _], _ => rfl
theorem fo_d_said_of_two (T : GD fa fns tabs exs w K mg) : FnOk P w K mg base (L2.CX P w) 4 (He.fAd K ("said_of_two", none)) (fd_d_said_of_two T) ["table", "word", "one", "other"] (spD ⟨K, mg⟩ d_said_of_two) := by
  have sc := sc_d_said_of_two
  have F := (T.fn_ 45 (d := dd_d_said_of_two)).choose_spec
  exact fok F sc fun cdv A outer s H E hr tk hp =>
    (pdss_cons (pds_if (PDW.pdt (pdw_or (pdt_not (pdt_val (pd_call (ok_d_is_thing T) hr (by decide) (T.glo 90) tk (pda_cons (pd_var 0) (pda_cons (pd_var 2) pda_nil))))) (pdw_or1 (pdt_not (pdt_val (pd_call (ok_d_is_thing T) hr (by decide) (T.glo 90) tk (pda_cons (pd_var 0) (pda_cons (pd_var 3) pda_nil)))))))) (pdss_one (pds_ret (pd_glob (T.gd_str 91)))) pdss_nil)
    (pdss_cons (pds_if (pdt_eq (Room.u64 hr) (pdp_var 1) (pdp_of pd_str)) (pdss_one (pds_ret (pd_str_ (T.free 25) (pdap_cons (pdp_of (pd_call (ok_d_square_of T) hr (by decide) (T.glo 45) tk (pda_cons (pd_var 0) (pda_cons (pd_var 2) (pda_cons (pd_var 3) pda_nil))))) pdap_nil)))) pdss_nil)
    (pdss_cons (pds_if (PDW.pdt (pdw_or (pdt_eq (Room.u64 hr) (pdp_var 2) (pdp_var 3)) (pdw_or1 (pdt_cmp op_lt rop_lt (pd_call (ok_d_things_of T) hr (by decide) (T.glo 39) tk (pda_cons (pd_var 0) pda_nil)) (pd_glob (T.gd_int 92)))))) (pdss_one (pds_ret (pd_glob (T.gd_str 91)))) pdss_nil)
    (pdss_cons (pds_if (pdt_eq (Room.u64 hr) (pdp_var 1) (pdp_of pd_str)) (pdss_cons (pds_set (i := 4) pd_never sc.nd)
    (pdss_one (pds_ret (pd_if (pdt_isN (pd_var 4)) (pd_glob (T.gd_str 91)) pd_never)))) pdss_nil)
    (pdss_cons (pds_set (i := 5) pd_never sc.nd)
    (pdss_one (pds_ret (pd_if (pdt_cmp op_gt rop_gt (pd_len (T.free 13) (pdap_cons (pdp_var 5) pdap_nil)) pd_int) pd_never (pd_glob (T.gd_str 91))))))))))
theorem ok_d_said_of_two (T : GD fa fns tabs exs w K mg) : Fo P w ⟨K, mg⟩ base 4 (He.fAd K ("said_of_two", none)) d_said_of_two   := Fo.of (fo_d_said_of_two T) (bi_d_said_of_two T) (T.fn_ 45 (d := dd_d_said_of_two)).choose_spec.kp
noncomputable def fd_d_Tray_undo (T : GD fa fns tabs exs w K mg) : FuncData := (T.fn_ 46 (d := dd_d_Tray_undo)).choose
theorem bi_d_Tray_undo (T : GD fa fns tabs exs w K mg) : Binds K (fd_d_Tray_undo T) ["self"] [] := (T.fn_ 46 (d := dd_d_Tray_undo)).choose_spec.bindsN fun _ _ _ _ _ _ us hl => match us, hl with | [_], _ => rfl
theorem fo_d_Tray_undo (T : GD fa fns tabs exs w K mg) : FnOk P w K mg base (L2.CX P w) 1 (He.fAd K ("Tray", some "undo")) (fd_d_Tray_undo T) ["self"] (spD ⟨K, mg⟩ d_Tray_undo) := by
  have sc := sc_d_Tray_undo
  have F := (T.fn_ 46 (d := dd_d_Tray_undo)).choose_spec
  exact fok F sc fun cdv A outer s H E hr tk hp =>
    (pdss_cons (pds_if (pdt_eq (Room.u64 hr) (pdp_of (pd_fld (fun c hc => (List.mem_singleton.mp hc) ▸ (T.clsF 16 17 20)) (pd_var 0))) (pdp_of (pd_lst (k := 0) pda_nil))) (pdss_one (pds_raise0 (T.exn 94 12) rfl tk)) pdss_nil)
    (pdss_cons (pds_fld (fun c hc => (List.mem_singleton.mp hc) ▸ (T.clsF 16 17 18)) (pd_var 0) (pd_lm0 lm_pop (pd_fld (fun c hc => (List.mem_singleton.mp hc) ▸ (T.clsF 16 17 20)) (pd_var 0))))
    (pdss_one (pds_fld (fun c hc => (List.mem_singleton.mp hc) ▸ (T.clsF 16 17 19)) (pd_var 0) (pd_sl (pdp_of (pd_fld (fun c hc => (List.mem_singleton.mp hc) ▸ (T.clsF 16 17 19)) (pd_var 0))) pdo_none (pdo_some (pd_neg pd_int)))))))
theorem ok_d_Tray_undo (T : GD fa fns tabs exs w K mg) : Fo P w ⟨K, mg⟩ base 1 (He.fAd K ("Tray", some "undo")) d_Tray_undo   := Fo.of (fo_d_Tray_undo T) (bi_d_Tray_undo T) (T.fn_ 46 (d := dd_d_Tray_undo)).choose_spec.kp
noncomputable def fd_d_said_of_undo (T : GD fa fns tabs exs w K mg) : FuncData := (T.fn_ 47 (d := dd_d_said_of_undo)).choose
theorem bi_d_said_of_undo (T : GD fa fns tabs exs w K mg) : Binds K (fd_d_said_of_undo T) ["tray"] [] := (T.fn_ 47 (d := dd_d_said_of_undo)).choose_spec.bindsN fun _ _ _ _ _ _ us hl => match us, hl with | [_], _ => rfl
theorem fo_d_said_of_undo (T : GD fa fns tabs exs w K mg) : FnOk P w K mg base (L2.CX P w) 2 (He.fAd K ("said_of_undo", none)) (fd_d_said_of_undo T) ["tray"] (spD ⟨K, mg⟩ d_said_of_undo) := by
  have sc := sc_d_said_of_undo
  have F := (T.fn_ 47 (d := dd_d_said_of_undo)).choose_spec
  exact fok F sc fun cdv A outer s H E hr tk hp =>
    (pdss_cons (pds_tryM (.cons (oneH_su ⟨⟨_, T.names 94, catch_NothingToUndo T⟩⟩ (fun a pn => (pdss_one (pds_ret (pd_glob (T.gd_str 95))))) (fun _ _ _ _ _ _ h => by cases h)) .nil) rfl rfl sc.nd tk (fun W pn xe tk hp => (pdss_one (pds_expr (pd_meth0 (T.clsM 16 17 96) (ok_d_Tray_undo T) hr (by decide) tk (pd_var 0))))))
    (pdss_one (pds_ret (pd_glob (T.gd_str 87)))))
theorem ok_d_said_of_undo (T : GD fa fns tabs exs w K mg) : Fo P w ⟨K, mg⟩ base 2 (He.fAd K ("said_of_undo", none)) d_said_of_undo   := Fo.of (fo_d_said_of_undo T) (bi_d_said_of_undo T) (T.fn_ 47 (d := dd_d_said_of_undo)).choose_spec.kp
noncomputable def fd_d_said_of_word (T : GD fa fns tabs exs w K mg) : FuncData := (T.fn_ 48 (d := dd_d_said_of_word)).choose
theorem bi_d_said_of_word (T : GD fa fns tabs exs w K mg) : Binds K (fd_d_said_of_word T) ["tray", "word"] [] := (T.fn_ 48 (d := dd_d_said_of_word)).choose_spec.bindsN fun _ _ _ _ _ _ us hl => match us, hl with | [_, _], _ => rfl
theorem fo_d_said_of_word (T : GD fa fns tabs exs w K mg) : FnOk P w K mg base (L2.CX P w) 3 (He.fAd K ("said_of_word", none)) (fd_d_said_of_word T) ["tray", "word"] (spD ⟨K, mg⟩ d_said_of_word) := by
  have sc := sc_d_said_of_word
  have F := (T.fn_ 48 (d := dd_d_said_of_word)).choose_spec
  exact fok F sc fun cdv A outer s H E hr tk hp =>
    (pdss_cons (pds_if (pdt_eq (Room.u64 hr) (pdp_var 1) (pdp_of pd_str)) (pdss_one (pds_ret (pd_call (ok_d_said_of_undo T) hr (by decide) (T.glo 97) tk (pda_cons (pd_var 0) pda_nil)))) pdss_nil)
    (pdss_cons (pds_if (pdt_eq (Room.u64 hr) (pdp_var 1) (pdp_of pd_str)) (pdss_one (pds_ret (pd_str_ (T.free 25) (pdap_cons (pdp_of (pd_call (ok_d_things_of T) hr (by decide) (T.glo 39) tk (pda_cons (pd_fld (fun c hc => (List.mem_singleton.mp hc) ▸ (T.clsF 16 17 18)) (pd_var 0)) pda_nil))) pdap_nil)))) pdss_nil)
    (pdss_cons (pds_if (pdt_eq (Room.u64 hr) (pdp_var 1) (pdp_of pd_str)) (pdss_one (pds_ret (pd_str_ (T.free 25) (pdap_cons (pdp_of pd_never) pdap_nil)))) pdss_nil)
    (pdss_one (pds_ret (pd_if (pdt_eq (Room.u64 hr) (pdp_var 1) (pdp_of pd_str)) pd_never (pd_glob (T.gd_str 85))))))))
theorem ok_d_said_of_word (T : GD fa fns tabs exs w K mg) : Fo P w ⟨K, mg⟩ base 3 (He.fAd K ("said_of_word", none)) d_said_of_word   := Fo.of (fo_d_said_of_word T) (bi_d_said_of_word T) (T.fn_ 48 (d := dd_d_said_of_word)).choose_spec.kp
noncomputable def fd_d_Console_say (T : GD fa fns tabs exs w K mg) : FuncData := (T.fn_ 49 (d := dd_d_Console_say)).choose
theorem bi_d_Console_say (T : GD fa fns tabs exs w K mg) : Binds K (fd_d_Console_say T) ["self", "line"] [] := (T.fn_ 49 (d := dd_d_Console_say)).choose_spec.bindsN fun _ _ _ _ _ _ us hl => match us, hl with | [_, _], _ => rfl
theorem fo_d_Console_say (T : GD fa fns tabs exs w K mg) : FnOk P w K mg base (L2.CX P w) 10 (He.fAd K ("Console", some "say")) (fd_d_Console_say T) ["self", "line"] (spD ⟨K, mg⟩ d_Console_say) := by
  have sc := sc_d_Console_say
  have F := (T.fn_ 49 (d := dd_d_Console_say)).choose_spec
  exact fok F sc fun cdv A outer s H E hr tk hp =>
    (pdss_cons (pds_if (pdt_not (pdt_val (pd_call (ok_d_is_string T) hr (by decide) (T.glo 26) tk (pda_cons (pd_var 1) pda_nil)))) (pdss_one (pds_raise (exf_InvalidLine T) rfl tk hr (by decide) (pd_var 1))) pdss_nil)
    (pdss_cons (pds_set (i := 2) (pd_call (ok_d_words_of T) hr (by decide) (T.glo 80) tk (pda_cons (pd_var 1) pda_nil)) sc.nd)
    (pdss_cons (pds_set (i := 3) (pd_if (pdt_notN (pd_var 2)) (pd_call (ok_d_numbers_in T) hr (by decide) (T.glo 84) tk (pda_cons (pd_sl (pdp_var 2) (pdo_some pd_int) pdo_none) pda_nil)) pd_non) sc.nd)
    (pdss_cons (pds_if (pdt_isN (pd_var 3)) (pdss_one (pds_ret (pd_glob (T.gd_str 85)))) pdss_nil)
    (pdss_cons (pds_set (i := 4) (pd_call (ok_d_deed_in T) hr (by decide) (T.glo 86) tk (pda_cons (pd_var 2) (pda_cons (pd_var 3) pda_nil))) sc.nd)
    (pdss_cons (pds_if (pdt_notN (pd_var 4)) (pdss_one (pds_ret (pd_call (ok_d_said_of_deed T) hr (by decide) (T.glo 88) tk (pda_cons (pd_fld (fun c hc => (List.mem_singleton.mp hc) ▸ (T.clsF 74 75 76)) (pd_var 0)) (pda_cons (pd_var 4) pda_nil))))) pdss_nil)
    (pdss_cons (pds_if (PDW.pdt (pdw_and (pdt_in (pdp_of (pd_ix (pdp_var 2) pd_int)) (pdp_of (pd_glob (T.gd_tupS (ns := ["square", "room", "whole"]) 89 11)))) (pdw_and1 (pdt_eq (Room.u64 hr) (pdp_of (pd_len (T.free 13) (pdap_cons (pdp_var 3) pdap_nil))) (pdp_of pd_int))))) (pdss_one (pds_ret (pd_call (ok_d_said_of_two T) hr (by decide) (T.glo 93) tk (pda_cons (pd_fld (fun c hc => (List.mem_singleton.mp hc) ▸ (T.clsF 16 17 18)) (pd_fld (fun c hc => (List.mem_singleton.mp hc) ▸ (T.clsF 74 75 76)) (pd_var 0))) (pda_cons (pd_ix (pdp_var 2) pd_int) (pda_cons (pd_ix (pdp_var 3) pd_int) (pda_cons (pd_ix (pdp_var 3) pd_int) pda_nil))))))) pdss_nil)
    (pdss_one (pds_ret (pd_if (pdt_eq (Room.u64 hr) (pdp_of (pd_len (T.free 13) (pdap_cons (pdp_var 2) pdap_nil))) (pdp_of pd_int)) (pd_call (ok_d_said_of_word T) hr (by decide) (T.glo 98) tk (pda_cons (pd_fld (fun c hc => (List.mem_singleton.mp hc) ▸ (T.clsF 74 75 76)) (pd_var 0)) (pda_cons (pd_ix (pdp_var 2) pd_int) pda_nil))) (pd_glob (T.gd_str 85))))))))))))
theorem ok_d_Console_say (T : GD fa fns tabs exs w K mg) : Fo P w ⟨K, mg⟩ base 10 (He.fAd K ("Console", some "say")) d_Console_say   := Fo.of (fo_d_Console_say T) (bi_d_Console_say T) (T.fn_ 49 (d := dd_d_Console_say)).choose_spec.kp
theorem kb_d_Console_say (T : GD fa fns tabs exs w K mg) : ∀ (s : Shared) (a : Value) (ws : List Value), K.In s.heap → ([a] ++ ws).length = (["self", "line"] : List Str).length → BindsTo s (fd_d_Console_say T) ⟨[a], (["line"] : List Str).zip ws⟩ ((["self", "line"] : List Str).zip ([a] ++ ws)) := by
  intro s a ws X hl
  have F := (T.fn_ 49 (d := dd_d_Console_say)).choose_spec
  unfold fd_d_Console_say
  generalize (T.fn_ 49 (d := dd_d_Console_say)).choose = fd at F ⊢
  obtain ⟨oc, od, dV, kV, doc, pm, an, cdv, ct, osl, rfl, lk, hcd, hD, hK⟩ := F.ex
  rcases hD with ⟨_, rfl⟩ | ⟨e, _⟩
  · exact match ws, hl with | [_], _ => .of_eq rfl
  · exact absurd rfl e
noncomputable def fd_d__law_odd_line (T : GD fa fns tabs exs w K mg) : FuncData := (T.fn_ 50 (d := dd_d__law_odd_line)).choose
theorem bi_d__law_odd_line (T : GD fa fns tabs exs w K mg) : Binds K (fd_d__law_odd_line T) ["pool"] [] := (T.fn_ 50 (d := dd_d__law_odd_line)).choose_spec.bindsN fun _ _ _ _ _ _ us hl => match us, hl with | [_], _ => rfl
theorem fo_d__law_odd_line (T : GD fa fns tabs exs w K mg) : FnOk P w K mg base (L2.CX P w) 3 (He.fAd K ("_law_odd_line", none)) (fd_d__law_odd_line T) ["pool"] (spD ⟨K, mg⟩ d__law_odd_line) := by
  have sc := sc_d__law_odd_line
  have F := (T.fn_ 50 (d := dd_d__law_odd_line)).choose_spec
  exact fok F sc fun cdv A outer s H E hr tk hp =>
    (pdss_cons (pds_set (i := 1) (pd_lst (k := 0) (pda_cons pd_str (pda_cons pd_str (pda_cons pd_str (pda_cons pd_str (pda_cons pd_str (pda_cons pd_str (pda_cons pd_str (pda_cons pd_str pda_nil))))))))) sc.nd)
    (pdss_cons (pds_set (i := 1) (pd_add (pdp_var 1) (pdp_of (pd_lst (k := 0) (pda_cons pd_str (pda_cons pd_str pda_nil))))) sc.nd)
    (pdss_cons (pds_par2 (i := 2) (j := 3) rfl sc.nd (by decide) (pda_cons (pd_call (ok_d__law_pick T) hr (by decide) (T.glo 72) tk (pda_cons (pd_var 0) (pda_cons (pd_var 1) pda_nil))) (pda_cons (pd_call (ok_d__law_draw T) hr (by decide) (T.glo 71) tk (pda_cons (pd_var 0) (pda_cons pd_int pda_nil))) pda_nil)))
    (pdss_cons (pds_if (pdt_eq (Room.u64 hr) (pdp_var 3) (pdp_of pd_int)) (pdss_one (pds_ret (pd_add (pdp_var 2) (pdp_of (pd_call (ok_d__law_pick T) hr (by decide) (T.glo 72) tk (pda_cons (pd_var 0) (pda_cons (pd_lst (k := 0) (pda_cons pd_str (pda_cons pd_str (pda_cons pd_str (pda_cons pd_str (pda_cons pd_str (pda_cons pd_str (pda_cons pd_str pda_nil)))))))) pda_nil))))))) pdss_nil)
    (pdss_cons (pds_if (pdt_eq (Room.u64 hr) (pdp_var 3) (pdp_of pd_int)) (pdss_one (pds_ret (pd_add (pdp_of (pd_call (ok_d__law_pick T) hr (by decide) (T.glo 72) tk (pda_cons (pd_var 0) (pda_cons (pd_lst (k := 0) (pda_cons pd_str (pda_cons pd_str (pda_cons pd_str pda_nil)))) pda_nil)))) (pdp_var 2)))) pdss_nil)
    (pdss_cons (pds_if (pdt_eq (Room.u64 hr) (pdp_var 3) (pdp_of pd_int)) (pdss_one (pds_ret (pd_replIf (pd_var 2) (pd_var 2) (pd_add (pdp_of (pd_add (pdp_var 2) (pdp_of pd_str))) (pdp_var 2))))) pdss_nil)
    (pdss_cons (pds_if (pdt_eq (Room.u64 hr) (pdp_var 3) (pdp_of pd_int)) (pdss_one (pds_ret (pd_add (pdp_of (pd_upper (pd_sl (pdp_var 2) pdo_none (pdo_some pd_int)))) (pdp_of (pd_sl (pdp_var 2) (pdo_some pd_int) pdo_none))))) pdss_nil)
    (pdss_cons (pds_if (PDW.pdt (pdw_and (pdt_eq (Room.u64 hr) (pdp_var 3) (pdp_of pd_int)) (pdw_and1 (pdt_in (pdp_of pd_str) (pdp_var 2))))) (pdss_one (pds_ret (pd_add (pdp_var 2) (pdp_of (pd_call (ok_d__law_pick T) hr (by decide) (T.glo 72) tk (pda_cons (pd_var 0) (pda_cons (pd_lst (k := 0) (pda_cons pd_str (pda_cons pd_str (pda_cons pd_str (pda_cons pd_str (pda_cons pd_str pda_nil)))))) pda_nil))))))) pdss_nil)
    (pdss_cons (pds_set (i := 4) (pd_lst (k := 0) (pda_cons pd_str (pda_cons pd_str (pda_cons pd_str (pda_cons pd_str (pda_cons pd_str (pda_cons pd_str (pda_cons pd_str (pda_cons pd_str (pda_cons pd_str pda_nil)))))))))) sc.nd)
    (pdss_cons (pds_set (i := 4) (pd_add (pdp_var 4) (pdp_of (pd_lst (k := 0) (pda_cons pd_str (pda_cons pd_str pda_nil))))) sc.nd)
    (pdss_cons (pds_set (i := 4) (pd_add (pdp_var 4) (pdp_of (pd_lst (k := 0) (pda_cons pd_str (pda_cons pd_str (pda_cons pd_str (pda_cons pd_str (pda_cons pd_str (pda_cons pd_str (pda_cons pd_str pda_nil)))))))))) sc.nd)
    (pdss_one (pds_ret (pd_call (ok_d__law_pick T) hr (by decide) (T.glo 72) tk (pda_cons (pd_var 0) (pda_cons (pd_add (pdp_var 4) (pdp_of (pd_lst (k := 0) (pda_cons pd_str pda_nil)))) pda_nil))))))))))))))))
theorem ok_d__law_odd_line (T : GD fa fns tabs exs w K mg) : Fo P w ⟨K, mg⟩ base 3 (He.fAd K ("_law_odd_line", none)) d__law_odd_line   := Fo.of (fo_d__law_odd_line T) (bi_d__law_odd_line T) (T.fn_ 50 (d := dd_d__law_odd_line)).choose_spec.kp
noncomputable def fd_d__law_refused (T : GD fa fns tabs exs w K mg) : FuncData := (T.fn_ 51 (d := dd_d__law_refused)).choose
theorem bi_d__law_refused (T : GD fa fns tabs exs w K mg) : Binds K (fd_d__law_refused T) ["call"] [] := (T.fn_ 51 (d := dd_d__law_refused)).choose_spec.bindsN fun _ _ _ _ _ _ us hl => match us, hl with | [_], _ => rfl
noncomputable def fd_d__law_right (T : GD fa fns tabs exs w K mg) : FuncData := (T.fn_ 52 (d := dd_d__law_right)).choose
theorem bi_d__law_right (T : GD fa fns tabs exs w K mg) : Binds K (fd_d__law_right T) ["pool"] [] := (T.fn_ 52 (d := dd_d__law_right)).choose_spec.bindsN fun _ _ _ _ _ _ us hl => match us, hl with | [_], _ => rfl
theorem fg_d__law_right (T : GD fa fns tabs exs w K mg) (TB : TBs K mg base [("_law_right", none)]) : FnG P w K mg base 14 (He.fAd K ("_law_right", none)) (fd_d__law_right T) ["pool"] (spD ⟨K, mg⟩ d__law_right) := by
  have sc := sc_d__law_right
  have F := (T.fn_ 52 (d := dd_d__law_right)).choose_spec
  exact fokGT F sc fun cdv A outer s H E hcd hgd hr tk hp =>
    (pdss_cons (pds_set (i := 1) (pd_make0 (T.clsN 16 22) (ok_d_TrayU_initU T) hr (by decide) tk) sc.nd)
    (pdss_cons (pds_expr (pd_meth (T.clsM 16 17 69) (ok_d_Tray_do T) hr (by decide) tk (pd_var 1) (pda_cons (pd_tup (pda_cons pd_str (pda_cons (pd_tup (pda_cons (pd_call (ok_d__law_pick T) hr (by decide) (T.glo 72) tk (pda_cons (pd_var 0) (pda_cons (pd_lst (k := 0) (pda_cons pd_int (pda_cons pd_int pda_nil))) pda_nil))) pda_nil)) pda_nil))) pda_nil)))
    (pdss_cons (pds_set (i := 2) (pd_makeK (T.clsN 74 79) (fo_d_ConsoleU_initU T) (kb_d_ConsoleU_initU T) hr (by decide) tk (pdk_cons (pd_var 1) pdk_nil)) sc.nd)
    (pdss_cons (pds_set (i := 3) (pd_lst (k := 0) (pda_cons (pd_meth (T.clsM 74 75 99) (ok_d_Console_say T) hr (by decide) tk (pd_var 2) (pda_cons pd_str pda_nil)) (pda_cons (pd_meth (T.clsM 74 75 99) (ok_d_Console_say T) hr (by decide) tk (pd_var 2) (pda_cons pd_str pda_nil)) pda_nil))) sc.nd)
    (pdss_cons (pds_for hp rfl (pdi_rng1 (T.free 12) pd_int) (pdg_name sc.nd) (pdss_cons (pds_set (i := 5) (pd_call (ok_d__law_odd_line T) hr (by decide) (T.glo 100) tk (pda_cons (pd_var 0) pda_nil)) sc.nd)
    (pdss_cons (pds_set (i := 6) (pd_lst (k := 0) (pda_cons (pd_meth (T.clsM 74 75 99) (ok_d_Console_say T) hr (by decide) tk (pd_var 2) (pda_cons (pd_var 5) pda_nil)) (pda_cons (pd_meth (T.clsM 74 75 99) (ok_d_Console_say T) hr (by decide) tk (pd_var 2) (pda_cons pd_str pda_nil)) (pda_cons (pd_meth (T.clsM 74 75 99) (ok_d_Console_say T) hr (by decide) tk (pd_var 2) (pda_cons pd_str pda_nil)) pda_nil)))) sc.nd)
    (pdss_one (pds_if (pdt_ne (Room.u64 hr) (pdp_of (pd_reprX hgd (Room.u66 hr) (T.free 101) (pdap_cons (pdp_var 6) pdap_nil))) (pdp_of (pd_repr hgd (Room.u66 hr) (T.free 101) (pdap_cons (pdp_of (pd_add (pdp_of (pd_lst (k := 0) (pda_cons pd_str pda_nil))) (pdp_var 3))) pdap_nil)))) (pdss_one (pds_ret pd_bl)) pdss_nil)))))
    (pdss_cons (pds_for hp rfl (pdi_seq (pd_lst (k := 0) (pda_cons pd_non (pda_cons pd_int (pda_cons (pd_tup (pda_cons pd_str pda_nil)) (pda_cons (pd_lst (k := 0) (pda_cons pd_str pda_nil)) (pda_cons pd_bl (pda_cons pd_dct pda_nil)))))))) (pdg_name sc.nd) (pdss_cons (pds_if (pdt_ne (Room.u64 hr) (pdp_of (pd_refused (k := 10) (T.fn_ 51 (d := dd_d__law_refused)).choose_spec (bi_d__law_refused T) sc_d__law_refused (T.glo 102) (T.fn_ 51 (d := dd_d__law_refused)).choose_spec.kp rfl (.inl rfl) (TB ("_law_right", none) (.head _)) hcd rfl (hr.mono (by decide)) (LamX.lamS_by (by show LamX.lamSB dd_d__law_right.scope _ = true; decide +kernel)) rfl (fun _ _ _ _ _ => rfl)
    (fun cdv s1 H1 hr => have sc2 := sc_d__law_refused; (.cons (oneH_line (i := 1) ⟨⟨_, T.names 7, catch_InvalidLine T⟩⟩ (xci1 (T.xci 7 13 14 103 15)) sc2.nd (T.free 24) hgd (Room.u66 hr) (T.free 101) (fun c hc => (List.mem_singleton.mp hc) ▸ (T.xfn 7 13 8))) (.cons (oneH_line (i := 1) ⟨⟨_, T.names 10, catch_NotATray T⟩⟩ (xci1 (T.xci 10 16 17 103 18)) sc2.nd (T.free 24) hgd (Room.u66 hr) (T.free 101) (fun c hc => (List.mem_singleton.mp hc) ▸ (T.xfn 10 16 11))) .nil)))
    (fun A outer s H E f c1 hr tk => (pd_meth (T.clsM 74 75 99) (ok_d_Console_say T) hr (by decide) tk (pd_var 2) (pda_cons (pd_var 7) pda_nil))))) (pdp_of (pd_lst (k := 0) (pda_cons pd_str (pda_cons (pd_reprX hgd (Room.u66 hr) (T.free 101) (pdap_cons (pdp_var 7) pdap_nil)) (pda_cons pd_bl pda_nil)))))) (pdss_one (pds_ret pd_bl)) pdss_nil)
    (pdss_one (pds_if (pdt_ne (Room.u64 hr) (pdp_of (pd_refused (k := 11) (T.fn_ 51 (d := dd_d__law_refused)).choose_spec (bi_d__law_refused T) sc_d__law_refused (T.glo 102) (T.fn_ 51 (d := dd_d__law_refused)).choose_spec.kp rfl (.inl rfl) (TB ("_law_right", none) (.head _)) hcd rfl (hr.mono (by decide)) (LamX.lamS_by (by show LamX.lamSB dd_d__law_right.scope _ = true; decide +kernel)) rfl (fun _ _ _ _ _ => rfl)
    (fun cdv s1 H1 hr => have sc2 := sc_d__law_refused; (.cons (oneH_line (i := 1) ⟨⟨_, T.names 7, catch_InvalidLine T⟩⟩ (xci1 (T.xci 7 13 14 103 15)) sc2.nd (T.free 24) hgd (Room.u66 hr) (T.free 101) (fun c hc => (List.mem_singleton.mp hc) ▸ (T.xfn 7 13 8))) (.cons (oneH_line (i := 1) ⟨⟨_, T.names 10, catch_NotATray T⟩⟩ (xci1 (T.xci 10 16 17 103 18)) sc2.nd (T.free 24) hgd (Room.u66 hr) (T.free 101) (fun c hc => (List.mem_singleton.mp hc) ▸ (T.xfn 10 16 11))) .nil)))
    (fun A outer s H E f c1 hr tk => (pd_make (T.clsN 74 79) (ok_d_ConsoleU_initU T) hr (by decide) tk (pda_cons (pd_var 7) pda_nil))))) (pdp_of (pd_lst (k := 0) (pda_cons pd_str (pda_cons (pd_reprX hgd (Room.u66 hr) (T.free 101) (pdap_cons (pdp_var 7) pdap_nil)) (pda_cons pd_bl pda_nil)))))) (pdss_one (pds_ret pd_bl)) pdss_nil))))
    (pdss_one (pds_ret (pd_and (pd_eq (Room.u64 hr) (pdp_of (pd_ix (pdp_var 3) pd_int)) (pdp_of pd_str)) (pd_and (pd_eq (Room.u64 hr) (pdp_of (pd_len (T.free 13) (pdap_cons (pdp_of (pd_fld (fun c hc => (List.mem_singleton.mp hc) ▸ (T.clsF 16 17 19)) (pd_var 1))) pdap_nil))) (pdp_of pd_int)) (pd_one (pd_eq (Room.u64 hr) (pdp_of (pd_methK (T.clsM 74 75 99) (fo_d_Console_say T) (kb_d_Console_say T) hr (by decide) tk (pd_var 2) (pdk_cons pd_str pdk_nil))) (pdp_of pd_str)))))))))))))
theorem ok_d__law_right (T : GD fa fns tabs exs w K mg) (TB : TBs K mg base [("_law_right", none)]) : FoG P w ⟨K, mg⟩ base 14 (He.fAd K ("_law_right", none)) d__law_right := ⟨⟨_, _, fg_d__law_right T TB, bi_d__law_right T⟩, (T.fn_ 52 (d := dd_d__law_right)).choose_spec.kp⟩
noncomputable def fd_d__law_pool (T : GD fa fns tabs exs w K mg) : FuncData := (T.fn_ 53 (d := dd_d__law_pool)).choose
theorem bi_d__law_pool (T : GD fa fns tabs exs w K mg) : Binds K (fd_d__law_pool T) ["script", "turn"] [] := (T.fn_ 53 (d := dd_d__law_pool)).choose_spec.bindsN fun _ _ _ _ _ _ us hl => match us, hl with | [_, _], _ => rfl
theorem fo_d__law_pool (T : GD fa fns tabs exs w K mg) : FnOk P w K mg base (L2.CX P w) 1 (He.fAd K ("_law_pool", none)) (fd_d__law_pool T) ["script", "turn"] (spD ⟨K, mg⟩ d__law_pool) := by
  have sc := sc_d__law_pool
  have F := (T.fn_ 53 (d := dd_d__law_pool)).choose_spec
  exact fok F sc fun cdv A outer s H E hr tk hp =>
    (pdss_cons (pds_par2 (i := 2) (j := 3) rfl sc.nd (by decide) (pda_cons (pd_if (pdt_cmp op_lt rop_lt (pd_var 1) (pd_len (T.free 13) (pdap_cons (pdp_var 0) pdap_nil))) (pd_intc (T.free 29) (pdap_cons (pdp_of (pd_ix (pdp_var 0) (pd_var 1))) pdap_nil)) (pd_add (pdp_of (pd_mul pd_int (pd_var 1))) (pdp_of pd_int))) (pda_cons (pd_add (pdp_of pd_int) (pdp_of (pd_mul pd_int (pd_var 1)))) pda_nil)))
    (pdss_cons (pds_for hp rfl (pdi_seq (pd_sl (pdp_var 0) pdo_none (pdo_some pd_int))) (pdg_name sc.nd) (pdss_one (pds_set (i := 3) (pd_mod (pd_intc (T.free 29) (pdap_cons (pdp_of (pd_add (pdp_of (pd_add (pdp_of (pd_mul (pd_var 3) pd_int)) (pdp_of (pd_mod (pd_intc (T.free 29) (pdap_cons (pdp_var 4) pdap_nil)) pd_int)))) (pdp_of pd_int))) pdap_nil)) pd_int) sc.nd)))
    (pdss_one (pds_ret (pd_liv (pdl_lst (k := 0) (pda_cons (pd_mod (pd_intc (T.free 29) (pdap_cons (pdp_of (pd_add (pdp_var 3) (pdp_of (pd_mul (pd_var 2) pd_int)))) pdap_nil)) pd_int) (pda_cons (pd_if (PDW.pdt (pdw_or (pdt_cmp op_lt rop_lt (pd_var 2) pd_int) (pdw_or1 (pdt_cmp op_ge rop_ge (pd_var 2) (pd_pow pd_int pd_int))))) (pd_abs (T.free 105) (pdap_cons (pdp_var 2) pdap_nil)) pd_int) (pda_cons pd_int pda_nil)))))))))
theorem ok_d__law_pool (T : GD fa fns tabs exs w K mg) : Fo P w ⟨K, mg⟩ base 1 (He.fAd K ("_law_pool", none)) d__law_pool   := Fo.of (fo_d__law_pool T) (bi_d__law_pool T) (T.fn_ 53 (d := dd_d__law_pool)).choose_spec.kp
noncomputable def fd_d_law (T : GD fa fns tabs exs w K mg) : FuncData := (T.fn_ 54 (d := dd_d_law)).choose
theorem bi_d_law (T : GD fa fns tabs exs w K mg) : Binds K (fd_d_law T) ["script"] [] := (T.fn_ 54 (d := dd_d_law)).choose_spec.bindsN fun _ _ _ _ _ _ us hl => match us, hl with | [_], _ => rfl
theorem fg_d_law (T : GD fa fns tabs exs w K mg) (TB : TBs K mg base [("_law_right", none)]) : FnG P w K mg base 15 (He.fAd K ("law", none)) (fd_d_law T) ["script"] (spD ⟨K, mg⟩ d_law) := by
  have sc := sc_d_law
  have F := (T.fn_ 54 (d := dd_d_law)).choose_spec
  exact fokG F sc fun cdv A outer s H E hgd hr tk hp =>
    (pdss_one (pds_ret (pd_all rfl (T.free 35) (pdap_cons (pdp_of (pd_fzL (pdl_comp (own := [("turn", 1)]) rfl sc.nd (pdi_rng1 (T.free 12) (pd_max2 rfl (T.free 15) (pdap_cons (pdp_of pd_int) (pdap_cons (pdp_of (pd_min2 rfl (T.free 14) (pdap_cons (pdp_of (pd_len (T.free 13) (pdap_cons (pdp_var 0) pdap_nil))) (pdap_cons (pdp_of pd_int) pdap_nil)))) pdap_nil)))) ⟨fun s H C cl fp => (pdg_name sc.nd), fun s H C cl fp => pdts_nil, fun s H C cl fp => (pd_callG (ok_d__law_right T TB) hgd hr (by decide) (T.glo 104) takes0 (pda_cons (pd_call (ok_d__law_pool T) hr (by decide) (T.glo 106) takes0 (pda_cons (pd_var 0) (pda_cons (pd_var 1) pda_nil))) pda_nil))⟩))) pdap_nil))))
theorem ok_d_law (T : GD fa fns tabs exs w K mg) (TB : TBs K mg base [("_law_right", none)]) : FoG P w ⟨K, mg⟩ base 15 (He.fAd K ("law", none)) d_law := ⟨⟨_, _, fg_d_law T TB, bi_d_law T⟩, (T.fn_ 54 (d := dd_d_law)).choose_spec.kp⟩
theorem ba_d_law (T : GD fa fns tabs exs w K mg) (s : Shared) (u : Value) : BindsTo s (fd_d_law T) ⟨[u], []⟩ [("script", u)] := FunD.bindsA (ps := ["script"]) (T.fn_ 54 (d := dd_d_law)).choose_spec (fun _ _ _ _ _ _ us hl => match us, hl with | [_], _ => rfl) s [u] rfl
end
def names0 : List Str := ["__name__", "SquareError", "InvalidNumber", "InvalidLine", "NotATray", "InvalidDeed", "Barred", "NothingToUndo", "FIGURES", "is_whole", "is_number", "is_between", "is_string", "is_made_of", "words_of", "number_in", "numbers_in", "ZERO", "ONE_values", "lowest", "plus", "less_by", "times", "divided", "is_less", "MOST_THINGS", "MOST_SQUARE", "is_square_number", "things_of", "all_things"]
def names1 : List Str := ["is_thing", "check_thing", "all_pairs", "square_of", "rows_by", "of_lot_by", "with_square", "pull_by", "doubled", "products_of", "first_own", "brought", "less_part", "first_left", "is_placed_by", "dimension_by", "determinant", "content_by", "is_free_by", "bases_by", "less_times", "brought_down", "solved", "solved_solving", "HALF", "MINUS", "ball_of", "between_by", "alone", "spread_on"]
def names2 : List Str := ["are_within", "ball_on", "least_by", "least_ball_by", "product_of", "taken_from", "solved_heights", "foot_by", "height_by", "without", "stretch_by", "is_in_stretch", "whole_by", "SIZES", "FEWEST_STRETCHED", "FULL", "MANY", "BARRED", "ONE_trays", "NONE_trays", "SAME", "has_form", "is_squares", "check_deed", "table_behind", "reason_by_itself", "reason_against", "Tray", "check_tray", "copy_of"]
def names3 : List Str := ["LOST", "DONE", "NONE_consoles", "NOTHING", "OF_TWO", "fraction_text", "deed_in", "said_of_deed", "said_of_undo", "said_of_word", "said_of_two", "Console", "_law_pool", "_law_draw", "_law_pick", "_law_odd_line", "_law_refused", "_law_right"]
def names : List Str := names0 ++ names1 ++ names2 ++ names3
abbrev rw_ : PySem.W.OpenLaw := PySem.Challenge.rw_squaresapart_k85_lines_not_understood
abbrev R : PySem.W.OpenRow := PySem.W.OpenLaw.row rw_
abbrev qv : Program := PySem.W.view R.prog [0, 1, 121]
abbrev tfs : List He.Defn := [("_law_right", none)]
abbrev hk : PySem.W.Hook := hookXT 5 fa fns tabs tfs exs
def ob (s : PySem.W.SharedT) : AlX := obsXT 5 fa fns tabs tfs exs (HandSHeadRun.getT s)
theorem ob_eq (s : PySem.W.SharedT) : ob s = hk.obs s.abs := obsXT_eq (HandSHeadRun.getT_eq s)
def lawTop : Nat := 121
end DL

namespace DL
open PySem PySem.Spec PyProof.Rows L2
/-! what other laws ask by: the shared texts tell of them -/
def d__law_square : List D → Sto → Out D := dFn 3 3
    (dRet (dIf (dTst (dOp (oEq false) (dPv 1) (dPv 2))) (dC (.int 0)) (dOp oIx (dOp oIx (dPv 0) (dOp oSub (dCB oMax2 (dCons (dPv 1) (dCons (dPv 2) dNil))) (dC (.int 1)))) (dCB oMin2 (dCons (dPv 1) (dCons (dPv 2) dNil))))))
def d__law_many : List D → Sto → Out D := dFn 1 1
    (dRet (dOp oAdd (dCB oLen (dCons (dPv 0) dNil)) (dC (.int 1))))
def d__law_after : List D → Sto → Out D := dFn 2 3
    (dSeq (dIfS (dTst (dOp (oEq false) (dOp oIx (dPv 1) (dC (.int 0))) (dC (.str "take")))) (dRet (dSl oSl (dPv 0) dNoPart (dPart (dNeg (dC (.int 1)))))) dNext)
    (dSeq (dIfS (dTst (dOp (oEq false) (dOp oIx (dPv 1) (dC (.int 0))) (dC (.str "put")))) (dRet (dOp oAdd (dPv 0) (dTup (dCons (dOp oIx (dPv 1) (dC (.int 1))) dNil)))) dNext)
    (dSeq (dSet 2 (dOp oIx (dPv 0) (dOp oSub (dOp oIx (dPv 1) (dC (.int 2))) (dC (.int 1)))))
    (dRet (dOp oAdd (dOp oAdd (dSl oSl (dPv 0) dNoPart (dPart (dOp oSub (dOp oIx (dPv 1) (dC (.int 2))) (dC (.int 1))))) (dTup (dCons (dOp oAdd (dOp oAdd (dSl oSl (dPv 2) dNoPart (dPart (dOp oIx (dPv 1) (dC (.int 1))))) (dTup (dCons (dOp oIx (dPv 1) (dC (.int 3))) dNil))) (dSl oSl (dPv 2) (dPart (dOp oAdd (dOp oIx (dPv 1) (dC (.int 1))) (dC (.int 1)))) dNoPart)) dNil))) (dSl oSl (dPv 0) (dPart (dOp oIx (dPv 1) (dC (.int 2)))) dNoPart))))))
def d__law_barred : List D → Sto → Out D := dFn 2 3
    (dSeq (dTryF 2 [("InvalidDeed", false), ("Barred", true)] ["Barred"] "reason" (dDrop (dMeth "Tray" "do" d_Tray_do (dVar 0) (dCons (dVar 1) dNil))))
    (dRet (dC (.str ""))))
def d__law_deed : List D → Sto → Out D := dFn 2 9
    (dSeq (dPar [2, 3] (dCons (dCall d__law_draw (dCons (dVar 0) (dCons (dC (.int 8)) dNil))) (dCons (dCall d__law_many (dCons (dVar 1) dNil)) dNil)))
    (dSeq (dIfS (dTst (dOp (oEq false) (dPv 2) (dC (.int 0)))) (dRet (dTup (dCons (dC (.str "take")) dNil))) dNext)
    (dSeq (dIfS (dAndT (dTst (dOp (oEq false) (dPv 2) (dC (.int 1)))) (dTst (dOp oGt (dVar 3) (dC (.int 1))))) (dSeq (dSet 4 (dCall d__law_draw (dCons (dVar 0) (dCons (dOp oSub (dVar 3) (dC (.int 1))) dNil))))
    (dRet (dTup (dCons (dC (.str "set")) (dCons (dVar 4) (dCons (dOp oAdd (dOp oAdd (dPv 4) (dC (.int 1))) (dCall d__law_draw (dCons (dVar 0) (dCons (dOp oSub (dVar 3) (dVar 4)) dNil)))) (dCons (dCall d__law_draw (dCons (dVar 0) (dCons (dC (.int 20)) dNil))) dNil))))))) dNext)
    (dSeq (dIfS (dTst (dOp (oEq false) (dPv 2) (dC (.int 2)))) (dSeq (dSet 5 (dCall d__law_pick (dCons (dVar 0) (dCons (dLst (dCons (dVar 3) (dCons (dVar 3) (dCons (dOp oAdd (dPv 3) (dC (.int 1))) (dCons (dOp oSub (dVar 3) (dC (.int 1))) dNil))))) dNil))))
    (dRet (dTup (dCons (dC (.str "put")) (dCons (dCB oTup (dCons (dFzL (dComp (dRng1 (dVar 5)) (.name 8) dYes (dCall d__law_draw (dCons (dVar 0) (dCons (dC (.int 12)) dNil))) [8])) dNil)) dNil))))) dNext)
    (dSeq (dSet 6 (dCall d__law_draw (dCons (dVar 0) (dCons (dVar 3) dNil))))
    (dSeq (dSet 7 (dCall d__law_pick (dCons (dVar 0) (dCons (dLst (dCons (dC (.int 0)) (dCons (dC (.int 1)) (dCons (dC (.int 4)) (dCons (dC (.int 4)) (dCons (dC (.int 9)) dNil)))))) dNil))))
    (dRet (dTup (dCons (dC (.str "put")) (dCons (dCB oTup (dCons (dFzL (dComp (dRng1 (dVar 3)) (.name 8) dYes (dOp oAdd (dCall d__law_square (dCons (dVar 1) (dCons (dVar 6) (dCons (dVar 8) dNil)))) (dPv 7)) [8])) dNil)) dNil))))))))))
end DL

namespace DL
open PySem PySem.Spec PyProof.Rows L2
theorem lim_val : LIM = 1000000 := rfl
/-- the divisor -/
def cmn (n d : Int) : Int := if 0 < d then ((n.natAbs.gcd d.natAbs : Nat) : Int) else -((n.natAbs.gcd d.natAbs : Nat) : Int)
theorem lowest_eq (n d : Int) (S : Sto) (h : cmn n d ≠ 0 ∧ (cmn n d).natAbs.log2 < 9000) : d_lowest [.int n, .int d] S = .ok (.tup [.int (n.fdiv (cmn n d)), .int (d.fdiv (cmn n d))]) S := by
  have h1 : DivOk n (cmn n d) := h
  have h2 : DivOk d (cmn n d) := h
  unfold d_lowest
  by_cases hd : 0 < d
  · have e : cmn n d = ((n.natAbs.gcd d.natAbs : Nat) : Int) := if_pos hd
    rw [e] at h1 h2 ⊢
    simp [gMul, gDiv, gMod, gPow, hd, h1, h2, lim_val]
  · have e : cmn n d = -((n.natAbs.gcd d.natAbs : Nat) : Int) := if_neg hd
    rw [e] at h1 h2 ⊢
    simp [gMul, gDiv, gMod, gPow, hd, h1, h2, lim_val]
abbrev Z : D := .tup [.int 0, .int 1]
/-- a fraction, its numbers below 2 ^ k -/
def fr (k : Nat) (x : D) : Prop := ∃ n d : Int, x = .tup [.int n, .int d] ∧ 0 < d ∧ n.natAbs < 2 ^ k ∧ d.natAbs < 2 ^ k ∧ n.natAbs.gcd d.natAbs = 1
theorem fr.mono {j k : Nat} {x : D} (h : fr j x) (hk : j ≤ k) : fr k x := by
  obtain ⟨n, d, h1, h2, h3, h4, h5⟩ := h
  have := Nat.pow_le_pow_right (n := 2) (by decide) hk
  exact ⟨n, d, h1, h2, by omega, by omega, h5⟩
theorem fr_Z {k : Nat} (hk : 1 ≤ k) : fr k Z := ⟨0, 1, rfl, by decide, by simpa using Nat.two_pow_pos k, by
  have := Nat.pow_le_pow_right (n := 2) (by decide) hk
  show 1 < 2 ^ k
  omega, rfl⟩
theorem fdiv_of {n c q : Int} (c0 : c ≠ 0) (h : n = c * q) : n.fdiv c = q := by rw [h]; exact Int.mul_fdiv_cancel_left _ c0
theorem pos_of_mul {a c e : Int} (ha : 0 < a) (h : a = c * e) (hc : 0 < c) : 0 < e := by
  by_cases z : 0 < e
  · exact z
  · exfalso
    have := Int.mul_nonneg (Int.le_of_lt hc) (show 0 ≤ -e by omega)
    rw [Int.mul_neg, ← h] at this
    omega
theorem lowest_fr {n d : Int} {k : Nat} (S : Sto) (hd : d ≠ 0) (h1 : n.natAbs < 2 ^ k) (h2 : d.natAbs < 2 ^ k) (hk : k ≤ 8999) : ∃ x, d_lowest [.int n, .int d] S = .ok x S ∧ fr k x ∧ (n = 0 ↔ x = Z) ∧ (0 < d → n.natAbs.gcd d.natAbs = 1 → x = .tup [.int n, .int d]) ∧ (n = d → x = .tup [.int 1, .int 1]) := by
  have g0 : 0 < n.natAbs.gcd d.natAbs := Nat.gcd_pos_of_pos_right _ (Int.natAbs_pos.mpr hd)
  have gd : n.natAbs.gcd d.natAbs ≤ d.natAbs := Nat.le_of_dvd (Int.natAbs_pos.mpr hd) (Nat.gcd_dvd_right _ _)
  have ca : (cmn n d).natAbs = n.natAbs.gcd d.natAbs := by
    unfold cmn
    split <;> simp
  have c0 : cmn n d ≠ 0 := fun z => by rw [z] at ca; simp at ca; omega
  have cl : (cmn n d).natAbs.log2 < 9000 := by
    rw [ca]
    have : (n.natAbs.gcd d.natAbs).log2 < k := (Nat.log2_lt (by omega)).mpr (by omega)
    omega
  have dn : cmn n d ∣ n := by
    rw [← Int.natAbs_dvd_natAbs, ca]; exact Nat.gcd_dvd_left _ _
  have dd : cmn n d ∣ d := by
    rw [← Int.natAbs_dvd_natAbs, ca]; exact Nat.gcd_dvd_right _ _
  obtain ⟨q, hq⟩ := dn
  obtain ⟨e, he⟩ := dd
  have fq : n.fdiv (cmn n d) = q := fdiv_of c0 hq
  have fe : d.fdiv (cmn n d) = e := fdiv_of c0 he
  have epos : 0 < e := by
    by_cases hp : 0 < d
    · have cp : 0 < cmn n d := by unfold cmn; rw [if_pos hp]; omega
      exact pos_of_mul hp he cp
    · have cp : cmn n d < 0 := by unfold cmn; rw [if_neg hp]; omega
      exact pos_of_mul (a := -d) (c := -(cmn n d)) (by omega) (by rw [Int.neg_mul, ← he]) (by omega)
  have one : n = 0 → e = 1 := fun z => by
    have ec : cmn n d = d := by
      unfold cmn
      rw [z]
      simp
      split <;> omega
    rw [ec] at he
    exact Int.eq_one_of_mul_eq_self_right hd he.symm
  refine ⟨_, lowest_eq n d S ⟨c0, cl⟩, ?_, ?_, ?_, ?_⟩
  · rw [fq, fe]
    have an : n.natAbs = (cmn n d).natAbs * q.natAbs := by rw [← Int.natAbs_mul, ← hq]
    have ad : d.natAbs = (cmn n d).natAbs * e.natAbs := by rw [← Int.natAbs_mul, ← he]
    have g1 : 1 ≤ (cmn n d).natAbs := by omega
    refine ⟨q, e, rfl, epos, ?_, ?_, ?_⟩
    · have := Nat.le_mul_of_pos_left q.natAbs g1
      omega
    · have := Nat.le_mul_of_pos_left e.natAbs g1
      omega
    · have h : (cmn n d).natAbs * q.natAbs.gcd e.natAbs = (cmn n d).natAbs * 1 := by
        rw [← Nat.gcd_mul_left, ← an, ← ad, Nat.mul_one, ca]
      exact Nat.eq_of_mul_eq_mul_left g1 h
  · rw [fq, fe]
    constructor
    · intro z
      have q0 : q = 0 := by
        have := hq.symm.trans z
        exact (Int.mul_eq_zero.mp this).resolve_left c0
      rw [q0, one z]
    · intro z
      simp only [D.tup.injEq, List.cons.injEq, D.int.injEq, and_true] at z
      rw [hq, z.1, Int.mul_zero]
  · intro hp hg
    have c1 : cmn n d = 1 := by unfold cmn; rw [if_pos hp, hg]; rfl
    rw [c1, Int.fdiv_one, Int.fdiv_one]
  · intro z
    have c1 : cmn n d = d := by
      unfold cmn
      rw [z, Nat.gcd_self]
      split <;> omega
    have fs : ∀ x : Int, x ≠ 0 → x.fdiv x = 1 := fun x h => fdiv_of h (by rw [Int.mul_one])
    rw [c1, z, fs d hd]
abbrev One : D := .tup [.int 1, .int 1]
theorem two_mul_lt {a b i j : Nat} (h1 : a < 2 ^ i) (h2 : b < 2 ^ j) : a * b < 2 ^ (i + j) := by
  rw [Nat.pow_add]
  exact Nat.mul_lt_mul'' h1 h2
theorem mulOk {i j : Int} {a b : Nat} (h1 : i.natAbs < 2 ^ a) (h2 : j.natAbs < 2 ^ b) (h : a + b ≤ 100000) : MulOk i j := by
  refine .inr ?_
  have l : ∀ (x : Nat) (k : Nat), x < 2 ^ k → x.log2 ≤ k := fun x k h => by
    by_cases z : x = 0
    · subst z; simp
    · exact Nat.le_of_lt ((Nat.log2_lt z).mpr h)
  have := l _ _ h1
  have := l _ _ h2
  show _ + _ < 1000000
  omega
theorem fr_Z_iff {k : Nat} {n d : Int} (h : fr k (.tup [.int n, .int d])) : n = 0 ↔ (D.tup [.int n, .int d]) = Z := by
  obtain ⟨n', d', e, h2, h3, h4, h5⟩ := h
  simp only [D.tup.injEq, List.cons.injEq, D.int.injEq, and_true] at e
  obtain ⟨rfl, rfl⟩ := e
  constructor
  · intro z
    rw [z] at h5 ⊢
    have : d.natAbs = 1 := by simpa using h5
    have : d = 1 := by omega
    rw [this]
  · intro z
    simp only [D.tup.injEq, List.cons.injEq, D.int.injEq, and_true] at z
    exact z.1
theorem less_by_fr {a b : Nat} {x y : D} (S : Sto) (hx : fr a x) (hy : fr b y) (hk : a + b + 1 ≤ 8999) : ∃ z, d_less_by [x, y] S = .ok z S ∧ fr (a + b + 1) z ∧ (x = y → z = Z) ∧ (y = Z → z = x) := by
  obtain ⟨n, d, rfl, h2, h3, h4, h5⟩ := id hx
  obtain ⟨m, e, rfl, k2, k3, k4, k5⟩ := id hy
  have m1 : MulOk n e := mulOk h3 k4 (by omega)
  have m2 : MulOk m d := mulOk k3 h4 (by omega)
  have m3 : MulOk d e := mulOk h4 k4 (by omega)
  have b1 := two_mul_lt h3 k4
  have b2 := two_mul_lt k3 h4
  have b3 := two_mul_lt h4 k4
  have p1 : 2 ^ (a + b + 1) = 2 * 2 ^ (a + b) := by rw [Nat.pow_succ]; omega
  rw [Nat.add_comm b a] at b2
  have q1 : (n * e - m * d).natAbs < 2 ^ (a + b + 1) := by
    have := Int.natAbs_sub_le (n * e) (m * d)
    rw [Int.natAbs_mul, Int.natAbs_mul] at this
    omega
  have q2 : (d * e).natAbs < 2 ^ (a + b + 1) := by rw [Int.natAbs_mul]; omega
  have q3 : d * e ≠ 0 := fun z => by rcases Int.mul_eq_zero.mp z with z | z <;> omega
  obtain ⟨z, z1, z2, z3, z4, z5⟩ := lowest_fr S q3 q1 q2 hk
  refine ⟨z, ?_, z2, fun h => z3.mp ?_, fun h => ?_⟩
  · unfold d_less_by
    simp [gMul, gDiv, gMod, gPow, oIx, L2.atI, ixN, m1, m2, m3, z1]
  · simp only [D.tup.injEq, List.cons.injEq, D.int.injEq, and_true] at h
    rw [h.1, h.2, Int.sub_self]
  · simp only [D.tup.injEq, List.cons.injEq, D.int.injEq, and_true] at h
    rw [h.1, h.2] at z4
    simp only [Int.mul_one, Int.zero_mul, Int.sub_zero] at z4
    exact z4 h2 h5
theorem times_fr {a b : Nat} {x y : D} (S : Sto) (hx : fr a x) (hy : fr b y) (hk : a + b ≤ 8999) : ∃ z, d_times [x, y] S = .ok z S ∧ fr (a + b) z ∧ (x = Z → z = Z) ∧ (x = One → z = y) := by
  obtain ⟨n, d, rfl, h2, h3, h4, h5⟩ := id hx
  obtain ⟨m, e, rfl, k2, k3, k4, k5⟩ := id hy
  have m1 : MulOk n m := mulOk h3 k3 (by omega)
  have m3 : MulOk d e := mulOk h4 k4 (by omega)
  have b1 := two_mul_lt h3 k3
  have b3 := two_mul_lt h4 k4
  rw [← Int.natAbs_mul] at b1 b3
  have q3 : d * e ≠ 0 := fun z => by rcases Int.mul_eq_zero.mp z with z | z <;> omega
  obtain ⟨z, z1, z2, z3, z4, z5⟩ := lowest_fr S q3 b1 b3 hk
  refine ⟨z, ?_, z2, fun h => z3.mp ?_, fun h => ?_⟩
  · unfold d_times
    simp [gMul, gDiv, gMod, gPow, oIx, L2.atI, ixN, m1, m3, z1]
  · simp only [D.tup.injEq, List.cons.injEq, D.int.injEq, and_true] at h
    rw [h.1, Int.zero_mul]
  · simp only [D.tup.injEq, List.cons.injEq, D.int.injEq, and_true] at h
    rw [h.1, h.2] at z4
    simp only [Int.one_mul] at z4
    exact z4 k2 k5
theorem divided_fr {a b : Nat} {x y : D} (S : Sto) (hx : fr a x) (hy : fr b y) (hz : y ≠ Z) (hk : a + b ≤ 8999) : ∃ z, d_divided [x, y] S = .ok z S ∧ fr (a + b) z ∧ (x = Z → z = Z) ∧ (x = y → z = One) := by
  obtain ⟨n, d, rfl, h2, h3, h4, h5⟩ := id hx
  obtain ⟨m, e, rfl, k2, k3, k4, k5⟩ := id hy
  have m0 : m ≠ 0 := fun z => hz ((fr_Z_iff hy).mp z)
  have m1 : MulOk n e := mulOk h3 k4 (by omega)
  have m3 : MulOk d m := mulOk h4 k3 (by omega)
  have b1 := two_mul_lt h3 k4
  have b3 := two_mul_lt h4 k3
  rw [← Int.natAbs_mul] at b1 b3
  have q3 : d * m ≠ 0 := fun z => by rcases Int.mul_eq_zero.mp z with z | z <;> omega
  obtain ⟨z, z1, z2, z3, z4, z5⟩ := lowest_fr S q3 b1 b3 hk
  refine ⟨z, ?_, z2, fun h => z3.mp ?_, fun h => z5 ?_⟩
  · unfold d_divided
    simp [gMul, gDiv, gMod, gPow, oIx, L2.atI, ixN, m1, m3, z1]
  · simp only [D.tup.injEq, List.cons.injEq, D.int.injEq, and_true] at h
    rw [h.1, Int.zero_mul]
  · simp only [D.tup.injEq, List.cons.injEq, D.int.injEq, and_true] at h
    rw [h.1, h.2, Int.mul_comm]
theorem is_less_fr {a b : Nat} {x y : D} (S : Sto) (hx : fr a x) (hy : fr b y) (hk : a + b ≤ 8999) : ∃ t, d_is_less [x, y] S = .ok (.bl t) S := by
  obtain ⟨n, d, rfl, h2, h3, h4, h5⟩ := id hx
  obtain ⟨m, e, rfl, k2, k3, k4, k5⟩ := id hy
  have m1 : MulOk n e := mulOk h3 k4 (by omega)
  have m3 : MulOk m d := mulOk k3 h4 (by omega)
  refine ⟨decide (n * e < m * d), ?_⟩
  unfold d_is_less
  simp [gMul, gDiv, gMod, gPow, oIx, L2.atI, ixN, m1, m3]
end DL

namespace DL
open PySem PySem.Spec PyProof.Rows L2
/-! ### lists by their items -/
def Rel2 (R : D → D → Prop) : List D → List D → Prop
  | [], xs => xs = []
  | d :: ds, xs => ∃ x r, xs = x :: r ∧ R d x ∧ Rel2 R ds r
theorem Rel2.len {R : D → D → Prop} : ∀ {ds xs : List D}, Rel2 R ds xs → xs.length = ds.length
  | [], _, h => by rw [show _ = [] from h]
  | d :: ds, _, ⟨x, r, e, _, h⟩ => by rw [e, List.length_cons, List.length_cons, h.len]
theorem Rel2.get {R : D → D → Prop} : ∀ {ds xs : List D} {i : Nat} {x : D}, Rel2 R ds xs → xs[i]? = some x → ∃ d, ds[i]? = some d ∧ R d x
  | [], _, _, _, h, e => by rw [show _ = [] from h] at e; simp at e
  | d :: ds, _, 0, x, ⟨y, r, q, h1, h2⟩, e => by subst q; simp at e; subst e; exact ⟨d, rfl, h1⟩
  | d :: ds, _, i + 1, x, ⟨y, r, q, h1, h2⟩, e => by
    subst q
    obtain ⟨z, z1, z2⟩ := Rel2.get (i := i) (x := x) h2 (by simpa using e)
    exact ⟨z, by simpa using z1, z2⟩
theorem compGo_rel {t : Tgt} {tt : DT} {te : DE} {ρ : En} {S : Sto} {R : D → D → Prop} : ∀ {ds : List D}, (∀ d ∈ ds, ∃ kvs x, t.kv d = some kvs ∧ tt (setE ρ kvs) S = .ok true S ∧ te (setE ρ kvs) S = .ok x S ∧ R d x) →
    ∃ xs, compGo t tt te ρ ds S = .ok xs S ∧ Rel2 R ds xs
  | [], _ => ⟨[], by simp [gMul, gDiv, gMod, gPow, compGo], rfl⟩
  | d :: ds, h => by
    obtain ⟨kvs, x, h1, h2, h3, h4⟩ := h d List.mem_cons_self
    obtain ⟨xs, q1, q2⟩ := compGo_rel (ds := ds) fun e he => h e (List.mem_cons_of_mem _ he)
    refine ⟨x :: xs, ?_, x, xs, rfl, h4, q2⟩
    rw [compGo_cons h1, h2]
    simp [gMul, gDiv, gMod, gPow, h3, q1]
theorem zipD_mem : ∀ {xs ys : List D} {d : D}, d ∈ zipD xs ys → ∃ (i : Nat) (x y : D), xs[i]? = some x ∧ ys[i]? = some y ∧ d = .tup [x, y] := fun {xs ys d} h => by
  obtain ⟨i, hi, e⟩ := List.mem_iff_getElem.mp h
  obtain ⟨x, y, h1, h2, h3⟩ := zipD_get xs ys i d (by rw [List.getElem?_eq_getElem hi, e])
  exact ⟨i, x, y, h1, h2, h3⟩
theorem rel_zip {R : D → D → Prop} : ∀ {xs ys zs : List D} {i : Nat} {z : D}, Rel2 R (zipD xs ys) zs → zs[i]? = some z → ∃ x y, xs[i]? = some x ∧ ys[i]? = some y ∧ R (.tup [x, y]) z := fun {xs ys zs i z} h e => by
  obtain ⟨d, h1, h2⟩ := h.get e
  obtain ⟨x, y, q1, q2, q3⟩ := zipD_get xs ys i d h1
  subst q3
  exact ⟨x, y, q1, q2, h2⟩
def allF (k : Nat) (xs : List D) : Prop := ∀ x ∈ xs, fr k x
theorem allF.at {k : Nat} {xs : List D} (h : allF k xs) {i : Nat} {x : D} (e : xs[i]? = some x) : fr k x := h x (List.mem_of_getElem? e)
theorem allF.mono {j k : Nat} {xs : List D} (h : allF j xs) (hk : j ≤ k) : allF k xs := fun x hx => (h x hx).mono hk
theorem less_part_fr {w p : Nat} {xs ys : List D} {part : D} (S : Sto) (hx : allF w xs) (hy : allF w ys) (hp : fr p part) (hl : xs.length = ys.length) (hz : xs.length ≤ 1000) (hk : w + (p + w) + 1 ≤ 8999) :
    ∃ zs, d_less_part [.lst xs, part, .lst ys] S = .ok (.lst zs) S ∧ zs.length = xs.length ∧ allF (w + (p + w) + 1) zs ∧ (part = Z → zs = xs) ∧ (part = One → xs = ys → ∀ z ∈ zs, z = Z) := by
  have step : ∀ x y, fr w x → fr w y → ∃ v z, d_times [part, y] S = .ok v S ∧ d_less_by [x, v] S = .ok z S ∧ fr (w + (p + w) + 1) z ∧ (part = Z → z = x) ∧ (part = One → x = y → z = Z) := by
    intro x y h1 h2
    obtain ⟨v, v1, v2, v3, v4⟩ := times_fr S hp h2 (by omega)
    obtain ⟨z, z1, z2, z3, z4⟩ := less_by_fr S h1 v2 (by omega)
    exact ⟨v, z, v1, z1, z2, fun h => z4 (v3 h), fun h e => z3 (by rw [v4 h, e])⟩
  have go := compGo_rel (t := .tup [3, 4]) (tt := dYes) (te := dCall d_less_by (dCons (dVar 3) (dCons (dCall d_times (dCons (dVar 1) (dCons (dVar 4) dNil))) dNil)))
    (ρ := [some (.val (.lst xs)), some (.val part), some (.val (.lst ys)), none, none]) (S := S) (R := fun d z => ∃ x y, d = .tup [x, y] ∧ fr (w + (p + w) + 1) z ∧ (part = Z → z = x) ∧ (part = One → x = y → z = Z)) (ds := zipD xs ys) (by
      intro d hd
      obtain ⟨i, x, y, h1, h2, rfl⟩ := zipD_mem hd
      obtain ⟨v, z, q1, q2, q3, q4, q5⟩ := step x y (hx.at h1) (hy.at h2)
      exact ⟨[(3, x), (4, y)], z, rfl, rfl, by simp [gMul, gDiv, gMod, gPow, q1, q2], x, y, rfl, q3, q4, q5⟩)
  obtain ⟨zs, g1, g2⟩ := go
  have gl : zs.length = xs.length := by rw [g2.len, zipD_len]; omega
  have zl : (zipD xs ys).length ≤ LIM := by rw [zipD_len, lim_val]; omega
  refine ⟨zs, ?_, gl, fun z hz => ?_, fun h => ?_, fun h e z hz => ?_⟩
  · unfold d_less_part
    simp [gMul, gDiv, gMod, gPow, dComp, dZip, wipeE, zl, g1]
  · obtain ⟨i, hi, e⟩ := List.mem_iff_getElem.mp hz
    obtain ⟨x, y, _, _, a, b, _, h3, _⟩ := rel_zip g2 (by rw [List.getElem?_eq_getElem hi, e])
    exact h3
  · refine List.ext_getElem? fun i => ?_
    cases e : zs[i]? with
    | none =>
      have := List.getElem?_eq_none_iff.mp e
      rw [List.getElem?_eq_none (by omega)]
    | some z =>
      obtain ⟨x, y, e1, _, a, b, e2, _, h4, _⟩ := rel_zip g2 e
      simp only [D.tup.injEq, List.cons.injEq, and_true] at e2
      rw [e1, h4 h, e2.1]
  · obtain ⟨i, hi, e3⟩ := List.mem_iff_getElem.mp hz
    obtain ⟨x, y, e1, e2, a, b, e4, _, _, h5⟩ := rel_zip g2 (by rw [List.getElem?_eq_getElem hi, e3])
    simp only [D.tup.injEq, List.cons.injEq, and_true] at e4
    refine h5 h ?_
    rw [← e4.1, ← e4.2]
    rw [e] at e1
    rw [e1] at e2
    exact Option.some.inj e2
end DL

namespace DL
open PySem PySem.Spec PyProof.Rows L2
theorem isDat_int (n : Nat) (i : Int) : isDat n (.int i) = true := by cases n <;> rfl
theorem isDat_str (n : Nat) (x : Str) (h : PyData.strOk x = true) : isDat n (.str x) = true := by cases n <;> exact h
theorem isDat_bl (n : Nat) (i : Bool) : isDat n (.bl i) = true := by cases n <;> rfl
theorem isDat_non (n : Nat) : isDat n .non = true := by cases n <;> rfl
theorem dep_succ : DEP = 23 + 1 := rfl
@[simp] theorem oEq_int {neg : Bool} {i j : Int} {S : Sto} : oEq neg (.int i) (.int j) S = .ok (.bl (if neg then !(i == j) else i == j)) S := by
  simp [gMul, gDiv, gMod, gPow, oEq, isDat_int]
theorem isDat_frac (n : Nat) {x : D} {k : Nat} (h : fr k x) : isDat (n + 1) x = true := by
  obtain ⟨a, b, rfl, _⟩ := h
  simp [gMul, gDiv, gMod, gPow, isDat_int]
@[simp] theorem oEq_frac {neg : Bool} {n d m e : Int} {S : Sto} : oEq neg (.tup [.int n, .int d]) (.tup [.int m, .int e]) S = .ok (.bl (if neg then !(n == m && d == e) else (n == m && d == e))) S := by
  simp [gMul, gDiv, gMod, gPow, oEq, dep_succ, isDat_int]
/-! ### tables -/
def sq (e : D) : Prop := ∃ v : Int, e = .int v ∧ 0 ≤ v ∧ v ≤ 999
def rowOk (i : Nat) (r : D) : Prop := ∃ es, r = .tup es ∧ es.length = i + 1 ∧ ∀ e ∈ es, sq e
structure tabOk (m : Nat) (rows : List D) : Prop where
  len : rows.length = m
  row : ∀ i r, rows[i]? = some r → rowOk i r
theorem atI_of {α : Type} {xs : List α} {i : Int} {k : Nat} {v : α} (hi : i = (k : Int)) (h : xs[k]? = some v) : L2.atI xs i = some v := by
  subst hi
  exact atI_nat h
theorem square_of_ok {m : Nat} {rows : List D} (h : tabOk m rows) {i j : Int} (S : Sto) (hi : 0 ≤ i ∧ i ≤ m) (hj : 0 ≤ j ∧ j ≤ m) : ∃ v, d_square_of [.tup rows, .int i, .int j] S = .ok (.int v) S ∧ 0 ≤ v ∧ v ≤ 999 := by
  by_cases e : i = j
  · subst e
    exact ⟨0, by unfold d_square_of; simp, by decide, by decide⟩
  · have hne : (i == j) = false := by simpa using e
    obtain ⟨a, b, ha, hb, hab, hm⟩ : ∃ a b : Nat, (if j > i then j else i) = (a : Int) + 1 ∧ (if j < i then j else i) = (b : Int) ∧ b ≤ a ∧ a < m := by
      by_cases q : j > i
      · refine ⟨(j - 1).toNat, i.toNat, ?_, ?_, ?_, ?_⟩ <;> (try split) <;> omega
      · refine ⟨(i - 1).toNat, j.toNat, ?_, ?_, ?_, ?_⟩ <;> (try split) <;> omega
    obtain ⟨r, hr⟩ : ∃ r, rows[a]? = some r := ⟨_, List.getElem?_eq_getElem (by rw [h.len]; exact hm)⟩
    obtain ⟨es, e1, e2, e3⟩ := h.row a _ hr
    obtain ⟨y, hb'⟩ : ∃ y, es[b]? = some y := ⟨_, List.getElem?_eq_getElem (by omega)⟩
    obtain ⟨v, v1, v2, v3⟩ := e3 _ (List.mem_of_getElem? hb')
    rw [e1] at hr
    rw [v1] at hb'
    refine ⟨v, ?_, v2, v3⟩
    unfold d_square_of
    have x1 : L2.atI rows (a : Int) = some (.tup es) := atI_nat hr
    have x2 : L2.atI es (b : Int) = some (.int v) := atI_nat hb'
    simp [gMul, gDiv, gMod, gPow, hne, oIx, ha, hb, x1, x2]
theorem things_of_eq {rows : List D} {S : Sto} : d_things_of [.tup rows] S = .ok (.int (rows.length + 1)) S := by
  unfold d_things_of
  simp
theorem rngD_get {lo : Int} {n i : Nat} {d : D} (h : (rngD lo n)[i]? = some d) : i < n ∧ d = .int (lo + i) := by
  unfold rngD at h
  rw [List.getElem?_map] at h
  cases q : (List.range n)[i]? with
  | none => rw [q] at h; cases h
  | some k =>
    rw [q] at h
    obtain ⟨h1, h2⟩ := List.getElem?_eq_some_iff.mp q
    rw [List.getElem_range] at h2
    cases h
    rw [List.length_range] at h1
    exact ⟨h1, by rw [h2]⟩
theorem rngD_mem {lo : Int} {n : Nat} {d : D} (h : d ∈ rngD lo n) : ∃ i : Nat, i < n ∧ d = .int (lo + i) := by
  obtain ⟨i, hi, e⟩ := List.mem_iff_getElem.mp h
  obtain ⟨h1, h2⟩ := rngD_get (i := i) (d := d) (by rw [List.getElem?_eq_getElem hi, e])
  exact ⟨i, h1, h2⟩
theorem rngD_len {lo : Int} {n : Nat} : (rngD lo n).length = n := by unfold rngD; simp
theorem compGo_id {i : Nat} {ρ : En} {S : Sto} (hi : i < ρ.length) : ∀ {ds : List D}, compGo (.name i) dYes (dVar i) ρ ds S = .ok ds S
  | [] => by simp [gMul, gDiv, gMod, gPow, compGo]
  | d :: ds => by
    rw [compGo_cons (kvs := [(i, d)]) rfl]
    have ih := compGo_id (S := S) hi (ds := ds)
    have e : dVar i (setE ρ [(i, d)]) S = .ok d S := by simp [gMul, gDiv, gMod, gPow, List.getElem?_set_self hi]
    rw [show dYes (setE ρ [(i, d)]) S = .ok true S from rfl, Out.nx_ok, Out.bind_ok, if_pos rfl, e, Out.nx_ok, Out.bind_ok, ih, Out.bind_ok]
theorem dRng1_eq {f : DE} {ρ : En} {S S1 : Sto} {j : Int} (h : f ρ S = .ok (.int j) S1) (hj : 0 ≤ j ∧ j ≤ 1000) : dRng1 f ρ S = .ok (rngD 0 j.toNat) S1 := by
  unfold dRng1
  rw [h]
  exact if_pos ⟨by omega, by omega⟩
theorem lim_of {n : Nat} (h : n ≤ 1000) : n ≤ LIM := by rw [lim_val]; omega
theorem dComp_eq {it : DL} {t : Tgt} {tt : DT} {te : DE} {vs : List Nat} {ρ : En} {S S1 : Sto} {ds : List D} (h : it ρ S = .ok ds S1) (hz : ds.length ≤ 1000) : dComp it t tt te vs ρ S = compGo t tt te (wipeE ρ vs) ds S1 := by
  unfold dComp
  rw [h]
  exact if_pos (lim_of hz)
theorem at_e1 {rows : List D} {S : Sto} (h : rows.length ≤ 900) : dRng1 (dCall d_things_of (dCons (dVar 0) dNil)) [some (.val (.tup rows)), none] S = .ok (rngD 0 (rows.length + 1)) S := by
  have e0 : dCall d_things_of (dCons (dVar 0) dNil) [some (.val (.tup rows)), none] S = .ok (.int ((rows.length : Int) + 1)) S := by simp [gMul, gDiv, gMod, gPow, things_of_eq]
  have := dRng1_eq e0 (by omega)
  rw [show ((rows.length : Int) + 1).toNat = rows.length + 1 by omega] at this
  exact this
theorem at_e2 {rows : List D} {S : Sto} (h : rows.length ≤ 900) : dComp (dRng1 (dCall d_things_of (dCons (dVar 0) dNil))) (.name 1) dYes (dVar 1) [1] [some (.val (.tup rows)), none] S = .ok (rngD 0 (rows.length + 1)) S := by
  rw [dComp_eq (at_e1 h) (by rw [rngD_len]; omega)]
  exact compGo_id (by simp [gMul, gDiv, gMod, gPow, wipeE])
theorem all_things_eq {rows : List D} {S : Sto} (h : rows.length ≤ 900) : d_all_things [.tup rows] S = .ok (.tup (rngD 0 (rows.length + 1))) S := by
  have e2 := at_e2 (S := S) h
  have e3 : dRet (dCB oTup (dCons (dFzL (dComp (dRng1 (dCall d_things_of (dCons (dVar 0) dNil))) (.name 1) dYes (dVar 1) [1])) dNil)) [some (.val (.tup rows)), none] S = .rt (.tup (rngD 0 (rows.length + 1))) S := by
    simp only [dRet, fzE, List.map_cons, List.map_nil, Option.map_some, Option.map_none, Sl.fz, dCB, dCons, dFzL, dNil, e2, Out.bind_ok, oTup, seqS, Out.st_ok]
  unfold d_all_things
  simp only [dFn, frame, List.length_cons, List.length_nil, if_true, List.map_cons, List.map_nil, List.cons_append, List.nil_append]
  exact congrArg Rs.out e3
end DL

namespace DL
open PySem PySem.Spec PyProof.Rows L2
theorem forGo_inv {t : Tgt} {body : DS} (I : Nat → En → Sto → Prop) : ∀ {ds : List D} {i : Nat} {ρ : En} {S : Sto}, I i ρ S →
    (∀ (j : Nat) d ρ S, ds[j]? = some d → I (i + j) ρ S → ∃ kvs ρ' S', t.kv d = some kvs ∧ body (setE ρ kvs) S = .nx ρ' S' ∧ I (i + j + 1) ρ' S') → ∃ ρ' S', forGo t body ds ρ S = .nx ρ' S' ∧ I (i + ds.length) ρ' S'
  | [], i, ρ, S, h, _ => ⟨ρ, S, rfl, h⟩
  | d :: ds, i, ρ, S, h, st => by
    obtain ⟨kvs, ρ1, S1, h1, h2, h3⟩ := st 0 d ρ S rfl h
    obtain ⟨ρ2, S2, q1, q2⟩ := forGo_inv I (ds := ds) (i := i + 1) h3 fun j e ρ S he hI => by
      have := st (j + 1) e ρ S (by simpa using he) (by rw [show i + (j + 1) = i + 1 + j by omega]; exact hI)
      rw [show i + (j + 1) + 1 = i + 1 + j + 1 by omega] at this
      exact this
    refine ⟨ρ2, S2, ?_, by rw [List.length_cons, show i + (ds.length + 1) = i + 1 + ds.length by omega]; exact q2⟩
    unfold forGo
    rw [h1]
    simp only [h2, q1]
/-- the run of a def -/
theorem dFn_eq {np n : Nat} {body : DS} {ds : List D} {S : Sto} (h : ds.length = np) : dFn np n body ds S = (body (frame n ds) S).out := if_pos h
theorem dSeq_nx {f g : DS} {ρ ρ' : En} {S S' : Sto} (h : f ρ S = .nx ρ' S') : dSeq f g ρ S = g ρ' S' := by unfold dSeq; rw [h]
theorem dRet_ok {f : DE} {ρ : En} {S S' : Sto} {d : D} (h : f (fzE ρ) S = .ok d S') : dRet f ρ S = .rt d S' := by unfold dRet; rw [h]; rfl
theorem dSet_ok {i : Nat} {f : DE} {ρ : En} {S S' : Sto} {d : D} (h : f ρ S = .ok d S') : dSet i f ρ S = .nx (ρ.set i (some (.val d))) S' := by unfold dSet; rw [h]; rfl
theorem dSetO_ok {i : Nat} {f : DL} {ρ : En} {S S' : Sto} {ds : List D} (h : f ρ S = .ok ds S') (hi : i < ρ.length) : dSetO i f ρ S = .nx (ρ.set i (some (.own ds))) S' := by
  unfold dSetO
  rw [h]
  exact if_pos hi
theorem dLstL_ok {g : DA} {ρ : En} {S S' : Sto} {xs : List D} (h : g ρ S = .ok xs S') (hz : xs.length ≤ 1000) : dLstL g ρ S = .ok xs S' := by
  unfold dLstL
  rw [h, Out.bind_ok, if_pos (lim_of hz)]
  rfl
theorem dFzL_ok {f : DL} {ρ : En} {S S' : Sto} {ds : List D} (h : f ρ S = .ok ds S') : dFzL f ρ S = .ok (.lst ds) S' := by unfold dFzL; rw [h]; rfl
theorem dCall_ok {den : List D → Sto → Out D} {g : DA} {ρ : En} {S S' : Sto} {xs : List D} (h : g ρ S = .ok xs S') : dCall den g ρ S = den xs S' := by unfold dCall; rw [h]; rfl
theorem dCons_ok {f : DE} {g : DA} {ρ : En} {S S1 S2 : Sto} {x : D} {xs : List D} (h : f ρ S = .ok x S1) (k : g ρ S1 = .ok xs S2) : dCons f g ρ S = .ok (x :: xs) S2 := by unfold dCons; rw [h, Out.bind_ok, k]; rfl
theorem dFor_eq {it : DL} {t : Tgt} {body : DS} {ρ : En} {S S1 : Sto} {ds : List D} (h : it ρ S = .ok ds S1) : dFor it t body ρ S = forGo t body ds ρ S1 := by unfold dFor; rw [h]; rfl
theorem cut_from {xs : List D} (k : Nat) (h : k ≤ xs.length) : cutD xs (some (k : Int)) none = xs.drop k := by
  unfold cutD
  have e1 : HT.sIx xs.length 0 (some (k : Int)) = k := by
    rw [HT.sIx_nat]; omega
  rw [e1, HT.sIx_none]
  rw [List.take_of_length_le (by rw [List.length_drop]; omega)]
theorem rng_drop (m : Nat) : (rngD 0 (m + 1)).drop 1 = rngD 1 m := by
  refine List.ext_getElem? fun i => ?_
  unfold rngD
  rw [List.getElem?_drop, List.getElem?_map, List.getElem?_map]
  by_cases h : i < m
  · rw [List.getElem?_eq_getElem (by simp; omega), List.getElem?_eq_getElem (by simp; exact h)]
    simp only [List.getElem_range, Option.map_some, Option.some.injEq, D.int.injEq]
    omega
  · rw [List.getElem?_eq_none (by simp; omega), List.getElem?_eq_none (by simp; omega)]
    rfl
/-- a row of ints -/
def rowI (m : Nat) (r : D) : Prop := ∃ es, r = .lst es ∧ es.length = m ∧ ∀ e ∈ es, ∃ v : Int, e = .int v ∧ v.natAbs < 4096
theorem doubled_ok {m : Nat} {rows : List D} (h : tabOk m rows) (hm : m ≤ 5) (S : Sto) : ∃ rs, d_doubled [.tup rows] S = .ok (.lst rs) S ∧ rs.length = m ∧ ∀ r ∈ rs, rowI m r := by
  have hl := h.len
  have s1 : dSl oSl (dCall d_all_things (dCons (dVar 0) dNil)) (dPart (dC (.int 1))) dNoPart [some (.val (.tup rows)), none, none, none, none, none] S = .ok (.tup (rngD 1 m)) S := by
    have e : dCall d_all_things (dCons (dVar 0) dNil) [some (.val (.tup rows)), none, none, none, none, none] S = .ok (.tup (rngD 0 (m + 1))) S := by
      rw [dCall_ok (xs := [.tup rows]) (S' := S) rfl, all_things_eq (by omega), hl]
    unfold dSl
    rw [e]
    simp only [Out.bind_ok, dPart, dC, dNoPart, oSl]
    have := cut_from (xs := rngD 0 (m + 1)) 1 (by rw [rngD_len]; omega)
    rw [show ((1 : Nat) : Int) = 1 from rfl] at this
    rw [this, rng_drop]
  -- the loop
  have step : ∀ (i : Nat), i < m → ∀ (fs : List D) (x y : Option Sl), fs.length ≤ 100 → ∃ r v, rowI m r ∧
      (dSeq (dSet 4 (dCall d_square_of (dCons (dVar 0) (dCons (dC (.int 0)) (dCons (dVar 3) dNil)))))
    (dOm 2 lApp (dCons (dFzL (dComp (dItr (dPv 1)) (.name 5) dYes (dOp oSub (dOp oAdd (dPv 4) (dCall d_square_of (dCons (dVar 0) (dCons (dC (.int 0)) (dCons (dVar 5) dNil))))) (dCall d_square_of (dCons (dVar 0) (dCons (dVar 3) (dCons (dVar 5) dNil))))) [5])) dNil) kDrop))
        [some (.val (.tup rows)), some (.val (.tup (rngD 1 m))), some (.own fs), some (.val (.int (1 + i))), y, none] S
        = .nx [some (.val (.tup rows)), some (.val (.tup (rngD 1 m))), some (.own (fs ++ [r])), some (.val (.int (1 + i))), some (.val (.int v)), none] S := by
    intro i hi fs x y hf
    obtain ⟨v, v1, v2, v3⟩ := square_of_ok h (i := 0) (j := 1 + i) S (by omega) (by omega)
    obtain ⟨zs, g1, g2⟩ := compGo_rel (t := .name 5) (tt := dYes) (te := dOp oSub (dOp oAdd (dPv 4) (dCall d_square_of (dCons (dVar 0) (dCons (dC (.int 0)) (dCons (dVar 5) dNil))))) (dCall d_square_of (dCons (dVar 0) (dCons (dVar 3) (dCons (dVar 5) dNil)))))
      (ρ := [some (.val (.tup rows)), some (.val (.tup (rngD 1 m))), some (.own fs), some (.val (.int (1 + i))), some (.val (.int v)), none]) (S := S) (R := fun _ z => ∃ u : Int, z = .int u ∧ u.natAbs < 4096) (ds := rngD 1 m) (by
        intro d hd
        obtain ⟨k, hk, rfl⟩ := rngD_mem hd
        obtain ⟨a, a1, a2, a3⟩ := square_of_ok h (i := 0) (j := 1 + k) S (by omega) (by omega)
        obtain ⟨b, b1, b2, b3⟩ := square_of_ok h (i := 1 + i) (j := 1 + k) S (by omega) (by omega)
        refine ⟨[(5, .int (1 + k))], .int (v + a - b), rfl, rfl, ?_, _, rfl, by omega⟩
        simp [gMul, gDiv, gMod, gPow, a1, b1])
    refine ⟨.lst zs, v, ⟨zs, rfl, by rw [g2.len, rngD_len], fun e he => ?_⟩, ?_⟩
    · obtain ⟨j, hj, q⟩ := List.mem_iff_getElem.mp he
      obtain ⟨_, _, q2⟩ := g2.get (i := j) (x := e) (by rw [List.getElem?_eq_getElem hj, q])
      exact q2
    · have c1 : dFzL (dComp (dItr (dPv 1)) (.name 5) dYes (dOp oSub (dOp oAdd (dPv 4) (dCall d_square_of (dCons (dVar 0) (dCons (dC (.int 0)) (dCons (dVar 5) dNil))))) (dCall d_square_of (dCons (dVar 0) (dCons (dVar 3) (dCons (dVar 5) dNil))))) [5])
          [some (.val (.tup rows)), some (.val (.tup (rngD 1 m))), some (.own fs), some (.val (.int (1 + i))), some (.val (.int v)), none] S = .ok (.lst zs) S := by
        refine dFzL_ok ?_
        rw [dComp_eq (S1 := S) (ds := rngD 1 m) rfl (by rw [rngD_len]; omega)]
        exact g1
      rw [dSeq_nx (dSet_ok (S' := S) (d := .int v) (by rw [dCall_ok (xs := [.tup rows, .int 0, .int (1 + i)]) (S' := S) rfl]; exact v1))]
      have c2 := dCons_ok c1 (show dNil _ S = .ok [] S from rfl)
      have lt : fs.length < LIM := Nat.lt_of_le_of_lt hf (by rw [lim_val]; omega)
      unfold dOm
      simp only [List.set_cons_succ, List.set_cons_zero, List.getElem?_cons_succ, List.getElem?_cons_zero, c2, Out.st_ok, lApp, if_pos lt, kDrop]
  obtain ⟨ρ', S', f1, f2⟩ := forGo_inv (t := .name 3) (I := fun k ρ S' => S' = S ∧ ∃ fs x y, ρ = [some (.val (.tup rows)), some (.val (.tup (rngD 1 m))), some (.own fs), x, y, none] ∧ fs.length = k ∧ k ≤ m ∧ ∀ r ∈ fs, rowI m r)
    (ds := rngD 1 m) (i := 0) (ρ := [some (.val (.tup rows)), some (.val (.tup (rngD 1 m))), some (.own []), none, none, none]) (S := S) ⟨rfl, [], none, none, rfl, rfl, by omega, by simp⟩ (by
      rintro j d ρ S1 hj ⟨rfl, fs, x, y, rfl, hk, hkm, hr⟩
      obtain ⟨hjm, rfl⟩ := rngD_get hj
      obtain ⟨r, v, h1, h2⟩ := step j hjm fs x y (by omega)
      refine ⟨[(3, .int (1 + j))], _, S1, rfl, h2, rfl, fs ++ [r], _, _, rfl, by simp; omega, by omega, fun r' hr' => ?_⟩
      rcases List.mem_append.mp hr' with q | q
      · exact hr r' q
      · rw [List.mem_singleton.mp q]; exact h1)
  rw [rngD_len] at f2
  obtain ⟨rfl, fs, x, y, rfl, k1, k2, k3⟩ := f2
  refine ⟨fs, ?_, by omega, k3⟩
  unfold d_doubled
  rw [dFn_eq (np := 1) (ds := [D.tup rows]) rfl]
  rw [show frame 6 [D.tup rows] = [some (.val (.tup rows)), none, none, none, none, none] from rfl]
  rw [dSeq_nx (dSet_ok s1)]
  rw [dSeq_nx (dSetO_ok (dLstL_ok (xs := []) (S' := S') rfl (by simp)) (by simp))]
  have f3 : dFor (dItr (dVar 1)) (.name 3) _ [some (.val (.tup rows)), some (.val (.tup (rngD 1 m))), some (.own []), none, none, none] S' = _ := (dFor_eq (S1 := S') (ds := rngD 1 m) rfl).trans f1
  exact congrArg Rs.out ((dSeq_nx f3).trans (dRet_ok rfl))
end DL

namespace DL
open PySem PySem.Spec PyProof.Rows L2
def rowF (m k : Nat) (r : D) : Prop := ∃ es, r = .lst es ∧ es.length = m ∧ allF k es
structure mat (m k : Nat) (rs : List D) : Prop where
  len : rs.length = m
  row : ∀ r ∈ rs, rowF m k r
theorem rowF.mono {m j k : Nat} {r : D} (h : rowF m j r) (hk : j ≤ k) : rowF m k r := let ⟨es, a, b, c⟩ := h; ⟨es, a, b, c.mono hk⟩
theorem mat.mono {m j k : Nat} {rs : List D} (h : mat m j rs) (hk : j ≤ k) : mat m k rs := ⟨h.len, fun r hr => (h.row r hr).mono hk⟩
theorem mat.at {m k i : Nat} {rs : List D} (h : mat m k rs) (hi : i < m) : ∃ es, rs[i]? = some (.lst es) ∧ es.length = m ∧ allF k es := by
  obtain ⟨r, hr⟩ : ∃ r, rs[i]? = some r := ⟨_, List.getElem?_eq_getElem (by rw [h.len]; exact hi)⟩
  obtain ⟨es, rfl, a, b⟩ := h.row r (List.mem_of_getElem? hr)
  exact ⟨es, hr, a, b⟩
theorem products_ok {m : Nat} {rows : List D} (h : tabOk m rows) (hm : m ≤ 5) (S : Sto) : ∃ rs, d_products_of [.tup rows] S = .ok (.lst rs) S ∧ mat m 12 rs := by
  obtain ⟨ds, d1, d2, d3⟩ := doubled_ok h hm S
  have inner : ∀ (es : List D), es.length = m → (∀ e ∈ es, ∃ v : Int, e = .int v ∧ v.natAbs < 4096) → ∃ zs, compGo (.name 2) dYes (dCall d_lowest (dCons (dVar 2) (dCons (dC (.int 2)) dNil))) [some (.val (.tup rows)), some (.val (.lst es)), none] es S = .ok zs S ∧ zs.length = m ∧ allF 12 zs := by
    intro es hl he
    obtain ⟨zs, g1, g2⟩ := compGo_rel (t := .name 2) (tt := dYes) (te := dCall d_lowest (dCons (dVar 2) (dCons (dC (.int 2)) dNil))) (ρ := [some (.val (.tup rows)), some (.val (.lst es)), none]) (S := S) (R := fun _ z => fr 12 z) (ds := es) (by
      intro d hd
      obtain ⟨v, rfl, hv⟩ := he d hd
      obtain ⟨x, x1, x2, _⟩ := lowest_fr (n := v) (d := 2) (k := 12) S (by decide) (by simpa using hv) (by decide) (by decide)
      exact ⟨[(2, .int v)], x, rfl, rfl, x1, x2⟩)
    refine ⟨zs, g1, by rw [g2.len, hl], fun z hz => ?_⟩
    obtain ⟨i, hi, e⟩ := List.mem_iff_getElem.mp hz
    obtain ⟨_, _, q⟩ := g2.get (i := i) (x := z) (by rw [List.getElem?_eq_getElem hi, e])
    exact q
  obtain ⟨rs, g1, g2⟩ := compGo_rel (t := .name 1) (tt := dYes) (te := dFzL (dComp (dItr (dPv 1)) (.name 2) dYes (dCall d_lowest (dCons (dVar 2) (dCons (dC (.int 2)) dNil))) [2])) (ρ := [some (.val (.tup rows)), none, none]) (S := S) (R := fun _ z => rowF m 12 z) (ds := ds) (by
    intro d hd
    obtain ⟨es, rfl, e1, e2⟩ := d3 d hd
    obtain ⟨zs, z1, z2, z3⟩ := inner es e1 e2
    refine ⟨[(1, .lst es)], .lst zs, rfl, rfl, dFzL_ok ?_, zs, rfl, z2, z3⟩
    rw [dComp_eq (S1 := S) (ds := es) rfl (by omega)]
    exact z1)
  have c1 : dComp (dItr (dCall d_doubled (dCons (dVar 0) dNil))) (.name 1) dYes (dFzL (dComp (dItr (dPv 1)) (.name 2) dYes (dCall d_lowest (dCons (dVar 2) (dCons (dC (.int 2)) dNil))) [2])) [1] [some (.val (.tup rows)), none, none] S = .ok rs S := by
    rw [dComp_eq (S1 := S) (ds := ds) (by unfold dItr; rw [dCall_ok (xs := [.tup rows]) (S' := S) rfl, d1]; rfl) (by omega)]
    exact g1
  refine ⟨rs, ?_, by rw [g2.len, d2], fun r hr => ?_⟩
  · unfold d_products_of
    rw [dFn_eq (np := 1) (ds := [D.tup rows]) rfl]
    rw [show frame 3 [D.tup rows] = [some (.val (.tup rows)), none, none] from rfl]
    have c2 := dFzL_ok c1
    have c3 : ∀ f : DE, f [some (.val (.tup rows)), none, none] S = .ok (.lst rs) S → dRet f [some (.val (.tup rows)), none, none] S = .rt (.lst rs) S := fun f hf => dRet_ok hf
    rw [c3 _ c2]
    rfl
  · obtain ⟨i, hi, e⟩ := List.mem_iff_getElem.mp hr
    obtain ⟨_, _, q⟩ := g2.get (i := i) (x := r) (by rw [List.getElem?_eq_getElem hi, e])
    exact q
theorem compGo_fil {t : Tgt} {tt : DT} {te : DE} {ρ : En} {S : Sto} {R : D → D → Prop} : ∀ {ds : List D}, (∀ d ∈ ds, ∃ kvs b, t.kv d = some kvs ∧ tt (setE ρ kvs) S = .ok b S ∧ (b = true → ∃ x, te (setE ρ kvs) S = .ok x S ∧ R d x)) →
    ∃ xs, compGo t tt te ρ ds S = .ok xs S ∧ xs.length ≤ ds.length ∧ ∀ x ∈ xs, ∃ d ∈ ds, R d x
  | [], _ => ⟨[], by simp [gMul, gDiv, gMod, gPow, compGo], by simp, by simp⟩
  | d :: ds, h => by
    obtain ⟨kvs, b, h1, h2, h3⟩ := h d List.mem_cons_self
    obtain ⟨xs, q1, q2, q3⟩ := compGo_fil (ds := ds) fun e he => h e (List.mem_cons_of_mem _ he)
    cases b with
    | false =>
      refine ⟨xs, ?_, by rw [List.length_cons]; omega, fun x hx => let ⟨e, e1, e2⟩ := q3 x hx; ⟨e, List.mem_cons_of_mem _ e1, e2⟩⟩
      rw [compGo_cons h1, h2]
      simpa using q1
    | true =>
      obtain ⟨x, x1, x2⟩ := h3 rfl
      refine ⟨x :: xs, ?_, by rw [List.length_cons, List.length_cons]; omega, fun y hy => ?_⟩
      · rw [compGo_cons h1, h2]
        simp [gMul, gDiv, gMod, gPow, x1, q1]
      · rcases List.mem_cons.mp hy with e | e
        · rw [e]; exact ⟨d, List.mem_cons_self, x2⟩
        · obtain ⟨e, e1, e2⟩ := q3 y e
          exact ⟨e, List.mem_cons_of_mem _ e1, e2⟩
theorem oEq_nil {neg : Bool} {xs : List D} {S : Sto} (h : xs.all (isDat 23) = true) : oEq neg (.lst xs) (.lst []) S = .ok (.bl (if neg then !xs.isEmpty else xs.isEmpty)) S := by
  have e1 : isDat DEP (.lst xs) = true := h
  have e2 : isDat DEP (.lst []) = true := rfl
  have e3 : D.eqv (.lst xs) (.lst []) = xs.isEmpty := by
    cases xs <;> simp
  unfold oEq
  rw [show drS S (.lst xs) = .lst xs from rfl, show drS S (.lst []) = .lst [] from rfl, e1, e2, e3]
  rfl
theorem enumD_mem {ds : List D} {d : D} (h : d ∈ enumD 0 ds) : ∃ (i : Nat) (x : D), ds[i]? = some x ∧ d = .tup [.int i, x] := by
  obtain ⟨i, hi, e⟩ := List.mem_iff_getElem.mp h
  have q : (enumD 0 ds)[i]? = some d := by rw [List.getElem?_eq_getElem hi, e]
  rw [enumD_get] at q
  cases z : ds[i]? with
  | none => rw [z] at q; cases q
  | some x =>
    rw [z] at q
    simp only [Option.map_some, Option.some.injEq] at q
    exact ⟨i, x, z, by rw [← q, Nat.zero_add]⟩
/-- where the next pivot stands -/
def pivot (m : Nat) (rs : List D) (a : D) : Prop := a = .non ∨ ∃ (i : Nat) (es : List D) (e : D), i < m ∧ a = .int i ∧ rs[i]? = some (.lst es) ∧ es[i]? = some e ∧ e ≠ Z
theorem first_own_ok {m k : Nat} {rs : List D} (h : mat m k rs) (hm : m ≤ 5) (S : Sto) : ∃ a, d_first_own [.lst rs] S = .ok a S ∧ pivot m rs a := by
  have hl := h.len
  obtain ⟨xs, g1, g2, g3⟩ := compGo_fil (t := .tup [2, 3]) (tt := dTst (dOp (oEq true) (dOp oIx (dPv 3) (dVar 2)) (dC (.tup [.int 0, .int 1])))) (te := dVar 2) (ρ := [some (.val (.lst rs)), none, none, none]) (S := S)
    (R := fun d x => ∃ (i : Nat) (es : List D) (e : D), i < m ∧ x = .int i ∧ rs[i]? = some (.lst es) ∧ es[i]? = some e ∧ e ≠ Z) (ds := enumD 0 rs) (by
    intro d hd
    obtain ⟨i, x, h1, rfl⟩ := enumD_mem hd
    have hi : i < m := by rw [← hl]; exact (List.getElem?_eq_some_iff.mp h1).1
    obtain ⟨es, e1, e2, e3⟩ := h.at hi
    rw [h1] at e1
    cases e1
    obtain ⟨e, he⟩ : ∃ e, es[i]? = some e := ⟨_, List.getElem?_eq_getElem (by omega)⟩
    obtain ⟨n, c, rfl, c1, c2, c3, c4⟩ := e3.at he
    have ai : L2.atI es (i : Int) = some (.tup [.int n, .int c]) := atI_nat he
    refine ⟨[(2, .int i), (3, .lst es)], !(n == 0 && c == 1), rfl, by simp [gMul, gDiv, gMod, gPow, oIx, ai], fun hb => ⟨.int i, by simp, i, es, _, hi, rfl, h1, he, fun z => ?_⟩⟩
    simp only [D.tup.injEq, List.cons.injEq, D.int.injEq, and_true] at z
    rw [z.1, z.2] at hb
    simp at hb)
  rw [enumD_len] at g2
  have c1 : dComp (dEnum (dPv 0)) (.tup [2, 3]) (dTst (dOp (oEq true) (dOp oIx (dPv 3) (dVar 2)) (dC (.tup [.int 0, .int 1])))) (dVar 2) [2, 3] [some (.val (.lst rs)), none, none, none] S = .ok xs S := by
    rw [dComp_eq (S1 := S) (ds := enumD 0 rs) rfl (by rw [enumD_len]; omega)]
    exact g1
  have dat : xs.all (isDat 23) = true := List.all_eq_true.mpr fun x hx => by
    obtain ⟨d, _, i, es, e, _, rfl, _⟩ := g3 x hx
    exact isDat_int _ _
  unfold d_first_own
  rw [dFn_eq (np := 1) (ds := [D.lst rs]) rfl]
  rw [show frame 4 [D.lst rs] = [some (.val (.lst rs)), none, none, none] from rfl, dSeq_nx (dSet_ok (dFzL_ok c1))]
  have en : dTst (dOp (oEq true) (dPv 1) (dLst dNil)) (fzE [some (.val (.lst rs)), some (.val (.lst xs)), none, none]) S = .ok (!xs.isEmpty) S := by
    have e1 : dLst dNil (fzE [some (.val (.lst rs)), some (.val (.lst xs)), none, none]) S = .ok (.lst []) S := by
      unfold dLst dNil
      rw [Out.bind_ok, if_pos (lim_of (by simp))]
    unfold dTst dOp
    rw [show dPv 1 (fzE [some (.val (.lst rs)), some (.val (.lst xs)), none, none]) S = .ok (.lst xs) S from rfl, Out.bind_ok, e1, Out.bind_ok, oEq_nil dat]
    rfl
  have body : ∀ a, dIf (dTst (dOp (oEq true) (dPv 1) (dLst dNil))) (dOp oIx (dPv 1) (dC (.int 0))) (dC .non) (fzE [some (.val (.lst rs)), some (.val (.lst xs)), none, none]) S = .ok a S → (dRet (dIf (dTst (dOp (oEq true) (dPv 1) (dLst dNil))) (dOp oIx (dPv 1) (dC (.int 0))) (dC .non)) [some (.val (.lst rs)), some (.val (.lst xs)), none, none] S).out = .ok a S := fun a h => congrArg Rs.out (dRet_ok h)
  cases xs with
  | nil =>
    refine ⟨.non, body _ ?_, .inl rfl⟩
    unfold dIf
    rw [en]
    rfl
  | cons x xs =>
    obtain ⟨d, _, q⟩ := g3 x List.mem_cons_self
    refine ⟨x, body _ ?_, .inr ?_⟩
    · unfold dIf
      rw [en]
      have : L2.atI (x :: xs) (0 : Int) = some x := atI_nat (j := 0) rfl
      simp [gMul, gDiv, gMod, gPow, oIx, this]
    · obtain ⟨i, es, e, q1, q2, q3, q4, q5⟩ := q
      exact ⟨i, es, e, q1, q2, q3, q4, q5⟩
end DL

namespace DL
open PySem PySem.Spec PyProof.Rows L2
/-! ### rows that are zero -/
def zb : D → Bool
  | .tup [.int n, .int d] => n == 0 && d == 1
  | _ => false
theorem zb_iff {x : D} : zb x = true ↔ x = Z := by
  constructor
  · intro h
    unfold zb at h
    split at h
    · rename_i n d
      rw [Bool.and_eq_true] at h
      rw [eq_of_beq h.1, eq_of_beq h.2]
    · cases h
  · intro h; rw [h]; rfl
def zrow : D → Bool
  | .lst es => es.all zb
  | _ => false
theorem count_up {p : D → Bool} : ∀ {xs ys : List D} {i : Nat} {x y : D}, xs.length = ys.length → (∀ (j : Nat) a b, xs[j]? = some a → ys[j]? = some b → p a = true → p b = true) → xs[i]? = some x → ys[i]? = some y → p x = false → p y = true → xs.countP p + 1 ≤ ys.countP p
  | [], _, _, _, _, _, _, h, _, _, _ => by simp at h
  | _ :: _, [], _, _, _, h, _, _, _, _, _ => by simp at h
  | a :: xs, b :: ys, i, x, y, hl, hj, hx, hy, px, py => by
    have le : ∀ {xs ys : List D}, xs.length = ys.length → (∀ (j : Nat) a b, xs[j]? = some a → ys[j]? = some b → p a = true → p b = true) → xs.countP p ≤ ys.countP p := by
      intro xs
      induction xs with
      | nil => intro ys _ _; simp
      | cons a xs ih =>
        intro ys hl hj
        cases ys with
        | nil => simp at hl
        | cons b ys =>
          have h1 := ih (ys := ys) (by simpa using hl) fun j a b h1 h2 => hj (j + 1) a b (by simpa using h1) (by simpa using h2)
          have h0 := hj 0 a b rfl rfl
          rw [List.countP_cons, List.countP_cons]
          cases pa : p a with
          | true => rw [h0 pa]; simp; omega
          | false => cases p b <;> simp <;> omega
    have hj' : ∀ (j : Nat) a b, xs[j]? = some a → ys[j]? = some b → p a = true → p b = true := fun j a b h1 h2 => hj (j + 1) a b (by simpa using h1) (by simpa using h2)
    have hl' : xs.length = ys.length := by simpa using hl
    rw [List.countP_cons, List.countP_cons]
    cases i with
    | zero =>
      simp at hx hy
      subst hx hy
      rw [px, py]
      have := le hl' hj'
      simp; omega
    | succ i =>
      have ih := count_up hl' hj' (by simpa using hx) (by simpa using hy) px py
      have h0 := hj 0 a b rfl rfl
      cases pa : p a with
      | true => rw [h0 pa]; simp; omega
      | false => cases p b <;> simp <;> omega
theorem count_lt {p : D → Bool} : ∀ {xs : List D} {i : Nat} {x : D}, xs[i]? = some x → p x = false → xs.countP p + 1 ≤ xs.length
  | [], _, _, h, _ => by simp at h
  | a :: xs, 0, x, h, px => by
    simp at h; subst h
    rw [List.countP_cons, px, List.length_cons]
    have := List.countP_le_length (p := p) (l := xs)
    simp; omega
  | a :: xs, i + 1, x, h, px => by
    have := count_lt (xs := xs) (i := i) (by simpa using h) px
    rw [List.countP_cons, List.length_cons]
    cases p a <;> simp <;> omega
theorem count_two {p : D → Bool} : ∀ {xs : List D} {i j : Nat} {x y : D}, xs[i]? = some x → xs[j]? = some y → i ≠ j → p x = false → p y = false → xs.countP p + 2 ≤ xs.length
  | [], _, _, _, _, h, _, _, _, _ => by simp at h
  | a :: xs, 0, 0, _, _, _, _, h, _, _ => absurd rfl h
  | a :: xs, 0, j + 1, x, y, h, k, _, px, py => by
    simp at h; subst h
    have := count_lt (xs := xs) (i := j) (by simpa using k) py
    rw [List.countP_cons, px, List.length_cons]
    simp; omega
  | a :: xs, i + 1, 0, x, y, h, k, _, px, py => by
    simp at k; subst k
    have := count_lt (xs := xs) (i := i) (by simpa using h) px
    rw [List.countP_cons, py, List.length_cons]
    simp; omega
  | a :: xs, i + 1, j + 1, x, y, h, k, n, px, py => by
    have := count_two (xs := xs) (i := i) (j := j) (by simpa using h) (by simpa using k) (by omega) px py
    rw [List.countP_cons, List.length_cons]
    cases p a <;> simp <;> omega
/-! ### one elimination, on the lists -/
/-- the parts -/
theorem parts_ok {m b i : Nat} {rs : List D} {e : D} {ρ : En} {S : Sto} (h : mat m b rs) (hm : m ≤ 5) (hi : i < m) (he : fr b e) (h0 : e ≠ Z) (h1 : ρ[1]? = some (some (.val (.lst rs)))) (h5 : ρ[5]? = some (some (.val (.int i)))) (h6 : ρ[6]? = some (some (.val e))) (hl : ρ.length = 12) (hb : b + b ≤ 8999) :
    ∃ ps, dComp (dItr (dPv 1)) (.name 9) dYes (dCall d_divided (dCons (dOp oIx (dPv 9) (dVar 5)) (dCons (dVar 6) dNil))) [9] ρ S = .ok ps S ∧ ps.length = m ∧ ∀ (j : Nat) r p, rs[j]? = some r → ps[j]? = some p → ∃ fs x, r = .lst fs ∧ fs[i]? = some x ∧ fr (b + b) p ∧ (x = Z → p = Z) ∧ (x = e → p = One) := by
  have hr := h.len
  obtain ⟨ps, g1, g2⟩ := compGo_rel (t := .name 9) (tt := dYes) (te := dCall d_divided (dCons (dOp oIx (dPv 9) (dVar 5)) (dCons (dVar 6) dNil))) (ρ := ρ.set 9 none) (S := S) (R := fun r p => ∃ fs x, r = .lst fs ∧ fs[i]? = some x ∧ fr (b + b) p ∧ (x = Z → p = Z) ∧ (x = e → p = One)) (ds := rs) (by
    intro d hd
    obtain ⟨fs, rfl, f1, f2⟩ := h.row d hd
    obtain ⟨x, hx⟩ : ∃ x, fs[i]? = some x := ⟨_, List.getElem?_eq_getElem (by omega)⟩
    obtain ⟨z, z1, z2, z3, z4⟩ := divided_fr S (f2.at hx) he h0 hb
    have ai : L2.atI fs (i : Int) = some x := atI_nat hx
    refine ⟨[(9, .lst fs)], z, rfl, rfl, ?_, fs, x, rfl, hx, z2, z3, z4⟩
    have l9 : 9 < (ρ.set 9 none).length := by rw [List.length_set, hl]; decide
    have e9 : (setE (ρ.set 9 none) [(9, .lst fs)])[9]? = some (some (.val (.lst fs))) := List.getElem?_set_self l9
    have e5 : (setE (ρ.set 9 none) [(9, .lst fs)])[5]? = some (some (.val (.int i))) := by
      show ((ρ.set 9 none).set 9 _)[5]? = _
      rw [List.getElem?_set_ne (by decide), List.getElem?_set_ne (by decide)]; exact h5
    have e6 : (setE (ρ.set 9 none) [(9, .lst fs)])[6]? = some (some (.val e)) := by
      show ((ρ.set 9 none).set 9 _)[6]? = _
      rw [List.getElem?_set_ne (by decide), List.getElem?_set_ne (by decide)]; exact h6
    generalize setE (ρ.set 9 none) [(9, D.lst fs)] = ρ1 at e9 e5 e6 ⊢
    simp only [dCall, dCons, dOp, dPv, dVar, dNil, e9, e5, e6, Out.bind_ok, oIx, seqS, ai, z1])
  refine ⟨ps, ?_, by rw [g2.len, hr], fun j r p hj hp => ?_⟩
  · rw [dComp_eq (S1 := S) (ds := rs) (by unfold dItr dPv; rw [h1]; rfl) (by omega)]
    exact g1
  · obtain ⟨d, q1, q2⟩ := g2.get hp
    rw [hj] at q1
    cases q1
    exact q2
/-- the rows less their parts -/
theorem rows_less {m b p i A : Nat} {ts ps es : List D} {ρ : En} {S : Sto} {q : Nat} (h : mat m b ts) (hm : m ≤ 5) (hi : i < m) (hps : ps.length = m) (hp : ∀ x ∈ ps, fr p x) (hes : ts[i]? = some (.lst es)) (hq : ρ[q]? = some (some (.val (.lst ts)))) (h7 : ρ[7]? = some (some (.val (.lst ps)))) (h5 : ρ[5]? = some (some (.val (.int i)))) (hl : ρ.length = 12)
    (hA : A = 9 ∨ A = 10) (hq2 : q = 1 ∨ q = 2) (hb : b + (p + b) + 1 ≤ 8999) :
    ∃ zs, dComp (dZip (dPv q) (dPv 7)) (.tup [A, 11]) dYes (dCall d_less_part (dCons (dVar A) (dCons (dVar 11) (dCons (dOp oIx (dPv q) (dVar 5)) dNil)))) [A, 11] ρ S = .ok zs S ∧ mat m (b + (p + b) + 1) zs ∧
      ∀ (j : Nat) r x z, ts[j]? = some r → ps[j]? = some x → zs[j]? = some z → (x = Z → z = r) ∧ (x = One → r = .lst es → zrow z = true) := by
  have hr := h.len
  obtain ⟨es', y1, y2, y3⟩ := h.at hi
  rw [hes] at y1
  cases y1
  obtain ⟨zs, g1, g2⟩ := compGo_rel (t := .tup [A, 11]) (tt := dYes) (te := dCall d_less_part (dCons (dVar A) (dCons (dVar 11) (dCons (dOp oIx (dPv q) (dVar 5)) dNil)))) (ρ := (ρ.set 11 none).set A none) (S := S)
    (R := fun d z => ∃ r x, d = .tup [r, x] ∧ rowF m (b + (p + b) + 1) z ∧ (x = Z → z = r) ∧ (x = One → r = .lst es → zrow z = true)) (ds := zipD ts ps) (by
    intro d hd
    obtain ⟨j, r, x, j1, j2, rfl⟩ := zipD_mem hd
    obtain ⟨fs, rfl, f1, f2⟩ := h.row r (List.mem_of_getElem? j1)
    obtain ⟨zs, z1, z2, z3, z4, z5⟩ := less_part_fr (w := b) (p := p) S f2 y3 (hp x (List.mem_of_getElem? j2)) (by omega) (by omega) hb
    refine ⟨[(A, .lst fs), (11, x)], .lst zs, rfl, rfl, ?_, .lst fs, x, rfl, ⟨zs, rfl, by omega, z3⟩, fun hx => by rw [z4 hx], fun hx he => List.all_eq_true.mpr fun y hy => zb_iff.mpr (z5 hx (by cases he; rfl) y hy)⟩
    have ai : L2.atI ts (i : Int) = some (.lst es) := atI_nat hes
    have lA : ∀ v, (((ρ.set 11 none).set A none).set A v)[A]? = some v := fun v => List.getElem?_set_self (by rw [List.length_set, List.length_set, hl]; omega)
    have eA : (setE ((ρ.set 11 none).set A none) [(A, .lst fs), (11, x)])[A]? = some (some (.val (.lst fs))) := by
      show ((((ρ.set 11 none).set A none).set A _).set 11 _)[A]? = _
      rw [List.getElem?_set_ne (by omega)]; exact lA _
    have e11 : (setE ((ρ.set 11 none).set A none) [(A, .lst fs), (11, x)])[11]? = some (some (.val x)) := by
      show ((((ρ.set 11 none).set A none).set A _).set 11 _)[11]? = _
      exact List.getElem?_set_self (by rw [List.length_set, List.length_set, List.length_set, hl]; decide)
    have keep : ∀ n, n ≠ A → n ≠ 11 → (setE ((ρ.set 11 none).set A none) [(A, .lst fs), (11, x)])[n]? = ρ[n]? := fun n h1 h2 => by
      show ((((ρ.set 11 none).set A none).set A _).set 11 _)[n]? = _
      rw [List.getElem?_set_ne (Ne.symm h2), List.getElem?_set_ne (Ne.symm h1), List.getElem?_set_ne (Ne.symm h1), List.getElem?_set_ne (Ne.symm h2)]
    have e5 := (keep 5 (by omega) (by decide)).trans h5
    have eq' := (keep q (by omega) (by omega)).trans hq
    generalize setE ((ρ.set 11 none).set A none) [(A, D.lst fs), (11, x)] = ρ1 at eA e11 e5 eq' ⊢
    simp only [dCall, dCons, dOp, dPv, dVar, dNil, eA, e11, e5, eq', Out.bind_ok, oIx, seqS, ai, z1])
  have zl : zs.length = m := by rw [g2.len, zipD_len]; omega
  refine ⟨zs, ?_, ⟨zl, fun z hz => ?_⟩, fun j r x z h1 h2 h3 => ?_⟩
  · rw [dComp_eq (S1 := S) (ds := zipD ts ps) (by unfold dZip dPv; rw [hq, Out.bind_ok, h7]; rfl) (by rw [zipD_len]; omega)]
    exact g1
  · obtain ⟨j, hj, e⟩ := List.mem_iff_getElem.mp hz
    obtain ⟨r, x, _, _, a, c, _, q2, _⟩ := rel_zip g2 (by rw [List.getElem?_eq_getElem hj, e])
    exact q2
  · obtain ⟨r', x', k1, k2, a, c, k3, _, k4, k5⟩ := rel_zip g2 h3
    rw [h1] at k1
    rw [h2] at k2
    cases k1; cases k2
    simp only [D.tup.injEq, List.cons.injEq, and_true] at k3
    rw [k3.1, k3.2]
    exact ⟨k4, k5⟩
end DL

namespace DL
open PySem PySem.Spec PyProof.Rows L2
def bb : Nat → Nat
  | 0 => 12
  | 1 => 50
  | 2 => 202
  | 3 => 810
  | _ => 3242
def ww : Nat → Nat
  | 0 => 1
  | 1 => 27
  | 2 => 155
  | 3 => 715
  | 4 => 3051
  | _ => 6104
theorem bb_le : ∀ k, bb k ≤ 3242 := by
  intro k
  match k with
  | 0 => decide
  | 1 => decide
  | 2 => decide
  | 3 => decide
  | _ + 4 => exact Nat.le_refl _
theorem bb_pos : ∀ k, 1 ≤ bb k := by
  intro k
  match k with
  | 0 => decide
  | 1 => decide
  | 2 => decide
  | 3 => decide
  | _ + 4 => show 1 ≤ 3242; decide
theorem num1 : ∀ k, k ≤ 3 → bb k + (bb k + bb k + bb k) + 1 ≤ 8999 ∧ ww k + (bb k + bb k + ww k) + 1 ≤ ww (k + 1) ∧ bb k + (bb k + bb k + bb k) + 1 ≤ bb (k + 1)
  | 0, _ => by decide
  | 1, _ => by decide
  | 2, _ => by decide
  | 3, _ => by decide
  | _ + 4, h => absurd h (by omega)
theorem num2 : ∀ k, k ≤ 4 → ww (k + 1) ≤ 8999
  | 0, _ => by decide
  | 1, _ => by decide
  | 2, _ => by decide
  | 3, _ => by decide
  | 4, _ => by decide
  | _ + 5, h => absurd h (by omega)
theorem fr_One {k : Nat} (hk : 1 ≤ k) : fr k One := ⟨1, 1, rfl, by decide, by
  have := Nat.pow_le_pow_right (n := 2) (by decide) hk
  show 1 < 2 ^ k
  omega, by
  have := Nat.pow_le_pow_right (n := 2) (by decide) hk
  show 1 < 2 ^ k
  omega, rfl⟩
theorem zrow_at {es : List D} {i : Nat} {e : D} (h : zrow (.lst es) = true) (he : es[i]? = some e) : e = Z := zb_iff.mp (List.all_eq_true.mp h e (List.mem_of_getElem? he))
/-- one elimination -/
theorem elim_ok {m k i : Nat} {rs ways es : List D} {e : D} (S : Sto) (hk : k ≤ rs.countP zrow) (hr : mat m (bb k) rs) (hw : mat m (ww k) ways) (hm : m ≤ 5) (hi : i < m) (hes : rs[i]? = some (.lst es)) (hee : es[i]? = some e) (h0 : e ≠ Z) : k ≤ 4 ∧
    ∀ ρ : En, ρ[1]? = some (some (.val (.lst rs))) → ρ[5]? = some (some (.val (.int i))) → ρ[6]? = some (some (.val e)) → ρ.length = 12 →
      ∃ ps, dComp (dItr (dPv 1)) (.name 9) dYes (dCall d_divided (dCons (dOp oIx (dPv 9) (dVar 5)) (dCons (dVar 6) dNil))) [9] ρ S = .ok ps S ∧
        (∀ ρ : En, ρ[2]? = some (some (.val (.lst ways))) → ρ[7]? = some (some (.val (.lst ps))) → ρ[5]? = some (some (.val (.int i))) → ρ.length = 12 → ∃ ws, dComp (dZip (dPv 2) (dPv 7)) (.tup [10, 11]) dYes (dCall d_less_part (dCons (dVar 10) (dCons (dVar 11) (dCons (dOp oIx (dPv 2) (dVar 5)) dNil)))) [10, 11] ρ S = .ok ws S ∧ mat m (ww (k + 1)) ws) ∧
        (∀ ρ : En, ρ[1]? = some (some (.val (.lst rs))) → ρ[7]? = some (some (.val (.lst ps))) → ρ[5]? = some (some (.val (.int i))) → ρ.length = 12 → ∃ zs, dComp (dZip (dPv 1) (dPv 7)) (.tup [9, 11]) dYes (dCall d_less_part (dCons (dVar 9) (dCons (dVar 11) (dCons (dOp oIx (dPv 1) (dVar 5)) dNil)))) [9, 11] ρ S = .ok zs S ∧ mat m (bb (k + 1)) zs ∧ k + 1 ≤ zs.countP zrow) := by
  have nz : zrow (.lst es) = false := by
    cases q : zrow (.lst es) with
    | false => rfl
    | true => exact absurd (zrow_at q hee) h0
  have cl := count_lt hes nz
  rw [hr.len] at cl
  have k4 : k ≤ 4 := by omega
  have b2 := bb_le k
  obtain ⟨es', y1, y2, y3⟩ := hr.at hi
  rw [hes] at y1; cases y1
  refine ⟨k4, fun ρ h1 h5 h6 hl => ?_⟩
  obtain ⟨ps, p1, p2, p3⟩ := parts_ok (S := S) hr hm hi (y3.at hee) h0 h1 h5 h6 hl (by omega)
  -- how great the parts are
  obtain ⟨p, hp, hb, hww, hbb⟩ : ∃ p, (∀ x ∈ ps, fr p x) ∧ bb k + (p + bb k) + 1 ≤ 8999 ∧ ww k + (p + ww k) + 1 ≤ ww (k + 1) ∧ (k ≤ 3 → bb k + (p + bb k) + 1 ≤ bb (k + 1)) := by
    by_cases q : k ≤ 3
    · refine ⟨bb k + bb k, fun x hx => ?_, ?_, ?_, fun _ => ?_⟩
      · obtain ⟨j, hj, e⟩ := List.mem_iff_getElem.mp hx
        have hx' : ps[j]? = some x := by rw [List.getElem?_eq_getElem hj, e]
        obtain ⟨r, hr'⟩ : ∃ r, rs[j]? = some r := ⟨_, List.getElem?_eq_getElem (by rw [hr.len]; omega)⟩
        obtain ⟨_, _, _, _, z, _⟩ := p3 j r x hr' hx'
        exact z
      · exact (num1 k q).1
      · exact (num1 k q).2.1
      · exact (num1 k q).2.2
    · have e4 : k = 4 := by omega
      subst e4
      refine ⟨1, fun x hx => ?_, by decide, by decide, fun h => absurd h (by decide)⟩
      obtain ⟨j, hj, e⟩ := List.mem_iff_getElem.mp hx
      have hx' : ps[j]? = some x := by rw [List.getElem?_eq_getElem hj, e]
      obtain ⟨r, hr'⟩ : ∃ r, rs[j]? = some r := ⟨_, List.getElem?_eq_getElem (by rw [hr.len]; omega)⟩
      obtain ⟨fs, y, rfl, z1, _, z2, z3⟩ := p3 j r x hr' hx'
      by_cases ij : i = j
      · subst ij
        rw [hes] at hr'
        cases hr'
        rw [hee] at z1
        cases z1
        rw [z3 rfl]
        exact fr_One (Nat.le_refl _)
      · cases q2 : zrow (.lst fs) with
        | true =>
          rw [z2 (zrow_at q2 z1)]
          exact fr_Z (Nat.le_refl _)
        | false =>
          have := count_two hes hr' ij nz q2
          rw [hr.len] at this
          omega
  have wl : ww (k + 1) ≤ 8999 := num2 k k4
  refine ⟨ps, p1, fun ρ g2 g7 g5 gl => ?_, fun ρ g1 g7 g5 gl => ?_⟩
  · obtain ⟨es2, w1, w2, w3⟩ := hw.at hi
    obtain ⟨ws, a1, a2, _⟩ := rows_less (A := 10) (S := S) hw hm hi p2 hp w1 g2 g7 g5 gl (.inr rfl) (.inr rfl) (by omega)
    exact ⟨ws, a1, a2.mono hww⟩
  · obtain ⟨zs, a1, a2, a3⟩ := rows_less (A := 9) (S := S) hr hm hi p2 hp hes g1 g7 g5 gl (.inl rfl) (.inl rfl) hb
    have cu : rs.countP zrow + 1 ≤ zs.countP zrow := by
      obtain ⟨pi, hpi⟩ : ∃ x, ps[i]? = some x := ⟨_, List.getElem?_eq_getElem (by omega)⟩
      obtain ⟨zi, hzi⟩ : ∃ x, zs[i]? = some x := ⟨_, List.getElem?_eq_getElem (by rw [a2.len]; exact hi)⟩
      refine count_up (by rw [hr.len, a2.len]) (fun j a b ha hb hz => ?_) hes hzi nz ?_
      · have hj : j < m := by rw [← hr.len]; exact (List.getElem?_eq_some_iff.mp ha).1
        obtain ⟨x, hx⟩ : ∃ x, ps[j]? = some x := ⟨_, List.getElem?_eq_getElem (by omega)⟩
        obtain ⟨fs, y, rfl, z1, _, z2, _⟩ := p3 j a x ha hx
        rw [(a3 j _ x b ha hx hb).1 (z2 (zrow_at hz z1))]
        exact hz
      · obtain ⟨fs, y, f1, z1, _, _, z3⟩ := p3 i _ pi hes hpi
        cases f1
        rw [hee] at z1
        cases z1
        exact (a3 i _ pi zi hes hpi hzi).2 (z3 rfl) rfl
    refine ⟨zs, a1, ?_, by omega⟩
    by_cases q : k ≤ 3
    · exact a2.mono (hbb q)
    · have full : zs.countP zrow = zs.length := by
        have := List.countP_le_length (p := zrow) (l := zs)
        have := a2.len
        omega
      have allz := List.countP_eq_length.mp full
      refine ⟨a2.len, fun r hr => ?_⟩
      obtain ⟨fs, rfl, f1, _⟩ := a2.row r hr
      refine ⟨fs, rfl, f1, fun x hx => ?_⟩
      have : x = Z := zb_iff.mp (List.all_eq_true.mp (allz _ hr) x hx)
      rw [this]
      exact fr_Z (bb_pos _)
end DL

namespace DL
open PySem PySem.Spec PyProof.Rows L2
def condB : DT := dAndT (dTst (dIsN true (dVar 5))) (dOrT (dTst (dOp (oEq false) (dPv 3) (dLst dNil))) (dTst (dCall d_is_less (dCons (dC (.tup [.int 0, .int 1])) (dCons (dOp oIx (dPv 3) (dNeg (dC (.int 1)))) dNil)))))
def waysB : DS := dSet 2 (dFzL (dComp (dZip (dPv 2) (dPv 7)) (.tup [10, 11]) dYes (dCall d_less_part (dCons (dVar 10) (dCons (dVar 11) (dCons (dOp oIx (dPv 2) (dVar 5)) dNil)))) [10, 11]))
def rowsB : DS := dSet 1 (dFzL (dComp (dZip (dPv 1) (dPv 7)) (.tup [9, 11]) dYes (dCall d_less_part (dCons (dVar 9) (dCons (dVar 11) (dCons (dOp oIx (dPv 1) (dVar 5)) dNil)))) [9, 11]))
def partsB : DE := dFzL (dComp (dItr (dPv 1)) (.name 9) dYes (dCall d_divided (dCons (dOp oIx (dPv 9) (dVar 5)) (dCons (dVar 6) dNil))) [9])
def bodyB : DS := dSeq (dSet 6 (dOp oIx (dOp oIx (dPv 1) (dVar 5)) (dVar 5))) (dSeq (dSet 7 partsB) (dSeq (dOm 3 lApp (dCons (dVar 6) dNil) kDrop) (dSeq (dOm 4 lApp (dCons (dVar 7) dNil) kDrop)
    (dSeq (dIfS (dTst (dCall d_is_less (dCons (dC (.tup [.int 0, .int 1])) (dCons (dVar 6) dNil)))) (dSeq waysB rowsB) dNext) (dSet 5 (dCall d_first_own (dCons (dVar 1) dNil)))))))
abbrev stB (rows rs ways told shares : List D) (a : D) (o6 o7 o8 o9 o10 o11 : Option Sl) : En := [some (.val (.tup rows)), some (.val (.lst rs)), some (.val (.lst ways)), some (.own told), some (.own shares), some (.val a), o6, o7, o8, o9, o10, o11]
structure invB (m k : Nat) (rs ways : List D) : Prop where
  z : k ≤ rs.countP zrow
  r : mat m (bb k) rs
  w : mat m (ww k) ways
theorem dIfS_ok {c : DT} {f g : DS} {ρ : En} {S S1 : Sto} {b : Bool} (h : c ρ S = .ok b S1) : dIfS c f g ρ S = if b = true then f ρ S1 else g ρ S1 := by unfold dIfS; rw [h]; rfl
theorem app_ok {i : Nat} {g : DA} {ρ : En} {S S1 : Sto} {ds : List D} {y : D} (h : ρ[i]? = some (some (.own ds))) (hg : g ρ S = .ok [y] S1) (hz : ds.length ≤ 1000) : dOm i lApp g kDrop ρ S = .nx (ρ.set i (some (.own (ds ++ [y])))) S1 := by
  have lt : ds.length < LIM := Nat.lt_of_le_of_lt hz (by rw [lim_val]; omega)
  unfold dOm
  simp only [h, hg, Out.st_ok, lApp, if_pos lt, kDrop]
theorem bodyB_ok {m k i : Nat} {rows rs ways told shares es : List D} {e : D} {o6 o7 o8 o9 o10 o11 : Option Sl} (S : Sto) (I : invB m k rs ways) (hm : m ≤ 5) (hi : i < m) (hes : rs[i]? = some (.lst es)) (hee : es[i]? = some e) (h0 : e ≠ Z) (ht : told.length ≤ 100) (hs : shares.length ≤ 100) :
    ∃ rs' ways' ps a' b, bodyB (stB rows rs ways told shares (.int i) o6 o7 o8 o9 o10 o11) S = .nx (stB rows rs' ways' (told ++ [e]) (shares ++ [ps]) a' (some (.val e)) (some (.val ps)) o8 o9 o10 o11) S ∧ k ≤ 4 ∧ pivot m rs' a' ∧ fr 3242 e ∧ d_is_less [Z, e] S = .ok (.bl b) S ∧
      (b = true → invB m (k + 1) rs' ways') ∧ (b = false → rs' = rs) := by
  obtain ⟨k4, el⟩ := elim_ok S I.z I.r I.w hm hi hes hee h0
  obtain ⟨es', y1, y2, y3⟩ := I.r.at hi
  rw [hes] at y1; cases y1
  have fe : fr 3242 e := (y3.at hee).mono (bb_le k)
  obtain ⟨b, hb⟩ := is_less_fr S (fr_Z (k := 1) (by decide)) fe (by decide)
  have a1 : L2.atI rs (i : Int) = some (.lst es) := atI_nat hes
  have a2 : L2.atI es (i : Int) = some e := atI_nat hee
  have s1 : dSet 6 (dOp oIx (dOp oIx (dPv 1) (dVar 5)) (dVar 5)) (stB rows rs ways told shares (.int i) o6 o7 o8 o9 o10 o11) S = .nx (stB rows rs ways told shares (.int i) (some (.val e)) o7 o8 o9 o10 o11) S := by
    refine dSet_ok (d := e) ?_
    simp [gMul, gDiv, gMod, gPow, oIx, a1, a2]
  obtain ⟨ps, p1, p2, p3⟩ := el (stB rows rs ways told shares (.int i) (some (.val e)) o7 o8 o9 o10 o11) rfl rfl rfl rfl
  have s2 : dSet 7 partsB (stB rows rs ways told shares (.int i) (some (.val e)) o7 o8 o9 o10 o11) S = .nx (stB rows rs ways told shares (.int i) (some (.val e)) (some (.val (.lst ps))) o8 o9 o10 o11) S := dSet_ok (dFzL_ok p1)
  have s3 : dOm 3 lApp (dCons (dVar 6) dNil) kDrop (stB rows rs ways told shares (.int i) (some (.val e)) (some (.val (.lst ps))) o8 o9 o10 o11) S = .nx (stB rows rs ways (told ++ [e]) shares (.int i) (some (.val e)) (some (.val (.lst ps))) o8 o9 o10 o11) S := app_ok rfl rfl (by omega)
  have s4 : dOm 4 lApp (dCons (dVar 7) dNil) kDrop (stB rows rs ways (told ++ [e]) shares (.int i) (some (.val e)) (some (.val (.lst ps))) o8 o9 o10 o11) S = .nx (stB rows rs ways (told ++ [e]) (shares ++ [.lst ps]) (.int i) (some (.val e)) (some (.val (.lst ps))) o8 o9 o10 o11) S := app_ok rfl rfl (by omega)
  have c5 : dTst (dCall d_is_less (dCons (dC (.tup [.int 0, .int 1])) (dCons (dVar 6) dNil))) (stB rows rs ways (told ++ [e]) (shares ++ [.lst ps]) (.int i) (some (.val e)) (some (.val (.lst ps))) o8 o9 o10 o11) S = .ok b S := by
    unfold dTst
    rw [dCall_ok (xs := [Z, e]) (S' := S) rfl, hb]
    rfl
  have fin : ∀ rs' ways', (∃ k', mat m k' rs') → (dIfS (dTst (dCall d_is_less (dCons (dC (.tup [.int 0, .int 1])) (dCons (dVar 6) dNil)))) (dSeq waysB rowsB) dNext) (stB rows rs ways (told ++ [e]) (shares ++ [.lst ps]) (.int i) (some (.val e)) (some (.val (.lst ps))) o8 o9 o10 o11) S = .nx (stB rows rs' ways' (told ++ [e]) (shares ++ [.lst ps]) (.int i) (some (.val e)) (some (.val (.lst ps))) o8 o9 o10 o11) S →
      ∃ a', bodyB (stB rows rs ways told shares (.int i) o6 o7 o8 o9 o10 o11) S = .nx (stB rows rs' ways' (told ++ [e]) (shares ++ [.lst ps]) a' (some (.val e)) (some (.val (.lst ps))) o8 o9 o10 o11) S ∧ pivot m rs' a' := by
    rintro rs' ways' ⟨k', hm'⟩ h
    obtain ⟨a', f1, f2⟩ := first_own_ok hm' hm S
    refine ⟨a', ?_, f2⟩
    unfold bodyB
    rw [dSeq_nx s1, dSeq_nx s2, dSeq_nx s3, dSeq_nx s4, dSeq_nx h]
    refine dSet_ok (d := a') ?_
    rw [dCall_ok (xs := [.lst rs']) (S' := S) rfl, f1]
  cases b with
  | true =>
    obtain ⟨ws, w1, w2⟩ := p2 (stB rows rs ways (told ++ [e]) (shares ++ [.lst ps]) (.int i) (some (.val e)) (some (.val (.lst ps))) o8 o9 o10 o11) rfl rfl rfl rfl
    obtain ⟨zs, z1, z2, z3⟩ := p3 (stB rows rs ws (told ++ [e]) (shares ++ [.lst ps]) (.int i) (some (.val e)) (some (.val (.lst ps))) o8 o9 o10 o11) rfl rfl rfl rfl
    have t1 : waysB (stB rows rs ways (told ++ [e]) (shares ++ [.lst ps]) (.int i) (some (.val e)) (some (.val (.lst ps))) o8 o9 o10 o11) S = .nx (stB rows rs ws (told ++ [e]) (shares ++ [.lst ps]) (.int i) (some (.val e)) (some (.val (.lst ps))) o8 o9 o10 o11) S := dSet_ok (dFzL_ok w1)
    have t2 : rowsB (stB rows rs ws (told ++ [e]) (shares ++ [.lst ps]) (.int i) (some (.val e)) (some (.val (.lst ps))) o8 o9 o10 o11) S = .nx (stB rows zs ws (told ++ [e]) (shares ++ [.lst ps]) (.int i) (some (.val e)) (some (.val (.lst ps))) o8 o9 o10 o11) S := dSet_ok (dFzL_ok z1)
    obtain ⟨a', f1, f2⟩ := fin zs ws ⟨_, z2⟩ (by rw [dIfS_ok c5, if_pos rfl, dSeq_nx t1]; exact t2)
    exact ⟨zs, ws, .lst ps, a', true, f1, k4, f2, fe, hb, fun _ => ⟨z3, z2, w2⟩, fun h => by cases h⟩
  | false =>
    obtain ⟨a', f1, f2⟩ := fin rs ways ⟨_, I.r⟩ (by rw [dIfS_ok c5, if_neg (by decide)]; rfl)
    exact ⟨rs, ways, .lst ps, a', false, f1, k4, f2, fe, hb, fun h => (Bool.false_ne_true h).elim, fun _ => rfl⟩
theorem whGo_inv {c : DT} {body : DS} (I : Nat → En → Sto → Prop) (Q : En → Sto → Prop) (st : ∀ n ρ S, I n ρ S → (∃ S', c ρ S = .ok false S' ∧ Q ρ S') ∨ (∃ S1 ρ' S' n', c ρ S = .ok true S1 ∧ body ρ S1 = .nx ρ' S' ∧ n' < n ∧ I n' ρ' S')) :
    ∀ (fuel n : Nat) ρ S, n < fuel → I n ρ S → ∃ ρ' S', whGo c body fuel ρ S = .nx ρ' S' ∧ Q ρ' S'
  | 0, n, ρ, S, h, _ => absurd h (Nat.not_lt_zero n)
  | fuel + 1, n, ρ, S, h, hI => by
    rcases st n ρ S hI with ⟨S', h1, h2⟩ | ⟨S1, ρ1, S2, n1, h1, h2, h3, h4⟩
    · refine ⟨ρ, S', ?_, h2⟩
      unfold whGo
      rw [h1]
      rfl
    · obtain ⟨ρ', S', q1, q2⟩ := whGo_inv I Q st fuel n1 ρ1 S2 (by omega) h4
      refine ⟨ρ', S', ?_, q2⟩
      unfold whGo
      rw [h1]
      simp only [Out.st_ok, if_true, h2, q1]
end DL

namespace DL
open PySem PySem.Spec PyProof.Rows L2
theorem frs_dat {k : Nat} {xs : List D} (h : allF k xs) : xs.all (isDat 23) = true := List.all_eq_true.mpr fun x hx => isDat_frac 22 (h x hx)
theorem dLst_nil {ρ : En} {S : Sto} : dLst dNil ρ S = .ok (.lst []) S := by
  unfold dLst dNil
  rw [Out.bind_ok, if_pos (lim_of (by simp))]
section
variable {m k : Nat} {rows rs ways told shares : List D} {o6 o7 o8 o9 o10 o11 : Option Sl} {S : Sto}
theorem condB_non : condB (stB rows rs ways told shares .non o6 o7 o8 o9 o10 o11) S = .ok false S := by
  unfold condB dAndT
  rw [show dTst (dIsN true (dVar 5)) (stB rows rs ways told shares .non o6 o7 o8 o9 o10 o11) S = .ok false S from rfl]
  rfl
theorem tnil (a : D) (h : told.all (isDat 23) = true) : dTst (dOp (oEq false) (dPv 3) (dLst dNil)) (stB rows rs ways told shares a o6 o7 o8 o9 o10 o11) S = .ok told.isEmpty S := by
  unfold dTst dOp
  rw [show dPv 3 (stB rows rs ways told shares a o6 o7 o8 o9 o10 o11) S = .ok (.lst told) S from rfl, Out.bind_ok, dLst_nil, Out.bind_ok, oEq_nil h]
  rfl
theorem condB_nil (i : Int) : condB (stB rows rs ways [] shares (.int i) o6 o7 o8 o9 o10 o11) S = .ok true S := by
  unfold condB dAndT dOrT
  rw [show dTst (dIsN true (dVar 5)) (stB rows rs ways [] shares (.int i) o6 o7 o8 o9 o10 o11) S = .ok true S from rfl, Out.bind_ok, if_pos rfl, tnil _ rfl]
  rfl
theorem condB_last (i : Int) {t : List D} {x : D} {b : Bool} (h : (t ++ [x]).all (isDat 23) = true) (hb : d_is_less [Z, x] S = .ok (.bl b) S) : condB (stB rows rs ways (t ++ [x]) shares (.int i) o6 o7 o8 o9 o10 o11) S = .ok b S := by
  have e1 : (t ++ [x]).isEmpty = false := by cases t <;> rfl
  have e2 : dOp oIx (dPv 3) (dNeg (dC (.int 1))) (stB rows rs ways (t ++ [x]) shares (.int i) o6 o7 o8 o9 o10 o11) S = .ok x S := by
    unfold dOp
    rw [show dPv 3 (stB rows rs ways (t ++ [x]) shares (.int i) o6 o7 o8 o9 o10 o11) S = .ok (.lst (t ++ [x])) S from rfl, Out.bind_ok, show dNeg (dC (.int 1)) (stB rows rs ways (t ++ [x]) shares (.int i) o6 o7 o8 o9 o10 o11) S = .ok (.int (-1)) S from rfl, Out.bind_ok]
    simp only [oIx, seqS, atI_last]
  unfold condB dAndT dOrT
  rw [show dTst (dIsN true (dVar 5)) (stB rows rs ways (t ++ [x]) shares (.int i) o6 o7 o8 o9 o10 o11) S = .ok true S from rfl, Out.bind_ok, if_pos rfl, tnil _ h, Out.bind_ok, e1, if_neg (by decide)]
  unfold dTst
  rw [dCall_ok (xs := [Z, x]) (S' := S) (dCons_ok rfl (dCons_ok e2 rfl)), hb]
  rfl
end
theorem loop_ok {m : Nat} {rows rs ways : List D} {a : D} (S : Sto) (I : invB m 0 rs ways) (hm : m ≤ 5) (hp : pivot m rs a) : ∃ rs' ways' told shares a' o6 o7, whGo condB bodyB FUEL (stB rows rs ways [] [] a none none none none none none) S = .nx (stB rows rs' ways' told shares a' o6 o7 none none none none) S ∧ allF 3242 told ∧ told.length ≤ 10 ∧ shares.length ≤ 10 ∧ ∃ k, mat m k rs' := by
  have key := whGo_inv (c := condB) (body := bodyB)
    (I := fun n ρ S' => S' = S ∧ ∃ rs ways told shares a o6 o7, ρ = stB rows rs ways told shares a o6 o7 none none none none ∧ pivot m rs a ∧ allF 3242 told ∧ shares.length = told.length ∧ told.length ≤ 6 ∧
      ((∃ k, k ≤ 5 ∧ n = 6 - k ∧ told.length = k ∧ invB m k rs ways) ∨ (n = 0 ∧ (∃ k, mat m k rs) ∧ ∃ t x, told = t ++ [x] ∧ d_is_less [Z, x] S = .ok (.bl false) S)))
    (Q := fun ρ S' => S' = S ∧ ∃ rs' ways' told shares a' o6 o7, ρ = stB rows rs' ways' told shares a' o6 o7 none none none none ∧ allF 3242 told ∧ told.length ≤ 10 ∧ shares.length ≤ 10 ∧ ∃ k, mat m k rs') (by
    rintro n ρ S' ⟨rfl, rs, ways, told, shares, a, o6, o7, rfl, hp, hf, hs, hl, hk⟩
    have hM : ∃ k, mat m k rs := by
      rcases hk with ⟨k, _, _, _, I⟩ | ⟨_, h, _⟩
      · exact ⟨_, I.r⟩
      · exact h
    have done : ∃ rs' ways' told' shares' a' o6' o7', stB rows rs ways told shares a o6 o7 none none none none = stB rows rs' ways' told' shares' a' o6' o7' none none none none ∧ allF 3242 told' ∧ told'.length ≤ 10 ∧ shares'.length ≤ 10 ∧ ∃ k, mat m k rs' := ⟨rs, ways, told, shares, a, o6, o7, rfl, hf, by omega, by omega, hM⟩
    rcases hp with rfl | ⟨i, es, e, hi, rfl, hes, hee, h0⟩
    · exact .inl ⟨S', condB_non, rfl, done⟩
    · rcases hk with ⟨k, k5, rfl, hlk, I⟩ | ⟨rfl, _, t, x, rfl, hx⟩
      · have cond : ∃ b, condB (stB rows rs ways told shares (.int i) o6 o7 none none none none) S' = .ok b S' := by
          rcases List.eq_nil_or_concat told with rfl | ⟨t, x, rfl⟩
          · exact ⟨true, condB_nil i⟩
          · rw [List.concat_eq_append] at hf ⊢
            obtain ⟨b, hb⟩ := is_less_fr S' (fr_Z (k := 1) (by decide)) (hf x (by simp)) (by decide)
            exact ⟨b, condB_last i (frs_dat hf) hb⟩
        obtain ⟨b, hb⟩ := cond
        cases b with
        | false => exact .inl ⟨S', hb, rfl, done⟩
        | true =>
          obtain ⟨rs', ways', ps, a', l, b1, b2, b3, b4, b5, b6, b7⟩ := bodyB_ok (rows := rows) (told := told) (shares := shares) (o6 := o6) (o7 := o7) (o8 := none) (o9 := none) (o10 := none) (o11 := none) S' I hm hi hes hee h0 (by omega) (by omega)
          have hf' : allF 3242 (told ++ [e]) := fun y hy => by
            rcases List.mem_append.mp hy with q | q
            · exact hf y q
            · rw [List.mem_singleton.mp q]; exact b4
          cases l with
          | true =>
            exact .inr ⟨S', _, S', 6 - (k + 1), hb, b1, by omega, rfl, rs', ways', _, _, _, _, _, rfl, b3, hf', by simp [gMul, gDiv, gMod, gPow, hs], by rw [List.length_append]; simp; omega, .inl ⟨k + 1, by omega, rfl, by rw [List.length_append, hlk]; rfl, b6 rfl⟩⟩
          | false =>
            have er := b7 rfl
            exact .inr ⟨S', _, S', 0, hb, b1, by omega, rfl, rs', ways', _, _, _, _, _, rfl, b3, hf', by simp [gMul, gDiv, gMod, gPow, hs], by rw [List.length_append]; simp; omega, .inr ⟨rfl, by rw [er]; exact hM, told, e, rfl, b5⟩⟩
      · exact .inl ⟨S', condB_last i (frs_dat hf) hx, rfl, done⟩)
  obtain ⟨ρ', S', q1, rfl, rs', ways', told, shares, a', o6, o7, rfl, h1, h2, h3, h4⟩ := key FUEL 6 _ S (by decide) ⟨rfl, rs, ways, [], [], a, none, none, rfl, hp, (fun x hx => (nomatch hx)), rfl, by simp, .inl ⟨0, by omega, rfl, rfl, I⟩⟩
  exact ⟨rs', ways', told, shares, a', o6, o7, q1, h1, h2, h3, h4⟩
end DL

namespace DL
open PySem PySem.Spec PyProof.Rows L2
theorem Rel2.all {R : D → D → Prop} {P : D → Prop} {ds xs : List D} (h : Rel2 R ds xs) (hp : ∀ d x, R d x → P x) : ∀ x ∈ xs, P x := fun x hx => by
  obtain ⟨i, hi, e⟩ := List.mem_iff_getElem.mp hx
  obtain ⟨d, _, q⟩ := h.get (i := i) (x := x) (by rw [List.getElem?_eq_getElem hi, e])
  exact hp d x q
def waysI : DE := dFzL (dComp (dRng1 (dCB oLen (dCons (dPv 0) dNil))) (.name 5) dYes (dFzL (dComp (dRng1 (dCB oLen (dCons (dPv 0) dNil))) (.name 8) dYes (dIf (dTst (dOp (oEq false) (dPv 5) (dPv 8))) (dC (.tup [.int 1, .int 1])) (dC (.tup [.int 0, .int 1]))) [8])) [5])
theorem rng_rows {rows : List D} {ρ : En} {S : Sto} (h : ρ[0]? = some (some (.val (.tup rows)))) (hm : rows.length ≤ 900) : dRng1 (dCB oLen (dCons (dPv 0) dNil)) ρ S = .ok (rngD 0 rows.length) S := by
  have e : dCB oLen (dCons (dPv 0) dNil) ρ S = .ok (.int (rows.length : Int)) S := by
    unfold dCB dCons dPv dNil
    rw [h]
    rfl
  have := dRng1_eq e (by omega)
  rw [Int.toNat_natCast] at this
  exact this
theorem waysI_ok {m : Nat} {rows : List D} {ρ : En} (S : Sto) (h : ρ[0]? = some (some (.val (.tup rows)))) (hr : rows.length = m) (hm : m ≤ 5) (hl : ρ.length = 12) : ∃ ws, waysI ρ S = .ok (.lst ws) S ∧ mat m 1 ws := by
  have inner : ∀ (ρ : En) (i : Int), ρ[0]? = some (some (.val (.tup rows))) → ρ[5]? = some (some (.val (.int i))) → ρ.length = 12 → ∃ zs, dFzL (dComp (dRng1 (dCB oLen (dCons (dPv 0) dNil))) (.name 8) dYes (dIf (dTst (dOp (oEq false) (dPv 5) (dPv 8))) (dC (.tup [.int 1, .int 1])) (dC (.tup [.int 0, .int 1]))) [8]) ρ S = .ok (.lst zs) S ∧ zs.length = m ∧ allF 1 zs := by
    intro ρ i h0 h5 hl
    obtain ⟨zs, g1, g2⟩ := compGo_rel (t := .name 8) (tt := dYes) (te := dIf (dTst (dOp (oEq false) (dPv 5) (dPv 8))) (dC (.tup [.int 1, .int 1])) (dC (.tup [.int 0, .int 1]))) (ρ := ρ.set 8 none) (S := S) (R := fun _ z => fr 1 z) (ds := rngD 0 m) (by
      intro d hd
      obtain ⟨k, hk, rfl⟩ := rngD_mem hd
      have e5 : (setE (ρ.set 8 none) [(8, .int (0 + (k : Int)))])[5]? = some (some (.val (.int i))) := by
        show ((ρ.set 8 none).set 8 _)[5]? = _
        rw [List.getElem?_set_ne (by decide), List.getElem?_set_ne (by decide)]; exact h5
      have e8 : (setE (ρ.set 8 none) [(8, .int (0 + (k : Int)))])[8]? = some (some (.val (.int (0 + (k : Int))))) := by
        show ((ρ.set 8 none).set 8 _)[8]? = _
        exact List.getElem?_set_self (by rw [List.length_set, hl]; decide)
      refine ⟨[(8, .int (0 + k))], if i == 0 + (k : Int) then One else Z, rfl, rfl, ?_, ?_⟩
      · generalize setE (ρ.set 8 none) [(8, D.int (0 + (k : Int)))] = ρ1 at e5 e8 ⊢
        simp only [dIf, dTst, dOp, dPv, e5, e8, Out.bind_ok, oEq_int, dC]
        cases i == 0 + (k : Int) <;> rfl
      · split
        · exact fr_One (by decide)
        · exact fr_Z (by decide))
    refine ⟨zs, dFzL_ok ?_, by rw [g2.len, rngD_len], g2.all fun _ _ h => h⟩
    rw [dComp_eq (rng_rows h0 (by omega)) (by rw [rngD_len]; omega), hr]
    exact g1
  obtain ⟨ws, g1, g2⟩ := compGo_rel (t := .name 5) (tt := dYes) (te := dFzL (dComp (dRng1 (dCB oLen (dCons (dPv 0) dNil))) (.name 8) dYes (dIf (dTst (dOp (oEq false) (dPv 5) (dPv 8))) (dC (.tup [.int 1, .int 1])) (dC (.tup [.int 0, .int 1]))) [8])) (ρ := ρ.set 5 none) (S := S) (R := fun _ z => rowF m 1 z) (ds := rngD 0 m) (by
    intro d hd
    obtain ⟨k, hk, rfl⟩ := rngD_mem hd
    obtain ⟨zs, z1, z2, z3⟩ := inner (setE (ρ.set 5 none) [(5, .int (0 + (k : Int)))]) (0 + k) (by
      show ((ρ.set 5 none).set 5 _)[0]? = _
      rw [List.getElem?_set_ne (by decide), List.getElem?_set_ne (by decide)]; exact h) (by
      show ((ρ.set 5 none).set 5 _)[5]? = _
      exact List.getElem?_set_self (by rw [List.length_set, hl]; decide)) (by
      show ((ρ.set 5 none).set 5 _).length = 12
      rw [List.length_set, List.length_set, hl])
    exact ⟨[(5, .int (0 + k))], .lst zs, rfl, rfl, z1, zs, rfl, z2, z3⟩)
  refine ⟨ws, dFzL_ok ?_, by rw [g2.len, rngD_len], g2.all fun _ _ h => h⟩
  rw [dComp_eq (rng_rows h (by omega)) (by rw [rngD_len]; omega), hr]
  exact g1
theorem brought_ok {m : Nat} {rows : List D} (h : tabOk m rows) (hm : m ≤ 5) (S : Sto) : ∃ told shares rs ways k, d_brought [.tup rows] S = .ok (.tup [.lst told, .lst shares, .lst rs, .lst ways]) S ∧ allF 3242 told ∧ told.length ≤ 10 ∧ mat m k rs := by
  obtain ⟨rs, r1, r2⟩ := products_ok h hm S
  obtain ⟨ws, w1, w2⟩ := waysI_ok (ρ := [some (.val (.tup rows)), some (.val (.lst rs)), none, none, none, none, none, none, none, none, none, none]) S rfl h.len hm rfl
  obtain ⟨a, a1, a2⟩ := first_own_ok r2 hm S
  obtain ⟨rs', ways', told, shares, a', o6, o7, l1, l2, l3, l4, k, l5⟩ := loop_ok (rows := rows) (a := a) S ⟨Nat.zero_le _, r2, w2⟩ hm a2
  refine ⟨told, shares, rs', ways', k, ?_, l2, l3, l5⟩
  have def_ : d_brought = dFn 1 12 (dSeq (dSet 1 (dCall d_products_of (dCons (dVar 0) dNil))) (dSeq (dSet 2 waysI) (dSeq (dParO 3 4 (dLstL dNil) (dLstL dNil)) (dSeq (dSet 5 (dCall d_first_own (dCons (dVar 1) dNil))) (dSeq (whGo condB bodyB FUEL) (dRet (dTup (dCons (dVar 3) (dCons (dVar 4) (dCons (dVar 1) (dCons (dVar 2) dNil))))))))))) := rfl
  rw [def_, dFn_eq (np := 1) (ds := [D.tup rows]) rfl]
  rw [show frame 12 [D.tup rows] = [some (.val (.tup rows)), none, none, none, none, none, none, none, none, none, none, none] from rfl]
  have s1 : dSet 1 (dCall d_products_of (dCons (dVar 0) dNil)) [some (.val (.tup rows)), none, none, none, none, none, none, none, none, none, none, none] S = .nx [some (.val (.tup rows)), some (.val (.lst rs)), none, none, none, none, none, none, none, none, none, none] S := dSet_ok (by rw [dCall_ok (xs := [.tup rows]) (S' := S) rfl, r1])
  have s2 : dSet 2 waysI [some (.val (.tup rows)), some (.val (.lst rs)), none, none, none, none, none, none, none, none, none, none] S = .nx [some (.val (.tup rows)), some (.val (.lst rs)), some (.val (.lst ws)), none, none, none, none, none, none, none, none, none] S := dSet_ok w1
  have s3 : dParO 3 4 (dLstL dNil) (dLstL dNil) [some (.val (.tup rows)), some (.val (.lst rs)), some (.val (.lst ws)), none, none, none, none, none, none, none, none, none] S = .nx [some (.val (.tup rows)), some (.val (.lst rs)), some (.val (.lst ws)), some (.own []), some (.own []), none, none, none, none, none, none, none] S := by
    have e : ∀ ρ : En, dLstL dNil ρ S = .ok [] S := fun ρ => dLstL_ok rfl (by simp)
    unfold dParO
    rw [e, Out.st_ok, e, Out.st_ok, if_pos (by simp)]
    rfl
  have s4 : dSet 5 (dCall d_first_own (dCons (dVar 1) dNil)) [some (.val (.tup rows)), some (.val (.lst rs)), some (.val (.lst ws)), some (.own []), some (.own []), none, none, none, none, none, none, none] S = .nx (stB rows rs ws [] [] a none none none none none none) S := dSet_ok (by rw [dCall_ok (xs := [.lst rs]) (S' := S) rfl, a1])
  rw [dSeq_nx s1, dSeq_nx s2, dSeq_nx s3, dSeq_nx s4, dSeq_nx l1]
  have s5 : dTup (dCons (dVar 3) (dCons (dVar 4) (dCons (dVar 1) (dCons (dVar 2) dNil)))) (fzE (stB rows rs' ways' told shares a' o6 o7 none none none none)) S = .ok (.tup [.lst told, .lst shares, .lst rs', .lst ways']) S := by
    unfold dTup
    rw [show dCons (dVar 3) (dCons (dVar 4) (dCons (dVar 1) (dCons (dVar 2) dNil))) (fzE (stB rows rs' ways' told shares a' o6 o7 none none none none)) S = .ok [.lst told, .lst shares, .lst rs', .lst ways'] S from rfl, Out.bind_ok, if_pos (lim_of (by simp))]
  rw [dRet_ok s5]
  rfl
/-! ### what is left -/
theorem forGo_or {t : Tgt} {body : DS} (I : En → Sto → Prop) (R : D → Sto → Prop) : ∀ {ds : List D} {ρ : En} {S : Sto}, I ρ S →
    (∀ d ∈ ds, ∀ ρ S, I ρ S → ∃ kvs, t.kv d = some kvs ∧ ((∃ ρ' S', body (setE ρ kvs) S = .nx ρ' S' ∧ I ρ' S') ∨ (∃ x S', body (setE ρ kvs) S = .rt x S' ∧ R x S'))) →
    (∃ ρ' S', forGo t body ds ρ S = .nx ρ' S' ∧ I ρ' S') ∨ (∃ x S', forGo t body ds ρ S = .rt x S' ∧ R x S')
  | [], ρ, S, h, _ => .inl ⟨ρ, S, rfl, h⟩
  | d :: ds, ρ, S, h, st => by
    obtain ⟨kvs, h1, h2⟩ := st d List.mem_cons_self ρ S h
    rcases h2 with ⟨ρ1, S1, h2, h3⟩ | ⟨x, S1, h2, h3⟩
    · have ih := forGo_or I R (ds := ds) h3 fun e he => st e (List.mem_cons_of_mem _ he)
      have e : forGo t body (d :: ds) ρ S = forGo t body ds ρ1 S1 := by
        conv => lhs; unfold forGo
        rw [h1]
        simp only [h2]
      rw [e]
      exact ih
    · refine .inr ⟨x, S1, ?_, h3⟩
      unfold forGo
      rw [h1]
      simp only [h2]
theorem first_left_ok {m k : Nat} {rs : List D} (h : mat m k rs) (hm : m ≤ 5) (S : Sto) : ∃ d, d_first_left [.lst rs] S = .ok d S := by
  have hr := h.len
  have run := forGo_or (t := .tup [1, 2]) (body := dFor (dEnum (dVar 2)) (.tup [3, 4]) (dIfS (dTst (dOp (oEq true) (dPv 4) (dC (.tup [.int 0, .int 1])))) (dRet (dTup (dCons (dVar 1) (dCons (dVar 3) dNil)))) dNext))
    (I := fun ρ S' => S' = S ∧ ρ.length = 5) (R := fun _ S' => S' = S) (ds := enumD 0 rs) (ρ := [some (.val (.lst rs)), none, none, none, none]) (S := S) ⟨rfl, rfl⟩ (by
    rintro d hd ρ S' ⟨rfl, hl⟩
    obtain ⟨i, x, h1, rfl⟩ := enumD_mem hd
    obtain ⟨es, rfl, e1, e2⟩ := h.row x (List.mem_of_getElem? h1)
    refine ⟨[(1, .int i), (2, .lst es)], rfl, ?_⟩
    have q1 : (setE ρ [(1, .int i), (2, .lst es)])[1]? = some (some (.val (.int i))) := by
      show ((ρ.set 1 _).set 2 _)[1]? = _
      rw [List.getElem?_set_ne (by decide)]; exact List.getElem?_set_self (by omega)
    have q2 : (setE ρ [(1, .int i), (2, .lst es)])[2]? = some (some (.val (.lst es))) := by
      show ((ρ.set 1 _).set 2 _)[2]? = _
      exact List.getElem?_set_self (by rw [List.length_set]; omega)
    have ql : (setE ρ [(1, .int i), (2, .lst es)]).length = 5 := by
      show ((ρ.set 1 _).set 2 _).length = 5
      rw [List.length_set, List.length_set, hl]
    generalize setE ρ [(1, D.int i), (2, D.lst es)] = ρ1 at q1 q2 ql ⊢
    rw [dFor_eq (S1 := S') (ds := enumD 0 es) (by unfold dEnum dVar; rw [q2]; rfl)]
    have inn := forGo_or (t := .tup [3, 4]) (body := dIfS (dTst (dOp (oEq true) (dPv 4) (dC (.tup [.int 0, .int 1])))) (dRet (dTup (dCons (dVar 1) (dCons (dVar 3) dNil)))) dNext)
      (I := fun ρ S'' => S'' = S' ∧ ρ.length = 5 ∧ ρ[1]? = some (some (.val (.int i)))) (R := fun _ S'' => S'' = S') (ds := enumD 0 es) (ρ := ρ1) (S := S') ⟨rfl, ql, q1⟩ (by
      rintro d hd ρ S'' ⟨rfl, hl, hv⟩
      obtain ⟨j, y, j1, rfl⟩ := enumD_mem hd
      obtain ⟨n, c, rfl, _⟩ := e2.at j1
      refine ⟨[(3, .int j), (4, .tup [.int n, .int c])], rfl, ?_⟩
      have p1 : (setE ρ [(3, .int j), (4, .tup [.int n, .int c])])[1]? = some (some (.val (.int i))) := by
        show ((ρ.set 3 _).set 4 _)[1]? = _
        rw [List.getElem?_set_ne (by decide), List.getElem?_set_ne (by decide)]; exact hv
      have p3 : (setE ρ [(3, .int j), (4, .tup [.int n, .int c])])[3]? = some (some (.val (.int j))) := by
        show ((ρ.set 3 _).set 4 _)[3]? = _
        rw [List.getElem?_set_ne (by decide)]; exact List.getElem?_set_self (by omega)
      have p4 : (setE ρ [(3, .int j), (4, .tup [.int n, .int c])])[4]? = some (some (.val (.tup [.int n, .int c]))) := by
        show ((ρ.set 3 _).set 4 _)[4]? = _
        exact List.getElem?_set_self (by rw [List.length_set]; omega)
      have pl : (setE ρ [(3, .int j), (4, .tup [.int n, .int c])]).length = 5 := by
        show ((ρ.set 3 _).set 4 _).length = 5
        rw [List.length_set, List.length_set, hl]
      generalize setE ρ [(3, D.int j), (4, D.tup [.int n, .int c])] = ρ2 at p1 p3 p4 pl ⊢
      have ct : dTst (dOp (oEq true) (dPv 4) (dC (.tup [.int 0, .int 1]))) ρ2 S'' = .ok (!(n == 0 && c == 1)) S'' := by
        simp only [dTst, dOp, dPv, p4, Out.bind_ok, dC, oEq_frac]
        rfl
      rw [dIfS_ok ct]
      split
      · refine .inr ⟨.tup [.int i, .int j], S'', dRet_ok ?_, rfl⟩
        have f1 : (fzE ρ2)[1]? = some (some (.val (.int i))) := by unfold fzE; rw [List.getElem?_map, p1]; rfl
        have f3 : (fzE ρ2)[3]? = some (some (.val (.int j))) := by unfold fzE; rw [List.getElem?_map, p3]; rfl
        unfold dTup dCons dVar dNil
        rw [f1, Out.bind_ok, f3]
        simp only [Out.bind_ok]
        rw [if_pos (lim_of (by simp))]
      · exact .inl ⟨ρ2, S'', rfl, rfl, pl, p1⟩)
    rcases inn with ⟨ρ', S'', a1, a2, a3, _⟩ | ⟨x, S'', a1, a2⟩
    · exact .inl ⟨ρ', S'', a1, a2, a3⟩
    · exact .inr ⟨x, S'', a1, a2⟩)
  unfold d_first_left
  rw [dFn_eq (np := 1) (ds := [D.lst rs]) rfl, show frame 5 [D.lst rs] = [some (.val (.lst rs)), none, none, none, none] from rfl]
  rcases run with ⟨ρ', S', a1, rfl, _⟩ | ⟨x, S', a1, rfl⟩
  · refine ⟨.non, ?_⟩
    rw [dSeq_nx ((dFor_eq (S1 := S') (ds := enumD 0 rs) rfl).trans a1)]
    rfl
  · refine ⟨x, ?_⟩
    have := (dFor_eq (t := .tup [1, 2]) (body := dFor (dEnum (dVar 2)) (.tup [3, 4]) (dIfS (dTst (dOp (oEq true) (dPv 4) (dC (.tup [.int 0, .int 1])))) (dRet (dTup (dCons (dVar 1) (dCons (dVar 3) dNil)))) dNext)) (it := dEnum (dVar 0)) (ρ := [some (.val (.lst rs)), none, none, none, none]) (S := S') (S1 := S') (ds := enumD 0 rs) rfl).trans a1
    unfold dSeq
    rw [this]
    rfl
theorem is_placed_ok {m : Nat} {rows : List D} (h : tabOk m rows) (hm : m ≤ 5) (S : Sto) : ∃ b, d_is_placed_by [.tup rows] S = .ok (.bl b) S := by
  obtain ⟨told, shares, rs, ways, k, b1, b2, b3, b4⟩ := brought_ok h hm S
  obtain ⟨xs, g1, g2⟩ := compGo_rel (t := .name 5) (tt := dYes) (te := dCall d_is_less (dCons (dC (.tup [.int 0, .int 1])) (dCons (dVar 5) dNil))) (ρ := [some (.val (.tup rows)), some (.val (.lst told)), some (.val (.lst shares)), some (.val (.lst rs)), some (.val (.lst ways)), none]) (S := S) (R := fun _ z => ∃ b, z = .bl b) (ds := told) (by
    intro d hd
    obtain ⟨b, hb⟩ := is_less_fr S (fr_Z (k := 1) (by decide)) (b2 d hd) (by decide)
    exact ⟨[(5, d)], .bl b, rfl, rfl, hb, b, rfl⟩)
  have hx : ∀ x ∈ xs, ∃ b, x = .bl b := g2.all fun _ _ h => h
  have bls : ∀ {xs : List D}, (∀ x ∈ xs, ∃ b, x = .bl b) → ∃ bs, blsOf xs = some bs := by
    intro xs
    induction xs with
    | nil => intro _; exact ⟨[], rfl⟩
    | cons x xs ih =>
      intro h
      obtain ⟨b, rfl⟩ := h _ List.mem_cons_self
      obtain ⟨bs, e⟩ := ih fun y hy => h y (List.mem_cons_of_mem _ hy)
      exact ⟨b :: bs, by show (blsOf xs).map (b :: ·) = _; rw [e]; rfl⟩
  obtain ⟨bs, hbs⟩ := bls hx
  obtain ⟨d, hd⟩ := first_left_ok b4 hm S
  have c1 : dFzL (dComp (dItr (dPv 1)) (.name 5) dYes (dCall d_is_less (dCons (dC (.tup [.int 0, .int 1])) (dCons (dVar 5) dNil))) [5]) (fzE [some (.val (.tup rows)), some (.val (.lst told)), some (.val (.lst shares)), some (.val (.lst rs)), some (.val (.lst ways)), none]) S = .ok (.lst xs) S := by
    refine dFzL_ok ?_
    rw [dComp_eq (S1 := S) (ds := told) rfl (by omega)]
    exact g1
  have c2 : dCB (oBls fun bs => bs.all id) (dCons (dFzL (dComp (dItr (dPv 1)) (.name 5) dYes (dCall d_is_less (dCons (dC (.tup [.int 0, .int 1])) (dCons (dVar 5) dNil))) [5])) dNil) (fzE [some (.val (.tup rows)), some (.val (.lst told)), some (.val (.lst shares)), some (.val (.lst rs)), some (.val (.lst ways)), none]) S = .ok (.bl (bs.all id)) S := by
    unfold dCB
    rw [dCons_ok c1 rfl, Out.bind_ok]
    simp only [oBls, lstS, hbs]
  have c3 : dIsN false (dCall d_first_left (dCons (dVar 3) dNil)) (fzE [some (.val (.tup rows)), some (.val (.lst told)), some (.val (.lst shares)), some (.val (.lst rs)), some (.val (.lst ways)), none]) S = .ok (.bl (isNon d)) S := by
    unfold dIsN
    rw [dCall_ok (xs := [.lst rs]) (S' := S) rfl, hd]
    rfl
  have s1 : dAsg (dCall d_brought (dCons (dVar 0) dNil)) (gTupD 4 (gsCons (kSet 1) (gsCons (kSet 2) (gsCons (kSet 3) (gsCons (kSet 4) gsNil))))) [some (.val (.tup rows)), none, none, none, none, none] S = .nx [some (.val (.tup rows)), some (.val (.lst told)), some (.val (.lst shares)), some (.val (.lst rs)), some (.val (.lst ways)), none] S := by
    unfold dAsg
    rw [dCall_ok (xs := [.tup rows]) (S' := S) rfl, b1]
    rfl
  refine ⟨bs.all id && isNon d, ?_⟩
  unfold d_is_placed_by
  rw [dFn_eq (np := 1) (ds := [D.tup rows]) rfl, show frame 6 [D.tup rows] = [some (.val (.tup rows)), none, none, none, none, none] from rfl, dSeq_nx s1]
  have s2 : dAnd (dCB (oBls fun bs => bs.all id) (dCons (dFzL (dComp (dItr (dPv 1)) (.name 5) dYes (dCall d_is_less (dCons (dC (.tup [.int 0, .int 1])) (dCons (dVar 5) dNil))) [5])) dNil)) (dIsN false (dCall d_first_left (dCons (dVar 3) dNil))) (fzE [some (.val (.tup rows)), some (.val (.lst told)), some (.val (.lst shares)), some (.val (.lst rs)), some (.val (.lst ways)), none]) S = .ok (.bl (bs.all id && isNon d)) S := by
    unfold dAnd
    rw [c2, Out.bind_ok]
    cases q : bs.all id with
    | true => simp only [Bool.true_and]; exact c3
    | false => rfl
  rw [dRet_ok s2]
  rfl
end DL

namespace DL
open PySem PySem.Spec PyProof.Rows L2
/-! ### deeds -/
inductive Deed where
  | take | put (qs : List Int) | set (i j q : Int)
def Deed.d : Deed → D
  | .take => .tup [.str "take"]
  | .put qs => .tup [.str "put", .tup (qs.map .int)]
  | .set i j q => .tup [.str "set", .int i, .int j, .int q]
def Deed.ok : Deed → Prop
  | .take => True
  | .put qs => qs.length ≤ 100 ∧ ∀ q ∈ qs, 0 ≤ q ∧ q ≤ 999
  | .set i j q => 0 ≤ i ∧ i < j ∧ j ≤ 100 ∧ 0 ≤ q ∧ q ≤ 999
section
variable {S : Sto}
theorem oEq_str {neg : Bool} {x y : Str} (hx : PyData.strOk x = true) (hy : PyData.strOk y = true) (b : Bool) (h : (x == y) = b) : oEq neg (.str x) (.str y) S = .ok (.bl (if neg then !b else b)) S := by
  simp [gMul, gDiv, gMod, gPow, oEq, isDat_str _ _ hx, isDat_str _ _ hy, h]
theorem eq_tt : oEq false (.str "take") (.str "take") S = .ok (.bl true) S := oEq_str (by decide +kernel) (by decide +kernel) true (by decide +kernel)
theorem eq_pt : oEq false (.str "put") (.str "take") S = .ok (.bl false) S := oEq_str (by decide +kernel) (by decide +kernel) false (by decide +kernel)
theorem eq_st : oEq false (.str "set") (.str "take") S = .ok (.bl false) S := oEq_str (by decide +kernel) (by decide +kernel) false (by decide +kernel)
theorem eq_tp : oEq false (.str "take") (.str "put") S = .ok (.bl false) S := oEq_str (by decide +kernel) (by decide +kernel) false (by decide +kernel)
theorem eq_pp : oEq false (.str "put") (.str "put") S = .ok (.bl true) S := oEq_str (by decide +kernel) (by decide +kernel) true (by decide +kernel)
theorem eq_sp : oEq false (.str "set") (.str "put") S = .ok (.bl false) S := oEq_str (by decide +kernel) (by decide +kernel) false (by decide +kernel)
theorem eq_ts : oEq false (.str "take") (.str "set") S = .ok (.bl false) S := oEq_str (by decide +kernel) (by decide +kernel) false (by decide +kernel)
theorem eq_ps : oEq false (.str "put") (.str "set") S = .ok (.bl false) S := oEq_str (by decide +kernel) (by decide +kernel) false (by decide +kernel)
theorem eq_ss : oEq false (.str "set") (.str "set") S = .ok (.bl true) S := oEq_str (by decide +kernel) (by decide +kernel) true (by decide +kernel)
theorem in_t : oInK "SIZES" (t_SIZES.map fun q => (q.1, q.2.map dvD)) false (.str "take") (.nm "SIZES") S = .ok (.bl true) S := by rfl
theorem in_p : oInK "SIZES" (t_SIZES.map fun q => (q.1, q.2.map dvD)) false (.str "put") (.nm "SIZES") S = .ok (.bl true) S := by rfl
theorem in_s : oInK "SIZES" (t_SIZES.map fun q => (q.1, q.2.map dvD)) false (.str "set") (.nm "SIZES") S = .ok (.bl true) S := by rfl
theorem ix_t : oIxK "SIZES" (t_SIZES.map fun q => (q.1, q.2.map dvD)) (.nm "SIZES") (.str "take") S = .ok (.int 1) S := by rfl
theorem ix_p : oIxK "SIZES" (t_SIZES.map fun q => (q.1, q.2.map dvD)) (.nm "SIZES") (.str "put") S = .ok (.int 2) S := by rfl
theorem ix_s : oIxK "SIZES" (t_SIZES.map fun q => (q.1, q.2.map dvD)) (.nm "SIZES") (.str "set") S = .ok (.int 4) S := by rfl
theorem isi_tt (ds : List D) : oIsi (.ty "tuple") (tyTab "tuple") [.tup ds, .ty "tuple"] S = .ok (.bl true) S := by
  have e : (tyTab "tuple").lookup (Tg.ty "tuple") = some true := by decide +kernel
  simp only [oIsi, sameC, tagS, e]
  rfl
theorem isi_ss (x : Str) : oIsi (.ty "str") (tyTab "str") [.str x, .ty "str"] S = .ok (.bl true) S := by
  have e : (tyTab "str").lookup (Tg.ty "str") = some true := by decide +kernel
  simp only [oIsi, sameC, tagS, e]
  rfl
theorem isi_ii (i : Int) : oIsi (.ty "int") (tyTab "int") [.int i, .ty "int"] S = .ok (.bl true) S := by
  have e : (tyTab "int").lookup (Tg.ty "int") = some true := by decide +kernel
  simp only [oIsi, sameC, tagS, e]
  rfl
theorem isi_ib (i : Int) : oIsi (.ty "bool") (tyTab "bool") [.int i, .ty "bool"] S = .ok (.bl false) S := by
  have e : (tyTab "bool").lookup (Tg.ty "int") = some false := by decide +kernel
  simp only [oIsi, sameC, tagS, e]
  rfl
theorem is_string_eq (x : Str) : d_is_string [.str x] S = .ok (.bl true) S := by
  unfold d_is_string
  simp [gMul, gDiv, gMod, gPow, isi_ss]
theorem is_whole_eq (i : Int) : d_is_whole [.int i] S = .ok (.bl true) S := by
  unfold d_is_whole
  simp [gMul, gDiv, gMod, gPow, isi_ii, isi_ib]
theorem is_between_eq (i a b : Int) : d_is_between [.int i, .int a, .int b] S = .ok (.bl (decide (a ≤ i) && decide (i ≤ b))) S := by
  unfold d_is_between
  by_cases h : a ≤ i <;> simp [gMul, gDiv, gMod, gPow, is_whole_eq, dChain, h]
theorem is_square_number_eq (i : Int) : d_is_square_number [.int i] S = .ok (.bl (decide (0 ≤ i) && decide (i ≤ 999))) S := by
  unfold d_is_square_number
  simp [gMul, gDiv, gMod, gPow, is_between_eq]
theorem is_number_eq (i : Int) : d_is_number_1 [.int i] S = .ok (.bl (decide (0 ≤ i))) S := by
  unfold d_is_number_1 d_is_number0
  by_cases h : 0 ≤ i <;> simp [gMul, gDiv, gMod, gPow, is_whole_eq, h, dIsN, isNon]
theorem ix0 (x : D) (xs : List D) : oIx (.tup (x :: xs)) (.int 0) S = .ok x S := by
  have : L2.atI (x :: xs) (0 : Int) = some x := atI_nat (j := 0) rfl
  simp [gMul, gDiv, gMod, gPow, oIx, this]
theorem ix1 (a x : D) (xs : List D) : oIx (.tup (a :: x :: xs)) (.int 1) S = .ok x S := by
  have : L2.atI (a :: x :: xs) (1 : Int) = some x := atI_nat (j := 1) rfl
  simp [gMul, gDiv, gMod, gPow, oIx, this]
theorem ix2 (a b x : D) (xs : List D) : oIx (.tup (a :: b :: x :: xs)) (.int 2) S = .ok x S := by
  have : L2.atI (a :: b :: x :: xs) (2 : Int) = some x := atI_nat (j := 2) rfl
  simp [gMul, gDiv, gMod, gPow, oIx, this]
theorem ix3 (a b c x : D) (xs : List D) : oIx (.tup (a :: b :: c :: x :: xs)) (.int 3) S = .ok x S := by
  have : L2.atI (a :: b :: c :: x :: xs) (3 : Int) = some x := atI_nat (j := 3) rfl
  simp [gMul, gDiv, gMod, gPow, oIx, this]
theorem has_form_eq (e : Deed) : d_has_form [e.d] S = .ok (.bl true) S := by
  unfold d_has_form
  cases e <;> simp [gMul, gDiv, gMod, gPow, Deed.d, isi_tt, ix0, is_string_eq, in_t, in_p, in_s, ix_t, ix_p, ix_s]
theorem is_squares_eq {qs : List Int} (hz : qs.length ≤ 1000) (h : ∀ q ∈ qs, 0 ≤ q ∧ q ≤ 999) : d_is_squares [.tup (qs.map .int)] S = .ok (.bl true) S := by
  have go : ∀ (qs : List Int), (∀ q ∈ qs, 0 ≤ q ∧ q ≤ 999) → ∀ ρ : En, ρ.length = 2 → compGo (.name 1) dYes (dCall d_is_square_number (dCons (dVar 1) dNil)) ρ (qs.map .int) S = .ok (qs.map fun _ => .bl true) S := by
    intro qs
    induction qs with
    | nil => intro _ ρ _; simp [gMul, gDiv, gMod, gPow, compGo]
    | cons q qs ih =>
      intro h ρ hl
      obtain ⟨h1, h2⟩ := h q List.mem_cons_self
      have e : dCall d_is_square_number (dCons (dVar 1) dNil) (setE ρ [(1, .int q)]) S = .ok (.bl true) S := by
        have e1 : (setE ρ [(1, D.int q)])[1]? = some (some (.val (.int q))) := List.getElem?_set_self (by omega)
        unfold dCall dCons dVar dNil
        rw [e1]
        simp only [Out.bind_ok, is_square_number_eq, h1, h2, decide_true, Bool.and_self]
      rw [List.map_cons, compGo_cons (kvs := [(1, .int q)]) rfl]
      rw [show dYes (setE ρ [(1, D.int q)]) S = .ok true S from rfl, Out.nx_ok, Out.bind_ok, if_pos rfl, e, Out.nx_ok, Out.bind_ok, ih (fun x hx => h x (List.mem_cons_of_mem _ hx)) ρ hl]
      rfl
  have bl : ∀ qs : List Int, blsOf (qs.map fun _ => D.bl true) = some (qs.map fun _ => true) := by
    intro qs
    induction qs with
    | nil => rfl
    | cons q qs ih => show (blsOf _).map _ = _; rw [ih]; rfl
  have al : ∀ qs : List Int, (qs.map fun _ => true).all id = true := by
    intro qs
    induction qs with
    | nil => rfl
    | cons q qs ih => simpa using ih
  have c1 : dComp (dItr (dPv 0)) (.name 1) dYes (dCall d_is_square_number (dCons (dVar 1) dNil)) [1] (fzE [some (.val (.tup (qs.map .int))), none]) S = .ok (qs.map fun _ => .bl true) S := by
    rw [dComp_eq (S1 := S) (ds := qs.map .int) rfl (by rw [List.length_map]; exact hz)]
    exact go qs h _ rfl
  have c2 : dCB (oBls fun bs => bs.all id) (dCons (dFzL (dComp (dItr (dPv 0)) (.name 1) dYes (dCall d_is_square_number (dCons (dVar 1) dNil)) [1])) dNil) (fzE [some (.val (.tup (qs.map .int))), none]) S = .ok (.bl true) S := by
    unfold dCB
    rw [dCons_ok (dFzL_ok c1) rfl, Out.bind_ok]
    simp only [oBls, lstS, bl, al]
  unfold d_is_squares
  rw [dFn_eq (np := 1) (ds := [D.tup (qs.map .int)]) rfl, show frame 2 [D.tup (qs.map .int)] = [some (.val (.tup (qs.map .int))), none] from rfl]
  have c3 : dAnd (dCB (oIsi (.ty "tuple") (tyTab "tuple")) (dCons (dPv 0) (dCons (dC (.ty "tuple")) dNil))) (dCB (oBls fun bs => bs.all id) (dCons (dFzL (dComp (dItr (dPv 0)) (.name 1) dYes (dCall d_is_square_number (dCons (dVar 1) dNil)) [1])) dNil)) (fzE [some (.val (.tup (qs.map .int))), none]) S = .ok (.bl true) S := by
    unfold dAnd
    have e : dCB (oIsi (.ty "tuple") (tyTab "tuple")) (dCons (dPv 0) (dCons (dC (.ty "tuple")) dNil)) (fzE [some (.val (.tup (qs.map .int))), none]) S = .ok (.bl true) S := isi_tt (qs.map .int)
    rw [e, Out.bind_ok]
    exact c2
  rw [dRet_ok c3]
  rfl
theorem check_eq {e : Deed} (h : e.ok) : d_check_deed [e.d] S = .ok .non S := by
  have hf := has_form_eq (S := S) e
  unfold d_check_deed
  cases e with
  | take =>
    simp only [Deed.d] at hf ⊢
    simp [gMul, gDiv, gMod, gPow, hf, ix0, eq_tp, eq_ts]
  | put qs =>
    have hq := is_squares_eq (S := S) (qs := qs) (by have := h.1; omega) h.2
    simp only [Deed.d] at hf ⊢
    simp [gMul, gDiv, gMod, gPow, hf, ix0, ix1, eq_pp, eq_ps, hq]
  | set i j q =>
    obtain ⟨h1, h2, h3, h4, h5⟩ := h
    have h6 : 0 ≤ j := by omega
    have h7 : ¬ j ≤ i := by omega
    simp only [Deed.d] at hf ⊢
    simp [gMul, gDiv, gMod, gPow, hf, ix0, ix1, ix2, ix3, eq_sp, eq_ss, is_number_eq, is_square_number_eq, h1, h6, h7, h4, h5]
end
end DL

namespace DL
open PySem PySem.Spec PyProof.Rows L2
/-- a table: m rows, their squares at most B -/
structure tabB (B : Int) (m : Nat) (rows : List D) : Prop where
  len : rows.length = m
  row : ∀ i r, rows[i]? = some r → ∃ es : List Int, r = .tup (es.map .int) ∧ es.length = i + 1 ∧ ∀ e ∈ es, 0 ≤ e ∧ e ≤ B
theorem tabB.ok {B : Int} {m : Nat} {rows : List D} (h : tabB B m rows) (hB : B ≤ 999) : tabOk m rows := ⟨h.len, fun i r e => by
  obtain ⟨es, rfl, h1, h2⟩ := h.row i r e
  refine ⟨es.map .int, rfl, by rw [List.length_map]; exact h1, fun x hx => ?_⟩
  obtain ⟨v, hv, rfl⟩ := List.mem_map.mp hx
  have := h2 v hv
  exact ⟨v, rfl, this.1, by omega⟩⟩
theorem cut_to {xs : List D} (k : Nat) (h : k ≤ xs.length) : cutD xs none (some (k : Int)) = xs.take k := by
  unfold cutD
  have e1 : HT.sIx xs.length xs.length (some (k : Int)) = k := by rw [HT.sIx_nat]; omega
  rw [e1, HT.sIx_none, List.drop_zero, Nat.sub_zero]
theorem cut_last {xs : List D} : cutD xs none (some (-1)) = xs.dropLast := by
  unfold cutD
  have e1 : HT.sIx xs.length xs.length (some (-1)) = xs.length - 1 := by
    show (if (-1 : Int) < 0 then ((-1 : Int) + (xs.length : Int)).toNat else min (-1 : Int).toNat xs.length) = xs.length - 1
    rw [if_pos (by decide)]
    omega
  rw [e1, HT.sIx_none, List.drop_zero, Nat.sub_zero, List.dropLast_eq_take]
/-- what a deed makes of a table -/
def aft (rows : List D) : Deed → List D
  | .take => rows.dropLast
  | .put qs => rows ++ [.tup (qs.map .int)]
  | .set i j q => rows.take (j.toNat - 1) ++ (match rows[j.toNat - 1]? with
    | some (.tup es) => .tup (es.take i.toNat ++ D.int q :: es.drop (i.toNat + 1))
    | _ => .non) :: rows.drop j.toNat
/-- a deed that fits a table by itself -/
def fits (m : Nat) : Deed → Prop
  | .take => 1 ≤ m
  | .put qs => qs.length = m + 1 ∧ m ≤ 4
  | .set i j q => j ≤ m
theorem aft_ok {B : Int} {m : Nat} {rows : List D} {e : Deed} (h : tabB B m rows) (hm : m ≤ 5) (he : e.ok) (hf : fits m e) (hq : match e with
    | .take => True
    | .put qs => ∀ q ∈ qs, q ≤ B
    | .set _ _ q => q ≤ B) : ∃ m', m' ≤ 5 ∧ tabB B m' (aft rows e) := by
  have hl := h.len
  cases e with
  | take =>
    refine ⟨m - 1, by omega, by show rows.dropLast.length = _; rw [List.length_dropLast, hl], fun i r hr => ?_⟩
    have hr : rows.dropLast[i]? = some r := hr
    rw [List.dropLast_eq_take, List.getElem?_take] at hr
    split at hr
    · exact h.row i r hr
    · cases hr
  | put qs =>
    refine ⟨m + 1, by have := hf.2; omega, by show (rows ++ [_]).length = _; rw [List.length_append, hl]; rfl, fun i r hr => ?_⟩
    have hr : (rows ++ [D.tup (qs.map .int)])[i]? = some r := hr
    by_cases hi : i < rows.length
    · rw [List.getElem?_append_left hi] at hr
      exact h.row i r hr
    · rw [List.getElem?_append_right (by omega)] at hr
      have e0 : i - rows.length = 0 := by
        cases q : i - rows.length with
        | zero => rfl
        | succ k => rw [q] at hr; simp at hr
      rw [e0] at hr
      cases hr
      exact ⟨qs, rfl, by rw [hf.1]; omega, fun e he' => ⟨(he.2 e he').1, hq e he'⟩⟩
  | set i j q =>
    obtain ⟨h1, h2, h3, h4, h5⟩ := he
    have hf : j ≤ m := hf
    obtain ⟨a, rfl⟩ : ∃ a : Nat, i = a := ⟨i.toNat, by omega⟩
    obtain ⟨b, rfl⟩ : ∃ b : Nat, j = b + 1 := ⟨(j - 1).toNat, by omega⟩
    obtain ⟨r0, hr0⟩ : ∃ r, rows[b]? = some r := ⟨_, List.getElem?_eq_getElem (by omega)⟩
    obtain ⟨es, rfl, e1, e2⟩ := h.row b r0 hr0
    have ej : ((b : Int) + 1).toNat = b + 1 := by omega
    have ei : ((a : Int)).toNat = a := by omega
    have form : aft rows (.set a (b + 1) q) = rows.set b (.tup ((es.set a q).map .int)) := by
      show rows.take (((b : Int) + 1).toNat - 1) ++ (match rows[((b : Int) + 1).toNat - 1]? with
        | some (.tup es) => D.tup (es.take ((a : Int)).toNat ++ D.int q :: es.drop (((a : Int)).toNat + 1))
        | _ => .non) :: rows.drop ((b : Int) + 1).toNat = _
      rw [ej, ei, Nat.add_sub_cancel, hr0]
      simp only
      rw [List.set_eq_take_append_cons_drop, if_pos (by omega), List.set_eq_take_append_cons_drop, if_pos (by omega), List.map_append, List.map_cons, List.map_take, List.map_drop]
    refine ⟨m, hm, by rw [form, List.length_set, hl], fun i r hr => ?_⟩
    rw [form] at hr
    by_cases hb : b = i
    · subst hb
      rw [List.getElem?_set_self (by omega)] at hr
      cases hr
      refine ⟨es.set a q, rfl, by rw [List.length_set, e1], fun x hx => ?_⟩
      rcases List.mem_or_eq_of_mem_set hx with z | z
      · exact e2 x z
      · subst z; exact ⟨h4, hq⟩
    · rw [List.getElem?_set_ne hb] at hr
      exact h.row i r hr
section
variable {S : Sto} {B : Int} {m : Nat} {rows : List D}
theorem dTup_ok {g : DA} {ρ : En} {S' : Sto} {xs : List D} (h : g ρ S = .ok xs S') (hz : xs.length ≤ 1000) : dTup g ρ S = .ok (.tup xs) S' := by
  unfold dTup
  rw [h, Out.bind_ok, if_pos (lim_of hz)]
theorem behind_take (hm : m ≤ 5) (h : tabB B m rows) : d_table_behind [.tup rows, Deed.take.d] S = .ok (.tup (aft rows .take)) S := by
  unfold d_table_behind
  simp [gMul, gDiv, gMod, gPow, Deed.d, ix0, eq_tp, eq_tt, dSl, oSl, dNoPart, dPart, cut_last, aft]
theorem after_take (hm : m ≤ 5) (h : tabB B m rows) : d__law_after [.tup rows, Deed.take.d] S = .ok (.tup (aft rows .take)) S := by
  unfold d__law_after
  simp [gMul, gDiv, gMod, gPow, Deed.d, ix0, eq_tp, eq_tt, dSl, oSl, dNoPart, dPart, cut_last, aft]
theorem behind_put {qs : List Int} (hm : m ≤ 5) (h : tabB B m rows) : d_table_behind [.tup rows, (Deed.put qs).d] S = .ok (.tup (aft rows (.put qs))) S := by
  have z : rows.length + 1 ≤ LIM := lim_of (by have := h.len; omega)
  unfold d_table_behind
  simp [gMul, gDiv, gMod, gPow, Deed.d, ix0, ix1, eq_pp, dStar, aft, z]
theorem after_put {qs : List Int} (hm : m ≤ 5) (h : tabB B m rows) : d__law_after [.tup rows, (Deed.put qs).d] S = .ok (.tup (aft rows (.put qs))) S := by
  have z : rows.length + 1 ≤ LIM := lim_of (by have := h.len; omega)
  have z1 : 1 ≤ LIM := lim_of (by decide)
  unfold d__law_after
  simp [gMul, gDiv, gMod, gPow, Deed.d, ix0, ix1, eq_pp, eq_pt, aft, z, z1]
theorem cut_from1 {xs : List D} {a : Nat} (h : a + 1 ≤ xs.length) : cutD xs (some ((a : Int) + 1)) none = xs.drop (a + 1) := by
  have := cut_from (xs := xs) (a + 1) h
  rw [Int.natCast_add] at this
  exact this
theorem aft_set {a b : Nat} {q : Int} {es : List D} (h : rows[b]? = some (.tup es)) : aft rows (.set a (b + 1) q) = rows.take b ++ .tup (es.take a ++ D.int q :: es.drop (a + 1)) :: rows.drop (b + 1) := by
  have ej : ((b : Int) + 1).toNat = b + 1 := by omega
  have ei : ((a : Int)).toNat = a := by omega
  show rows.take (((b : Int) + 1).toNat - 1) ++ (match rows[((b : Int) + 1).toNat - 1]? with
    | some (.tup es) => D.tup (es.take ((a : Int)).toNat ++ D.int q :: es.drop (((a : Int)).toNat + 1))
    | _ => .non) :: rows.drop ((b : Int) + 1).toNat = _
  rw [ej, ei, Nat.add_sub_cancel, h]
theorem with_square_ok {a b : Nat} {q : Int} {es : List D} (hl : rows.length ≤ 100) (h : rows[b]? = some (.tup es)) (ha : a ≤ b) (he : es.length = b + 1) : d_with_square [.tup rows, .int a, .int (b + 1), .int q] S = .ok (.tup (aft rows (.set a (b + 1) q))) S := by
  have hb : b < rows.length := (List.getElem?_eq_some_iff.mp h).1
  have g1 : ((b : Int) + 1 > a) := by omega
  have g2 : ¬ ((b : Int) + 1 < a) := by omega
  have ib : L2.atI rows (b : Int) = some (.tup es) := atI_nat h
  have c1 := cut_to (xs := es) a (by omega)
  have c2 := cut_from1 (xs := es) (a := a) (by omega)
  have c3 := cut_to (xs := rows) b (by omega)
  have c4 := cut_from1 (xs := rows) (a := b) (by omega)
  have ei : (b : Int) + 1 - 1 = b := by omega
  rw [aft_set h]
  have z1 : ((es.take a) ++ ([D.int q] ++ ((es.drop (a + 1)) ++ []))).length ≤ LIM := lim_of (by simp; omega)
  have z2 : ((rows.take b) ++ ([D.tup (es.take a ++ D.int q :: es.drop (a + 1))] ++ ((rows.drop (b + 1)) ++ []))).length ≤ LIM := lim_of (by simp; omega)
  simp only [List.append_nil, List.singleton_append] at z1 z2
  unfold d_with_square
  rw [dFn_eq (np := 4) (ds := [D.tup rows, .int a, .int (b + 1), .int q]) rfl]
  rw [show frame 7 [D.tup rows, .int a, .int (b + 1), .int q] = [some (.val (.tup rows)), some (.val (.int a)), some (.val (.int (b + 1))), some (.val (.int q)), none, none, none] from rfl]
  have s1 : dPar [4, 5] (dCons (dOp oSub (dCB oMax2 (dCons (dPv 1) (dCons (dPv 2) dNil))) (dC (.int 1))) (dCons (dCB oMin2 (dCons (dPv 1) (dCons (dPv 2) dNil))) dNil)) [some (.val (.tup rows)), some (.val (.int a)), some (.val (.int (b + 1))), some (.val (.int q)), none, none, none] S
      = .nx [some (.val (.tup rows)), some (.val (.int a)), some (.val (.int (b + 1))), some (.val (.int q)), some (.val (.int b)), some (.val (.int a)), none] S := by
    simp [gMul, gDiv, gMod, gPow, dPar, g1, g2, ei]
  have s2 : dSet 6 (dTup (dStar (dSl oSl (dOp oIx (dPv 0) (dVar 4)) dNoPart (dPart (dVar 5))) (dCons (dVar 3) (dStar (dSl oSl (dOp oIx (dPv 0) (dVar 4)) (dPart (dOp oAdd (dPv 5) (dC (.int 1)))) dNoPart) dNil)))) [some (.val (.tup rows)), some (.val (.int a)), some (.val (.int (b + 1))), some (.val (.int q)), some (.val (.int b)), some (.val (.int a)), none] S
      = .nx [some (.val (.tup rows)), some (.val (.int a)), some (.val (.int (b + 1))), some (.val (.int q)), some (.val (.int b)), some (.val (.int a)), some (.val (.tup (es.take a ++ D.int q :: es.drop (a + 1))))] S := by
    exact dSet_ok (dTup_ok (xs := es.take a ++ D.int q :: es.drop (a + 1)) (by simp [gMul, gDiv, gMod, gPow, dStar, dSl, oSl, dPart, dNoPart, oIx, ib, c1, c2]) (by simp; omega))
  rw [dSeq_nx s1, dSeq_nx s2]
  have s3 : dTup (dStar (dSl oSl (dPv 0) dNoPart (dPart (dVar 4))) (dCons (dVar 6) (dStar (dSl oSl (dPv 0) (dPart (dOp oAdd (dPv 4) (dC (.int 1)))) dNoPart) dNil))) (fzE [some (.val (.tup rows)), some (.val (.int a)), some (.val (.int (b + 1))), some (.val (.int q)), some (.val (.int b)), some (.val (.int a)), some (.val (.tup (es.take a ++ D.int q :: es.drop (a + 1))))]) S
      = .ok (.tup (rows.take b ++ D.tup (es.take a ++ D.int q :: es.drop (a + 1)) :: rows.drop (b + 1))) S :=
    dTup_ok (by simp [gMul, gDiv, gMod, gPow, dStar, dSl, oSl, dPart, dNoPart, c3, c4]) (by simp; omega)
  rw [dRet_ok s3]
  rfl
theorem behind_set {a b : Nat} {q : Int} (hm : m ≤ 5) (h : tabB B m rows) (ha : a ≤ b) (hb : b < m) : d_table_behind [.tup rows, (Deed.set a (b + 1) q).d] S = .ok (.tup (aft rows (.set a (b + 1) q))) S := by
  have hl := h.len
  obtain ⟨r, hr⟩ : ∃ r, rows[b]? = some r := ⟨_, List.getElem?_eq_getElem (by omega)⟩
  obtain ⟨es, rfl, e1, _⟩ := h.row b r hr
  have w := with_square_ok (S := S) (q := q) (by omega) hr ha (by rw [List.length_map]; exact e1)
  unfold d_table_behind
  simp [gMul, gDiv, gMod, gPow, Deed.d, ix0, ix1, ix2, ix3, eq_sp, eq_st, w]
theorem dOp_ok {op : D → D → Sto → Out D} {f g : DE} {ρ : En} {S S1 S2 S3 : Sto} {x y z : D} (h1 : f ρ S = .ok x S1) (h2 : g ρ S1 = .ok y S2) (h3 : op x y S2 = .ok z S3) : dOp op f g ρ S = .ok z S3 := by
  unfold dOp
  rw [h1, Out.bind_ok, h2, Out.bind_ok, h3]
theorem sl_to {f g : DE} {ρ : En} {xs : List D} {a : Nat} (h1 : f ρ S = .ok (.tup xs) S) (h2 : g ρ S = .ok (.int a) S) (hz : a ≤ xs.length) : dSl oSl f dNoPart (dPart g) ρ S = .ok (.tup (xs.take a)) S := by
  unfold dSl dNoPart dPart
  rw [h1, Out.bind_ok, Out.bind_ok, h2, Out.bind_ok, Out.bind_ok]
  show Out.ok (D.tup (cutD xs none (some (a : Int)))) S = _
  rw [cut_to a hz]
theorem sl_from {f g : DE} {ρ : En} {xs : List D} {a : Nat} (h1 : f ρ S = .ok (.tup xs) S) (h2 : g ρ S = .ok (.int ((a : Int) + 1)) S) (hz : a + 1 ≤ xs.length) : dSl oSl f (dPart g) dNoPart ρ S = .ok (.tup (xs.drop (a + 1))) S := by
  unfold dSl dNoPart dPart
  rw [h1, Out.bind_ok, h2, Out.bind_ok, Out.bind_ok, Out.bind_ok]
  show Out.ok (D.tup (cutD xs (some ((a : Int) + 1)) none)) S = _
  rw [cut_from1 hz]
theorem oAdd_tup {xs ys : List D} (h : xs.length + ys.length ≤ 1000) : oAdd (.tup xs) (.tup ys) S = .ok (.tup (xs ++ ys)) S := if_pos (lim_of h)
theorem after_set {a b : Nat} {q : Int} (hm : m ≤ 5) (h : tabB B m rows) (ha : a ≤ b) (hb : b < m) : d__law_after [.tup rows, (Deed.set a (b + 1) q).d] S = .ok (.tup (aft rows (.set a (b + 1) q))) S := by
  have hl := h.len
  obtain ⟨r, hr⟩ : ∃ r, rows[b]? = some r := ⟨_, List.getElem?_eq_getElem (by omega)⟩
  obtain ⟨es, rfl, e1, _⟩ := h.row b r hr
  have ib : L2.atI rows (b : Int) = some (.tup (es.map .int)) := atI_nat hr
  have ei : (b : Int) + 1 - 1 = b := by omega
  have la : ((es.map D.int).take a).length ≤ 10 := by rw [List.length_take, List.length_map]; omega
  have lb : ((es.map D.int).drop (a + 1)).length ≤ 10 := by rw [List.length_drop, List.length_map]; omega
  have lc : (rows.take b).length ≤ 10 := by rw [List.length_take]; omega
  have ld : (rows.drop (b + 1)).length ≤ 10 := by rw [List.length_drop]; omega
  rw [aft_set hr]
  have i1 : ∀ (ρ : En), ρ[1]? = some (some (.val (Deed.set a (b + 1) q).d)) → dOp oIx (dPv 1) (dC (.int 1)) ρ S = .ok (.int a) S := fun ρ h1 => dOp_ok (x := .tup [.str "set", .int a, .int (b + 1), .int q]) (S1 := S) (S2 := S) (by unfold dPv; rw [h1]; rfl) rfl (ix1 _ _ _)
  have i2 : ∀ (ρ : En), ρ[1]? = some (some (.val (Deed.set a (b + 1) q).d)) → dOp oIx (dPv 1) (dC (.int 2)) ρ S = .ok (.int (b + 1)) S := fun ρ h1 => dOp_ok (x := .tup [.str "set", .int a, .int (b + 1), .int q]) (S1 := S) (S2 := S) (by unfold dPv; rw [h1]; rfl) rfl (ix2 _ _ _ _)
  have i3 : ∀ (ρ : En), ρ[1]? = some (some (.val (Deed.set a (b + 1) q).d)) → dOp oIx (dPv 1) (dC (.int 3)) ρ S = .ok (.int q) S := fun ρ h1 => dOp_ok (x := .tup [.str "set", .int a, .int (b + 1), .int q]) (S1 := S) (S2 := S) (by unfold dPv; rw [h1]; rfl) rfl (ix3 _ _ _ _ _)
  have i21 : ∀ (ρ : En), ρ[1]? = some (some (.val (Deed.set a (b + 1) q).d)) → dOp oSub (dOp oIx (dPv 1) (dC (.int 2))) (dC (.int 1)) ρ S = .ok (.int b) S := fun ρ h1 => dOp_ok (i2 ρ h1) (S2 := S) rfl (by show Out.ok (D.int ((b : Int) + 1 - 1)) S = _; rw [ei])
  have i11 : ∀ (ρ : En), ρ[1]? = some (some (.val (Deed.set a (b + 1) q).d)) → dOp oAdd (dOp oIx (dPv 1) (dC (.int 1))) (dC (.int 1)) ρ S = .ok (.int ((a : Int) + 1)) S := fun ρ h1 => dOp_ok (i1 ρ h1) (S2 := S) rfl rfl
  have s1 : dSet 2 (dOp oIx (dPv 0) (dOp oSub (dOp oIx (dPv 1) (dC (.int 2))) (dC (.int 1)))) [some (.val (.tup rows)), some (.val (Deed.set a (b + 1) q).d), none] S = .nx [some (.val (.tup rows)), some (.val (Deed.set a (b + 1) q).d), some (.val (.tup (es.map .int)))] S :=
    dSet_ok (dOp_ok (S1 := S) rfl (i21 _ rfl) (by simp [gMul, gDiv, gMod, gPow, oIx, ib]))
  have hd : ∀ (c : Str) (r : Bool), oEq false (.str "set") (.str c) S = .ok (.bl r) S → dTst (dOp (oEq false) (dOp oIx (dPv 1) (dC (.int 0))) (dC (.str c))) [some (.val (.tup rows)), some (.val (Deed.set a (b + 1) q).d), none] S = .ok r S := by
    intro c r h
    unfold dTst
    have e : dOp (oEq false) (dOp oIx (dPv 1) (dC (.int 0))) (dC (.str c)) [some (.val (.tup rows)), some (.val (Deed.set a (b + 1) q).d), none] S = .ok (.bl r) S := dOp_ok (S1 := S) (S2 := S) (dOp_ok (S1 := S) (S2 := S) rfl rfl (ix0 _ _)) rfl h
    rw [e]
    rfl
  let ρ : En := fzE [some (.val (.tup rows)), some (.val (Deed.set a (b + 1) q).d), some (.val (.tup (es.map .int)))]
  have p0 : dSl oSl (dPv 0) dNoPart (dPart (dOp oSub (dOp oIx (dPv 1) (dC (.int 2))) (dC (.int 1)))) ρ S = .ok (.tup (rows.take b)) S := sl_to rfl (i21 ρ rfl) (by omega)
  have p1 : dSl oSl (dPv 0) (dPart (dOp oIx (dPv 1) (dC (.int 2)))) dNoPart ρ S = .ok (.tup (rows.drop (b + 1))) S := sl_from rfl (i2 ρ rfl) (by omega)
  have p2 : dSl oSl (dPv 2) dNoPart (dPart (dOp oIx (dPv 1) (dC (.int 1)))) ρ S = .ok (.tup ((es.map .int).take a)) S := sl_to rfl (i1 ρ rfl) (by rw [List.length_map]; omega)
  have p3 : dSl oSl (dPv 2) (dPart (dOp oAdd (dOp oIx (dPv 1) (dC (.int 1))) (dC (.int 1)))) dNoPart ρ S = .ok (.tup ((es.map .int).drop (a + 1))) S := sl_from rfl (i11 ρ rfl) (by rw [List.length_map]; omega)
  have p4 : dTup (dCons (dOp oIx (dPv 1) (dC (.int 3))) dNil) ρ S = .ok (.tup [.int q]) S := dTup_ok (dCons_ok (i3 ρ rfl) rfl) (by simp)
  have p5 := dOp_ok (op := oAdd) (dOp_ok (op := oAdd) p2 p4 (oAdd_tup (by simp; omega))) p3 (oAdd_tup (by simp; omega))
  have p6 := dTup_ok (dCons_ok p5 (show dNil ρ S = .ok [] S from rfl)) (by simp)
  have p7 := dOp_ok (op := oAdd) (dOp_ok (op := oAdd) p0 p6 (oAdd_tup (by simp; omega))) p1 (oAdd_tup (by simp; omega))
  unfold d__law_after
  rw [dFn_eq (np := 2) (ds := [D.tup rows, (Deed.set a (b + 1) q).d]) rfl, show frame 3 [D.tup rows, (Deed.set a (b + 1) q).d] = [some (.val (.tup rows)), some (.val (Deed.set a (b + 1) q).d), none] from rfl]
  rw [dSeq_nx (ρ' := [some (.val (.tup rows)), some (.val (Deed.set a (b + 1) q).d), none]) (S' := S) (by rw [dIfS_ok (hd _ _ eq_st), if_neg (by decide)]; rfl)]
  rw [dSeq_nx (ρ' := [some (.val (.tup rows)), some (.val (Deed.set a (b + 1) q).d), none]) (S' := S) (by rw [dIfS_ok (hd _ _ eq_sp), if_neg (by decide)]; rfl)]
  rw [dSeq_nx s1, dRet_ok p7]
  simp
end
end DL

namespace DL
open PySem PySem.Spec PyProof.Rows L2
def nonE (x : Str) : Prop := PyData.strOk x = true ∧ (x == ("" : Str)) = false
theorem ne_one : nonE "one" := ⟨by decide +kernel, by decide +kernel⟩
theorem ne_full : nonE "full" := ⟨by decide +kernel, by decide +kernel⟩
theorem ne_many : nonE "many" := ⟨by decide +kernel, by decide +kernel⟩
theorem ne_none : nonE "none" := ⟨by decide +kernel, by decide +kernel⟩
theorem ne_same : nonE "same" := ⟨by decide +kernel, by decide +kernel⟩
theorem ne_barred : nonE "barred" := ⟨by decide +kernel, by decide +kernel⟩
section
variable {S : Sto} {B : Int} {m : Nat} {rows : List D}
theorem reason_ok {e : Deed} (h : tabB B m rows) (hB : B ≤ 999) (hm : m ≤ 5) (he : e.ok) : ∃ r, d_reason_by_itself [.tup rows, e.d] S = .ok r S ∧ ((r = .non ∧ fits m e) ∨ ∃ x, r = .str x ∧ nonE x) := by
  have hl := h.len
  have ht : d_things_of [.tup rows] S = .ok (.int (m + 1)) S := by rw [things_of_eq, hl]
  cases e with
  | take =>
    by_cases q : m = 0
    · subst q
      refine ⟨.str "one", ?_, .inr ⟨_, rfl, ne_one⟩⟩
      unfold d_reason_by_itself
      simp [gMul, gDiv, gMod, gPow, Deed.d, ht, ix0, eq_tt]
    · have q2 : ((m : Int) + 1 == 1) = false := by simp; omega
      refine ⟨.non, ?_, .inl ⟨rfl, by show 1 ≤ m; omega⟩⟩
      unfold d_reason_by_itself
      simp [gMul, gDiv, gMod, gPow, Deed.d, ht, ix0, eq_tt, q2]
  | put qs =>
    by_cases q : m = 5
    · subst q
      refine ⟨.str "full", ?_, .inr ⟨_, rfl, ne_full⟩⟩
      unfold d_reason_by_itself
      simp [gMul, gDiv, gMod, gPow, Deed.d, ht, ix0, eq_pt, eq_pp]
    · have q2 : ((m : Int) + 1 == 6) = false := by simp; omega
      by_cases p : qs.length = m + 1
      · have p2 : ((qs.length : Int) == (m : Int) + 1) = true := by simp; omega
        refine ⟨.non, ?_, .inl ⟨rfl, p, by omega⟩⟩
        unfold d_reason_by_itself
        simp [gMul, gDiv, gMod, gPow, Deed.d, ht, ix0, ix1, eq_pt, eq_pp, q2, p2]
      · have p2 : ((qs.length : Int) == (m : Int) + 1) = false := by simp; omega
        refine ⟨.str "many", ?_, .inr ⟨_, rfl, ne_many⟩⟩
        unfold d_reason_by_itself
        simp [gMul, gDiv, gMod, gPow, Deed.d, ht, ix0, ix1, eq_pt, eq_pp, q2, p2]
  | set i j q =>
    obtain ⟨h1, h2, h3, h4, h5⟩ := he
    by_cases p : (m : Int) + 1 ≤ j
    · refine ⟨.str "none", ?_, .inr ⟨_, rfl, ne_none⟩⟩
      unfold d_reason_by_itself
      simp [gMul, gDiv, gMod, gPow, Deed.d, ht, ix0, ix1, ix2, ix3, eq_st, eq_sp, p]
    · obtain ⟨v, v1, v2, v3⟩ := square_of_ok (h.ok hB) (i := i) (j := j) S (by omega) (by omega)
      by_cases z : v = q
      · refine ⟨.str "same", ?_, .inr ⟨_, rfl, ne_same⟩⟩
        unfold d_reason_by_itself
        simp [gMul, gDiv, gMod, gPow, Deed.d, ht, ix0, ix1, ix2, ix3, eq_st, eq_sp, p, v1, z]
      · have z2 : (v == q) = false := by simpa using z
        refine ⟨.non, ?_, .inl ⟨rfl, by show j ≤ m; omega⟩⟩
        unfold d_reason_by_itself
        simp [gMul, gDiv, gMod, gPow, Deed.d, ht, ix0, ix1, ix2, ix3, eq_st, eq_sp, p, v1, z2]
theorem behind_ok {e : Deed} (h : tabB B m rows) (hm : m ≤ 5) (he : e.ok) (hf : fits m e) : d_table_behind [.tup rows, e.d] S = .ok (.tup (aft rows e)) S ∧ d__law_after [.tup rows, e.d] S = .ok (.tup (aft rows e)) S := by
  cases e with
  | take => exact ⟨behind_take hm h, after_take hm h⟩
  | put qs => exact ⟨behind_put hm h, after_put hm h⟩
  | set i j q =>
    obtain ⟨h1, h2, h3, h4, h5⟩ := he
    have hf : j ≤ m := hf
    obtain ⟨a, rfl⟩ : ∃ a : Nat, i = a := ⟨i.toNat, by omega⟩
    obtain ⟨b, rfl⟩ : ∃ b : Nat, j = (b : Int) + 1 := ⟨(j - 1).toNat, by omega⟩
    exact ⟨behind_set hm h (by omega) (by omega), after_set hm h (by omega) (by omega)⟩
/-- what a deed's squares may be -/
def upTo (B : Int) : Deed → Prop
  | .take => True
  | .put qs => ∀ q ∈ qs, q ≤ B
  | .set _ _ q => q ≤ B
theorem against_1 {X dd r : D} {b : Bool} (hX : d_reason_by_itself [X, dd] S = .ok r S) (hr : isNon r = false) : d_reason_against [X, dd] S = .ok r S := by
  unfold d_reason_against
  simp [gMul, gDiv, gMod, gPow, hX, dIsN, hr]
theorem against_2 {X dd : D} {k : Str} (hX : d_reason_by_itself [X, dd] S = .ok .non S) (h0 : oIx dd (.int 0) S = .ok (.str k) S) (h1 : oEq false (.str k) (.str "take") S = .ok (.bl true) S) : d_reason_against [X, dd] S = .ok .non S := by
  unfold d_reason_against
  simp [gMul, gDiv, gMod, gPow, hX, dIsN, isNon, h0, h1]
theorem against_3 {X Y dd : D} {k : Str} {b : Bool} (hX : d_reason_by_itself [X, dd] S = .ok .non S) (h0 : oIx dd (.int 0) S = .ok (.str k) S) (h1 : oEq false (.str k) (.str "take") S = .ok (.bl false) S) (t : d_table_behind [X, dd] S = .ok Y S) (hb : d_is_placed_by [Y] S = .ok (.bl b) S) : d_reason_against [X, dd] S = .ok (if b = true then .non else .str "barred") S := by
  unfold d_reason_against
  cases b <;> simp [gMul, gDiv, gMod, gPow, hX, dIsN, isNon, h0, h1, t, hb]
theorem against_ok {e : Deed} (h : tabB B m rows) (hB : B ≤ 999) (hm : m ≤ 5) (he : e.ok) (hu : upTo B e) : ∃ r, d_reason_against [.tup rows, e.d] S = .ok r S ∧ ((r = .non ∧ fits m e) ∨ ∃ x, r = .str x ∧ nonE x) := by
  obtain ⟨r, r1, r2⟩ := reason_ok (S := S) h hB hm he
  rcases r2 with ⟨rfl, hf⟩ | ⟨x, rfl, hx⟩
  · have hv : ∃ m', m' ≤ 5 ∧ tabB B m' (aft rows e) := aft_ok h hm he hf (by cases e <;> exact hu)
    obtain ⟨m', m1, m2⟩ := hv
    obtain ⟨b, hb⟩ := is_placed_ok (m2.ok hB) m1 S
    have t := (behind_ok (S := S) h hm he hf).1
    have fin : d_reason_against [.tup rows, e.d] S = .ok (if b = true then .non else .str "barred") S → ∃ r, d_reason_against [.tup rows, e.d] S = .ok r S ∧ ((r = .non ∧ fits m e) ∨ ∃ x, r = .str x ∧ nonE x) := by
      intro z
      cases b with
      | true => exact ⟨_, z, .inl ⟨rfl, hf⟩⟩
      | false => exact ⟨_, z, .inr ⟨_, rfl, ne_barred⟩⟩
    cases e with
    | take => exact ⟨_, against_2 r1 (ix0 ..) (eq_tt ..), .inl ⟨rfl, hf⟩⟩
    | put qs => exact fin (against_3 r1 (ix0 ..) (eq_pt ..) t hb)
    | set i j q => exact fin (against_3 r1 (ix0 ..) (eq_st ..) t hb)
  · exact ⟨.str x, against_1 (b := false) r1 rfl, .inr ⟨x, rfl, hx⟩⟩
end
end DL

set_option exponentiation.threshold 9001
namespace DL
open PySem PySem.Spec PyProof.Rows L2
/-- a pool's three numbers -/
def P3 (x : List D) : Prop := ∃ a c k : Int, x = [.int a, .int c, .int k] ∧ 0 ≤ a ∧ 0 ≤ c ∧ 0 ≤ k
theorem mul_sm {i j : Int} (h : -(2 ^ 64) < j ∧ j < 2 ^ 64) : MulOk i j := .inl (.inr h)
theorem mul_smL {i j : Int} (h : -(2 ^ 64) < i ∧ i < 2 ^ 64) : MulOk i j := .inl (.inl h)
section
variable {S : Sto} {n : Nat} {a c k b : Int}
theorem pix (i : Nat) (z : D) (hS : S[n]? = some (.lst [.int a, .int c, .int k])) (h : [D.int a, .int c, .int k][i]? = some z) : oIx (.ref n) (.int i) S = .ok z S := by
  have e : L2.atI [D.int a, .int c, .int k] (i : Int) = some z := atI_nat h
  unfold oIx
  simp [seqS, lstS, hS, e]
theorem draw_own (hS : S[n]? = some (.lst [.int a, .int c, .int k])) (hc : 0 < c) (hb : 0 < b ∧ b ≤ 1000) : d__law_draw [.ref n, .int b] S = .ok (.int (c % b)) (S.set n (.lst [.int a, .int (c / b), .int k])) := by
  have i1 := pix 1 _ hS rfl
  have hl : b.natAbs.log2 < 9000 := by
    have : b.natAbs < 2 ^ 9000 := Nat.lt_of_lt_of_le (show b.natAbs < 2 ^ 10 by omega) (Nat.pow_le_pow_right (by omega) (by omega))
    by_cases z : b.natAbs = 0
    · rw [z]; decide
    · exact (Nat.log2_lt z).mpr this
  unfold d__law_draw
  have i1' : oIx (.ref n) (.int 1) S = .ok (.int c) S := i1
  have dv : oDivmod [.int c, .int b] S = .ok (.tup [.int (c / b), .int (c % b)]) S := by unfold oDivmod; exact if_pos ⟨hb.1, hl⟩
  have sx : ixN 3 1 = some 1 := rfl
  simp [i1', hc, dv, dAsg, gTupD, gsCons, gSubL, kSet, gsNil, hS, sx]
def nxA (a k : Int) : Int := (a * (a.fmod 20011 + 30011) + 70001 * (k + 1) + 9).fmod 2147482937
theorem fm_nn {x y : Int} (h : 0 < y) : 0 ≤ x.fmod y ∧ x.fmod y < y := ⟨Int.fmod_nonneg_of_pos x h, Int.fmod_lt_of_pos x h⟩
theorem gMul_eq {i j : Int} (h : MulOk i j) : gMul i j = some (.int (i * j)) := if_pos h
theorem gMod_eq {i j : Int} (h : j ≠ 0) : gMod i j = some (.int (i.fmod j)) := if_pos h
theorem gDiv_eq {i j : Int} (h : DivOk i j) : gDiv i j = some (.int (i.fdiv j)) := if_pos h
theorem div128 {i : Int} : DivOk i 128 := ⟨by decide, by decide⟩
theorem draw_gen (hn : n < S.length) (hS : S[n]? = some (.lst [.int a, .int c, .int k])) (hc : ¬ 0 < c) (ha : 0 ≤ a) (hb : 0 < b ∧ b ≤ 1000) : d__law_draw [.ref n, .int b] S = .ok (.int (((nxA a k).fdiv 128).fmod b)) (S.set n (.lst [.int (nxA a k), .int c, .int (k + 1)])) := by
  have s1 : (S.set n (.lst [.int a, .int c, .int (k + 1)]))[n]? = some (.lst [.int a, .int c, .int (k + 1)]) := List.getElem?_set_self hn
  have s2 : (S.set n (.lst [.int (nxA a k), .int c, .int (k + 1)]))[n]? = some (.lst [.int (nxA a k), .int c, .int (k + 1)]) := List.getElem?_set_self hn
  have i1 : oIx (.ref n) (.int 1) S = .ok (.int c) S := pix 1 _ hS rfl
  have i2 : oIx (.ref n) (.int 2) S = .ok (.int k) S := pix 2 _ hS rfl
  have i3 : oIx (.ref n) (.int 0) _ = .ok (.int a) _ := pix 0 _ s1 rfl
  have i4 : oIx (.ref n) (.int 2) _ = .ok (.int (k + 1)) _ := pix 2 _ s1 rfl
  have i5 : oIx (.ref n) (.int 0) _ = .ok (.int (nxA a k)) _ := pix 0 _ s2 rfl
  have sx0 : ixN 3 0 = some 0 := rfl
  have sx2 : ixN 3 2 = some 2 := rfl
  have f := fm_nn (x := a) (y := 20011) (by omega)
  have g1 : gMod a 20011 = _ := gMod_eq (by decide)
  have g2 := gMul_eq (i := a) (j := a.fmod 20011 + 30011) (mul_sm (by omega))
  have g3 := gMul_eq (i := 70001) (j := k + 1) (mul_smL (by omega))
  have g4 : gMod (a * (a.fmod 20011 + 30011) + 70001 * (k + 1) + 9) 2147482937 = some (.int (nxA a k)) := gMod_eq (by decide)
  have g5 : gDiv (nxA a k) 128 = _ := gDiv_eq div128
  have g6 : gMod ((nxA a k).fdiv 128) b = _ := gMod_eq (by omega)
  unfold d__law_draw
  simp [i1, i2, i3, i4, i5, hc, dAsg, gSubL, hS, sx0, sx2, s1, s2, g1, g2, g3, g4, g5, g6]
theorem draw_ok {x : List D} (hn : n < S.length) (hx : P3 x) (hb : 0 < b ∧ b ≤ 1000) : ∃ r y, 0 ≤ r ∧ r < b ∧ P3 y ∧ d__law_draw [.ref n, .int b] (S.set n (.lst x)) = .ok (.int r) (S.set n (.lst y)) := by
  obtain ⟨a, c, k, rfl, h1, h2, h3⟩ := hx
  have hS : (S.set n (.lst [.int a, .int c, .int k]))[n]? = some (.lst [.int a, .int c, .int k]) := List.getElem?_set_self hn
  by_cases hc : 0 < c
  · have e := draw_own hS hc hb
    rw [List.set_set] at e
    exact ⟨_, _, Int.emod_nonneg _ (by omega), Int.emod_lt_of_pos _ hb.1, ⟨_, _, _, rfl, h1, Int.ediv_nonneg h2 (by omega), h3⟩, e⟩
  · have e := draw_gen (by simpa using hn) hS hc h1 hb
    rw [List.set_set] at e
    have f := fm_nn (x := (nxA a k).fdiv 128) hb.1
    exact ⟨_, _, f.1, f.2, ⟨_, _, _, rfl, (fm_nn (by omega)).1, h2, by omega⟩, e⟩
theorem pick_ok {x ds : List D} (hn : n < S.length) (hx : P3 x) (hb : 0 < ds.length ∧ ds.length ≤ 1000) : ∃ d y, d ∈ ds ∧ P3 y ∧ d__law_pick [.ref n, .lst ds] (S.set n (.lst x)) = .ok d (S.set n (.lst y)) := by
  obtain ⟨r, y, h1, h2, h3, h4⟩ := draw_ok (S := S) (b := ds.length) hn hx (by omega)
  obtain ⟨i, rfl⟩ : ∃ i : Nat, r = i := ⟨r.toNat, by omega⟩
  have hi : i < ds.length := by omega
  have e : L2.atI ds (i : Int) = some ds[i] := atI_nat (List.getElem?_eq_getElem hi)
  refine ⟨ds[i], y, List.getElem_mem hi, h3, ?_⟩
  unfold d__law_pick
  simp [seqS, lstS, oIx, h4, e]
end
end DL

namespace DL
open PySem PySem.Spec PyProof.Rows L2
section
variable {S : Sto} {B : Int} {m n : Nat} {rows : List D}
theorem law_square_ok (h : tabB B m rows) (hB : 0 ≤ B) {i j : Int} (S : Sto) (hi : 0 ≤ i ∧ i ≤ m) (hj : 0 ≤ j ∧ j ≤ m) : ∃ v, d__law_square [.tup rows, .int i, .int j] S = .ok (.int v) S ∧ 0 ≤ v ∧ v ≤ B := by
  by_cases e : i = j
  · subst e
    exact ⟨0, by unfold d__law_square; simp, by decide, hB⟩
  · have hne : (i == j) = false := by simpa using e
    obtain ⟨a, b, ha, hb, hab, hm⟩ : ∃ a b : Nat, (if j > i then j else i) = (a : Int) + 1 ∧ (if j < i then j else i) = (b : Int) ∧ b ≤ a ∧ a < m := by
      by_cases q : j > i
      · refine ⟨(j - 1).toNat, i.toNat, ?_, ?_, ?_, ?_⟩ <;> (try split) <;> omega
      · refine ⟨(i - 1).toNat, j.toNat, ?_, ?_, ?_, ?_⟩ <;> (try split) <;> omega
    obtain ⟨r, hr⟩ : ∃ r, rows[a]? = some r := ⟨_, List.getElem?_eq_getElem (by rw [h.len]; exact hm)⟩
    obtain ⟨es, e1, e2, e3⟩ := h.row a _ hr
    obtain ⟨v, hb'⟩ : ∃ v, es[b]? = some v := ⟨_, List.getElem?_eq_getElem (by omega)⟩
    have hv := e3 _ (List.mem_of_getElem? hb')
    rw [e1] at hr
    refine ⟨v, ?_, hv.1, hv.2⟩
    unfold d__law_square
    have x1 : L2.atI rows (a : Int) = some (.tup (es.map .int)) := atI_nat hr
    have x2 : L2.atI (es.map D.int) (b : Int) = some (.int v) := atI_nat (by rw [List.getElem?_map, hb']; rfl)
    simp [hne, oIx, ha, hb, x1, x2]
/-- a comprehension over a store that changes -/
theorem compGo_thr {t : Tgt} {te : DE} {ρ : En} (I : Sto → Prop) (R : Int → Prop) : ∀ {ds : List D} {S : Sto}, I S → (∀ d ∈ ds, ∀ S, I S → ∃ kvs x S', t.kv d = some kvs ∧ te (setE ρ kvs) S = .ok (.int x) S' ∧ I S' ∧ R x) →
    ∃ (xs : List Int) (S' : Sto), compGo t dYes te ρ ds S = .ok (xs.map .int) S' ∧ I S' ∧ xs.length = ds.length ∧ ∀ x ∈ xs, R x
  | [], S, h, _ => ⟨[], S, by simp [compGo], h, rfl, fun _ z => by cases z⟩
  | d :: ds, S, h, st => by
    obtain ⟨kvs, x, S1, h1, h2, h3, h4⟩ := st d List.mem_cons_self S h
    obtain ⟨xs, S2, q1, q2, q3, q4⟩ := compGo_thr I R (ds := ds) h3 fun e he => st e (List.mem_cons_of_mem _ he)
    refine ⟨x :: xs, S2, ?_, q2, by simp [q3], fun y hy => ?_⟩
    · rw [compGo_cons h1]
      simp [dYes, h2, q1]
    · rcases List.mem_cons.mp hy with rfl | hy
      · exact h4
      · exact q4 y hy
/-- the store with a pool at n -/
def PS (S : Sto) (n : Nat) (S' : Sto) : Prop := ∃ y, P3 y ∧ S' = S.set n (.lst y)
theorem PS.draw {S' : Sto} (hn : n < S.length) (h : PS S n S') {b : Int} (hb : 0 < b ∧ b ≤ 1000) : ∃ r S2, d__law_draw [.ref n, .int b] S' = .ok (.int r) S2 ∧ 0 ≤ r ∧ r < b ∧ PS S n S2 := by
  obtain ⟨y, hy, rfl⟩ := h
  obtain ⟨r, z, h1, h2, h3, h4⟩ := draw_ok hn hy hb
  exact ⟨r, _, h4, h1, h2, z, h3, rfl⟩
theorem PS.pick {S' : Sto} (hn : n < S.length) (h : PS S n S') {ds : List D} (hb : 0 < ds.length ∧ ds.length ≤ 1000) : ∃ d S2, d__law_pick [.ref n, .lst ds] S' = .ok d S2 ∧ d ∈ ds ∧ PS S n S2 := by
  obtain ⟨y, hy, rfl⟩ := h
  obtain ⟨r, z, h1, h3, h4⟩ := pick_ok hn hy hb
  exact ⟨r, _, h4, h1, z, h3, rfl⟩
theorem deed_ok {S0 : Sto} (hn : n < S.length) (hp : PS S n S0) (h : tabB B m rows) (hm : m ≤ 5) (hB : 20 ≤ B ∧ B ≤ 900) : ∃ e S', d__law_deed [.ref n, .tup rows] S0 = .ok (Deed.d e) S' ∧ PS S n S' ∧ e.ok ∧ upTo (B + 9) e := by
  have hl := h.len
  obtain ⟨r, S1, d1, r0, r8, p1⟩ := hp.draw hn (b := 8) (by omega)
  have mn : d__law_many [.tup rows] S1 = .ok (.int ((m : Int) + 1)) S1 := by unfold d__law_many; simp [hl]
  have head : ∀ f : DS, dSeq (dPar [2, 3] (dCons (dCall d__law_draw (dCons (dVar 0) (dCons (dC (.int 8)) dNil))) (dCons (dCall d__law_many (dCons (dVar 1) dNil)) dNil))) f (frame 9 [.ref n, .tup rows]) S0
      = f [some (.val (.ref n)), some (.val (.tup rows)), some (.val (.int r)), some (.val (.int (m + 1))), none, none, none, none, none] S1 := fun f => by
    simp [dPar, d1, mn]
  unfold d__law_deed
  rw [dFn_eq (np := 2) rfl, head]
  by_cases z0 : r = 0
  · subst z0
    exact ⟨.take, S1, by simp [Deed.d, lim_of], p1, trivial, trivial⟩
  have z0' : (r == 0) = false := by simpa using z0
  by_cases z1 : r = 1 ∧ 0 < m
  · obtain ⟨rfl, zm⟩ := z1
    obtain ⟨i, S2, d2, i0, i8, p2⟩ := p1.draw hn (b := m) (by omega)
    obtain ⟨j, S3, d3, j0, j8, p3⟩ := p2.draw hn (b := m + 1 - i) (by omega)
    obtain ⟨q, S4, d4, q0, q8, p4⟩ := p3.draw hn (b := 20) (by omega)
    refine ⟨.set i (i + 1 + j) q, S4, ?_, p4, ⟨by omega, by omega, by omega, by omega, by omega⟩, by show q ≤ B + 9; omega⟩
    have zm' : (1 : Int) < m + 1 := by omega
    simp [Deed.d, lim_of, d2, d3, d4, zm']
  have s1 : ∀ ρ : En, ρ = [some (.val (.ref n)), some (.val (.tup rows)), some (.val (.int r)), some (.val (.int (m + 1))), none, none, none, none, none] → dIfS (dTst (dOp (oEq false) (dPv 2) (dC (.int 0)))) (dRet (dTup (dCons (dC (.str "take")) dNil))) dNext ρ S1 = .nx ρ S1 := by
    intro ρ e
    subst e
    simp [z0']
  rw [dSeq_nx (s1 _ rfl)]
  have s2 : ∀ (ρ : En) (f : DS), ρ = [some (.val (.ref n)), some (.val (.tup rows)), some (.val (.int r)), some (.val (.int (m + 1))), none, none, none, none, none] → dIfS (dAndT (dTst (dOp (oEq false) (dPv 2) (dC (.int 1)))) (dTst (dOp oGt (dVar 3) (dC (.int 1))))) f dNext ρ S1 = .nx ρ S1 := by
    intro ρ f e
    subst e
    by_cases q : r = 1
    · have q2 : ¬ ((1 : Int) < m + 1) := fun t => z1 ⟨q, by omega⟩
      simp [q, q2]
    · have q' : (r == 1) = false := by simpa using q
      simp [q']
  rw [dSeq_nx (s2 _ _ rfl)]
  by_cases z2 : r = 2
  · subst z2
    obtain ⟨x, S2, d2, x1, p2⟩ := p1.pick hn (ds := [.int (m + 1), .int (m + 1), .int (m + 1 + 1), .int (m + 1 - 1)]) (by simp)
    obtain ⟨k, rfl, k1, k2⟩ : ∃ k : Int, x = .int k ∧ 0 ≤ k ∧ k ≤ 7 := by
      simp only [List.mem_cons, List.mem_nil_iff, or_false] at x1
      rcases x1 with rfl | rfl | rfl | rfl
      · exact ⟨_, rfl, by omega, by omega⟩
      · exact ⟨_, rfl, by omega, by omega⟩
      · exact ⟨_, rfl, by omega, by omega⟩
      · exact ⟨_, rfl, by omega, by omega⟩
    let ρ : En := [some (.val (.ref n)), some (.val (.tup rows)), some (.val (.int 2)), some (.val (.int (m + 1))), none, some (.val (.int k)), none, none, none]
    obtain ⟨xs, S3, c1, c2, c3, c4⟩ := compGo_thr (t := .name 8) (te := dCall d__law_draw (dCons (dVar 0) (dCons (dC (.int 12)) dNil))) (ρ := wipeE ρ [8]) (PS S n) (fun x => 0 ≤ x ∧ x ≤ 11) (ds := rngD 0 k.toNat) p2 (fun d hd S4 h4 => by
      obtain ⟨v, S5, e1, e2, e3, e4⟩ := h4.draw hn (b := 12) (by omega)
      exact ⟨[(8, d)], v, S5, rfl, by simp [ρ, wipeE, e1], e4, e2, by omega⟩)
    have c0 : dComp (dRng1 (dVar 5)) (.name 8) dYes (dCall d__law_draw (dCons (dVar 0) (dCons (dC (.int 12)) dNil))) [8] ρ S2 = .ok (xs.map .int) S3 := by
      rw [dComp_eq (dRng1_eq (S1 := S2) (j := k) (f := dVar 5) (ρ := ρ) rfl (by omega)) (by rw [rngD_len]; omega), c1]
    rw [rngD_len] at c3
    refine ⟨.put xs, S3, ?_, c2, ⟨by omega, fun q hq => ?_⟩, fun q hq => ?_⟩
    · have s4 : ∀ ρ0 : En, ρ0 = [some (.val (.ref n)), some (.val (.tup rows)), some (.val (.int 2)), some (.val (.int (m + 1))), none, none, none, none, none] → dSet 5 (dCall d__law_pick (dCons (dVar 0) (dCons (dLst (dCons (dVar 3) (dCons (dVar 3) (dCons (dOp oAdd (dPv 3) (dC (.int 1))) (dCons (dOp oSub (dVar 3) (dC (.int 1))) dNil))))) dNil))) ρ0 S1 = .nx ρ S2 := by
        intro ρ0 e
        subst e
        refine dSet_ok (dCall_ok (xs := [.ref n, .lst [.int (m + 1), .int (m + 1), .int (m + 1 + 1), .int (m + 1 - 1)]]) ?_ |>.trans d2)
        refine dCons_ok (S1 := S1) rfl (dCons_ok (S1 := S1) (x := .lst [.int (m + 1), .int (m + 1), .int (m + 1 + 1), .int (m + 1 - 1)]) ?_ rfl)
        show (if [D.int (m + 1), D.int (m + 1), D.int (m + 1 + 1), D.int (m + 1 - 1)].length ≤ LIM then Out.ok (D.lst [D.int (m + 1), D.int (m + 1), D.int (m + 1 + 1), D.int (m + 1 - 1)]) S1 else Out.bad) = _
        exact if_pos (lim_of (by show 4 ≤ 1000; decide))
      have s5 : dRet (dTup (dCons (dC (.str "put")) (dCons (dCB oTup (dCons (dFzL (dComp (dRng1 (dVar 5)) (.name 8) dYes (dCall d__law_draw (dCons (dVar 0) (dCons (dC (.int 12)) dNil))) [8])) dNil)) dNil))) ρ S2 = .rt (.tup [.str "put", .tup (xs.map .int)]) S3 := by
        refine dRet_ok (dTup_ok (dCons_ok (S1 := S2) rfl (dCons_ok (S1 := S3) (x := .tup (xs.map .int)) ?_ rfl)) (by simp))
        have c0' : dComp (dRng1 (dVar 5)) (.name 8) dYes (dCall d__law_draw (dCons (dVar 0) (dCons (dC (.int 12)) dNil))) [8] (fzE ρ) S2 = .ok (xs.map .int) S3 := c0
        simp [c0', -fzE]
      have s6 : ∀ (ρ0 : En) (g : DS), ρ0 = [some (.val (.ref n)), some (.val (.tup rows)), some (.val (.int 2)), some (.val (.int (m + 1))), none, none, none, none, none] → dIfS (dTst (dOp (oEq false) (dPv 2) (dC (.int 2)))) g dNext ρ0 S1 = g ρ0 S1 := by
        intro ρ0 g e
        subst e
        simp
      unfold dSeq at *
      rw [s6 _ _ rfl, s4 _ rfl]
      show Rs.out (match dRet _ ρ S2 with | .nx ρ' S' => _ | r => r) = _
      rw [s5]
      rfl
    · have := c4 q hq; omega
    · have := c4 q hq; omega
  have z2' : (r == 2) = false := by simpa using z2
  have s3 : ∀ (ρ : En) (f : DS), ρ = [some (.val (.ref n)), some (.val (.tup rows)), some (.val (.int r)), some (.val (.int (m + 1))), none, none, none, none, none] → dIfS (dTst (dOp (oEq false) (dPv 2) (dC (.int 2)))) f dNext ρ S1 = .nx ρ S1 := by
    intro ρ f e
    subst e
    simp [z2']
  rw [dSeq_nx (s3 _ _ rfl)]
  obtain ⟨s, S2, d2, s0, s8, p2⟩ := p1.draw hn (b := m + 1) (by omega)
  obtain ⟨x, S3, d3, x1, p3⟩ := p2.pick hn (ds := [.int 0, .int 1, .int 4, .int 4, .int 9]) (by simp)
  obtain ⟨k, rfl, k1, k2⟩ : ∃ k : Int, x = .int k ∧ 0 ≤ k ∧ k ≤ 9 := by
    simp only [List.mem_cons, List.mem_nil_iff, or_false] at x1
    rcases x1 with rfl | rfl | rfl | rfl | rfl <;> exact ⟨_, rfl, by omega, by omega⟩
  let ρ : En := [some (.val (.ref n)), some (.val (.tup rows)), some (.val (.int r)), some (.val (.int (m + 1))), none, none, some (.val (.int s)), some (.val (.int k)), none]
  obtain ⟨xs, S4, c1, c2, c3, c4⟩ := compGo_thr (t := .name 8) (te := dOp oAdd (dCall d__law_square (dCons (dVar 1) (dCons (dVar 6) (dCons (dVar 8) dNil)))) (dPv 7)) (ρ := wipeE ρ [8]) (PS S n) (fun x => 0 ≤ x ∧ x ≤ B + 9) (ds := rngD 0 (m + 1)) p3 (fun d hd S4 h4 => by
    obtain ⟨i, i1, rfl⟩ := rngD_mem hd
    obtain ⟨v, e1, e2, e3⟩ := law_square_ok h (by omega) (i := s) (j := 0 + (i : Int)) S4 (by omega) (by omega)
    exact ⟨[(8, .int (0 + (i : Int)))], v + k, S4, rfl, by
      have q0 : dCons (dVar 1) (dCons (dVar 6) (dCons (dVar 8) dNil)) (setE (wipeE ρ [8]) [(8, .int (0 + (i : Int)))]) S4 = .ok [.tup rows, .int s, .int (0 + (i : Int))] S4 := rfl
      have q1 : dCall d__law_square (dCons (dVar 1) (dCons (dVar 6) (dCons (dVar 8) dNil))) (setE (wipeE ρ [8]) [(8, .int (0 + (i : Int)))]) S4 = .ok (.int v) S4 := (dCall_ok q0).trans e1
      exact dOp_ok q1 (show dPv 7 (setE (wipeE ρ [8]) [(8, .int (0 + (i : Int)))]) S4 = .ok (.int k) S4 from rfl) rfl, h4, by omega, by omega⟩)
  have c0 : dComp (dRng1 (dVar 3)) (.name 8) dYes (dOp oAdd (dCall d__law_square (dCons (dVar 1) (dCons (dVar 6) (dCons (dVar 8) dNil)))) (dPv 7)) [8] ρ S3 = .ok (xs.map .int) S4 := by
    rw [dComp_eq (dRng1_eq (S1 := S3) (j := (m : Int) + 1) (f := dVar 3) (ρ := ρ) rfl (by omega)) (by rw [rngD_len]; omega), ← c1]
    rfl
  rw [rngD_len] at c3
  refine ⟨.put xs, S4, ?_, c2, ⟨by omega, fun q hq => ?_⟩, fun q hq => ?_⟩
  · have s5 : dRet (dTup (dCons (dC (.str "put")) (dCons (dCB oTup (dCons (dFzL (dComp (dRng1 (dVar 3)) (.name 8) dYes (dOp oAdd (dCall d__law_square (dCons (dVar 1) (dCons (dVar 6) (dCons (dVar 8) dNil)))) (dPv 7)) [8])) dNil)) dNil))) ρ S3 = .rt (.tup [.str "put", .tup (xs.map .int)]) S4 := by
      refine dRet_ok (dTup_ok (dCons_ok (S1 := S3) rfl (dCons_ok (S1 := S4) (x := .tup (xs.map .int)) ?_ rfl)) (by simp))
      have c0' : dComp (dRng1 (dVar 3)) (.name 8) dYes (dOp oAdd (dCall d__law_square (dCons (dVar 1) (dCons (dVar 6) (dCons (dVar 8) dNil)))) (dPv 7)) [8] (fzE ρ) S3 = .ok (xs.map .int) S4 := c0
      simp [c0', -fzE]
    have s6 : ∀ ρ0 : En, ρ0 = [some (.val (.ref n)), some (.val (.tup rows)), some (.val (.int r)), some (.val (.int (m + 1))), none, none, none, none, none] → dSet 6 (dCall d__law_draw (dCons (dVar 0) (dCons (dVar 3) dNil))) ρ0 S1 = .nx [some (.val (.ref n)), some (.val (.tup rows)), some (.val (.int r)), some (.val (.int (m + 1))), none, none, some (.val (.int s)), none, none] S2 := by
      intro ρ0 e
      subst e
      simp [d2]
    have s7 : ∀ ρ0 : En, ρ0 = [some (.val (.ref n)), some (.val (.tup rows)), some (.val (.int r)), some (.val (.int (m + 1))), none, none, some (.val (.int s)), none, none] → dSet 7 (dCall d__law_pick (dCons (dVar 0) (dCons (dLst (dCons (dC (.int 0)) (dCons (dC (.int 1)) (dCons (dC (.int 4)) (dCons (dC (.int 4)) (dCons (dC (.int 9)) dNil)))))) dNil))) ρ0 S2 = .nx ρ S3 := by
      intro ρ0 e
      subst e
      simp [d3, lim_of, ρ]
    rw [dSeq_nx (s6 _ rfl), dSeq_nx (s7 _ rfl), s5]
    rfl
  · have := c4 q hq; omega
  · have := c4 q hq; omega
end
end DL

namespace DL
open PySem PySem.Spec PyProof.Rows L2
theorem cut_mem {xs : List D} {a b : Option Int} {d : D} (h : d ∈ cutD xs a b) : d ∈ xs := by
  unfold cutD at h
  exact List.mem_of_mem_drop (List.mem_of_mem_take h)
section
variable {S : Sto} {ns : List Int} {t : Int}
def poolB : DS := dSet 3 (dOp oMod (dCB oInt (dCons (dOp oAdd (dOp oAdd (dOp oMul (dVar 3) (dC (.int 48271))) (dOp oMod (dCB oInt (dCons (dPv 4) dNil)) (dC (.int 2147482937)))) (dC (.int 43))) dNil)) (dC (.int 2147482937)))
theorem poolB_ok {x y : D} {o s v : Int} : poolB [some (.val x), some (.val y), some (.val (.int o)), some (.val (.int s)), some (.val (.int v))] S = .nx [some (.val x), some (.val y), some (.val (.int o)), some (.val (.int ((s * 48271 + v.fmod 2147482937 + 43).fmod 2147482937))), some (.val (.int v))] S := by
  have g2 := gMul_eq (i := s) (j := 48271) (mul_sm (by omega))
  have g1 : gMod v 2147482937 = _ := gMod_eq (by decide)
  have g3 : gMod (s * 48271 + v.fmod 2147482937 + 43) 2147482937 = _ := gMod_eq (by decide)
  unfold poolB
  simp [g1, g2, g3]
theorem pool_fin {x y : D} {o s : Int} {z : Option Sl} : ∃ w, P3 w ∧ dRet (dLiv (dLstL (dCons (dOp oMod (dCB oInt (dCons (dOp oAdd (dPv 3) (dOp oMul (dVar 2) (dC (.int 1033)))) dNil)) (dC (.int 2147482937))) (dCons (dIf (dOrT (dTst (dOp oLt (dVar 2) (dC (.int 0)))) (dTst (dOp oGe (dVar 2) (dOp oPow (dC (.int 10)) (dC (.int 18)))))) (dCB oAbs (dCons (dPv 2) dNil)) (dC (.int 0))) (dCons (dC (.int 0)) dNil)))))
    [some (.val x), some (.val y), some (.val (.int o)), some (.val (.int s)), z] S = .rt (.ref S.length) (S ++ [.lst w]) := by
  have g2 := gMul_eq (i := o) (j := 1033) (mul_sm (by omega))
  have g3 : gMod (s + o * 1033) 2147482937 = _ := gMod_eq (by decide)
  have gp : gPow 10 18 = some (.int 1000000000000000000) := by
    unfold gPow
    rw [if_pos (show CPow 10 18 from ⟨by decide, by decide, by decide⟩)]
    rfl
  have f := fm_nn (x := s + o * 1033) (y := 2147482937) (by omega)
  have key : ∀ c : Int, 0 ≤ c → ∀ g : DE, (∀ ρ S, ρ = fzE [some (.val x), some (.val y), some (.val (.int o)), some (.val (.int s)), z] → g ρ S = .ok (.int c) S) → ∃ w, P3 w ∧ dRet (dLiv (dLstL (dCons (dOp oMod (dCB oInt (dCons (dOp oAdd (dPv 3) (dOp oMul (dVar 2) (dC (.int 1033)))) dNil)) (dC (.int 2147482937))) (dCons g (dCons (dC (.int 0)) dNil)))))
    [some (.val x), some (.val y), some (.val (.int o)), some (.val (.int s)), z] S = .rt (.ref S.length) (S ++ [.lst w]) := by
    intro c hc g hg
    refine ⟨[.int ((s + o * 1033).fmod 2147482937), .int c, .int 0], ⟨_, _, _, rfl, f.1, hc, by omega⟩, dRet_ok ?_⟩
    have e1 : dOp oMod (dCB oInt (dCons (dOp oAdd (dPv 3) (dOp oMul (dVar 2) (dC (.int 1033)))) dNil)) (dC (.int 2147482937)) (fzE [some (.val x), some (.val y), some (.val (.int o)), some (.val (.int s)), z]) S = .ok (.int ((s + o * 1033).fmod 2147482937)) S := by
      simp [g2, g3]
    unfold dLiv
    rw [dLstL_ok (dCons_ok e1 (dCons_ok (hg _ _ rfl) (dCons_ok rfl rfl))) (by show 3 ≤ 1000; decide)]
    rfl
  by_cases h : o < 0 ∨ 1000000000000000000 ≤ o
  · refine key (if o < 0 then -o else o) (by split <;> omega) _ fun ρ S e => ?_
    subst e
    rcases h with h | h
    · simp [h, oAbs]
    · have q : ¬ o < 0 := by omega
      simp [h, q, gp, oAbs]
  · have q : ¬ o < 0 := by omega
    have q2 : ¬ 1000000000000000000 ≤ o := by omega
    refine key 0 (by omega) _ fun ρ S e => ?_
    subst e
    simp [q, q2, gp]
theorem pool_ok (h1 : ns.length ≤ 1000) (ht : 0 ≤ t ∧ t ≤ 100) : ∃ w, P3 w ∧ d__law_pool [.lst (ns.map .int), .int t] S = .ok (.ref S.length) (S ++ [.lst w]) := by
  have first : ∃ o : Int, dPar [2, 3] (dCons (dIf (dTst (dOp oLt (dVar 1) (dCB oLen (dCons (dPv 0) dNil)))) (dCB oInt (dCons (dOp oIx (dPv 0) (dVar 1)) dNil)) (dOp oAdd (dOp oMul (dC (.int 70001)) (dVar 1)) (dC (.int 89)))) (dCons (dOp oAdd (dC (.int 60089)) (dOp oMul (dC (.int 5059)) (dVar 1))) dNil)) (frame 5 [.lst (ns.map .int), .int t]) S
      = .nx [some (.val (.lst (ns.map .int))), some (.val (.int t)), some (.val (.int o)), some (.val (.int (60089 + 5059 * t))), none] S := by
    have g1 := gMul_eq (i := 5059) (j := t) (mul_smL (by omega))
    by_cases q : t < ns.length
    · obtain ⟨k, rfl⟩ : ∃ k : Nat, t = k := ⟨t.toNat, by omega⟩
      have hk : k < ns.length := by omega
      have e : L2.atI (ns.map D.int) (k : Int) = some (.int ns[k]) := atI_nat (by rw [List.getElem?_map, List.getElem?_eq_getElem hk]; rfl)
      refine ⟨ns[k], ?_⟩
      simp [dPar, g1, oIx, e, hk]
    · have g2 := gMul_eq (i := 70001) (j := t) (mul_smL (by omega))
      refine ⟨70001 * t + 89, ?_⟩
      simp [dPar, g1, g2, q]
  obtain ⟨o, ho⟩ := first
  unfold d__law_pool
  rw [dFn_eq (np := 2) rfl, dSeq_nx ho]
  have hit : dItr (dSl oSl (dPv 0) dNoPart (dPart (dC (.int 6)))) [some (.val (.lst (ns.map .int))), some (.val (.int t)), some (.val (.int o)), some (.val (.int (60089 + 5059 * t))), none] S = .ok (cutD (ns.map .int) none (some 6)) S := rfl
  obtain ⟨ρ', S', l1, s, z, rfl, rfl⟩ := forGo_inv (t := .name 4) (body := poolB) (fun _ ρ S' => ∃ (s : Int) (z : Option Sl), ρ = [some (.val (.lst (ns.map .int))), some (.val (.int t)), some (.val (.int o)), some (.val (.int s)), z] ∧ S' = S) (ds := cutD (ns.map .int) none (some 6)) (i := 0) (S := S) (ρ := [some (.val (.lst (ns.map .int))), some (.val (.int t)), some (.val (.int o)), some (.val (.int (60089 + 5059 * t))), none]) ⟨_, _, rfl, rfl⟩ (fun j d ρ S1 hd ⟨s, z, e1, e2⟩ => by
    subst e1; subst e2
    obtain ⟨v, _, rfl⟩ := List.mem_map.mp (cut_mem (List.mem_of_getElem? hd))
    exact ⟨[(4, .int v)], _, _, rfl, poolB_ok, _, _, rfl, rfl⟩)
  have hf : dFor (dItr (dSl oSl (dPv 0) dNoPart (dPart (dC (.int 6))))) (.name 4) poolB [some (.val (.lst (ns.map .int))), some (.val (.int t)), some (.val (.int o)), some (.val (.int (60089 + 5059 * t))), none] S' = .nx [some (.val (.lst (ns.map .int))), some (.val (.int t)), some (.val (.int o)), some (.val (.int s)), z] S' := (dFor_eq hit).trans l1
  obtain ⟨w, w1, w2⟩ := pool_fin (S := S') (x := .lst (ns.map .int)) (y := .int t) (o := o) (s := s) (z := z)
  refine ⟨w, w1, ?_⟩
  unfold poolB at hf
  rw [dSeq_nx hf, w2]
  rfl
end
end DL

namespace DL
open PySem PySem.Spec PyProof.Rows L2
/-- a tray in the store -/
def trayO (tb ds : List D) (p : Nat) : O := .ins "Tray" [("table", .tup tb), ("deeds", .tup ds), ("past", .ref p)]
section
variable {S : Sto} {B : Int} {m t p : Nat} {rows ds past : List D}
theorem fld_table (h : S[t]? = some (trayO rows ds p)) : oFld ["Tray"] "table" S (.ref t) = some (.tup rows) := by
  unfold oFld
  simp only [h, trayO]
  rfl
theorem fld_deeds (h : S[t]? = some (trayO rows ds p)) : oFld ["Tray"] "deeds" S (.ref t) = some (.tup ds) := by
  unfold oFld
  simp only [h, trayO]
  rfl
theorem fld_past (h : S[t]? = some (trayO rows ds p)) : oFld ["Tray"] "past" S (.ref t) = some (.ref p) := by
  unfold oFld
  simp only [h, trayO]
  rfl
theorem dFld_ok {cs : List Str} {f : Str} {o : DE} {ρ : En} {S' : Sto} {x d : D} (h : o ρ S = .ok x S') (h2 : oFld cs f S' x = some d) : dFld cs f o ρ S = .ok d S' := by
  unfold dFld
  rw [h, Out.bind_ok, h2]
  rfl
/-- the deed is barred -/
theorem do_exc {e : Deed} {x : Str} (ht : S[t]? = some (trayO rows ds p)) (he : e.ok) (r1 : d_reason_against [.tup rows, e.d] S = .ok (.str x) S) : d_Tray_do [.ref t, e.d] S = .exc "Barred" (some ("reason", .str x)) S := by
  have c1 := check_eq (S := S) he
  generalize hE : e.d = E at *
  let ρ0 : En := [some (.val (.ref t)), some (.val E), none]
  let ρ : En := [some (.val (.ref t)), some (.val E), some (.val (.str x))]
  have s1 : dDrop (dCall d_check_deed (dCons (dVar 1) dNil)) ρ0 S = .nx ρ0 S := by
    have q : dCall d_check_deed (dCons (dVar 1) dNil) ρ0 S = .ok .non S := (dCall_ok (xs := [E]) rfl).trans c1
    unfold dDrop
    rw [q]
    rfl
  have s2 : dSet 2 (dCall d_reason_against (dCons (dFld ["Tray"] "table" (dVar 0)) (dCons (dVar 1) dNil))) ρ0 S = .nx ρ S :=
    dSet_ok ((dCall_ok (dCons_ok (dFld_ok (S' := S) (x := .ref t) rfl (fld_table ht)) (show dCons (dVar 1) dNil ρ0 S = .ok [E] S from rfl))).trans r1)
  unfold d_Tray_do
  rw [dFn_eq (np := 2) rfl, show frame 3 [.ref t, E] = ρ0 from rfl, dSeq_nx s1, dSeq_nx s2]
  rfl
/-- the deed is done -/
theorem do_go {e : Deed} (ht : S[t]? = some (trayO rows ds p)) (hp : S[p]? = some (.lst past)) (hne : p ≠ t) (h : tabB B m rows) (hm : m ≤ 5) (he : e.ok) (hf : fits m e) (r1 : d_reason_against [.tup rows, e.d] S = .ok .non S) (z1 : ds.length ≤ 900) (z2 : past.length ≤ 900) :
    d_Tray_do [.ref t, e.d] S = .ok .non ((S.set p (.lst (past ++ [.tup rows]))).set t (trayO (aft rows e) (ds ++ [e.d]) p)) := by
  have c1 := check_eq (S := S) he
  generalize hE : e.d = E at *
  let ρ0 : En := [some (.val (.ref t)), some (.val E), none]
  let ρ : En := [some (.val (.ref t)), some (.val E), some (.val .non)]
  have s1 : dDrop (dCall d_check_deed (dCons (dVar 1) dNil)) ρ0 S = .nx ρ0 S := by
    have q : dCall d_check_deed (dCons (dVar 1) dNil) ρ0 S = .ok .non S := (dCall_ok (xs := [E]) rfl).trans c1
    unfold dDrop
    rw [q]
    rfl
  have s2 : dSet 2 (dCall d_reason_against (dCons (dFld ["Tray"] "table" (dVar 0)) (dCons (dVar 1) dNil))) ρ0 S = .nx ρ S :=
    dSet_ok ((dCall_ok (dCons_ok (dFld_ok (S' := S) (x := .ref t) rfl (fld_table ht)) (show dCons (dVar 1) dNil ρ0 S = .ok [E] S from rfl))).trans r1)
  unfold d_Tray_do
  rw [dFn_eq (np := 2) rfl, show frame 3 [.ref t, E] = ρ0 from rfl, dSeq_nx s1, dSeq_nx s2]
  have t1 : t < S.length := (List.getElem?_eq_some_iff.mp ht).1
  have p1 : p < S.length := (List.getElem?_eq_some_iff.mp hp).1
  have s3 : dIfS (dTst (dIsN true (dVar 2))) (dRaise "Barred" "reason" (dVar 2)) dNext ρ S = .nx ρ S := rfl
  let S1 : Sto := S.set p (.lst (past ++ [.tup rows]))
  have ht1 : S1[t]? = some (trayO rows ds p) := (List.getElem?_set_ne hne).trans ht
  have s4 : dDrop (dLm lApp (dFld ["Tray"] "past" (dVar 0)) (dCons (dFld ["Tray"] "table" (dVar 0)) dNil)) ρ S = .nx ρ S1 := by
    have q : dFld ["Tray"] "past" (dVar 0) ρ S = .ok (.ref p) S := dFld_ok (S' := S) (x := .ref t) rfl (fld_past ht)
    have q2 : dCons (dFld ["Tray"] "table" (dVar 0)) dNil ρ S = .ok [.tup rows] S := dCons_ok (dFld_ok (S' := S) (x := .ref t) rfl (fld_table ht)) rfl
    have l : lApp past [.tup rows] = some (.non, past ++ [.tup rows]) := if_pos (by rw [lim_val]; omega)
    unfold dDrop dLm
    simp only [q, q2, hp, Out.bind_ok, l]
    rfl
  let S2 : Sto := S1.set t (trayO (aft rows e) ds p)
  have ht2 : S2[t]? = some (trayO (aft rows e) ds p) := List.getElem?_set_self (by simpa [S1] using t1)
  have tb : d_table_behind [.tup rows, E] S1 = .ok (.tup (aft rows e)) S1 := hE ▸ (behind_ok (S := S1) h hm he hf).1
  have s5 : dSetF ["Tray"] "table" (dCall d_table_behind (dCons (dFld ["Tray"] "table" (dVar 0)) (dCons (dVar 1) dNil))) (dVar 0) ρ S1 = .nx ρ S2 := by
    have q : dCall d_table_behind (dCons (dFld ["Tray"] "table" (dVar 0)) (dCons (dVar 1) dNil)) ρ S1 = .ok (.tup (aft rows e)) S1 := (dCall_ok (dCons_ok (dFld_ok (S' := S1) (x := .ref t) rfl (fld_table ht1)) (show dCons (dVar 1) dNil ρ S1 = .ok [E] S1 from rfl))).trans tb
    have q0 : dVar 0 ρ S1 = .ok (.ref t) S1 := rfl
    unfold dSetF
    simp only [q, q0, Out.st_ok, ht1, trayO]
    rfl
  have s6 : dSetF ["Tray"] "deeds" (dOp oAdd (dFld ["Tray"] "deeds" (dVar 0)) (dTup (dCons (dVar 1) dNil))) (dVar 0) ρ S2 = .nx ρ (S2.set t (trayO (aft rows e) (ds ++ [E]) p)) := by
    have q : dOp oAdd (dFld ["Tray"] "deeds" (dVar 0)) (dTup (dCons (dVar 1) dNil)) ρ S2 = .ok (.tup (ds ++ [E])) S2 :=
      dOp_ok (dFld_ok (S' := S2) (x := .ref t) rfl (fld_deeds ht2)) (dTup_ok (xs := [E]) rfl (by show 1 ≤ 1000; decide)) (oAdd_tup (by simp; omega))
    have q0 : dVar 0 ρ S2 = .ok (.ref t) S2 := rfl
    unfold dSetF
    simp only [q, q0, Out.st_ok, ht2, trayO]
    rfl
  rw [dSeq_nx s3, dSeq_nx s4, dSeq_nx s5, s6]
  show Out.ok D.non _ = _
  simp only [S2, S1, List.set_set]
theorem do_ok {e : Deed} (ht : S[t]? = some (trayO rows ds p)) (hp : S[p]? = some (.lst past)) (hne : p ≠ t) (h : tabB B m rows) (hB : B ≤ 999) (hm : m ≤ 5) (he : e.ok) (hu : upTo B e) (z1 : ds.length ≤ 900) (z2 : past.length ≤ 900) :
    (∃ x, nonE x ∧ d_Tray_do [.ref t, e.d] S = .exc "Barred" (some ("reason", .str x)) S ∧ d_reason_against [.tup rows, e.d] S = .ok (.str x) S) ∨
    (fits m e ∧ d_Tray_do [.ref t, e.d] S = .ok .non ((S.set p (.lst (past ++ [.tup rows]))).set t (trayO (aft rows e) (ds ++ [e.d]) p)) ∧ d_reason_against [.tup rows, e.d] S = .ok .non S) := by
  obtain ⟨r, r1, r2⟩ := against_ok (S := S) h hB hm he hu
  rcases r2 with ⟨rfl, hf⟩ | ⟨x, rfl, hx⟩
  · exact .inr ⟨hf, do_go ht hp hne h hm he hf r1 z1 z2, r1⟩
  · exact .inl ⟨x, hx, do_exc ht he r1, r1⟩
end
end DL

namespace DL
open PySem PySem.Spec PyProof.Rows L2
section
variable {S : Sto} {B : Int} {m t p : Nat} {rows ds past : List D}
theorem meth_ok {den : List D → Sto → Out D} {o : DE} {g : DA} {ρ : En} {xs : List D} (ht : S[t]? = some (trayO rows ds p)) (ho : o ρ S = .ok (.ref t) S) (hg : g ρ S = .ok xs S) : dMeth "Tray" "do" den o g ρ S = den (.ref t :: xs) S := by
  unfold dMeth
  simp only [ho, Out.bind_ok, ht, trayO, hg]
  rfl
theorem barred_ok {e : Deed} (ht : S[t]? = some (trayO rows ds p)) (hp : S[p]? = some (.lst past)) (hne : p ≠ t) (h : tabB B m rows) (hB : B ≤ 999) (hm : m ≤ 5) (he : e.ok) (hu : upTo B e) (z1 : ds.length ≤ 900) (z2 : past.length ≤ 900) :
    (∃ x, nonE x ∧ d__law_barred [.ref t, e.d] S = .ok (.str x) S ∧ d_reason_against [.tup rows, e.d] S = .ok (.str x) S) ∨
    (fits m e ∧ d__law_barred [.ref t, e.d] S = .ok (.str "") ((S.set p (.lst (past ++ [.tup rows]))).set t (trayO (aft rows e) (ds ++ [e.d]) p)) ∧ d_reason_against [.tup rows, e.d] S = .ok .non S) := by
  have q := meth_ok (den := d_Tray_do) (o := dVar 0) (g := dCons (dVar 1) dNil) (ρ := [some (.val (.ref t)), some (.val e.d), none]) ht rfl (show _ = Out.ok [e.d] S from rfl)
  rcases do_ok ht hp hne h hB hm he hu z1 z2 with ⟨x, hx, hd, hr⟩ | ⟨hf, hd, hr⟩
  · refine .inl ⟨x, hx, ?_, hr⟩
    unfold d__law_barred dTryF dDrop
    rw [dFn_eq (np := 2) rfl, show frame 3 [.ref t, e.d] = [some (.val (.ref t)), some (.val e.d), none] from rfl]
    unfold dSeq
    simp only [q, hd, Out.st_exc]
    rfl
  · refine .inr ⟨hf, ?_, hr⟩
    unfold d__law_barred dTryF dDrop
    rw [dFn_eq (np := 2) rfl, show frame 3 [.ref t, e.d] = [some (.val (.ref t)), some (.val e.d), none] from rfl]
    unfold dSeq
    simp only [q, hd, Out.st_ok]
    rfl
/-- a fresh tray -/
theorem make_ok {ρ : En} : dMake "Tray" d_TrayU_initU dNil ρ S = .ok (.ref S.length) (S ++ [trayO [] [] (S.length + 1), .lst []]) := by
  unfold dMake
  show mkD "Tray" d_TrayU_initU [] S = _
  unfold mkD
  have e : d_TrayU_initU [.ref S.length] (S ++ [.ins "Tray" []]) = .ok .non (S ++ [trayO [] [] (S.length + 1), .lst []]) := by
    have g1 : (S ++ [O.ins "Tray" []])[S.length]? = some (.ins "Tray" []) := by simp
    have u1 : (S ++ [O.ins "Tray" []]).set S.length (.ins "Tray" [("table", .tup [])]) = S ++ [.ins "Tray" [("table", .tup [])]] := by simp
    have g2 : (S ++ [O.ins "Tray" [("table", D.tup [])]])[S.length]? = some (.ins "Tray" [("table", .tup [])]) := by simp
    have u2 : (S ++ [O.ins "Tray" [("table", D.tup [])]]).set S.length (.ins "Tray" [("table", .tup []), ("deeds", .tup [])]) = S ++ [.ins "Tray" [("table", .tup []), ("deeds", .tup [])]] := by simp
    have g3 : ((S ++ [O.ins "Tray" [("table", D.tup []), ("deeds", .tup [])]]) ++ [O.lst []])[S.length]? = some (.ins "Tray" [("table", .tup []), ("deeds", .tup [])]) := by simp
    have u3 : ((S ++ [O.ins "Tray" [("table", D.tup []), ("deeds", .tup [])]]) ++ [O.lst []]).set S.length (trayO [] [] (S.length + 1)) = S ++ [trayO [] [] (S.length + 1), .lst []] := by simp
    let ρ : En := [some (.val (.ref S.length))]
    have s1 : dSetF ["Tray"] "table" (dTup dNil) (dVar 0) ρ (S ++ [.ins "Tray" []]) = .nx ρ (S ++ [.ins "Tray" [("table", .tup [])]]) := by
      have q : dTup dNil ρ (S ++ [.ins "Tray" []]) = .ok (.tup []) (S ++ [.ins "Tray" []]) := dTup_ok rfl (by decide)
      have q0 : dVar 0 ρ (S ++ [.ins "Tray" []]) = .ok (.ref S.length) (S ++ [.ins "Tray" []]) := rfl
      unfold dSetF
      simp only [q, q0, Out.st_ok, g1]
      rw [← u1]
      rfl
    have s2 : dSetF ["Tray"] "deeds" (dTup dNil) (dVar 0) ρ (S ++ [.ins "Tray" [("table", .tup [])]]) = .nx ρ (S ++ [.ins "Tray" [("table", .tup []), ("deeds", .tup [])]]) := by
      have q : dTup dNil ρ (S ++ [.ins "Tray" [("table", .tup [])]]) = .ok (.tup []) (S ++ [.ins "Tray" [("table", .tup [])]]) := dTup_ok rfl (by decide)
      have q0 : dVar 0 ρ (S ++ [.ins "Tray" [("table", .tup [])]]) = .ok (.ref S.length) (S ++ [.ins "Tray" [("table", .tup [])]]) := rfl
      unfold dSetF
      simp only [q, q0, Out.st_ok, g2]
      rw [← u2]
      rfl
    have s3 : dSetF ["Tray"] "past" (dLiv (dLstL dNil)) (dVar 0) ρ (S ++ [.ins "Tray" [("table", .tup []), ("deeds", .tup [])]]) = .nx ρ (S ++ [trayO [] [] (S.length + 1), .lst []]) := by
      have q : dLiv (dLstL dNil) ρ (S ++ [.ins "Tray" [("table", .tup []), ("deeds", .tup [])]]) = .ok (.ref (S.length + 1)) ((S ++ [.ins "Tray" [("table", .tup []), ("deeds", .tup [])]]) ++ [.lst []]) := by
        unfold dLiv
        rw [dLstL_ok (g := dNil) (xs := []) rfl (by decide)]
        simp
      have q0 : dVar 0 ρ ((S ++ [O.ins "Tray" [("table", D.tup []), ("deeds", .tup [])]]) ++ [O.lst []]) = .ok (.ref S.length) ((S ++ [O.ins "Tray" [("table", D.tup []), ("deeds", .tup [])]]) ++ [O.lst []]) := rfl
      unfold dSetF
      simp only [q, q0, Out.st_ok, g3]
      rw [← u3]
      rfl
    unfold d_TrayU_initU
    rw [dFn_eq (np := 1) rfl, show frame 1 [.ref S.length] = ρ from rfl, dSeq_nx s1, dSeq_nx s2, s3]
    rfl
  rw [e]
  rfl
end
end DL

namespace DL
open PySem PySem.Spec PyProof.Rows L2
theorem eqvs_len : ∀ {xs ys : List D}, D.eqvs xs ys = true → xs.length = ys.length
  | [], [], _ => rfl
  | [], _ :: _, h => by simp [D.eqvs] at h
  | _ :: _, [], h => by simp [D.eqvs] at h
  | x :: xs, y :: ys, h => by
    have h : (D.eqv x y && D.eqvs xs ys) = true := by simpa [D.eqvs] using h
    rw [Bool.and_eq_true] at h
    simp [eqvs_len h.2]
theorem eqvs_self : ∀ {xs : List D}, (∀ x ∈ xs, D.eqv x x = true) → D.eqvs xs xs = true
  | [], _ => by simp [D.eqvs]
  | x :: xs, h => by
    show D.eqvs (x :: xs) (x :: xs) = true
    simp [D.eqvs, h x List.mem_cons_self, eqvs_self fun y hy => h y (List.mem_cons_of_mem _ hy)]
theorem eqv_int (i : Int) : D.eqv (.int i) (.int i) = true := by simp [D.eqv]
theorem eqv_str (x : Str) : D.eqv (.str x) (.str x) = true := by simp [D.eqv]
theorem eqv_tup {xs : List D} (h : ∀ x ∈ xs, D.eqv x x = true) : D.eqv (.tup xs) (.tup xs) = true := by
  have := eqvs_self h
  simpa [D.eqv] using this
theorem eqv_deed (e : Deed) : D.eqv e.d e.d = true := by
  cases e with
  | take => exact eqv_tup fun x hx => by rw [List.mem_singleton.mp hx]; exact eqv_str _
  | put qs =>
    refine eqv_tup fun x hx => ?_
    simp only [List.mem_cons, List.mem_nil_iff, or_false] at hx
    rcases hx with rfl | rfl
    · exact eqv_str _
    · exact eqv_tup fun y hy => by
        obtain ⟨v, _, rfl⟩ := List.mem_map.mp hy
        exact eqv_int v
  | set i j q =>
    refine eqv_tup fun x hx => ?_
    simp only [List.mem_cons, List.mem_nil_iff, or_false] at hx
    rcases hx with rfl | rfl | rfl | rfl
    · exact eqv_str _
    · exact eqv_int _
    · exact eqv_int _
    · exact eqv_int _
theorem isDat_tup {n : Nat} {xs : List D} (h : ∀ x ∈ xs, isDat n x = true) : isDat (n + 1) (.tup xs) = true := by
  show xs.all (isDat n) = true
  exact List.all_eq_true.mpr h
theorem isDat_deed (n : Nat) (e : Deed) : isDat (n + 3) e.d = true := by
  cases e with
  | take => exact isDat_tup fun x hx => by rw [List.mem_singleton.mp hx]; exact isDat_str _ _ (by decide +kernel)
  | put qs =>
    refine isDat_tup fun x hx => ?_
    simp only [List.mem_cons, List.mem_nil_iff, or_false] at hx
    rcases hx with rfl | rfl
    · exact isDat_str _ _ (by decide +kernel)
    · exact isDat_tup fun y hy => by
        obtain ⟨v, _, rfl⟩ := List.mem_map.mp hy
        exact isDat_int _ _
  | set i j q =>
    refine isDat_tup fun x hx => ?_
    simp only [List.mem_cons, List.mem_nil_iff, or_false] at hx
    rcases hx with rfl | rfl | rfl | rfl
    · exact isDat_str _ _ (by decide +kernel)
    · exact isDat_int _ _
    · exact isDat_int _ _
    · exact isDat_int _ _
theorem isDat_deeds (es : List Deed) : isDat DEP (.tup (es.map Deed.d)) = true := isDat_tup (n := 23) fun x hx => by
  obtain ⟨e, _, rfl⟩ := List.mem_map.mp hx
  exact isDat_deed 20 e
section
variable {S : Sto} {t u p1 p2 : Nat} {r1 r2 : List D} {es fs : List Deed}
theorem oEq_deeds (neg : Bool) : oEq neg (.tup (es.map Deed.d)) (.tup (fs.map Deed.d)) S = .ok (.bl (if neg then !D.eqvs (es.map Deed.d) (fs.map Deed.d) else D.eqvs (es.map Deed.d) (fs.map Deed.d))) S := by
  have e : D.eqv (.tup (es.map Deed.d)) (.tup (fs.map Deed.d)) = D.eqvs (es.map Deed.d) (fs.map Deed.d) := by simp [D.eqv]
  show (if isDat DEP (.tup (es.map Deed.d)) && isDat DEP (.tup (fs.map Deed.d)) then Out.ok (D.bl (if neg then !D.eqv (.tup (es.map Deed.d)) (.tup (fs.map Deed.d)) else D.eqv (.tup (es.map Deed.d)) (.tup (fs.map Deed.d)))) S else Out.bad) = _
  rw [isDat_deeds, isDat_deeds, e]
  rfl
theorem deeds_same : D.eqvs (es.map Deed.d) (es.map Deed.d) = true := eqvs_self fun x hx => by
  obtain ⟨e, _, rfl⟩ := List.mem_map.mp hx
  exact eqv_deed e
theorem deeds_other (h : es.length ≠ fs.length) : D.eqvs (es.map Deed.d) (fs.map Deed.d) = false := by
  cases q : D.eqvs (es.map Deed.d) (fs.map Deed.d) with
  | false => rfl
  | true => exact absurd (by simpa using eqvs_len q) h
end
end DL

namespace DL
open PySem PySem.Spec PyProof.Rows L2
theorem fin_shown : ∀ v : Fin 1000, (PyData.shown (.int (v.val : Int))).length ≤ 10 := by decide +kernel
theorem shown_int {v : Int} (h : 0 ≤ v ∧ v ≤ 999) : (PyData.shown (.int v)).length ≤ 10 := by
  obtain ⟨k, rfl⟩ : ∃ k : Nat, v = k := ⟨v.toNat, by omega⟩
  exact fin_shown ⟨k, by omega⟩
theorem app_len (a b : Str) : (a ++ b).length = a.length + b.length := by
  show (a.cps ++ b.cps).size = _
  exact Array.size_append ..
theorem piled_le {c : Nat} : ∀ {ds : List D}, (∀ d ∈ ds, (PyData.shown (py d)).length ≤ c) → piled (PyData.shownAll (pys ds)) ≤ ds.length * (c + 2)
  | [], _ => by simp [pys, PyData.shownAll, piled]
  | d :: ds, h => by
    have ih := piled_le (ds := ds) fun e he => h e (List.mem_cons_of_mem _ he)
    have h0 := h d List.mem_cons_self
    simp only [pys, PyData.shownAll, piled_cons, List.length_cons]
    rw [Nat.add_mul]
    omega
theorem textFrom_le : ∀ (ts : List Str) (k : Nat) (acc : Str), (textFrom k acc ts).length ≤ acc.length + piled ts
  | [], _, acc => by simp [textFrom, piled]
  | t :: ts, k, acc => by
    have ih := textFrom_le ts (k + 1) (acc ++ (if k > 0 then ", " else "" : String) ++ t)
    have l : (acc ++ ((if k > 0 then ", " else "" : String) : Str) ++ t).length ≤ acc.length + 2 + t.length := by
      rw [app_len, app_len]
      split
      · have : Str.length ((", " : String) : Str) = 2 := rfl
        omega
      · have : Str.length (("" : String) : Str) = 0 := rfl
        omega
    rw [piled_cons]
    show (textFrom (k + 1) (acc ++ (if k > 0 then ", " else "" : String) ++ t) ts).length ≤ _
    omega
theorem lst_len {c : Nat} {ds : List D} (h : ∀ d ∈ ds, (PyData.shown (py d)).length ≤ c) : (PyData.shown (py (.lst ds))).length ≤ 5 + ds.length * (c + 2) := by
  have := piled_le h
  have t := textFrom_le (PyData.shownAll (pys ds)) 0 "["
  have l1 : Str.length (("[" : String) : Str) = 1 := rfl
  have l2 : Str.length (("]" : String) : Str) = 1 := rfl
  simp only [py, PyData.shown, listText]
  rw [app_len]
  omega
theorem tup_len {c : Nat} {ds : List D} (h : ∀ d ∈ ds, (PyData.shown (py d)).length ≤ c) : (PyData.shown (py (.tup ds))).length ≤ 5 + ds.length * (c + 2) := by
  have := piled_le h
  simp only [py, PyData.shown, tupleText]
  rw [app_len, app_len]
  have l1 : Str.length (("(" : String) : Str) = 1 := rfl
  have l2 : Str.length ((if (PyData.shownAll (pys ds)).length == 1 then ",)" else ")" : String) : Str) ≤ 2 := by
    split
    · exact Nat.le_refl 2
    · exact (by decide : 1 ≤ 2)
  have l3 : (Str.join ", " (PyData.shownAll (pys ds))).length ≤ piled (PyData.shownAll (pys ds)) := by
    by_cases q : PyData.shownAll (pys ds) = []
    · rw [q]
      exact Nat.le_refl 0
    · have := join_length_add _ q
      omega
  omega
end DL

namespace DL
open PySem PySem.Spec PyProof.Rows L2
theorem showableAll_of : ∀ {ds : List D}, (∀ d ∈ ds, (py d).showable = true) → PyData.showableAll (pys ds) = true
  | [], _ => by simp [pys, PyData.showableAll]
  | d :: ds, h => by
    simp only [pys, PyData.showableAll, h d List.mem_cons_self, showableAll_of (ds := ds) fun e he => h e (List.mem_cons_of_mem _ he)]
    rfl
theorem showable_tup {ds : List D} (h : ∀ d ∈ ds, (py d).showable = true) : (py (.tup ds)).showable = true := by
  have := showableAll_of h
  simpa [py, PyData.showable] using this
theorem showable_lst {ds : List D} (h : ∀ d ∈ ds, (py d).showable = true) : (py (.lst ds)).showable = true := by
  have := showableAll_of h
  simpa [py, PyData.showable] using this
theorem fin_able : ∀ v : Fin 1000, (PyData.int (v.val : Int)).showable = true := by decide +kernel
theorem able_int {v : Int} (h : 0 ≤ v ∧ v ≤ 999) : (py (.int v)).showable = true := by
  obtain ⟨k, rfl⟩ : ∃ k : Nat, v = k := ⟨v.toNat, by omega⟩
  exact fin_able ⟨k, by omega⟩
section
variable {S : Sto} {B : Int} {m k : Nat} {r1 r2 : List D}
theorem tab_facts (h : tabB B m r1) (hB : B ≤ 999) (hm : m ≤ 5) : (py (.tup r1)).showable = true ∧ (PyData.shown (py (.tup r1))).length ≤ 400 ∧ isDat 23 (.tup r1) = true := by
  have row : ∀ d ∈ r1, (py d).showable = true ∧ (PyData.shown (py d)).length ≤ 65 ∧ isDat 22 d = true := by
    intro d hd
    obtain ⟨i, hi, e⟩ := List.mem_iff_getElem.mp hd
    obtain ⟨es, rfl, e2, e3⟩ := h.row i d (by rw [List.getElem?_eq_getElem hi, e])
    have hl := h.len
    have c : ∀ x ∈ es.map D.int, (py x).showable = true ∧ (PyData.shown (py x)).length ≤ 10 ∧ isDat 21 x = true := by
      intro x hx
      obtain ⟨v, hv, rfl⟩ := List.mem_map.mp hx
      have := e3 v hv
      exact ⟨able_int ⟨this.1, by omega⟩, shown_int ⟨this.1, by omega⟩, isDat_int _ _⟩
    refine ⟨showable_tup fun x hx => (c x hx).1, ?_, isDat_tup fun x hx => (c x hx).2.2⟩
    have := tup_len fun x hx => (c x hx).2.1
    rw [List.length_map, e2] at this
    omega
  refine ⟨showable_tup fun x hx => (row x hx).1, ?_, isDat_tup fun x hx => (row x hx).2.2⟩
  have := tup_len fun x hx => (row x hx).2.1
  rw [h.len] at this
  omega
theorem repr_ok (h1 : tabB B m r1) (h2 : tabB B k r2) (hB : B ≤ 999) (hm : m ≤ 5) (hk : k ≤ 5) : oRepr [.lst [.tup r1, .tup r2]] S = .ok (.str (PyData.shown (py (.lst [.tup r1, .tup r2])))) S := by
  have f : ∀ d ∈ [D.tup r1, D.tup r2], (py d).showable = true ∧ (PyData.shown (py d)).length ≤ 400 ∧ isDat 23 d = true := by
    intro d hd
    simp only [List.mem_cons, List.mem_nil_iff, or_false] at hd
    rcases hd with rfl | rfl
    · exact tab_facts h1 hB hm
    · exact tab_facts h2 hB hk
  have a1 : (py (.lst [.tup r1, .tup r2])).showable = true := showable_lst fun x hx => (f x hx).1
  have a2 : (PyData.shown (py (.lst [.tup r1, .tup r2]))).length ≤ LIM := lim_of (by
    have := lst_len fun x hx => (f x hx).2.1
    have l : [D.tup r1, D.tup r2].length = 2 := rfl
    rw [l] at this
    omega)
  have a3 : isDat DEP (.lst [.tup r1, .tup r2]) = true := by
    show [D.tup r1, D.tup r2].all (isDat 23) = true
    exact List.all_eq_true.mpr fun x hx => (f x hx).2.2
  show (if isDat DEP (.lst [.tup r1, .tup r2]) && ((py (.lst [.tup r1, .tup r2])).showable && decide ((PyData.shown (py (.lst [.tup r1, .tup r2]))).length ≤ LIM)) then Out.ok (D.str (PyData.shown (py (.lst [.tup r1, .tup r2])))) S else Out.bad) = _
  rw [a1, a3, decide_eq_true a2]
  rfl
end
end DL

namespace DL
open PySem PySem.Spec PyProof.Rows L2
mutual
/-- data that looks at no store -/
def nr : D → Bool
  | .ref _ => false
  | .tup xs => nrs xs
  | .lst xs => nrs xs
  | _ => true
def nrs : List D → Bool
  | [] => true
  | x :: xs => nr x && nrs xs
end
theorem nr_tup {xs : List D} : nr (.tup xs) = nrs xs := by simp [nr]
theorem nr_lst {xs : List D} : nr (.lst xs) = nrs xs := by simp [nr]
theorem n_tup {xs : List D} (h : nrs xs = true) : nr (.tup xs) = true := nr_tup.trans h
theorem n_lst {xs : List D} (h : nrs xs = true) : nr (.lst xs) = true := nr_lst.trans h
theorem of_tup {xs : List D} (h : nr (.tup xs) = true) : nrs xs = true := nr_tup.symm.trans h
theorem of_lst {xs : List D} (h : nr (.lst xs) = true) : nrs xs = true := nr_lst.symm.trans h
theorem nrs_iff : ∀ {xs : List D}, nrs xs = true ↔ ∀ x ∈ xs, nr x = true
  | [] => by simp [nrs]
  | x :: xs => by simp [nrs, nrs_iff (xs := xs)]
theorem n_cons {x : D} {xs : List D} (h : nr x = true) (h2 : nrs xs = true) : nrs (x :: xs) = true := by simp [nrs, h, h2]
def nrL : Option Sl → Bool
  | some (.val d) => nr d
  | some (.own ds) => nrs ds
  | some (.exn _ _) => false
  | none => true
def nrE (ρ : En) : Prop := ∀ s ∈ ρ, nrL s = true
/-- alike at any two stores -/
def Al {α : Type} (P : α → Prop) (m : Sto → Out α) : Prop := ∀ S x S', m S = .ok x S' → S' = S ∧ P x ∧ ∀ T, m T = .ok x T
section
variable {α β : Type} {P : α → Prop} {Q : β → Prop}
theorem Al.bind {m : Sto → Out α} {k : α → Sto → Out β} (h : Al P m) (hk : ∀ x, P x → Al Q (k x)) : Al Q fun S => (m S).bind k := by
  intro S y S' e
  cases e1 : m S with
  | ok x S1 =>
    obtain ⟨rfl, px, f⟩ := h S x S1 e1
    have e2 : k x S1 = .ok y S' := by
      have : (m S1).bind k = .ok y S' := e
      rwa [e1] at this
    obtain ⟨rfl, py, g⟩ := hk x px _ y S' e2
    exact ⟨rfl, py, fun T => by show (m T).bind k = _; rw [f T]; exact g T⟩
  | exc n q S1 => have : (m S).bind k = .ok y S' := e; rw [e1] at this; cases this
  | bad => have : (m S).bind k = .ok y S' := e; rw [e1] at this; cases this
theorem Al.ok {x : α} (h : P x) : Al P fun S => .ok x S := fun S y S' e => by cases e; exact ⟨rfl, h, fun _ => rfl⟩
theorem Al.bad : Al P fun _ => .bad := fun S y S' e => by cases e
theorem Al.exc {n : Str} {x : Option (Str × D)} : Al P fun S => .exc n x S := fun S y S' e => by cases e
theorem Al.of {m m' : Sto → Out α} (e : ∀ S, m S = m' S) (h : Al P m') : Al P m := by
  have : m = m' := funext e
  rw [this]
  exact h
theorem Al.ite {c : Prop} [Decidable c] {m m' : Sto → Out α} (h : Al P m) (h' : Al P m') : Al P fun S => if c then m S else m' S := by
  by_cases q : c
  · exact Al.of (fun S => if_pos q) h
  · exact Al.of (fun S => if_neg q) h'
theorem Al.opt {o : Option α} (h : ∀ x, o = some x → P x) : Al P fun S => optO o S := by
  cases o with
  | none => exact Al.bad
  | some x => exact Al.ok (h x rfl)
end
abbrev N1 : D → Prop := fun d => nr d = true
abbrev N2 : List D → Prop := fun d => nrs d = true
abbrev N0 {α : Type} : α → Prop := fun _ => True
def AlE (f : DE) : Prop := ∀ ρ, nrE ρ → Al N1 (f ρ)
def AlA (f : DA) : Prop := ∀ ρ, nrE ρ → Al N2 (f ρ)
def AlT (f : DT) : Prop := ∀ ρ, nrE ρ → Al N0 (f ρ)
def AlO (f : DO) : Prop := ∀ ρ, nrE ρ → Al N0 (f ρ)
def Al2 (op : D → D → Sto → Out D) : Prop := ∀ x y, N1 x → N1 y → Al N1 (op x y)
def AlD (op : List D → Sto → Out D) : Prop := ∀ ds, N2 ds → Al N1 (op ds)
theorem nrE.get {ρ : En} (h : nrE ρ) {i : Nat} {s : Option Sl} (e : ρ[i]? = some s) : nrL s = true := h s (List.mem_of_getElem? e)
theorem nrE.set {ρ : En} (h : nrE ρ) {i : Nat} {s : Option Sl} (e : nrL s = true) : nrE (ρ.set i s) := fun x hx => by
  rcases List.mem_or_eq_of_mem_set hx with z | z
  · exact h x z
  · rw [z]; exact e
/-! ### expressions -/
theorem al_var (i : Nat) : AlE (dVar i) := by
  intro ρ hr
  unfold dVar
  cases e : ρ[i]? with
  | none => exact Al.bad
  | some s =>
    have := hr.get e
    cases s with
    | none => exact Al.bad
    | some s => cases s with
      | val d => exact Al.ok this
      | own ds => exact Al.bad
      | exn n x => exact Al.bad
theorem al_pv (i : Nat) : AlE (dPv i) := by
  intro ρ hr
  unfold dPv
  cases e : ρ[i]? with
  | none => exact Al.bad
  | some s =>
    have := hr.get e
    cases s with
    | none => exact Al.bad
    | some s => cases s with
      | val d => exact Al.ok this
      | own ds => exact Al.ok (x := D.lst ds) (n_lst this)
      | exn n x => exact Al.bad
theorem al_c {d : D} (h : nr d = true) : AlE (dC d) := fun ρ _ => Al.ok h
theorem al_op {op : D → D → Sto → Out D} {f g : DE} (ho : Al2 op) (hf : AlE f) (hg : AlE g) : AlE (dOp op f g) := fun ρ hr => (hf ρ hr).bind fun x hx => (hg ρ hr).bind fun y hy => ho x y hx hy
theorem al_nil : AlA dNil := fun ρ _ => Al.ok rfl
theorem al_cons {f : DE} {g : DA} (hf : AlE f) (hg : AlA g) : AlA (dCons f g) := fun ρ hr => (hf ρ hr).bind fun x hx => (hg ρ hr).bind fun xs hxs => Al.ok (n_cons hx hxs)
theorem al_call {op : List D → Sto → Out D} {g : DA} (ho : AlD op) (hg : AlA g) : AlE (dCall op g) := fun ρ hr => (hg ρ hr).bind fun xs hxs => ho xs hxs
theorem al_cb {op : List D → Sto → Out D} {g : DA} (ho : AlD op) (hg : AlA g) : AlE (dCB op g) := fun ρ hr => (hg ρ hr).bind fun xs hxs => ho xs hxs
theorem al_tup {g : DA} (hg : AlA g) : AlE (dTup g) := fun ρ hr => (hg ρ hr).bind fun xs hxs => Al.ite (Al.ok (n_tup hxs)) Al.bad
theorem al_lst {g : DA} (hg : AlA g) : AlE (dLst g) := fun ρ hr => (hg ρ hr).bind fun xs hxs => Al.ite (Al.ok (n_lst hxs)) Al.bad
theorem al_lstL {g : DA} (hg : AlA g) : AlA (dLstL g) := fun ρ hr => (hg ρ hr).bind fun xs hxs => Al.opt fun x e => by
  split at e
  · cases e; exact hxs
  · cases e
theorem al_fzL {f : DL} (hf : AlA f) : AlE (dFzL f) := fun ρ hr => (hf ρ hr).bind fun xs hxs => Al.ok (n_lst hxs)
theorem al_tst {f : DE} (hf : AlE f) : AlT (dTst f) := fun ρ hr => (hf ρ hr).bind fun d hd => by
  cases d with
  | bl b => exact Al.ok trivial
  | _ => exact Al.bad
theorem al_isN {b : Bool} {f : DE} (hf : AlE f) : AlE (dIsN b f) := fun ρ hr => (hf ρ hr).bind fun d hd => Al.ok rfl
theorem al_neg {f : DE} (hf : AlE f) : AlE (dNeg f) := fun ρ hr => (hf ρ hr).bind fun d hd => by
  cases d with
  | int i => exact Al.ok rfl
  | _ => exact Al.bad
theorem al_not {f : DE} (hf : AlE f) : AlE (dNot f) := fun ρ hr => (hf ρ hr).bind fun d hd => by
  cases d with
  | bl i => exact Al.ok rfl
  | _ => exact Al.bad
theorem al_and {f g : DE} (hf : AlE f) (hg : AlE g) : AlE (dAnd f g) := fun ρ hr => (hf ρ hr).bind fun d hd => by
  cases d with
  | bl b => cases b with
    | true => exact hg ρ hr
    | false => exact Al.ok rfl
  | _ => exact Al.bad
theorem al_or {f g : DE} (hf : AlE f) (hg : AlE g) : AlE (dOr f g) := fun ρ hr => (hf ρ hr).bind fun d hd => by
  cases d with
  | bl b => cases b with
    | false => exact hg ρ hr
    | true => exact Al.ok rfl
  | _ => exact Al.bad
theorem al_andT {f g : DT} (hf : AlT f) (hg : AlT g) : AlT (dAndT f g) := fun ρ hr => (hf ρ hr).bind fun d hd => Al.ite (hg ρ hr) (Al.ok trivial)
theorem al_orT {f g : DT} (hf : AlT f) (hg : AlT g) : AlT (dOrT f g) := fun ρ hr => (hf ρ hr).bind fun d hd => Al.ite (Al.ok trivial) (hg ρ hr)
theorem al_notT {f : DT} (hf : AlT f) : AlT (dNotT f) := fun ρ hr => (hf ρ hr).bind fun d hd => Al.ok trivial
theorem al_if {c : DT} {f g : DE} (hc : AlT c) (hf : AlE f) (hg : AlE g) : AlE (dIf c f g) := fun ρ hr => (hc ρ hr).bind fun d hd => Al.ite (hf ρ hr) (hg ρ hr)
theorem al_yes : AlT dYes := fun ρ _ => Al.ok trivial
theorem al_noPart : AlO dNoPart := fun ρ _ => Al.ok trivial
theorem al_part {f : DE} (hf : AlE f) : AlO (dPart f) := fun ρ hr => (hf ρ hr).bind fun d hd => by
  cases d with
  | int i => exact Al.ok trivial
  | _ => exact Al.bad
/-! ### operations -/
theorem al_oI {g : Int → Int → Option D} (hg : ∀ i j d, g i j = some d → nr d = true) : Al2 (oI g) := by
  intro x y _ _
  unfold oI
  cases x with
  | int i => cases y with
    | int j =>
      show Al N1 fun S => match g i j with | some d => Out.ok d S | none => Out.bad
      cases e : g i j with
      | none => exact Al.bad
      | some d => exact Al.ok (hg i j d e)
    | _ => exact Al.bad
  | _ => exact Al.bad
theorem al_sub : Al2 oSub := al_oI fun i j d e => by cases e; rfl
theorem al_mul : Al2 oMul := al_oI fun i j d e => by unfold gMul at e; split at e <;> cases e; rfl
theorem al_div : Al2 oDiv := al_oI fun i j d e => by unfold gDiv at e; split at e <;> cases e; rfl
theorem al_mod : Al2 oMod := al_oI fun i j d e => by unfold gMod at e; split at e <;> cases e; rfl
theorem al_lt : Al2 oLt := al_oI fun i j d e => by cases e; rfl
theorem al_le : Al2 oLe := al_oI fun i j d e => by cases e; rfl
theorem al_gt : Al2 oGt := al_oI fun i j d e => by cases e; rfl
theorem al_ge : Al2 oGe := al_oI fun i j d e => by cases e; rfl
theorem seqS_nr {x : D} (h : nr x = true) (S : Sto) : seqS S x = seqS [] x := by
  cases x with
  | ref n => cases h
  | _ => rfl
theorem lstS_nr {x : D} (h : nr x = true) (S : Sto) : lstS S x = lstS [] x := by
  cases x with
  | ref n => cases h
  | _ => rfl
theorem seqS_in {x : D} {ds : List D} (h : nr x = true) (e : seqS [] x = some ds) : nrs ds = true := by
  cases x with
  | tup xs => cases e; first | exact of_tup h | exact of_lst h
  | lst xs => cases e; first | exact of_tup h | exact of_lst h
  | ref n => cases h
  | _ => cases e
theorem lstS_in {x : D} {ds : List D} (h : nr x = true) (e : lstS [] x = some ds) : nrs ds = true := by
  cases x with
  | lst xs => cases e; first | exact of_tup h | exact of_lst h
  | ref n => cases h
  | _ => cases e
theorem atI_mem {ds : List D} {i : Int} {d : D} (h : L2.atI ds i = some d) : d ∈ ds := by
  unfold L2.atI at h
  cases e : ixN ds.length i with
  | none => rw [e] at h; cases h
  | some j => rw [e] at h; exact List.mem_of_getElem? h
def ixT (x : D) (i : Int) (S : Sto) : Out D := match x with
      | .str z => if z.length ≤ LIM then (match L2.atI z.cps.toList i with
        | some c => .ok (.str ⟨#[c]⟩) S
        | none => .bad) else .bad
      | _ => .bad
theorem al_ixT (x : D) (i : Int) : Al N1 (ixT x i) := by
  cases x with
  | str z =>
    refine Al.ite ?_ Al.bad
    cases e2 : L2.atI z.cps.toList i with
    | some d => exact Al.ok rfl
    | none => exact Al.bad
  | _ => exact Al.bad
theorem al_ix : Al2 oIx := by
  intro x y hx _
  cases y with
  | int i =>
    refine Al.of (m' := fun S => match seqS [] x with
    | some ds => (match L2.atI ds i with
      | some d => .ok d S
      | none => .bad)
    | none => ixT x i S) (fun S => by rw [← seqS_nr hx S]; try rfl) ?_
    cases e : seqS [] x with
    | some ds =>
      show Al N1 fun S => match L2.atI ds i with | some d => Out.ok d S | none => Out.bad
      cases e2 : L2.atI ds i with
      | some d => exact Al.ok (nrs_iff.mp (seqS_in hx e) d (atI_mem e2))
      | none => exact Al.bad
    | none => exact al_ixT x i
  | _ => exact Al.bad
theorem drS_nr {x : D} (h : nr x = true) (S : Sto) : drS S x = x := by
  cases x with
  | ref n => cases h
  | _ => rfl
theorem al_eq (neg : Bool) : Al2 (oEq neg) := by
  intro x y hx hy
  refine Al.of (m' := fun S => if (isDat DEP x && isDat DEP y) = true then .ok (.bl (if neg then !D.eqv x y else D.eqv x y)) S else .bad) (fun S => by unfold oEq; rw [drS_nr hx, drS_nr hy]) ?_
  exact Al.ite (Al.ok rfl) Al.bad
theorem nrs_append {xs ys : List D} (h : nrs xs = true) (h' : nrs ys = true) : nrs (xs ++ ys) = true := nrs_iff.mpr fun x hx => by
  rcases List.mem_append.mp hx with z | z
  · exact nrs_iff.mp h x z
  · exact nrs_iff.mp h' x z
theorem al_add : Al2 oAdd := by
  intro x y hx hy
  have gen : Al N1 fun S => (match lstS S x, lstS S y with
    | some xs, some ys => if xs.length + ys.length ≤ LIM then .ok (.lst (xs ++ ys)) S else .bad
    | _, _ => .bad) := by
    refine Al.of (m' := fun S => (match lstS [] x, lstS [] y with
    | some xs, some ys => if xs.length + ys.length ≤ LIM then .ok (.lst (xs ++ ys)) S else .bad
    | _, _ => .bad)) (fun S => by rw [← lstS_nr hx S, ← lstS_nr hy S]) ?_
    cases e : lstS [] x with
    | none => exact Al.bad
    | some xs => cases e2 : lstS [] y with
      | none => exact Al.bad
      | some ys => exact Al.ite (Al.ok (n_lst (nrs_append (lstS_in hx e) (lstS_in hy e2)))) Al.bad
  cases x <;> cases y <;> first | exact gen | skip
  · exact Al.ok rfl
  · exact Al.ite (Al.ok rfl) Al.bad
  · exact Al.ite (Al.ok (n_tup (nrs_append (of_tup hx) (of_tup hy)))) Al.bad
def lenT (x : D) (S : Sto) : Out D := match x with
      | .str z => if z.length ≤ LIM then .ok (.int z.length) S else .bad
      | _ => .bad
theorem al_lenT (x : D) : Al N1 (lenT x) := by
  cases x with
  | str z => exact Al.ite (Al.ok rfl) Al.bad
  | _ => exact Al.bad
theorem al_len : AlD oLen := by
  intro ds hd
  match ds with
  | [] => exact Al.bad
  | _ :: _ :: _ => exact Al.bad
  | [x] =>
    have hx : nr x = true := nrs_iff.mp hd x (List.mem_singleton_self x)
    refine Al.of (m' := fun S => match seqS [] x with
    | some ds => .ok (.int ds.length) S
    | none => lenT x S) (fun S => by rw [← seqS_nr hx S]; try rfl) ?_
    cases e : seqS [] x with
    | some ds => exact Al.ok rfl
    | none => exact al_lenT x
theorem al_oTup : AlD oTup := by
  intro ds hd
  match ds with
  | [] => exact Al.bad
  | _ :: _ :: _ => exact Al.bad
  | [x] =>
    have hx : nr x = true := nrs_iff.mp hd x (List.mem_singleton_self x)
    refine Al.of (m' := fun S => match seqS [] x with
    | some ds => .ok (.tup ds) S
    | none => .bad) (fun S => by rw [← seqS_nr hx S]; try rfl) ?_
    cases e : seqS [] x with
    | some ds => exact Al.ok (n_tup (seqS_in hx e))
    | none => exact Al.bad
theorem al_bls (g : List Bool → Bool) : AlD (oBls g) := by
  intro ds hd
  match ds with
  | [] => exact Al.bad
  | _ :: _ :: _ => exact Al.bad
  | [x] =>
    have hx : nr x = true := nrs_iff.mp hd x (List.mem_singleton_self x)
    refine Al.of (m' := fun S => (match lstS [] x with
    | some ds => (match blsOf ds with
      | some bs => .ok (.bl (g bs)) S
      | none => .bad)
    | none => .bad)) (fun S => by rw [← lstS_nr hx S]; try rfl) ?_
    cases e : lstS [] x with
    | some ds =>
      show Al N1 fun S => (match blsOf ds with
      | some bs => .ok (.bl (g bs)) S
      | none => .bad)
      cases blsOf ds with
      | some bs => exact Al.ok rfl
      | none => exact Al.bad
    | none => exact Al.bad
theorem al_max2 : AlD oMax2 := by
  intro ds hd S x S' e
  unfold oMax2 at e
  split at e
  · cases e; exact ⟨rfl, rfl, fun T => rfl⟩
  · cases e
theorem al_min2 : AlD oMin2 := by
  intro ds hd S x S' e
  unfold oMin2 at e
  split at e
  · cases e; exact ⟨rfl, rfl, fun T => rfl⟩
  · cases e
theorem al_gcd : AlD oGcd := by
  intro ds hd S x S' e
  unfold oGcd at e
  split at e
  · cases e; exact ⟨rfl, rfl, fun T => rfl⟩
  · cases e
theorem nrs_cut {xs : List D} {i j : Option Int} (h : nrs xs = true) : nrs (cutD xs i j) = true := nrs_iff.mpr fun x hx => nrs_iff.mp h x (cut_mem hx)
theorem al_oSl {x : D} {i j : Option Int} (hx : nr x = true) : Al N1 (oSl x i j) := by
  have gen : Al N1 fun S => (match lstS S x with
    | some ds => .ok (.lst (cutD ds i j)) S
    | none => .bad) := by
    refine Al.of (m' := fun S => (match lstS [] x with
    | some ds => .ok (.lst (cutD ds i j)) S
    | none => .bad)) (fun S => by rw [← lstS_nr hx S]) ?_
    cases e : lstS [] x with
    | some ds => exact Al.ok (n_lst (nrs_cut (lstS_in hx e)))
    | none => exact Al.bad
  cases x <;> first | exact gen | skip
  · exact Al.ite (Al.ok rfl) Al.bad
  · exact Al.ok (n_tup (nrs_cut (of_tup hx)))
theorem al_sl {f : DE} {lo hi : DO} (hf : AlE f) (hl : AlO lo) (hh : AlO hi) : AlE (dSl oSl f lo hi) := fun ρ hr => (hf ρ hr).bind fun x hx => (hl ρ hr).bind fun i _ => (hh ρ hr).bind fun j _ => al_oSl hx
theorem al_star {f : DE} {g : DA} (hf : AlE f) (hg : AlA g) : AlA (dStar f g) := fun ρ hr => (hf ρ hr).bind fun x hx => by
  refine Al.of (m' := fun S => match seqS [] x with
  | some ds => (g ρ S).bind fun xs S2 => .ok (ds ++ xs) S2
  | none => .bad) (fun S => by rw [← seqS_nr hx S]; try rfl) ?_
  cases e : seqS [] x with
  | some ds => exact (hg ρ hr).bind fun xs hxs => Al.ok (nrs_append (seqS_in hx e) hxs)
  | none => exact Al.bad
/-! ### what is walked -/
theorem al_itr {f : DE} (hf : AlE f) : AlA (dItr f) := fun ρ hr => (hf ρ hr).bind fun x hx => Al.opt fun ds e => by
  cases x with
  | tup xs => cases e; first | exact of_tup hx | exact of_lst hx
  | lst xs => cases e; first | exact of_tup hx | exact of_lst hx
  | str z =>
    cases e
    refine nrs_iff.mpr fun x hx => ?_
    obtain ⟨c, _, rfl⟩ := List.mem_map.mp hx
    rfl
  | _ => cases e
theorem nrs_rng {i : Int} {n : Nat} : nrs (rngD i n) = true := nrs_iff.mpr fun x hx => by
  obtain ⟨c, _, rfl⟩ := List.mem_map.mp hx
  rfl
theorem al_rng1 {f : DE} (hf : AlE f) : AlA (dRng1 f) := fun ρ hr => (hf ρ hr).bind fun x hx => by
  cases x with
  | int i => exact Al.ite (Al.ok nrs_rng) Al.bad
  | _ => exact Al.bad
theorem al_rng2 {f g : DE} (hf : AlE f) (hg : AlE g) : AlA (dRng2 f g) := fun ρ hr => (hf ρ hr).bind fun x hx => (hg ρ hr).bind fun y hy => by
  cases x with
  | int i => cases y with
    | int j => exact Al.ite (Al.ok nrs_rng) Al.bad
    | _ => exact Al.bad
  | _ => exact Al.bad
theorem nrs_enum : ∀ {ds : List D} {k : Nat}, nrs ds = true → nrs (enumD k ds) = true
  | [], _, _ => by simp [enumD, nrs]
  | d :: ds, k, h => by
    simp only [nrs, Bool.and_eq_true] at h
    simp [enumD, nrs, nr, h.1, nrs_enum (k := k + 1) h.2]
theorem nrs_zip : ∀ {xs ys : List D}, nrs xs = true → nrs ys = true → nrs (zipD xs ys) = true
  | x :: xs, y :: ys, h, h' => by
    simp only [nrs, Bool.and_eq_true] at h h'
    simp [zipD, nrs, nr, h.1, h'.1, nrs_zip h.2 h'.2]
  | [], _, _, _ => by simp [zipD, nrs]
  | _ :: _, [], _, _ => by simp [zipD, nrs]
theorem al_enum {f : DE} (hf : AlE f) : AlA (dEnum f) := fun ρ hr => (hf ρ hr).bind fun x hx => by
  cases x with
  | lst ds => exact Al.ok (nrs_enum (of_lst hx))
  | _ => exact Al.bad
theorem al_zip {f g : DE} (hf : AlE f) (hg : AlE g) : AlA (dZip f g) := fun ρ hr => (hf ρ hr).bind fun x hx => (hg ρ hr).bind fun y hy => by
  cases x with
  | lst xs => cases y with
    | lst ys => exact Al.ok (nrs_zip (of_lst hx) (of_lst hy))
    | _ => exact Al.bad
  | _ => exact Al.bad
theorem nrE_setE : ∀ {kvs : List (Nat × D)} {ρ : En}, nrE ρ → (∀ p ∈ kvs, nr p.2 = true) → nrE (setE ρ kvs)
  | [], _, h, _ => h
  | p :: r, ρ, h, hk => nrE_setE (kvs := r) (h.set (hk p List.mem_cons_self)) fun q hq => hk q (List.mem_cons_of_mem _ hq)
theorem zip_nr {is : List Nat} {ds : List D} (h : nrs ds = true) : ∀ p ∈ is.zip ds, nr p.2 = true := fun p hp => nrs_iff.mp h p.2 (List.of_mem_zip hp).2
theorem kv_nr {t : Tgt} {d : D} {kvs : List (Nat × D)} (h : nr d = true) (e : t.kv d = some kvs) : ∀ p ∈ kvs, nr p.2 = true := by
  cases t with
  | name i => cases e; intro p hp; rw [List.mem_singleton.mp hp]; exact h
  | tup is =>
    cases d with
    | tup ds =>
      have e : (if is.length = ds.length then some (is.zip ds) else none) = some kvs := e
      by_cases q : is.length = ds.length
      · rw [if_pos q] at e; cases e; exact zip_nr (of_tup h)
      · rw [if_neg q] at e; cases e
    | _ => cases e
theorem al_nx {α : Type} {P : α → Prop} {m : Sto → Out α} (h : Al P m) : Al P fun S => (m S).nx := by
  intro S x S' e
  cases e1 : m S with
  | ok y S1 =>
    have e2 : (m S).nx = .ok x S' := e
    rw [e1] at e2
    cases e2
    obtain ⟨a, b, c⟩ := h S x S' e1
    exact ⟨a, b, fun T => by show (m T).nx = _; rw [c T]; rfl⟩
  | exc n q S1 => have e2 : (m S).nx = .ok x S' := e; rw [e1] at e2; cases e2
  | bad => have e2 : (m S).nx = .ok x S' := e; rw [e1] at e2; cases e2
theorem al_compGo {t : Tgt} {tt : DT} {te : DE} {ρ : En} (hr : nrE ρ) (ht : AlT tt) (he : AlE te) : ∀ {ds : List D}, nrs ds = true → Al N2 (compGo t tt te ρ ds)
  | [], _ => by
    refine Al.of (m' := fun S => .ok [] S) (fun S => by unfold compGo; rfl) (Al.ok rfl)
  | d :: ds, h => by
    simp only [nrs, Bool.and_eq_true] at h
    have ih := al_compGo (t := t) hr ht he h.2
    cases e : t.kv d with
    | none => exact Al.of (m' := fun _ => .bad) (fun S => by unfold compGo; rw [e]) Al.bad
    | some kvs =>
      have hr' : nrE (setE ρ kvs) := nrE_setE hr (kv_nr h.1 e)
      refine Al.of (m' := fun S => (tt (setE ρ kvs) S).nx.bind fun k S1 => if k = true then (te (setE ρ kvs) S1).nx.bind fun x S2 => (compGo t tt te ρ ds S2).bind fun xs S3 => .ok (x :: xs) S3 else compGo t tt te ρ ds S1) (fun S => compGo_cons e) ?_
      refine (al_nx (ht _ hr')).bind fun k _ => Al.ite ?_ ih
      exact (al_nx (he _ hr')).bind fun x hx => ih.bind fun xs hxs => Al.ok (n_cons hx hxs)
theorem nrE_wipe {ρ : En} (h : nrE ρ) : ∀ {vs : List Nat}, nrE (wipeE ρ vs)
  | [] => h
  | v :: vs => (nrE_wipe h (vs := vs)).set rfl
theorem al_comp {it : DL} {t : Tgt} {tt : DT} {te : DE} {vs : List Nat} (hi : AlA it) (ht : AlT tt) (he : AlE te) : AlA (dComp it t tt te vs) := fun ρ hr => (hi ρ hr).bind fun ds hds => Al.ite (al_compGo (nrE_wipe hr) ht he hds) Al.bad
end DL

namespace DL
open PySem PySem.Spec PyProof.Rows L2
/-! ### statements -/
inductive PR where
  | nx (ρ : En) | rt (d : D) | bk (ρ : En) | ct (ρ : En)
def PR.at : PR → Sto → Rs
  | .nx ρ, S => .nx ρ S
  | .rt d, S => .rt d S
  | .bk ρ, S => .bk ρ S
  | .ct ρ, S => .ct ρ S
def PR.good : PR → Prop
  | .nx ρ => nrE ρ
  | .rt d => nr d = true
  | .bk ρ => nrE ρ
  | .ct ρ => nrE ρ
def AlR (m : Sto → Rs) : Prop := ∀ S r S', m S = PR.at r S' → S' = S ∧ r.good ∧ ∀ T, m T = r.at T
def AlS (f : DS) : Prop := ∀ ρ, nrE ρ → AlR (f ρ)
theorem AlR.of {m m' : Sto → Rs} (e : ∀ S, m S = m' S) (h : AlR m') : AlR m := by
  have : m = m' := funext e
  rw [this]
  exact h
theorem AlR.mk {r : PR} (h : r.good) : AlR r.at := fun S r' S' e => by
  cases r <;> cases r' <;> cases e <;> exact ⟨rfl, h, fun _ => rfl⟩
theorem AlR.nx {ρ : En} (h : nrE ρ) : AlR fun S => .nx ρ S := AlR.mk (r := .nx ρ) h
theorem AlR.rt {d : D} (h : nr d = true) : AlR fun S => .rt d S := AlR.mk (r := .rt d) h
theorem AlR.bad : AlR fun _ => .bad := fun S r S' e => by cases r <;> cases e
theorem AlR.st {α : Type} {P : α → Prop} {m : Sto → Out α} {ρ : En} {k : α → Sto → Rs} (h : Al P m) (hk : ∀ x, P x → AlR (k x)) : AlR fun S => (m S).st ρ k := by
  intro S r S' e
  cases e1 : m S with
  | ok x S1 =>
    obtain ⟨rfl, px, f⟩ := h S x S1 e1
    have e2 : k x S1 = r.at S' := by
      have : (m S1).st ρ k = r.at S' := e
      rwa [e1] at this
    obtain ⟨rfl, py, g⟩ := hk x px _ r S' e2
    exact ⟨rfl, py, fun T => by show (m T).st ρ k = _; rw [f T]; exact g T⟩
  | exc n q S1 =>
    have : (m S).st ρ k = r.at S' := e
    rw [e1] at this
    cases r <;> cases this
  | bad =>
    have : (m S).st ρ k = r.at S' := e
    rw [e1] at this
    cases r <;> cases this
theorem AlR.ite {c : Prop} [Decidable c] {m m' : Sto → Rs} (h : AlR m) (h' : AlR m') : AlR fun S => if c then m S else m' S := by
  by_cases q : c
  · exact AlR.of (fun S => if_pos q) h
  · exact AlR.of (fun S => if_neg q) h'
theorem nrE.val {ρ : En} (h : nrE ρ) {i : Nat} {d : D} (e : nr d = true) : nrE (ρ.set i (some (.val d))) := h.set e
theorem nrE.own {ρ : En} (h : nrE ρ) {i : Nat} {d : List D} (e : nrs d = true) : nrE (ρ.set i (some (.own d))) := h.set e
theorem als_next : AlS dNext := fun ρ hr => AlR.nx hr
theorem als_seq {f g : DS} (hf : AlS f) (hg : AlS g) : AlS (dSeq f g) := by
  intro ρ hr S r S' e
  unfold dSeq at e
  cases e1 : f ρ S with
  | nx ρ1 S1 =>
    obtain ⟨rfl, p1, f1⟩ := hf ρ hr S (.nx ρ1) S1 e1
    rw [e1] at e
    obtain ⟨rfl, p2, f2⟩ := hg ρ1 p1 _ r S' e
    refine ⟨rfl, p2, fun T => ?_⟩
    have := f1 T
    unfold dSeq
    rw [this]
    exact f2 T
  | rt d S1 =>
    rw [e1] at e
    obtain ⟨rfl, p1, f1⟩ := hf ρ hr S r S' (by rw [e1]; exact e)
    refine ⟨rfl, p1, fun T => ?_⟩
    unfold dSeq
    rw [f1 T]
    cases r <;> first | rfl | cases e
  | bk d S1 =>
    rw [e1] at e
    obtain ⟨rfl, p1, f1⟩ := hf ρ hr S r S' (by rw [e1]; exact e)
    refine ⟨rfl, p1, fun T => ?_⟩
    unfold dSeq
    rw [f1 T]
    cases r <;> first | rfl | cases e
  | ct d S1 =>
    rw [e1] at e
    obtain ⟨rfl, p1, f1⟩ := hf ρ hr S r S' (by rw [e1]; exact e)
    refine ⟨rfl, p1, fun T => ?_⟩
    unfold dSeq
    rw [f1 T]
    cases r <;> first | rfl | cases e
  | ex n x ρ1 S1 => rw [e1] at e; cases r <;> cases e
  | bad => rw [e1] at e; cases r <;> cases e
theorem als_set {i : Nat} {f : DE} (hf : AlE f) : AlS (dSet i f) := fun ρ hr => AlR.st (hf ρ hr) fun d hd => AlR.nx (hr.val hd)
theorem als_drop {f : DE} (hf : AlE f) : AlS (dDrop f) := fun ρ hr => AlR.st (hf ρ hr) fun d hd => AlR.nx hr
theorem als_setO {i : Nat} {f : DL} (hf : AlA f) : AlS (dSetO i f) := fun ρ hr => AlR.st (hf ρ hr) fun ds hd => AlR.ite (AlR.nx (hr.own hd)) AlR.bad
theorem als_parO {i j : Nat} {f g : DL} (hf : AlA f) (hg : AlA g) : AlS (dParO i j f g) := fun ρ hr => AlR.st (hf ρ hr) fun ds hd => AlR.st (hg ρ hr) fun es he => AlR.ite (AlR.nx ((hr.own hd).own he)) AlR.bad
theorem als_par {is : List Nat} {g : DA} (hg : AlA g) : AlS (dPar is g) := fun ρ hr => AlR.st (hg ρ hr) fun ds hd => AlR.ite (AlR.nx (nrE_setE hr (zip_nr hd))) AlR.bad
theorem nrE_fz {ρ : En} (h : nrE ρ) : nrE (fzE ρ) := fun s hs => by
  obtain ⟨t, ht, rfl⟩ := List.mem_map.mp hs
  have := h t ht
  cases t with
  | none => rfl
  | some t => cases t with
    | val d => exact this
    | own ds => exact n_lst this
    | exn n x => exact this
theorem als_ret {f : DE} (hf : AlE f) : AlS (dRet f) := fun ρ hr => AlR.st (hf _ (nrE_fz hr)) fun d hd => AlR.rt hd
theorem als_ifs {c : DT} {f g : DS} (hc : AlT c) (hf : AlS f) (hg : AlS g) : AlS (dIfS c f g) := fun ρ hr => AlR.st (hc ρ hr) fun b _ => AlR.ite (hf ρ hr) (hg ρ hr)
theorem als_app {i : Nat} {g : DA} (hg : AlA g) : AlS (dOm i lApp g kDrop) := by
  intro ρ hr
  unfold dOm
  cases e : ρ[i]? with
  | none => exact AlR.bad
  | some s =>
    have hs := hr.get e
    cases s with
    | none => exact AlR.bad
    | some s => cases s with
      | val d => exact AlR.bad
      | exn n x => exact AlR.bad
      | own ds =>
        refine AlR.st (hg ρ hr) fun ys hy => ?_
        show AlR fun S1 => (match lApp ds ys with
      | some (d, ds') => kDrop d (ρ.set i (some (.own ds'))) S1
      | none => .bad)
        cases e2 : lApp ds ys with
        | none => exact AlR.bad
        | some q =>
          obtain ⟨d, ds'⟩ := q
          refine AlR.nx (hr.set ?_)
          unfold lApp at e2
          split at e2
          · rename_i y
            split at e2
            · cases e2
              exact nrs_append hs hy
            · cases e2
          · cases e2
theorem als_asg4 {f : DE} {a b c d : Nat} (hf : AlE f) : AlS (dAsg f (gTupD 4 (gsCons (kSet a) (gsCons (kSet b) (gsCons (kSet c) (gsCons (kSet d) gsNil)))))) := fun ρ hr => AlR.st (hf ρ hr) fun x hx => by
  cases x with
  | tup ds =>
    unfold gTupD
    match ds with
    | [p, q, r, s] =>
      have h : ∀ y ∈ [p, q, r, s], nr y = true := nrs_iff.mp (of_tup hx)
      show AlR fun S => .nx ((((ρ.set a (some (.val p))).set b (some (.val q))).set c (some (.val r))).set d (some (.val s))) S
      exact AlR.nx ((((hr.val (h p (by simp))).val (h q (by simp))).val (h r (by simp))).val (h s (by simp)))
    | [] => exact AlR.bad
    | [_] => exact AlR.bad
    | [_, _] => exact AlR.bad
    | [_, _, _] => exact AlR.bad
    | _ :: _ :: _ :: _ :: _ :: r =>
      exact AlR.of (m' := fun _ => .bad) (fun S => by show (if (_ :: _ :: _ :: _ :: _ :: r : List D).length = 4 then _ else fun _ _ => Rs.bad : DS) ρ S = _; rw [if_neg (by simp)]) AlR.bad
  | _ => exact AlR.bad
theorem als_forGo {t : Tgt} {body : DS} (hb : AlS body) : ∀ {ds : List D} {ρ : En}, nrs ds = true → nrE ρ → AlR (forGo t body ds ρ)
  | [], ρ, _, hr => AlR.of (m' := fun S => .nx ρ S) (fun S => by unfold forGo; rfl) (AlR.nx hr)
  | d :: ds, ρ, h, hr => by
    simp only [nrs, Bool.and_eq_true] at h
    cases e : t.kv d with
    | none => exact AlR.of (m' := fun _ => .bad) (fun S => by unfold forGo; rw [e]) AlR.bad
    | some kvs =>
      have hr' : nrE (setE ρ kvs) := nrE_setE hr (kv_nr h.1 e)
      have un : ∀ T, forGo t body (d :: ds) ρ T = (match body (setE ρ kvs) T with
      | .nx ρ' S' => forGo t body ds ρ' S'
      | .ct ρ' S' => forGo t body ds ρ' S'
      | .bk ρ' S' => .nx ρ' S'
      | r => r) := fun T => by
        conv => lhs; unfold forGo
        rw [e]
        try rfl
      intro S r S' e0
      rw [un] at e0
      cases e1 : body (setE ρ kvs) S with
      | nx ρ1 S1 =>
        obtain ⟨rfl, p1, f1⟩ := hb _ hr' S (.nx ρ1) S1 e1
        rw [e1] at e0
        obtain ⟨rfl, p2, f2⟩ := als_forGo (t := t) hb h.2 p1 _ r S' e0
        refine ⟨rfl, p2, fun T => ?_⟩
        have := f1 T
        rw [un, this]
        exact f2 T
      | ct ρ1 S1 =>
        obtain ⟨rfl, p1, f1⟩ := hb _ hr' S (.ct ρ1) S1 e1
        rw [e1] at e0
        obtain ⟨rfl, p2, f2⟩ := als_forGo (t := t) hb h.2 p1 _ r S' e0
        refine ⟨rfl, p2, fun T => ?_⟩
        have := f1 T
        rw [un, this]
        exact f2 T
      | bk ρ1 S1 =>
        obtain ⟨rfl, p1, f1⟩ := hb _ hr' S (.bk ρ1) S1 e1
        rw [e1] at e0
        cases r <;> cases e0
        refine ⟨rfl, p1, fun T => ?_⟩
        have := f1 T
        rw [un, this]
        rfl
      | rt d1 S1 =>
        obtain ⟨rfl, p1, f1⟩ := hb _ hr' S (.rt d1) S1 e1
        rw [e1] at e0
        cases r <;> cases e0
        refine ⟨rfl, p1, fun T => ?_⟩
        have := f1 T
        rw [un, this]
        rfl
      | ex n x ρ1 S1 => rw [e1] at e0; cases r <;> cases e0
      | bad => rw [e1] at e0; cases r <;> cases e0
theorem als_for {it : DL} {t : Tgt} {body : DS} (hi : AlA it) (hb : AlS body) : AlS (dFor it t body) := fun ρ hr => AlR.st (hi ρ hr) fun ds hd => als_forGo hb hd hr
theorem als_wh {c : DT} {body : DS} (hc : AlT c) (hb : AlS body) : ∀ n, AlS (whGo c body n)
  | 0 => fun ρ hr => AlR.of (m' := fun _ => .bad) (fun S => by unfold whGo; rfl) AlR.bad
  | n + 1 => fun ρ hr => by
    have ih := als_wh hc hb n
    refine AlR.of (m' := fun S => (c ρ S).st ρ fun b S1 => if b = true then (match body ρ S1 with
      | .nx ρ' S' => whGo c body n ρ' S'
      | .ct ρ' S' => whGo c body n ρ' S'
      | .bk ρ' S' => .nx ρ' S'
      | r => r) else .nx ρ S1) (fun S => by conv => { lhs; unfold whGo }; try rfl) ?_
    refine AlR.st (hc ρ hr) fun b _ => AlR.ite ?_ (AlR.nx hr)
    intro S r S' e0
    have e0 : (match body ρ S with
      | .nx ρ' S' => whGo c body n ρ' S'
      | .ct ρ' S' => whGo c body n ρ' S'
      | .bk ρ' S' => .nx ρ' S'
      | r => r) = r.at S' := e0
    show S' = S ∧ r.good ∧ ∀ T, (match body ρ T with
      | .nx ρ' S' => whGo c body n ρ' S'
      | .ct ρ' S' => whGo c body n ρ' S'
      | .bk ρ' S' => .nx ρ' S'
      | r => r) = r.at T
    cases e1 : body ρ S with
    | nx ρ1 S1 =>
      obtain ⟨rfl, p1, f1⟩ := hb _ hr S (.nx ρ1) S1 e1
      rw [e1] at e0
      obtain ⟨rfl, p2, f2⟩ := ih _ p1 _ r S' e0
      refine ⟨rfl, p2, fun T => ?_⟩
      have := f1 T
      rw [this]
      exact f2 T
    | ct ρ1 S1 =>
      obtain ⟨rfl, p1, f1⟩ := hb _ hr S (.ct ρ1) S1 e1
      rw [e1] at e0
      obtain ⟨rfl, p2, f2⟩ := ih _ p1 _ r S' e0
      refine ⟨rfl, p2, fun T => ?_⟩
      have := f1 T
      rw [this]
      exact f2 T
    | bk ρ1 S1 =>
      obtain ⟨rfl, p1, f1⟩ := hb _ hr S (.bk ρ1) S1 e1
      rw [e1] at e0
      cases r <;> cases e0
      refine ⟨rfl, p1, fun T => ?_⟩
      have := f1 T
      rw [this]
      rfl
    | rt d1 S1 =>
      obtain ⟨rfl, p1, f1⟩ := hb _ hr S (.rt d1) S1 e1
      rw [e1] at e0
      cases r <;> cases e0
      refine ⟨rfl, p1, fun T => ?_⟩
      have := f1 T
      rw [this]
      rfl
    | ex n x ρ1 S1 => rw [e1] at e0; cases r <;> cases e0
    | bad => rw [e1] at e0; cases r <;> cases e0
/-! ### defs -/
theorem nrE_frame {n : Nat} {ds : List D} (h : nrs ds = true) : nrE (frame n ds) := fun s hs => by
  unfold frame at hs
  rcases List.mem_append.mp hs with z | z
  · obtain ⟨d, hd, rfl⟩ := List.mem_map.mp z
    exact nrs_iff.mp h d hd
  · rw [List.eq_of_mem_replicate z]; rfl
theorem al_fn {np nN : Nat} {body : DS} (hb : AlS body) : AlD (dFn np nN body) := by
  intro ds hd
  unfold dFn
  refine Al.ite ?_ Al.bad
  intro S x S' e
  have e : (body (frame nN ds) S).out = .ok x S' := e
  show S' = S ∧ N1 x ∧ ∀ T, (body (frame nN ds) T).out = .ok x T
  have hr := nrE_frame (n := nN) hd
  cases e1 : body (frame nN ds) S with
  | rt d S1 =>
    rw [e1] at e
    cases e
    obtain ⟨a, b, c⟩ := hb _ hr S (.rt _) _ e1
    refine ⟨a, b, fun T => ?_⟩
    rw [c T]
    rfl
  | nx ρ S1 =>
    rw [e1] at e
    cases e
    obtain ⟨a, b, c⟩ := hb _ hr S (.nx _) _ e1
    refine ⟨a, rfl, fun T => ?_⟩
    rw [c T]
    rfl
  | bk ρ S1 => rw [e1] at e; cases e
  | ct ρ S1 => rw [e1] at e; cases e
  | ex n x ρ S1 => rw [e1] at e; cases e
  | bad => rw [e1] at e; cases e
end DL

namespace DL
open PySem PySem.Spec PyProof.Rows L2
/-! ### the chain of reason_against: alike at any two stores -/
local macro_rules | `(tactic| trivial) => `(tactic| first
  | with_reducible apply al_fn | with_reducible apply als_seq | with_reducible apply als_set | with_reducible apply als_setO | with_reducible apply als_parO | with_reducible apply als_par | with_reducible apply als_ret | with_reducible apply als_ifs | with_reducible apply als_app | with_reducible apply als_asg4 | with_reducible apply als_for | with_reducible apply als_wh | exact als_next | with_reducible apply als_drop)
local macro_rules | `(tactic| trivial) => `(tactic| first
  | exact al_var _ | exact al_pv _ | exact al_nil | exact al_yes | exact al_noPart | exact al_c (by decide +kernel)
  | with_reducible apply al_op | with_reducible apply al_cons | with_reducible apply al_cb | with_reducible apply al_call | with_reducible apply al_tup | with_reducible apply al_lst | with_reducible apply al_lstL | with_reducible apply al_fzL | with_reducible apply al_tst | with_reducible apply al_isN | with_reducible apply al_neg | with_reducible apply al_not | with_reducible apply al_and | with_reducible apply al_or
  | with_reducible apply al_andT | with_reducible apply al_orT | with_reducible apply al_notT | with_reducible apply al_if | with_reducible apply al_part | with_reducible apply al_sl | with_reducible apply al_star | with_reducible apply al_itr | with_reducible apply al_rng1 | with_reducible apply al_rng2 | with_reducible apply al_enum | with_reducible apply al_zip | with_reducible apply al_comp
  | exact al_sub | exact al_mul | exact al_div | exact al_mod | exact al_lt | exact al_le | exact al_gt | exact al_ge | exact al_ix | exact al_eq _ | exact al_add
  | exact al_len | exact al_oTup | exact al_bls _ | exact al_max2 | exact al_min2 | exact al_gcd | assumption)
theorem ald_things_of : AlD d_things_of := by unfold d_things_of; repeat' trivial
theorem ald_square_of : AlD d_square_of := by unfold d_square_of; repeat' trivial
theorem ald_all_things : AlD d_all_things := by
  have h1 := ald_things_of
  unfold d_all_things; repeat' trivial
theorem ald_lowest : AlD d_lowest := by unfold d_lowest; repeat' trivial
theorem ald_is_less : AlD d_is_less := by unfold d_is_less; repeat' trivial
theorem ald_divided : AlD d_divided := by
  have h1 := ald_lowest
  unfold d_divided; repeat' trivial
theorem ald_less_by : AlD d_less_by := by
  have h1 := ald_lowest
  unfold d_less_by; repeat' trivial
theorem ald_times : AlD d_times := by
  have h1 := ald_lowest
  unfold d_times; repeat' trivial
theorem ald_less_part : AlD d_less_part := by
  have h1 := ald_less_by
  have h2 := ald_times
  unfold d_less_part; repeat' trivial
theorem ald_doubled : AlD d_doubled := by
  have h1 := ald_all_things
  have h2 := ald_square_of
  unfold d_doubled; repeat' trivial
theorem ald_products_of : AlD d_products_of := by
  have h1 := ald_lowest
  have h2 := ald_doubled
  unfold d_products_of; repeat' trivial
theorem ald_first_own : AlD d_first_own := by unfold d_first_own; repeat' trivial
theorem ald_brought : AlD d_brought := by
  have h1 := ald_products_of
  have h2 := ald_first_own
  have h3 := ald_is_less
  have h4 := ald_divided
  have h5 := ald_less_part
  unfold d_brought; repeat' trivial
theorem ald_first_left : AlD d_first_left := by unfold d_first_left; repeat' trivial
theorem ald_is_placed_by : AlD d_is_placed_by := by
  have h1 := ald_brought
  have h2 := ald_is_less
  have h3 := ald_first_left
  unfold d_is_placed_by; repeat' trivial
theorem ald_with_square : AlD d_with_square := by unfold d_with_square; repeat' trivial
theorem ald_table_behind : AlD d_table_behind := by
  have h1 := ald_with_square
  unfold d_table_behind; repeat' trivial
theorem ald_reason_by_itself : AlD d_reason_by_itself := by
  have h1 := ald_things_of
  have h2 := ald_square_of
  unfold d_reason_by_itself; repeat' trivial
theorem ald_reason_against : AlD d_reason_against := by
  have h1 := ald_reason_by_itself
  have h2 := ald_table_behind
  have h3 := ald_is_placed_by
  unfold d_reason_against; repeat' trivial
/-- a deed's reason is the same whatever the store -/
theorem against_all {rows : List D} {e : Deed} {S T : Sto} {r : D} (h : nrs rows = true) (hr : d_reason_against [.tup rows, e.d] S = .ok r S) : d_reason_against [.tup rows, e.d] T = .ok r T := by
  have hn : nrs [D.tup rows, e.d] = true := by
    have h1 : ∀ qs : List Int, nrs (qs.map .int) = true := fun qs => nrs_iff.mpr fun x hx => by
      obtain ⟨c, _, rfl⟩ := List.mem_map.mp hx
      rfl
    cases e with
    | take => simp [nrs, nr, Deed.d, h]
    | put qs => simp [nrs, nr, Deed.d, h, h1]
    | set i j q => simp [nrs, nr, Deed.d, h]
  exact (ald_reason_against _ hn S r S hr).2.2 T
theorem tabB.nrs {B : Int} {m : Nat} {rows : List D} (h : tabB B m rows) : DL.nrs rows = true := nrs_iff.mpr fun x hx => by
  obtain ⟨i, hi, e⟩ := List.mem_iff_getElem.mp hx
  obtain ⟨es, rfl, _, _⟩ := h.row i x (by rw [List.getElem?_eq_getElem hi, e])
  have h1 : DL.nrs (es.map .int) = true := nrs_iff.mpr fun x hx => by
    obtain ⟨c, _, rfl⟩ := List.mem_map.mp hx
    rfl
  simp [nr, h1]
end DL

namespace DL
open PySem PySem.Spec PyProof.Rows L2
theorem dTst_ok {f : DE} {ρ : En} {S S' : Sto} {b : Bool} (h : f ρ S = .ok (.bl b) S') : dTst f ρ S = .ok b S' := by unfold dTst; rw [h]; rfl
theorem dOrT_f {f g : DT} {ρ : En} {S S' : Sto} (h : f ρ S = .ok false S') : dOrT f g ρ S = g ρ S' := by unfold dOrT; rw [h]; rfl
theorem dOrT_t {f g : DT} {ρ : En} {S S' : Sto} (h : f ρ S = .ok true S') : dOrT f g ρ S = .ok true S' := by unfold dOrT; rw [h]; rfl
theorem dNotT_ok {f : DT} {ρ : En} {S S' : Sto} {b : Bool} (h : f ρ S = .ok b S') : dNotT f ρ S = .ok (!b) S' := by unfold dNotT; rw [h]; rfl
theorem dDrop_ok {f : DE} {ρ : En} {S S' : Sto} {d : D} (h : f ρ S = .ok d S') : dDrop f ρ S = .nx ρ S' := by unfold dDrop; rw [h]; rfl
theorem dCB_ok {op : List D → Sto → Out D} {g : DA} {ρ : En} {S S' : Sto} {xs : List D} (h : g ρ S = .ok xs S') : dCB op g ρ S = op xs S' := by unfold dCB; rw [h]; rfl
theorem dIfN {c : DT} {f : DS} {ρ : En} {S S1 : Sto} (h : c ρ S = .ok false S1) : dIfS c f dNext ρ S = .nx ρ S1 := (dIfS_ok h).trans (if_neg (by decide))
theorem dLst_ok {g : DA} {ρ : En} {S S' : Sto} {xs : List D} (h : g ρ S = .ok xs S') (hz : xs.length ≤ 1000) : dLst g ρ S = .ok (.lst xs) S' := by
  unfold dLst
  rw [h, Out.bind_ok, if_pos (lim_of hz)]
abbrev TY6 : List String := ["NoneType", "bool", "int", "str", "tuple", "list"]
section
variable {S : Sto} {B : Int} {m : Nat} {w rows pa pb : List D} {es : List Deed} {a b : Option Sl}
theorem oEq_dat {neg : Bool} {x y : D} (hx : isDat DEP x = true) (hy : isDat DEP y = true) (nx : drS S x = x) (ny : drS S y = y) : oEq neg x y S = .ok (.bl (if neg then !D.eqv x y else D.eqv x y)) S := by
  unfold oEq
  rw [nx, ny, hx, hy]
  rfl
theorem sok_app {x y : Str} (h : PyData.strOk x = true) (h2 : PyData.strOk y = true) : PyData.strOk (x ++ y) = true := by
  show (x.cps ++ y.cps).all (· < 0x110000) = true
  rw [Array.all_append]
  have h : x.cps.all (· < 0x110000) = true := h
  have h2 : y.cps.all (· < 0x110000) = true := h2
  rw [h, h2]
  rfl
theorem sok_join {s : Str} (hs : PyData.strOk s = true) : ∀ {ts : List Str}, (∀ t ∈ ts, PyData.strOk t = true) → PyData.strOk (Str.join s ts) = true
  | [], _ => by show PyData.strOk Str.empty = true; decide +kernel
  | [x], h => h x (List.mem_singleton_self x)
  | x :: y :: r, h => sok_app (sok_app (h x List.mem_cons_self) hs) (sok_join hs fun t ht => h t (List.mem_cons_of_mem _ ht))
theorem sok_from : ∀ {ts : List Str} {k : Nat} {acc : Str}, (∀ t ∈ ts, PyData.strOk t = true) → PyData.strOk acc = true → PyData.strOk (textFrom k acc ts) = true
  | [], _, _, _, h => h
  | t :: ts, k, acc, h, ha => sok_from (ts := ts) (k := k + 1) (fun u hu => h u (List.mem_cons_of_mem _ hu)) (sok_app (sok_app ha (by split <;> decide +kernel)) (h t List.mem_cons_self))
theorem shownAll_mem : ∀ {ds : List D} {t : Str}, t ∈ PyData.shownAll (pys ds) → ∃ d ∈ ds, t = PyData.shown (py d)
  | [], t, h => by simp [pys, PyData.shownAll] at h
  | d :: ds, t, h => by
    simp only [pys, PyData.shownAll] at h
    rcases List.mem_cons.mp h with e | e
    · exact ⟨d, List.mem_cons_self, e⟩
    · obtain ⟨x, hx, q⟩ := shownAll_mem e
      exact ⟨x, List.mem_cons_of_mem _ hx, q⟩
theorem sok_tup {ds : List D} (h : ∀ d ∈ ds, PyData.strOk (PyData.shown (py d)) = true) : PyData.strOk (PyData.shown (py (.tup ds))) = true := by
  simp only [py, PyData.shown, tupleText]
  refine sok_app (sok_app (by decide +kernel) (sok_join (by decide +kernel) fun t ht => ?_)) (by split <;> decide +kernel)
  obtain ⟨d, hd, rfl⟩ := shownAll_mem ht
  exact h d hd
theorem sok_lst {ds : List D} (h : ∀ d ∈ ds, PyData.strOk (PyData.shown (py d)) = true) : PyData.strOk (PyData.shown (py (.lst ds))) = true := by
  simp only [py, PyData.shown, listText]
  refine sok_app (sok_from (fun t ht => ?_) (by decide +kernel)) (by decide +kernel)
  obtain ⟨d, hd, rfl⟩ := shownAll_mem ht
  exact h d hd
theorem sok_fin : ∀ v : Fin 1000, PyData.strOk (PyData.shown (.int (v.val : Int))) = true := by decide +kernel
theorem sok_int {v : Int} (h : 0 ≤ v ∧ v ≤ 999) : PyData.strOk (PyData.shown (py (.int v))) = true := by
  obtain ⟨k, rfl⟩ : ∃ k : Nat, v = k := ⟨v.toNat, by omega⟩
  exact sok_fin ⟨k, by omega⟩
theorem sok_tab (h : tabB B m rows) (hB : B ≤ 999) : PyData.strOk (PyData.shown (py (.tup rows))) = true := sok_tup fun d hd => by
  obtain ⟨i, hi, e⟩ := List.mem_iff_getElem.mp hd
  obtain ⟨es, rfl, e2, e3⟩ := h.row i d (by rw [List.getElem?_eq_getElem hi, e])
  refine sok_tup fun x hx => ?_
  obtain ⟨v, hv, rfl⟩ := List.mem_map.mp hx
  have := e3 v hv
  exact sok_int ⟨this.1, by omega⟩
theorem oEq_same {x : Str} (hx : PyData.strOk x = true) : oEq true (.str x) (.str x) S = .ok (.bl false) S := oEq_str hx hx true (by simp)
end
theorem tab0 {B : Int} : tabB B 0 [] := ⟨rfl, fun i r h => by simp at h⟩
theorem getElem_app {S T : Sto} (k : Nat) : (S ++ T)[S.length + k]? = T[k]? := by rw [List.getElem?_append_right (by omega)]; congr 1; omega
theorem set_app {S T : Sto} (k : Nat) (o : O) : (S ++ T).set (S.length + k) o = S ++ T.set k o := by rw [List.set_append_right _ _ (by omega)]; congr 2; omega
theorem compGo_bl {t : Tgt} {te : DE} {ρ : En} : ∀ {ds : List D} {S : Sto}, (∀ d ∈ ds, ∀ S, ∃ kvs S', t.kv d = some kvs ∧ te (setE ρ kvs) S = .ok (.bl true) S') →
    ∃ S', compGo t dYes te ρ ds S = .ok (ds.map fun _ => .bl true) S'
  | [], S, _ => ⟨S, by simp [compGo]⟩
  | d :: ds, S, st => by
    obtain ⟨kvs, S1, h1, h2⟩ := st d List.mem_cons_self S
    obtain ⟨S2, q1⟩ := compGo_bl (ds := ds) (S := S1) fun e he => st e (List.mem_cons_of_mem _ he)
    refine ⟨S2, ?_⟩
    rw [compGo_cons h1]
    simp [dYes, h2, q1]
theorem bls_true : ∀ ds : List D, blsOf (ds.map fun _ => D.bl true) = some (ds.map fun _ => true)
  | [] => rfl
  | d :: ds => by show (blsOf (ds.map fun _ => D.bl true)).map _ = _; rw [bls_true ds]; rfl
theorem all_true (ds : List D) : (ds.map fun _ => true).all id = true := by
  simp
/-- a law that asks a round of each of up to three numbers -/
theorem rounds_ok {right pool : List D → Sto → Out D} {ns : List Int} (hn : ns.length ≤ 1000) (h : ∀ (t : Int) (S : Sto), 0 ≤ t → t ≤ 100 → ∃ S' x S2, pool [.lst (ns.map .int), .int t] S = .ok x S' ∧ right [x] S' = .ok (.bl true) S2) {S : Sto} :
    ∃ S', dFn 1 2 (dRet (dCB (oBls fun bs => bs.all id) (dCons (dFzL (dComp (dRng1 (dCB oMax2 (dCons (dC (.int 2)) (dCons (dCB oMin2 (dCons (dCB oLen (dCons (dPv 0) dNil)) (dCons (dC (.int 3)) dNil))) dNil)))) (.name 1) dYes (dCall right (dCons (dCall pool (dCons (dVar 0) (dCons (dVar 1) dNil))) dNil)) [1])) dNil))) [.lst (ns.map .int)] S = .ok (.bl true) S' := by
  let ρ : En := [some (.val (.lst (ns.map .int))), none]
  obtain ⟨k, k0, k1, hk⟩ : ∃ k : Int, 0 ≤ k ∧ k ≤ 100 ∧ dCB oMax2 (dCons (dC (.int 2)) (dCons (dCB oMin2 (dCons (dCB oLen (dCons (dPv 0) dNil)) (dCons (dC (.int 3)) dNil))) dNil)) ρ S = .ok (.int k) S := by
    refine ⟨if (if (3 : Int) < ns.length then (3 : Int) else ns.length) > 2 then (if (3 : Int) < ns.length then (3 : Int) else ns.length) else 2, ?_, ?_, ?_⟩
    · split <;> (try split) <;> omega
    · split <;> (try split) <;> omega
    · have e1 : dCB oLen (dCons (dPv 0) dNil) ρ S = .ok (.int ns.length) S := by
        show Out.ok (D.int (ns.map D.int).length) S = _
        rw [List.length_map]
      have e2 : dCB oMin2 (dCons (dCB oLen (dCons (dPv 0) dNil)) (dCons (dC (.int 3)) dNil)) ρ S = .ok (.int (if (3 : Int) < ns.length then (3 : Int) else ns.length)) S := (dCB_ok (op := oMin2) (xs := [.int ns.length, .int 3]) (dCons_ok e1 rfl)).trans rfl
      exact (dCB_ok (op := oMax2) (xs := [.int 2, .int (if (3 : Int) < ns.length then (3 : Int) else ns.length)]) (dCons_ok (S1 := S) rfl (dCons_ok e2 rfl))).trans rfl
  obtain ⟨S', c1⟩ := compGo_bl (t := .name 1) (te := dCall right (dCons (dCall pool (dCons (dVar 0) (dCons (dVar 1) dNil))) dNil)) (ρ := wipeE ρ [1]) (ds := rngD 0 k.toNat) (S := S) (fun d hd S => by
    obtain ⟨i, hi, rfl⟩ := rngD_mem hd
    obtain ⟨S1, x, S2, p1, p2⟩ := h (0 + i) S (by omega) (by omega)
    refine ⟨[(1, .int (0 + i))], S2, rfl, ?_⟩
    have q : dCall pool (dCons (dVar 0) (dCons (dVar 1) dNil)) (setE (wipeE ρ [1]) [(1, .int (0 + (i : Int)))]) S = .ok x S1 := (dCall_ok (xs := [.lst (ns.map .int), .int (0 + i)]) rfl).trans p1
    exact (dCall_ok (dCons_ok q rfl)).trans p2)
  refine ⟨S', ?_⟩
  have c2 : dComp (dRng1 (dCB oMax2 (dCons (dC (.int 2)) (dCons (dCB oMin2 (dCons (dCB oLen (dCons (dPv 0) dNil)) (dCons (dC (.int 3)) dNil))) dNil)))) (.name 1) dYes (dCall right (dCons (dCall pool (dCons (dVar 0) (dCons (dVar 1) dNil))) dNil)) [1] ρ S = .ok ((rngD 0 k.toNat).map fun _ => .bl true) S' := by
    rw [dComp_eq (dRng1_eq hk (by omega)) (by rw [rngD_len]; omega)]
    exact c1
  have c3 : dCB (oBls fun bs => bs.all id) (dCons (dFzL (dComp (dRng1 (dCB oMax2 (dCons (dC (.int 2)) (dCons (dCB oMin2 (dCons (dCB oLen (dCons (dPv 0) dNil)) (dCons (dC (.int 3)) dNil))) dNil)))) (.name 1) dYes (dCall right (dCons (dCall pool (dCons (dVar 0) (dCons (dVar 1) dNil))) dNil)) [1])) dNil) (fzE ρ) S = .ok (.bl true) S' := by
    refine (dCB_ok (dCons_ok (dFzL_ok c2) rfl)).trans ?_
    simp only [oBls, lstS, bls_true, all_true]
  rw [dFn_eq (np := 1) rfl, show frame 2 [D.lst (ns.map .int)] = ρ from rfl, dRet_ok c3]
  rfl

/-! ### runs of deeds -/
/-- the table behind some deeds -/
def tabOf (es : List Deed) : List D := es.foldl aft []
theorem tabOf_snoc {es : List Deed} {e : Deed} : tabOf (es ++ [e]) = aft (tabOf es) e := by unfold tabOf; rw [List.foldl_append]; rfl
/-- a deed that can be done -/
def stepOk (rows : List D) (e : Deed) : Prop := ∃ m, tabB 999 m rows ∧ m ≤ 5 ∧ e.ok ∧ fits m e ∧ d_reason_against [.tup rows, e.d] [] = .ok .non []
def runOk (es : List Deed) : Prop := ∀ (j : Nat) e, es[j]? = some e → stepOk (tabOf (es.take j)) e
theorem runOk_nil : runOk [] := fun j e h => by simp at h
theorem runOk.snoc {es : List Deed} {e : Deed} (h : runOk es) (k : stepOk (tabOf es) e) : runOk (es ++ [e]) := fun j x hx => by
  by_cases hj : j < es.length
  · rw [List.getElem?_append_left hj] at hx
    rw [List.take_append_of_le_length (by omega)]
    exact h j x hx
  · have hj' : j < (es ++ [e]).length := (List.getElem?_eq_some_iff.mp hx).1
    simp at hj'
    have : j = es.length := by omega
    subst this
    rw [List.getElem?_append_right (by omega)] at hx
    simp at hx
    subst hx
    rw [List.take_append_of_le_length (by omega), List.take_length]
    exact k
theorem runOk.init {es : List Deed} {e : Deed} (h : runOk (es ++ [e])) : runOk es := fun j x hx => by
  have hj : j < es.length := (List.getElem?_eq_some_iff.mp hx).1
  have := h j x (by rw [List.getElem?_append_left hj]; exact hx)
  rw [List.take_append_of_le_length (by omega)] at this
  exact this
theorem tabB.le {B C : Int} {m : Nat} {rows : List D} (h : tabB B m rows) (hB : B ≤ C) : tabB C m rows := ⟨h.len, fun i r q => by
  obtain ⟨es, a1, a2, a3⟩ := h.row i r q
  exact ⟨es, a1, a2, fun x hx => ⟨(a3 x hx).1, by have := (a3 x hx).2; omega⟩⟩⟩
/-- a deed that was not barred -/
theorem stepOk.of {B : Int} {m : Nat} {rows : List D} {e : Deed} {S : Sto} (h : tabB B m rows) (hB : B ≤ 999) (hm : m ≤ 5) (he : e.ok) (hf : fits m e) (r : d_reason_against [.tup rows, e.d] S = .ok .non S) : stepOk rows e := ⟨m, h.le hB, hm, he, hf, against_all h.nrs r⟩
/-- a tray to which the deeds are done that were done to another one -/
theorem replay {i a : Nat} {t p : Nat} (hne : p ≠ t) : ∀ {fs es : List Deed} {ρ : En} {T : Sto} {past : List D}, runOk (es ++ fs) → (es ++ fs).length ≤ 100 → past.length ≤ 100 + es.length → ρ[a]? = some (some (.val (.ref t))) → a ≠ i → i < ρ.length →
    T[t]? = some (trayO (tabOf es) (es.map Deed.d) p) → T[p]? = some (.lst past) →
    ∃ x past', forGo (.name i) (dDrop (dMeth "Tray" "do" d_Tray_do (dVar a) (dCons (dVar i) dNil))) (fs.map Deed.d) ρ T = .nx (ρ.set i x) ((T.set p (.lst past')).set t (trayO (tabOf (es ++ fs)) ((es ++ fs).map Deed.d) p))
  | [], es, ρ, T, past, _, _, _, _, _, hi, ht, hp => by
    have e1 : ρ.set i ρ[i] = ρ := List.set_getElem_self hi
    have tl : t < T.length := (List.getElem?_eq_some_iff.mp ht).1
    have pl : p < T.length := (List.getElem?_eq_some_iff.mp hp).1
    have e2 : (T.set p (.lst past)) = T := by
      have := List.set_getElem_self pl
      rwa [show T[p] = .lst past from (List.getElem?_eq_some_iff.mp hp).2] at this
    have e3 : (T.set t (trayO (tabOf es) (es.map Deed.d) p)) = T := by
      have := List.set_getElem_self tl
      rwa [show T[t] = _ from (List.getElem?_eq_some_iff.mp ht).2] at this
    refine ⟨ρ[i], past, ?_⟩
    rw [List.append_nil, e1, e2, e3]
    rfl
  | e :: fs, es, ρ, T, past, hr, hz, hq, ha, hai, hi, ht, hp => by
    obtain ⟨m, h1, h2, h3, h4, h5⟩ := hr es.length e (by rw [List.getElem?_append_right (by omega)]; simp)
    rw [List.take_append_of_le_length (by omega), List.take_length] at h1 h5
    have tl : t < T.length := (List.getElem?_eq_some_iff.mp ht).1
    have pl : p < T.length := (List.getElem?_eq_some_iff.mp hp).1
    have zz : es.length ≤ 100 := by simp at hz; omega
    have g := do_go ht hp hne h1 h2 h3 h4 (against_all (T := T) h1.nrs h5) (by simp; omega) (by omega)
    have dd : es.map Deed.d ++ [e.d] = (es ++ [e]).map Deed.d := by simp
    rw [← tabOf_snoc, dd] at g
    have aa : (es ++ [e]) ++ fs = es ++ e :: fs := by simp
    have ih := replay (i := i) (a := a) hne (fs := fs) (es := es ++ [e]) (ρ := ρ.set i (some (.val e.d))) (T := (T.set p (.lst (past ++ [.tup (tabOf es)]))).set t (trayO (tabOf (es ++ [e])) ((es ++ [e]).map Deed.d) p)) (past := past ++ [.tup (tabOf es)]) (by rw [aa]; exact hr) (by rw [aa]; exact hz) (by simp; omega)
      (by rw [List.getElem?_set_ne hai.symm]; exact ha) hai (by simpa using hi) (List.getElem?_set_self (by simpa using tl)) (by rw [List.getElem?_set_ne hne.symm]; exact List.getElem?_set_self pl)
    obtain ⟨x, past', ih⟩ := ih
    refine ⟨x, past', ?_⟩
    have st : dDrop (dMeth "Tray" "do" d_Tray_do (dVar a) (dCons (dVar i) dNil)) (ρ.set i (some (.val e.d))) T = .nx (ρ.set i (some (.val e.d))) ((T.set p (.lst (past ++ [.tup (tabOf es)]))).set t (trayO (tabOf (es ++ [e])) ((es ++ [e]).map Deed.d) p)) := by
      have va : dVar a (ρ.set i (some (.val e.d))) T = .ok (.ref t) T := by unfold dVar; rw [List.getElem?_set_ne hai.symm, ha]
      have vi : dCons (dVar i) dNil (ρ.set i (some (.val e.d))) T = .ok [e.d] T := by
        refine dCons_ok (S1 := T) ?_ rfl
        unfold dVar; rw [List.getElem?_set_self hi]
      exact dDrop_ok ((meth_ok ht va vi).trans g)
    rw [List.map_cons]
    unfold forGo
    rw [show Tgt.kv (.name i) e.d = some [(i, e.d)] from rfl]
    simp only [show setE ρ [(i, e.d)] = ρ.set i (some (.val e.d)) from rfl, st]
    rw [ih, aa, List.set_set]
    congr 1
    have c1 : ∀ (x y : O), ((((T.set p x).set t y).set p (.lst past')).set t (trayO (tabOf (es ++ e :: fs)) ((es ++ e :: fs).map Deed.d) p)) = (T.set p (.lst past')).set t (trayO (tabOf (es ++ e :: fs)) ((es ++ e :: fs).map Deed.d) p) := fun x y => by
      rw [List.set_comm _ _ hne.symm, List.set_set, List.set_set]
    exact c1 _ _
end DL

namespace DL
open PySem PySem.Spec PyProof.Rows L2
/-! ### what a text of data asks -/
structure Fx (n k : Nat) (d : D) : Prop where
  sh : (py d).showable = true
  le : (PyData.shown (py d)).length ≤ n
  dt : isDat k d = true
  ok : PyData.strOk (PyData.shown (py d)) = true
theorem Fx.mono {n n' k : Nat} {d : D} (h : Fx n k d) (hn : n ≤ n') : Fx n' k d := ⟨h.sh, Nat.le_trans h.le hn, h.dt, h.ok⟩
theorem Fx.int {k : Nat} {v : Int} (h : 0 ≤ v ∧ v ≤ 999) : Fx 10 k (.int v) := ⟨able_int h, shown_int h, isDat_int _ _, sok_int h⟩
theorem Fx.tup {c q k : Nat} {ds : List D} (h : ∀ d ∈ ds, Fx c k d) (hq : ds.length ≤ q) : Fx (5 + q * (c + 2)) (k + 1) (.tup ds) :=
  ⟨showable_tup fun d hd => (h d hd).sh, Nat.le_trans (tup_len fun d hd => (h d hd).le) (Nat.add_le_add_left (Nat.mul_le_mul_right _ hq) 5), by show ds.all (isDat k) = true; exact List.all_eq_true.mpr fun d hd => (h d hd).dt, sok_tup fun d hd => (h d hd).ok⟩
theorem Fx.lst {c q k : Nat} {ds : List D} (h : ∀ d ∈ ds, Fx c k d) (hq : ds.length ≤ q) : Fx (5 + q * (c + 2)) (k + 1) (.lst ds) :=
  ⟨showable_lst fun d hd => (h d hd).sh, Nat.le_trans (lst_len fun d hd => (h d hd).le) (Nat.add_le_add_left (Nat.mul_le_mul_right _ hq) 5), by show ds.all (isDat k) = true; exact List.all_eq_true.mpr fun d hd => (h d hd).dt, sok_lst fun d hd => (h d hd).ok⟩
theorem fx_take {k : Nat} : Fx 10 k (.str "take") := ⟨rfl, by decide +kernel, isDat_str _ _ (by decide +kernel), by decide +kernel⟩
theorem fx_put {k : Nat} : Fx 10 k (.str "put") := ⟨rfl, by decide +kernel, isDat_str _ _ (by decide +kernel), by decide +kernel⟩
theorem fx_set {k : Nat} : Fx 10 k (.str "set") := ⟨rfl, by decide +kernel, isDat_str _ _ (by decide +kernel), by decide +kernel⟩
theorem fx_ints {k : Nat} {qs : List Int} (h : ∀ q ∈ qs, 0 ≤ q ∧ q ≤ 999) (hz : qs.length ≤ 100) : Fx 1205 (k + 1) (.tup (qs.map .int)) :=
  (Fx.tup (c := 10) (q := 100) (fun d hd => by obtain ⟨v, hv, rfl⟩ := List.mem_map.mp hd; exact Fx.int (h v hv)) (by rw [List.length_map]; exact hz)).mono (by decide)
theorem fx_deed {k : Nat} {e : Deed} (he : e.ok) : Fx 5000 (k + 2) e.d := by
  cases e with
  | take => exact (Fx.tup (c := 10) (q := 1) (fun d hd => by rw [List.mem_singleton.mp hd]; exact fx_take) (by simp)).mono (by decide)
  | put qs => exact (Fx.tup (c := 1205) (q := 2) (k := k + 1) (fun d hd => by
      simp only [List.mem_cons, List.mem_nil_iff, or_false] at hd
      rcases hd with rfl | rfl
      · exact fx_put.mono (by decide)
      · exact fx_ints he.2 he.1) (by simp)).mono (by decide)
  | set i j q =>
    obtain ⟨h1, h2, h3, h4, h5⟩ := he
    exact (Fx.tup (c := 10) (q := 4) (k := k + 1) (fun d hd => by
      simp only [List.mem_cons, List.mem_nil_iff, or_false] at hd
      rcases hd with rfl | rfl | rfl | rfl
      · exact fx_set
      · exact Fx.int ⟨h1, by omega⟩
      · exact Fx.int ⟨by omega, by omega⟩
      · exact Fx.int ⟨h4, h5⟩) (by simp)).mono (by decide)
theorem fx_deeds {k : Nat} {es : List Deed} (h : ∀ e ∈ es, e.ok) (hz : es.length ≤ 60) : Fx 310000 (k + 3) (.tup (es.map Deed.d)) :=
  (Fx.tup (c := 5000) (q := 60) (fun d hd => by obtain ⟨e, he, rfl⟩ := List.mem_map.mp hd; exact fx_deed (h e he)) (by rw [List.length_map]; exact hz)).mono (by decide)
theorem fx_deedl {k : Nat} {es : List Deed} (h : ∀ e ∈ es, e.ok) (hz : es.length ≤ 60) : Fx 310000 (k + 3) (.lst (es.map Deed.d)) :=
  (Fx.lst (c := 5000) (q := 60) (fun d hd => by obtain ⟨e, he, rfl⟩ := List.mem_map.mp hd; exact fx_deed (h e he)) (by rw [List.length_map]; exact hz)).mono (by decide)
theorem fx_tab {k m : Nat} {B : Int} {rows : List D} (h : tabB B m rows) (hB : B ≤ 999) (hm : m ≤ 5) : Fx 500 (k + 2) (.tup rows) :=
  (Fx.tup (c := 77) (q := 5) (k := k + 1) (fun d hd => by
    obtain ⟨i, hi, e⟩ := List.mem_iff_getElem.mp hd
    obtain ⟨es, rfl, e2, e3⟩ := h.row i d (by rw [List.getElem?_eq_getElem hi, e])
    have hl := h.len
    exact (Fx.tup (c := 10) (q := 6) (fun x hx => by
      obtain ⟨v, hv, rfl⟩ := List.mem_map.mp hx
      have := e3 v hv
      exact Fx.int ⟨this.1, by omega⟩) (by rw [List.length_map]; omega)).mono (by decide)) (by have := h.len; omega)).mono (by decide)
/-- repr -/
theorem repr_fx {d : D} {S : Sto} (h : Fx 1000000 24 d) (hn : drS S d = d) : oRepr [d] S = .ok (.str (PyData.shown (py d))) S := by
  show (if isDat DEP (drS S d) && ((py (drS S d)).showable && decide ((PyData.shown (py (drS S d))).length ≤ LIM)) then Out.ok (D.str (PyData.shown (py (drS S d)))) S else Out.bad) = _
  rw [hn, show isDat DEP d = true from h.dt, h.sh, decide_eq_true (show (PyData.shown (py d)).length ≤ LIM from h.le)]
  rfl
theorem runOk.all {es : List Deed} (h : runOk es) : ∀ e ∈ es, e.ok := fun e he => by
  obtain ⟨i, hi, q⟩ := List.mem_iff_getElem.mp he
  obtain ⟨_, _, _, k, _⟩ := h i e (by rw [List.getElem?_eq_getElem hi, q])
  exact k
theorem nonE.eq {x : Str} (h : nonE x) {S : Sto} : oEq false (.str x) (.str "") S = .ok (.bl false) S := oEq_str h.1 (by decide +kernel) false h.2
theorem eq_ee {S : Sto} : oEq false (.str "") (.str "") S = .ok (.bl true) S := oEq_str (by decide +kernel) (by decide +kernel) true (by decide +kernel)
theorem oEq_strs {neg : Bool} {x y : Str} (hx : PyData.strOk x = true) (hy : PyData.strOk y = true) {S : Sto} : oEq neg (.str x) (.str y) S = .ok (.bl (if neg then !(x == y) else x == y)) S := oEq_str hx hy _ rfl
theorem oEq_bls {neg : Bool} {a b : Bool} {S : Sto} : oEq neg (.bl a) (.bl b) S = .ok (.bl (if neg then !(a == b) else a == b)) S := by
  unfold oEq
  rw [show drS S (.bl a) = .bl a from rfl, show drS S (.bl b) = .bl b from rfl, isDat_bl, isDat_bl]
  simp
end DL

namespace DL
open PySem PySem.Spec PyProof.Rows L2
/-! ### a line that is not understood -/
def eStr : DS := dIfS (dNotT (dTst (dCall d_is_string (dCons (dVar 1) dNil)))) (dRaise "InvalidLine" "given" (dVar 1)) dNext
def eWords : DS := dSet 2 (dCall d_words_of (dCons (dVar 1) dNil))
def eNums : DS := dSet 3 (dIf (dTst (dIsN true (dVar 2))) (dCall d_numbers_in (dCons (dSl oSl (dPv 2) (dPart (dC (.int 1))) dNoPart) dNil)) (dC .non))
def eLost : DS := dIfS (dTst (dIsN false (dVar 3))) (dRet (dC (.str "not understood"))) dNext
def eDeed : DS := dSet 4 (dCall d_deed_in (dCons (dVar 2) (dCons (dVar 3) dNil)))
def eDo : DS := dIfS (dTst (dIsN true (dVar 4))) (dRet (dCall d_said_of_deed (dCons (dFld ["Console"] "tray" (dVar 0)) (dCons (dVar 4) dNil)))) dNext
def cTwo : DT := dAndT (dTst (dOp oIn (dOp oIx (dPv 2) (dC (.int 0))) (dC (.tup [.str "square", .str "room", .str "whole"])))) (dTst (dOp (oEq false) (dCB oLen (dCons (dPv 3) dNil)) (dC (.int 2))))
def rTwo : DE := dCall d_said_of_two (dCons (dFld ["Tray"] "table" (dFld ["Console"] "tray" (dVar 0))) (dCons (dOp oIx (dPv 2) (dC (.int 0))) (dCons (dOp oIx (dPv 3) (dC (.int 0))) (dCons (dOp oIx (dPv 3) (dC (.int 1))) dNil))))
def cOne : DT := dTst (dOp (oEq false) (dCB oLen (dCons (dPv 2) dNil)) (dC (.int 1)))
def rOne : DE := dCall d_said_of_word (dCons (dFld ["Console"] "tray" (dVar 0)) (dCons (dOp oIx (dPv 2) (dC (.int 0))) dNil))
theorem say_def : d_Console_say = dFn 2 5 (dSeq eStr (dSeq eWords (dSeq eNums (dSeq eLost (dSeq eDeed (dSeq eDo (dSeq (dIfS cTwo (dRet rTwo) dNext) (dRet (dIf cOne rOne (dC (.str "not understood"))))))))))) := rfl
def frS (c l a b d : Option Sl) : En := [c, l, a, b, d]
def fv (d : D) : Option Sl := some (.val d)
inductive OddOk (l : Str) : Prop
  | a (h1 : ∀ S, d_words_of [.str l] S = .ok .non S)
  | b (ws : List D) (h1 : ∀ S, d_words_of [.str l] S = .ok (.lst ws) S) (h2 : ∀ S, d_numbers_in [.lst (cutD ws (some 1) none)] S = .ok .non S)
  | c (ws ns ds : List D) (k : Int) (h1 : ∀ S, d_words_of [.str l] S = .ok (.lst ws) S) (h2 : ∀ S, d_numbers_in [.lst (cutD ws (some 1) none)] S = .ok (.tup ns) S) (h3 : ∀ S, d_deed_in [.lst ws, .tup ns] S = .ok (.tup ds) S) (h4 : ∀ S, d_check_deed [.tup ds] S = .exc "InvalidDeed" (some ("index", .int k)) S)
  | e (ws ns : List D) (w : Str) (h1 : ∀ S, d_words_of [.str l] S = .ok (.lst ws) S) (h2 : ∀ S, d_numbers_in [.lst (cutD ws (some 1) none)] S = .ok (.tup ns) S) (h3 : ∀ S, d_deed_in [.lst ws, .tup ns] S = .ok .non S) (h4 : ∀ r S, cTwo (frS (fv r) (fv (.str l)) (fv (.lst ws)) (fv (.tup ns)) (fv .non)) S = .ok false S)
      (h5 : ∀ r S, cOne (fzE (frS (fv r) (fv (.str l)) (fv (.lst ws)) (fv (.tup ns)) (fv .non))) S = .ok true S) (h6 : ∀ S, oIx (.lst ws) (.int 0) S = .ok (.str w) S) (h7 : ∀ r S, d_said_of_word [r, .str w] S = .ok (.str "not understood") S)
  | f (ws ns : List D) (h1 : ∀ S, d_words_of [.str l] S = .ok (.lst ws) S) (h2 : ∀ S, d_numbers_in [.lst (cutD ws (some 1) none)] S = .ok (.tup ns) S) (h3 : ∀ S, d_deed_in [.lst ws, .tup ns] S = .ok .non S) (h4 : ∀ r S, cTwo (frS (fv r) (fv (.str l)) (fv (.lst ws)) (fv (.tup ns)) (fv .non)) S = .ok false S)
      (h5 : ∀ r S, cOne (fzE (frS (fv r) (fv (.str l)) (fv (.lst ws)) (fv (.tup ns)) (fv .non))) S = .ok false S)
theorem odd_cons {l : Str} {ls : List Str} (h : OddOk l) (hs : ∀ x ∈ ls, OddOk x) : ∀ x ∈ l :: ls, OddOk x := fun x hx => by
  rcases List.mem_cons.mp hx with rfl | hx
  · exact h
  · exact hs x hx
end DL

namespace DL
open PySem PySem.Spec PyProof.Rows L2
/-! ### the lines, printed by odd85.py -/
def tab85_0 : List Str := ["put 9 16 ", "put 9 16 x", "put 9 16  ", "put 9 16\t", "put 9 16.", "put 9 16-", "put 9 16 01", "take ", "take x", "take  ", "take\t", "take."]
theorem odd85_0 : ∀ l ∈ tab85_0, OddOk l :=
  (odd_cons (.a (fun S => by kernel_rfl)) (odd_cons (.b [.str "put", .str "9", .str "16", .str "x"] (fun S => by kernel_rfl) (fun S => by kernel_rfl)) (odd_cons (.a (fun S => by kernel_rfl)) (odd_cons (.b [.str "put", .str "9", .str "16\t"] (fun S => by kernel_rfl) (fun S => by kernel_rfl)) (odd_cons (.b [.str "put", .str "9", .str "16."] (fun S => by kernel_rfl) (fun S => by kernel_rfl)) (odd_cons (.b [.str "put", .str "9", .str "16-"] (fun S => by kernel_rfl) (fun S => by kernel_rfl)) (odd_cons (.b [.str "put", .str "9", .str "16", .str "01"] (fun S => by kernel_rfl) (fun S => by kernel_rfl)) (odd_cons (.a (fun S => by kernel_rfl)) (odd_cons (.b [.str "take", .str "x"] (fun S => by kernel_rfl) (fun S => by kernel_rfl)) (odd_cons (.a (fun S => by kernel_rfl)) (odd_cons (.e [.str "take\t"] [] "take\t" (fun S => by kernel_rfl) (fun S => by kernel_rfl) (fun S => by kernel_rfl) (fun r S => by kernel_rfl) (fun r S => by kernel_rfl) (fun S => by kernel_rfl) (fun r S => by kernel_rfl)) (odd_cons (.e [.str "take."] [] "take." (fun S => by kernel_rfl) (fun S => by kernel_rfl) (fun S => by kernel_rfl) (fun r S => by kernel_rfl) (fun r S => by kernel_rfl) (fun S => by kernel_rfl) (fun r S => by kernel_rfl)) (fun _ h => by cases h)))))))))))))
def tab85_1 : List Str := ["take-", "take 01", "set 0 1 4 ", "set 0 1 4 x", "set 0 1 4  ", "set 0 1 4\t", "set 0 1 4.", "set 0 1 4-", "set 0 1 4 01", "undo ", "undo x", "undo  "]
theorem odd85_1 : ∀ l ∈ tab85_1, OddOk l :=
  (odd_cons (.e [.str "take-"] [] "take-" (fun S => by kernel_rfl) (fun S => by kernel_rfl) (fun S => by kernel_rfl) (fun r S => by kernel_rfl) (fun r S => by kernel_rfl) (fun S => by kernel_rfl) (fun r S => by kernel_rfl)) (odd_cons (.b [.str "take", .str "01"] (fun S => by kernel_rfl) (fun S => by kernel_rfl)) (odd_cons (.a (fun S => by kernel_rfl)) (odd_cons (.b [.str "set", .str "0", .str "1", .str "4", .str "x"] (fun S => by kernel_rfl) (fun S => by kernel_rfl)) (odd_cons (.a (fun S => by kernel_rfl)) (odd_cons (.b [.str "set", .str "0", .str "1", .str "4\t"] (fun S => by kernel_rfl) (fun S => by kernel_rfl)) (odd_cons (.b [.str "set", .str "0", .str "1", .str "4."] (fun S => by kernel_rfl) (fun S => by kernel_rfl)) (odd_cons (.b [.str "set", .str "0", .str "1", .str "4-"] (fun S => by kernel_rfl) (fun S => by kernel_rfl)) (odd_cons (.b [.str "set", .str "0", .str "1", .str "4", .str "01"] (fun S => by kernel_rfl) (fun S => by kernel_rfl)) (odd_cons (.a (fun S => by kernel_rfl)) (odd_cons (.b [.str "undo", .str "x"] (fun S => by kernel_rfl) (fun S => by kernel_rfl)) (odd_cons (.a (fun S => by kernel_rfl)) (fun _ h => by cases h)))))))))))))
def tab85_2 : List Str := ["undo\t", "undo.", "undo-", "undo 01", "things ", "things x", "things  ", "things\t", "things.", "things-", "things 01", "dimension "]
theorem odd85_2 : ∀ l ∈ tab85_2, OddOk l :=
  (odd_cons (.e [.str "undo\t"] [] "undo\t" (fun S => by kernel_rfl) (fun S => by kernel_rfl) (fun S => by kernel_rfl) (fun r S => by kernel_rfl) (fun r S => by kernel_rfl) (fun S => by kernel_rfl) (fun r S => by kernel_rfl)) (odd_cons (.e [.str "undo."] [] "undo." (fun S => by kernel_rfl) (fun S => by kernel_rfl) (fun S => by kernel_rfl) (fun r S => by kernel_rfl) (fun r S => by kernel_rfl) (fun S => by kernel_rfl) (fun r S => by kernel_rfl)) (odd_cons (.e [.str "undo-"] [] "undo-" (fun S => by kernel_rfl) (fun S => by kernel_rfl) (fun S => by kernel_rfl) (fun r S => by kernel_rfl) (fun r S => by kernel_rfl) (fun S => by kernel_rfl) (fun r S => by kernel_rfl)) (odd_cons (.b [.str "undo", .str "01"] (fun S => by kernel_rfl) (fun S => by kernel_rfl)) (odd_cons (.a (fun S => by kernel_rfl)) (odd_cons (.b [.str "things", .str "x"] (fun S => by kernel_rfl) (fun S => by kernel_rfl)) (odd_cons (.a (fun S => by kernel_rfl)) (odd_cons (.e [.str "things\t"] [] "things\t" (fun S => by kernel_rfl) (fun S => by kernel_rfl) (fun S => by kernel_rfl) (fun r S => by kernel_rfl) (fun r S => by kernel_rfl) (fun S => by kernel_rfl) (fun r S => by kernel_rfl)) (odd_cons (.e [.str "things."] [] "things." (fun S => by kernel_rfl) (fun S => by kernel_rfl) (fun S => by kernel_rfl) (fun r S => by kernel_rfl) (fun r S => by kernel_rfl) (fun S => by kernel_rfl) (fun r S => by kernel_rfl)) (odd_cons (.e [.str "things-"] [] "things-" (fun S => by kernel_rfl) (fun S => by kernel_rfl) (fun S => by kernel_rfl) (fun r S => by kernel_rfl) (fun r S => by kernel_rfl) (fun S => by kernel_rfl) (fun r S => by kernel_rfl)) (odd_cons (.b [.str "things", .str "01"] (fun S => by kernel_rfl) (fun S => by kernel_rfl)) (odd_cons (.a (fun S => by kernel_rfl)) (fun _ h => by cases h)))))))))))))
def tab85_3 : List Str := ["dimension x", "dimension  ", "dimension\t", "dimension.", "dimension-", "dimension 01", "square 0 1 ", "square 0 1 x", "square 0 1  ", "square 0 1\t", "square 0 1.", "square 0 1-"]
theorem odd85_3 : ∀ l ∈ tab85_3, OddOk l :=
  (odd_cons (.b [.str "dimension", .str "x"] (fun S => by kernel_rfl) (fun S => by kernel_rfl)) (odd_cons (.a (fun S => by kernel_rfl)) (odd_cons (.e [.str "dimension\t"] [] "dimension\t" (fun S => by kernel_rfl) (fun S => by kernel_rfl) (fun S => by kernel_rfl) (fun r S => by kernel_rfl) (fun r S => by kernel_rfl) (fun S => by kernel_rfl) (fun r S => by kernel_rfl)) (odd_cons (.e [.str "dimension."] [] "dimension." (fun S => by kernel_rfl) (fun S => by kernel_rfl) (fun S => by kernel_rfl) (fun r S => by kernel_rfl) (fun r S => by kernel_rfl) (fun S => by kernel_rfl) (fun r S => by kernel_rfl)) (odd_cons (.e [.str "dimension-"] [] "dimension-" (fun S => by kernel_rfl) (fun S => by kernel_rfl) (fun S => by kernel_rfl) (fun r S => by kernel_rfl) (fun r S => by kernel_rfl) (fun S => by kernel_rfl) (fun r S => by kernel_rfl)) (odd_cons (.b [.str "dimension", .str "01"] (fun S => by kernel_rfl) (fun S => by kernel_rfl)) (odd_cons (.a (fun S => by kernel_rfl)) (odd_cons (.b [.str "square", .str "0", .str "1", .str "x"] (fun S => by kernel_rfl) (fun S => by kernel_rfl)) (odd_cons (.a (fun S => by kernel_rfl)) (odd_cons (.b [.str "square", .str "0", .str "1\t"] (fun S => by kernel_rfl) (fun S => by kernel_rfl)) (odd_cons (.b [.str "square", .str "0", .str "1."] (fun S => by kernel_rfl) (fun S => by kernel_rfl)) (odd_cons (.b [.str "square", .str "0", .str "1-"] (fun S => by kernel_rfl) (fun S => by kernel_rfl)) (fun _ h => by cases h)))))))))))))
def tab85_4 : List Str := ["square 0 1 01", "ball ", "ball x", "ball  ", "ball\t", "ball.", "ball-", "ball 01", "room 0 1 ", "room 0 1 x", "room 0 1  ", "room 0 1\t"]
theorem odd85_4 : ∀ l ∈ tab85_4, OddOk l :=
  (odd_cons (.b [.str "square", .str "0", .str "1", .str "01"] (fun S => by kernel_rfl) (fun S => by kernel_rfl)) (odd_cons (.a (fun S => by kernel_rfl)) (odd_cons (.b [.str "ball", .str "x"] (fun S => by kernel_rfl) (fun S => by kernel_rfl)) (odd_cons (.a (fun S => by kernel_rfl)) (odd_cons (.e [.str "ball\t"] [] "ball\t" (fun S => by kernel_rfl) (fun S => by kernel_rfl) (fun S => by kernel_rfl) (fun r S => by kernel_rfl) (fun r S => by kernel_rfl) (fun S => by kernel_rfl) (fun r S => by kernel_rfl)) (odd_cons (.e [.str "ball."] [] "ball." (fun S => by kernel_rfl) (fun S => by kernel_rfl) (fun S => by kernel_rfl) (fun r S => by kernel_rfl) (fun r S => by kernel_rfl) (fun S => by kernel_rfl) (fun r S => by kernel_rfl)) (odd_cons (.e [.str "ball-"] [] "ball-" (fun S => by kernel_rfl) (fun S => by kernel_rfl) (fun S => by kernel_rfl) (fun r S => by kernel_rfl) (fun r S => by kernel_rfl) (fun S => by kernel_rfl) (fun r S => by kernel_rfl)) (odd_cons (.b [.str "ball", .str "01"] (fun S => by kernel_rfl) (fun S => by kernel_rfl)) (odd_cons (.a (fun S => by kernel_rfl)) (odd_cons (.b [.str "room", .str "0", .str "1", .str "x"] (fun S => by kernel_rfl) (fun S => by kernel_rfl)) (odd_cons (.a (fun S => by kernel_rfl)) (odd_cons (.b [.str "room", .str "0", .str "1\t"] (fun S => by kernel_rfl) (fun S => by kernel_rfl)) (fun _ h => by cases h)))))))))))))
def tab85_5 : List Str := ["room 0 1.", "room 0 1-", "room 0 1 01", "whole 0 1 ", "whole 0 1 x", "whole 0 1  ", "whole 0 1\t", "whole 0 1.", "whole 0 1-", "whole 0 1 01", " put 9 16", "xput 9 16"]
theorem odd85_5 : ∀ l ∈ tab85_5, OddOk l :=
  (odd_cons (.b [.str "room", .str "0", .str "1."] (fun S => by kernel_rfl) (fun S => by kernel_rfl)) (odd_cons (.b [.str "room", .str "0", .str "1-"] (fun S => by kernel_rfl) (fun S => by kernel_rfl)) (odd_cons (.b [.str "room", .str "0", .str "1", .str "01"] (fun S => by kernel_rfl) (fun S => by kernel_rfl)) (odd_cons (.a (fun S => by kernel_rfl)) (odd_cons (.b [.str "whole", .str "0", .str "1", .str "x"] (fun S => by kernel_rfl) (fun S => by kernel_rfl)) (odd_cons (.a (fun S => by kernel_rfl)) (odd_cons (.b [.str "whole", .str "0", .str "1\t"] (fun S => by kernel_rfl) (fun S => by kernel_rfl)) (odd_cons (.b [.str "whole", .str "0", .str "1."] (fun S => by kernel_rfl) (fun S => by kernel_rfl)) (odd_cons (.b [.str "whole", .str "0", .str "1-"] (fun S => by kernel_rfl) (fun S => by kernel_rfl)) (odd_cons (.b [.str "whole", .str "0", .str "1", .str "01"] (fun S => by kernel_rfl) (fun S => by kernel_rfl)) (odd_cons (.a (fun S => by kernel_rfl)) (odd_cons (.f [.str "xput", .str "9", .str "16"] [.int 9, .int 16] (fun S => by kernel_rfl) (fun S => by kernel_rfl) (fun S => by kernel_rfl) (fun r S => by kernel_rfl) (fun r S => by kernel_rfl)) (fun _ h => by cases h)))))))))))))
def tab85_6 : List Str := ["-put 9 16", " take", "xtake", "-take", " set 0 1 4", "xset 0 1 4", "-set 0 1 4", " undo", "xundo", "-undo", " things", "xthings"]
theorem odd85_6 : ∀ l ∈ tab85_6, OddOk l :=
  (odd_cons (.f [.str "-put", .str "9", .str "16"] [.int 9, .int 16] (fun S => by kernel_rfl) (fun S => by kernel_rfl) (fun S => by kernel_rfl) (fun r S => by kernel_rfl) (fun r S => by kernel_rfl)) (odd_cons (.a (fun S => by kernel_rfl)) (odd_cons (.e [.str "xtake"] [] "xtake" (fun S => by kernel_rfl) (fun S => by kernel_rfl) (fun S => by kernel_rfl) (fun r S => by kernel_rfl) (fun r S => by kernel_rfl) (fun S => by kernel_rfl) (fun r S => by kernel_rfl)) (odd_cons (.e [.str "-take"] [] "-take" (fun S => by kernel_rfl) (fun S => by kernel_rfl) (fun S => by kernel_rfl) (fun r S => by kernel_rfl) (fun r S => by kernel_rfl) (fun S => by kernel_rfl) (fun r S => by kernel_rfl)) (odd_cons (.a (fun S => by kernel_rfl)) (odd_cons (.f [.str "xset", .str "0", .str "1", .str "4"] [.int 0, .int 1, .int 4] (fun S => by kernel_rfl) (fun S => by kernel_rfl) (fun S => by kernel_rfl) (fun r S => by kernel_rfl) (fun r S => by kernel_rfl)) (odd_cons (.f [.str "-set", .str "0", .str "1", .str "4"] [.int 0, .int 1, .int 4] (fun S => by kernel_rfl) (fun S => by kernel_rfl) (fun S => by kernel_rfl) (fun r S => by kernel_rfl) (fun r S => by kernel_rfl)) (odd_cons (.a (fun S => by kernel_rfl)) (odd_cons (.e [.str "xundo"] [] "xundo" (fun S => by kernel_rfl) (fun S => by kernel_rfl) (fun S => by kernel_rfl) (fun r S => by kernel_rfl) (fun r S => by kernel_rfl) (fun S => by kernel_rfl) (fun r S => by kernel_rfl)) (odd_cons (.e [.str "-undo"] [] "-undo" (fun S => by kernel_rfl) (fun S => by kernel_rfl) (fun S => by kernel_rfl) (fun r S => by kernel_rfl) (fun r S => by kernel_rfl) (fun S => by kernel_rfl) (fun r S => by kernel_rfl)) (odd_cons (.a (fun S => by kernel_rfl)) (odd_cons (.e [.str "xthings"] [] "xthings" (fun S => by kernel_rfl) (fun S => by kernel_rfl) (fun S => by kernel_rfl) (fun r S => by kernel_rfl) (fun r S => by kernel_rfl) (fun S => by kernel_rfl) (fun r S => by kernel_rfl)) (fun _ h => by cases h)))))))))))))
def tab85_7 : List Str := ["-things", " dimension", "xdimension", "-dimension", " square 0 1", "xsquare 0 1", "-square 0 1", " ball", "xball", "-ball", " room 0 1", "xroom 0 1"]
theorem odd85_7 : ∀ l ∈ tab85_7, OddOk l :=
  (odd_cons (.e [.str "-things"] [] "-things" (fun S => by kernel_rfl) (fun S => by kernel_rfl) (fun S => by kernel_rfl) (fun r S => by kernel_rfl) (fun r S => by kernel_rfl) (fun S => by kernel_rfl) (fun r S => by kernel_rfl)) (odd_cons (.a (fun S => by kernel_rfl)) (odd_cons (.e [.str "xdimension"] [] "xdimension" (fun S => by kernel_rfl) (fun S => by kernel_rfl) (fun S => by kernel_rfl) (fun r S => by kernel_rfl) (fun r S => by kernel_rfl) (fun S => by kernel_rfl) (fun r S => by kernel_rfl)) (odd_cons (.e [.str "-dimension"] [] "-dimension" (fun S => by kernel_rfl) (fun S => by kernel_rfl) (fun S => by kernel_rfl) (fun r S => by kernel_rfl) (fun r S => by kernel_rfl) (fun S => by kernel_rfl) (fun r S => by kernel_rfl)) (odd_cons (.a (fun S => by kernel_rfl)) (odd_cons (.f [.str "xsquare", .str "0", .str "1"] [.int 0, .int 1] (fun S => by kernel_rfl) (fun S => by kernel_rfl) (fun S => by kernel_rfl) (fun r S => by kernel_rfl) (fun r S => by kernel_rfl)) (odd_cons (.f [.str "-square", .str "0", .str "1"] [.int 0, .int 1] (fun S => by kernel_rfl) (fun S => by kernel_rfl) (fun S => by kernel_rfl) (fun r S => by kernel_rfl) (fun r S => by kernel_rfl)) (odd_cons (.a (fun S => by kernel_rfl)) (odd_cons (.e [.str "xball"] [] "xball" (fun S => by kernel_rfl) (fun S => by kernel_rfl) (fun S => by kernel_rfl) (fun r S => by kernel_rfl) (fun r S => by kernel_rfl) (fun S => by kernel_rfl) (fun r S => by kernel_rfl)) (odd_cons (.e [.str "-ball"] [] "-ball" (fun S => by kernel_rfl) (fun S => by kernel_rfl) (fun S => by kernel_rfl) (fun r S => by kernel_rfl) (fun r S => by kernel_rfl) (fun S => by kernel_rfl) (fun r S => by kernel_rfl)) (odd_cons (.a (fun S => by kernel_rfl)) (odd_cons (.f [.str "xroom", .str "0", .str "1"] [.int 0, .int 1] (fun S => by kernel_rfl) (fun S => by kernel_rfl) (fun S => by kernel_rfl) (fun r S => by kernel_rfl) (fun r S => by kernel_rfl)) (fun _ h => by cases h)))))))))))))
def tab85_8 : List Str := ["-room 0 1", " whole 0 1", "xwhole 0 1", "-whole 0 1", "put  9  16", "take  take", "set  0  1  4", "undo  undo", "things  things", "dimension  dimension", "square  0  1", "ball  ball"]
theorem odd85_8 : ∀ l ∈ tab85_8, OddOk l :=
  (odd_cons (.f [.str "-room", .str "0", .str "1"] [.int 0, .int 1] (fun S => by kernel_rfl) (fun S => by kernel_rfl) (fun S => by kernel_rfl) (fun r S => by kernel_rfl) (fun r S => by kernel_rfl)) (odd_cons (.a (fun S => by kernel_rfl)) (odd_cons (.f [.str "xwhole", .str "0", .str "1"] [.int 0, .int 1] (fun S => by kernel_rfl) (fun S => by kernel_rfl) (fun S => by kernel_rfl) (fun r S => by kernel_rfl) (fun r S => by kernel_rfl)) (odd_cons (.f [.str "-whole", .str "0", .str "1"] [.int 0, .int 1] (fun S => by kernel_rfl) (fun S => by kernel_rfl) (fun S => by kernel_rfl) (fun r S => by kernel_rfl) (fun r S => by kernel_rfl)) (odd_cons (.a (fun S => by kernel_rfl)) (odd_cons (.a (fun S => by kernel_rfl)) (odd_cons (.a (fun S => by kernel_rfl)) (odd_cons (.a (fun S => by kernel_rfl)) (odd_cons (.a (fun S => by kernel_rfl)) (odd_cons (.a (fun S => by kernel_rfl)) (odd_cons (.a (fun S => by kernel_rfl)) (odd_cons (.a (fun S => by kernel_rfl)) (fun _ h => by cases h)))))))))))))
def tab85_9 : List Str := ["room  0  1", "whole  0  1", "Put 9 16", "Take", "Set 0 1 4", "Undo", "Things", "Dimension", "Square 0 1", "Ball", "Room 0 1", "Whole 0 1"]
theorem odd85_9 : ∀ l ∈ tab85_9, OddOk l :=
  (odd_cons (.a (fun S => by kernel_rfl)) (odd_cons (.a (fun S => by kernel_rfl)) (odd_cons (.f [.str "Put", .str "9", .str "16"] [.int 9, .int 16] (fun S => by kernel_rfl) (fun S => by kernel_rfl) (fun S => by kernel_rfl) (fun r S => by kernel_rfl) (fun r S => by kernel_rfl)) (odd_cons (.e [.str "Take"] [] "Take" (fun S => by kernel_rfl) (fun S => by kernel_rfl) (fun S => by kernel_rfl) (fun r S => by kernel_rfl) (fun r S => by kernel_rfl) (fun S => by kernel_rfl) (fun r S => by kernel_rfl)) (odd_cons (.f [.str "Set", .str "0", .str "1", .str "4"] [.int 0, .int 1, .int 4] (fun S => by kernel_rfl) (fun S => by kernel_rfl) (fun S => by kernel_rfl) (fun r S => by kernel_rfl) (fun r S => by kernel_rfl)) (odd_cons (.e [.str "Undo"] [] "Undo" (fun S => by kernel_rfl) (fun S => by kernel_rfl) (fun S => by kernel_rfl) (fun r S => by kernel_rfl) (fun r S => by kernel_rfl) (fun S => by kernel_rfl) (fun r S => by kernel_rfl)) (odd_cons (.e [.str "Things"] [] "Things" (fun S => by kernel_rfl) (fun S => by kernel_rfl) (fun S => by kernel_rfl) (fun r S => by kernel_rfl) (fun r S => by kernel_rfl) (fun S => by kernel_rfl) (fun r S => by kernel_rfl)) (odd_cons (.e [.str "Dimension"] [] "Dimension" (fun S => by kernel_rfl) (fun S => by kernel_rfl) (fun S => by kernel_rfl) (fun r S => by kernel_rfl) (fun r S => by kernel_rfl) (fun S => by kernel_rfl) (fun r S => by kernel_rfl)) (odd_cons (.f [.str "Square", .str "0", .str "1"] [.int 0, .int 1] (fun S => by kernel_rfl) (fun S => by kernel_rfl) (fun S => by kernel_rfl) (fun r S => by kernel_rfl) (fun r S => by kernel_rfl)) (odd_cons (.e [.str "Ball"] [] "Ball" (fun S => by kernel_rfl) (fun S => by kernel_rfl) (fun S => by kernel_rfl) (fun r S => by kernel_rfl) (fun r S => by kernel_rfl) (fun S => by kernel_rfl) (fun r S => by kernel_rfl)) (odd_cons (.f [.str "Room", .str "0", .str "1"] [.int 0, .int 1] (fun S => by kernel_rfl) (fun S => by kernel_rfl) (fun S => by kernel_rfl) (fun r S => by kernel_rfl) (fun r S => by kernel_rfl)) (odd_cons (.f [.str "Whole", .str "0", .str "1"] [.int 0, .int 1] (fun S => by kernel_rfl) (fun S => by kernel_rfl) (fun S => by kernel_rfl) (fun r S => by kernel_rfl) (fun r S => by kernel_rfl)) (fun _ h => by cases h)))))))))))))
def tab85_10 : List Str := ["put 9 16 -1", "put 9 16 +1", "put 9 16 1.", "set 0 1 4 -1", "set 0 1 4 +1", "set 0 1 4 1.", "square 0 1 -1", "square 0 1 +1", "square 0 1 1.", "room 0 1 -1", "room 0 1 +1", "room 0 1 1."]
theorem odd85_10 : ∀ l ∈ tab85_10, OddOk l :=
  (odd_cons (.b [.str "put", .str "9", .str "16", .str "-1"] (fun S => by kernel_rfl) (fun S => by kernel_rfl)) (odd_cons (.b [.str "put", .str "9", .str "16", .str "+1"] (fun S => by kernel_rfl) (fun S => by kernel_rfl)) (odd_cons (.b [.str "put", .str "9", .str "16", .str "1."] (fun S => by kernel_rfl) (fun S => by kernel_rfl)) (odd_cons (.b [.str "set", .str "0", .str "1", .str "4", .str "-1"] (fun S => by kernel_rfl) (fun S => by kernel_rfl)) (odd_cons (.b [.str "set", .str "0", .str "1", .str "4", .str "+1"] (fun S => by kernel_rfl) (fun S => by kernel_rfl)) (odd_cons (.b [.str "set", .str "0", .str "1", .str "4", .str "1."] (fun S => by kernel_rfl) (fun S => by kernel_rfl)) (odd_cons (.b [.str "square", .str "0", .str "1", .str "-1"] (fun S => by kernel_rfl) (fun S => by kernel_rfl)) (odd_cons (.b [.str "square", .str "0", .str "1", .str "+1"] (fun S => by kernel_rfl) (fun S => by kernel_rfl)) (odd_cons (.b [.str "square", .str "0", .str "1", .str "1."] (fun S => by kernel_rfl) (fun S => by kernel_rfl)) (odd_cons (.b [.str "room", .str "0", .str "1", .str "-1"] (fun S => by kernel_rfl) (fun S => by kernel_rfl)) (odd_cons (.b [.str "room", .str "0", .str "1", .str "+1"] (fun S => by kernel_rfl) (fun S => by kernel_rfl)) (odd_cons (.b [.str "room", .str "0", .str "1", .str "1."] (fun S => by kernel_rfl) (fun S => by kernel_rfl)) (fun _ h => by cases h)))))))))))))
def tab85_11 : List Str := ["whole 0 1 -1", "whole 0 1 +1", "whole 0 1 1.", "", " ", "what", "put 1000", "put x", "set", "set 0 1", "set 1 0 4", "set 0 0 4"]
theorem odd85_11 : ∀ l ∈ tab85_11, OddOk l :=
  (odd_cons (.b [.str "whole", .str "0", .str "1", .str "-1"] (fun S => by kernel_rfl) (fun S => by kernel_rfl)) (odd_cons (.b [.str "whole", .str "0", .str "1", .str "+1"] (fun S => by kernel_rfl) (fun S => by kernel_rfl)) (odd_cons (.b [.str "whole", .str "0", .str "1", .str "1."] (fun S => by kernel_rfl) (fun S => by kernel_rfl)) (odd_cons (.a (fun S => by kernel_rfl)) (odd_cons (.a (fun S => by kernel_rfl)) (odd_cons (.e [.str "what"] [] "what" (fun S => by kernel_rfl) (fun S => by kernel_rfl) (fun S => by kernel_rfl) (fun r S => by kernel_rfl) (fun r S => by kernel_rfl) (fun S => by kernel_rfl) (fun r S => by kernel_rfl)) (odd_cons (.c [.str "put", .str "1000"] [.int 1000] [.str "put", .tup [.int 1000]] 1 (fun S => by kernel_rfl) (fun S => by kernel_rfl) (fun S => by kernel_rfl) (fun S => by kernel_rfl)) (odd_cons (.b [.str "put", .str "x"] (fun S => by kernel_rfl) (fun S => by kernel_rfl)) (odd_cons (.c [.str "set"] [] [.str "set"] 0 (fun S => by kernel_rfl) (fun S => by kernel_rfl) (fun S => by kernel_rfl) (fun S => by kernel_rfl)) (odd_cons (.c [.str "set", .str "0", .str "1"] [.int 0, .int 1] [.str "set", .int 0, .int 1] 0 (fun S => by kernel_rfl) (fun S => by kernel_rfl) (fun S => by kernel_rfl) (fun S => by kernel_rfl)) (odd_cons (.c [.str "set", .str "1", .str "0", .str "4"] [.int 1, .int 0, .int 4] [.str "set", .int 1, .int 0, .int 4] 2 (fun S => by kernel_rfl) (fun S => by kernel_rfl) (fun S => by kernel_rfl) (fun S => by kernel_rfl)) (odd_cons (.c [.str "set", .str "0", .str "0", .str "4"] [.int 0, .int 0, .int 4] [.str "set", .int 0, .int 0, .int 4] 2 (fun S => by kernel_rfl) (fun S => by kernel_rfl) (fun S => by kernel_rfl) (fun S => by kernel_rfl)) (fun _ h => by cases h)))))))))))))
def tab85_12 : List Str := ["set 0 1 1000", "set 0 1 4 4", "take 1", "things 1", "square", "square 0", "square 0 1 2", "ball 1", "room 0", "whole x y"]
theorem odd85_12 : ∀ l ∈ tab85_12, OddOk l :=
  (odd_cons (.c [.str "set", .str "0", .str "1", .str "1000"] [.int 0, .int 1, .int 1000] [.str "set", .int 0, .int 1, .int 1000] 3 (fun S => by kernel_rfl) (fun S => by kernel_rfl) (fun S => by kernel_rfl) (fun S => by kernel_rfl)) (odd_cons (.c [.str "set", .str "0", .str "1", .str "4", .str "4"] [.int 0, .int 1, .int 4, .int 4] [.str "set", .int 0, .int 1, .int 4, .int 4] 0 (fun S => by kernel_rfl) (fun S => by kernel_rfl) (fun S => by kernel_rfl) (fun S => by kernel_rfl)) (odd_cons (.f [.str "take", .str "1"] [.int 1] (fun S => by kernel_rfl) (fun S => by kernel_rfl) (fun S => by kernel_rfl) (fun r S => by kernel_rfl) (fun r S => by kernel_rfl)) (odd_cons (.f [.str "things", .str "1"] [.int 1] (fun S => by kernel_rfl) (fun S => by kernel_rfl) (fun S => by kernel_rfl) (fun r S => by kernel_rfl) (fun r S => by kernel_rfl)) (odd_cons (.e [.str "square"] [] "square" (fun S => by kernel_rfl) (fun S => by kernel_rfl) (fun S => by kernel_rfl) (fun r S => by kernel_rfl) (fun r S => by kernel_rfl) (fun S => by kernel_rfl) (fun r S => by kernel_rfl)) (odd_cons (.f [.str "square", .str "0"] [.int 0] (fun S => by kernel_rfl) (fun S => by kernel_rfl) (fun S => by kernel_rfl) (fun r S => by kernel_rfl) (fun r S => by kernel_rfl)) (odd_cons (.f [.str "square", .str "0", .str "1", .str "2"] [.int 0, .int 1, .int 2] (fun S => by kernel_rfl) (fun S => by kernel_rfl) (fun S => by kernel_rfl) (fun r S => by kernel_rfl) (fun r S => by kernel_rfl)) (odd_cons (.f [.str "ball", .str "1"] [.int 1] (fun S => by kernel_rfl) (fun S => by kernel_rfl) (fun S => by kernel_rfl) (fun r S => by kernel_rfl) (fun r S => by kernel_rfl)) (odd_cons (.f [.str "room", .str "0"] [.int 0] (fun S => by kernel_rfl) (fun S => by kernel_rfl) (fun S => by kernel_rfl) (fun r S => by kernel_rfl) (fun r S => by kernel_rfl)) (odd_cons (.b [.str "whole", .str "x", .str "y"] (fun S => by kernel_rfl) (fun S => by kernel_rfl)) (fun _ h => by cases h)))))))))))
def tab85 : List Str := tab85_0 ++ tab85_1 ++ tab85_2 ++ tab85_3 ++ tab85_4 ++ tab85_5 ++ tab85_6 ++ tab85_7 ++ tab85_8 ++ tab85_9 ++ tab85_10 ++ tab85_11 ++ tab85_12
theorem odd85 : ∀ l ∈ tab85, OddOk l := by
  intro l h
  unfold tab85 at h
  simp only [List.mem_append] at h
  rcases h with ((((((((((((h | h) | h) | h) | h) | h) | h) | h) | h) | h) | h) | h) | h)
  · exact odd85_0 l h
  · exact odd85_1 l h
  · exact odd85_2 l h
  · exact odd85_3 l h
  · exact odd85_4 l h
  · exact odd85_5 l h
  · exact odd85_6 l h
  · exact odd85_7 l h
  · exact odd85_8 l h
  · exact odd85_9 l h
  · exact odd85_10 l h
  · exact odd85_11 l h
  · exact odd85_12 l h
end DL

namespace DL
open PySem PySem.Spec PyProof.Rows L2
/-! ### a console's answers -/
def conO (t : Nat) : O := .ins "Console" [("tray", .ref t)]
section
variable {S : Sto} {c t p : Nat} {rows ds : List D} {l : Str}
theorem fld_con (h : S[c]? = some (conO t)) : oFld ["Console"] "tray" S (.ref c) = some (.ref t) := by
  unfold oFld
  simp only [h, conO]
  rfl
theorem methC_ok {den : List D → Sto → Out D} {m : Str} {o : DE} {g : DA} {ρ : En} {xs : List D} (hm : m ≠ "tray") (hc : S[c]? = some (conO t)) (ho : o ρ S = .ok (.ref c) S) (hg : g ρ S = .ok xs S) : dMeth "Console" m den o g ρ S = den (.ref c :: xs) S := by
  unfold dMeth
  have e : List.lookup m [("tray", D.ref t)] = none := by
    rw [List.lookup_cons]
    rw [show (m == ("tray" : Str)) = false from by simpa using hm]
    rfl
  simp only [ho, Out.bind_ok, hc, conO, e, hg]
  rfl
theorem dIf_t {u : DT} {f g : DE} {ρ : En} {S1 : Sto} (h : u ρ S = .ok true S1) : dIf u f g ρ S = f ρ S1 := by unfold dIf; rw [h]; rfl
theorem dIf_f {u : DT} {f g : DE} {ρ : En} {S1 : Sto} (h : u ρ S = .ok false S1) : dIf u f g ρ S = g ρ S1 := by unfold dIf; rw [h]; rfl
theorem dIfS_rt {u : DT} {f : DE} {ρ : En} {S1 S2 : Sto} {d : D} (h : u ρ S = .ok true S1) (k : f (fzE ρ) S1 = .ok d S2) : dIfS u (dRet f) dNext ρ S = .rt d S2 := by
  rw [dIfS_ok h, if_pos rfl]
  unfold dRet
  rw [k]
  rfl
theorem dRet_rt {f : DE} {ρ : En} {S1 : Sto} {d : D} (k : f (fzE ρ) S = .ok d S1) : dRet f ρ S = .rt d S1 := by
  unfold dRet
  rw [k]
  rfl
theorem dSeq_rt {f g : DS} {ρ : En} {S1 : Sto} {d : D} (h : f ρ S = .rt d S1) : dSeq f g ρ S = .rt d S1 := by unfold dSeq; rw [h]
theorem do_bad {e : D} {k : Int} (h : ∀ S, d_check_deed [e] S = .exc "InvalidDeed" (some ("index", .int k)) S) : d_Tray_do [.ref t, e] S = .exc "InvalidDeed" (some ("index", .int k)) S := by
  unfold d_Tray_do
  rw [dFn_eq (np := 2) rfl, show frame 3 [.ref t, e] = [some (.val (.ref t)), some (.val e), none] from rfl]
  have q : dDrop (dCall d_check_deed (dCons (dVar 1) dNil)) [some (.val (.ref t)), some (.val e), none] S = .ex "InvalidDeed" (some ("index", .int k)) [some (.val (.ref t)), some (.val e), none] S := by
    unfold dDrop
    rw [(dCall_ok (xs := [e]) rfl).trans (h S)]
    rfl
  unfold dSeq
  rw [q]
  rfl
theorem said_bad {es : List D} {k : Int} (ht : S[t]? = some (trayO rows ds p)) (h : ∀ S, d_check_deed [.tup es] S = .exc "InvalidDeed" (some ("index", .int k)) S) : d_said_of_deed [.ref t, .tup es] S = .ok (.str "not understood") S := by
  unfold d_said_of_deed
  rw [dFn_eq (np := 2) rfl, show frame 3 [.ref t, .tup es] = [some (.val (.ref t)), some (.val (.tup es)), none] from rfl]
  have q : dDrop (dMeth "Tray" "do" d_Tray_do (dVar 0) (dCons (dVar 1) dNil)) [some (.val (.ref t)), some (.val (.tup es)), none] S = .ex "InvalidDeed" (some ("index", .int k)) [some (.val (.ref t)), some (.val (.tup es)), none] S := by
    unfold dDrop
    rw [(meth_ok ht (show dVar 0 [some (.val (.ref t)), some (.val (.tup es)), none] S = .ok (.ref t) S from rfl) (show dCons (dVar 1) dNil [some (.val (.ref t)), some (.val (.tup es)), none] S = .ok [.tup es] S from rfl)).trans (do_bad h)]
    rfl
  unfold dSeq dTryM
  rw [q]
  rfl
abbrev frC (c : Nat) (l : Str) (a b d : Option Sl) : En := frS (fv (.ref c)) (fv (.str l)) a b d
theorem say_str {g : DS} : dSeq eStr g (frC c l none none none) S = g (frC c l none none none) S := dSeq_nx (by kernel_rfl)
theorem say_words {w : D} {g : DS} (h : d_words_of [.str l] S = .ok w S) : dSeq eWords g (frC c l none none none) S = g (frC c l (fv w) none none) S := dSeq_nx (dSet_ok ((dCall_ok (xs := [.str l]) rfl).trans h))
theorem say_nums {ws : List D} {n : D} {g : DS} (h : d_numbers_in [.lst (cutD ws (some 1) none)] S = .ok n S) : dSeq eNums g (frC c l (fv (.lst ws)) none none) S = g (frC c l (fv (.lst ws)) (fv n) none) S :=
  dSeq_nx (dSet_ok ((dIf_t (S1 := S) (by kernel_rfl)).trans ((dCall_ok (xs := [.lst (cutD ws (some 1) none)]) rfl).trans h)))
theorem say_has {ws ns : List D} {g : DS} : dSeq eLost g (frC c l (fv (.lst ws)) (fv (.tup ns)) none) S = g (frC c l (fv (.lst ws)) (fv (.tup ns)) none) S := dSeq_nx (dIfN (by kernel_rfl))
theorem say_deed {ws ns : List D} {d : D} {g : DS} (h : d_deed_in [.lst ws, .tup ns] S = .ok d S) : dSeq eDeed g (frC c l (fv (.lst ws)) (fv (.tup ns)) none) S = g (frC c l (fv (.lst ws)) (fv (.tup ns)) (fv d)) S :=
  dSeq_nx (dSet_ok ((dCall_ok (xs := [.lst ws, .tup ns]) rfl).trans h))
theorem say_none {ws ns : List D} {g : DS} : dSeq eDo g (frC c l (fv (.lst ws)) (fv (.tup ns)) (fv .non)) S = g (frC c l (fv (.lst ws)) (fv (.tup ns)) (fv .non)) S := dSeq_nx (dIfN (by kernel_rfl))
theorem say_start {d : D} {S1 : Sto} {g : DS} (hg : g (frC c l none none none) S = .rt d S1) : (g (frame 5 [.ref c, .str l]) S).out = .ok d S1 := by
  rw [show frame 5 [.ref c, .str l] = frC c l none none none from rfl, hg]
  rfl
theorem say_odd (hc : S[c]? = some (conO t)) (ht : S[t]? = some (trayO rows ds p)) (h : OddOk l) : d_Console_say [.ref c, .str l] S = .ok (.str "not understood") S := by
  rw [say_def, dFn_eq (np := 2) rfl]
  refine say_start ?_
  have fc : ∀ ρ : En, ρ[0]? = some (fv (.ref c)) → dFld ["Console"] "tray" (dVar 0) ρ S = .ok (.ref t) S := fun ρ e => dFld_ok (S' := S) (x := .ref c) (by unfold dVar; rw [e]; rfl) (fld_con hc)
  cases h with
  | a h1 =>
    rw [say_str, say_words (h1 S)]
    have e1 : eNums (frC c l (fv .non) none none) S = .nx (frC c l (fv .non) (fv .non) none) S := dSet_ok ((dIf_f (S1 := S) (by kernel_rfl)).trans rfl)
    rw [dSeq_nx e1]
    exact dSeq_rt (dIfS_rt (S1 := S) (by kernel_rfl) rfl)
  | b ws h1 h2 =>
    rw [say_str, say_words (h1 S), say_nums (h2 S)]
    exact dSeq_rt (dIfS_rt (S1 := S) (by kernel_rfl) rfl)
  | c ws ns es k h1 h2 h3 h4 =>
    rw [say_str, say_words (h1 S), say_nums (h2 S), say_has, say_deed (h3 S)]
    refine dSeq_rt (dIfS_rt (S1 := S) (by kernel_rfl) ?_)
    exact (dCall_ok (xs := [.ref t, .tup es]) (dCons_ok (fc _ rfl) rfl)).trans (said_bad ht h4)
  | e ws ns w h1 h2 h3 h4 h5 h6 h7 =>
    rw [say_str, say_words (h1 S), say_nums (h2 S), say_has, say_deed (h3 S), say_none, dSeq_nx (dIfN (h4 (.ref c) S))]
    refine dRet_rt ((dIf_t (h5 (.ref c) S)).trans ?_)
    refine (dCall_ok (S' := S) (xs := [.ref t, .str w]) (dCons_ok (fc _ rfl) (dCons_ok (dOp_ok (x := .lst ws) (y := .int 0) (S1 := S) (S2 := S) rfl rfl (h6 S)) rfl))).trans (h7 _ S)
  | f ws ns h1 h2 h3 h4 h5 =>
    rw [say_str, say_words (h1 S), say_nums (h2 S), say_has, say_deed (h3 S), say_none, dSeq_nx (dIfN (h4 (.ref c) S))]
    exact dRet_rt ((dIf_f (h5 (.ref c) S)).trans rfl)
theorem say_things {x : D} (hc : S[c]? = some (conO t)) (ht : S[t]? = some (trayO [x] ds p)) : d_Console_say [.ref c, .str "things"] S = .ok (.str "2") S := by
  rw [say_def, dFn_eq (np := 2) rfl]
  refine say_start ?_
  have fc : ∀ ρ : En, ρ[0]? = some (fv (.ref c)) → dFld ["Console"] "tray" (dVar 0) ρ S = .ok (.ref t) S := fun ρ e => dFld_ok (S' := S) (x := .ref c) (by unfold dVar; rw [e]; rfl) (fld_con hc)
  rw [say_str, say_words (w := .lst [.str "things"]) (by kernel_rfl), say_nums (n := .tup []) (by kernel_rfl), say_has, say_deed (d := .non) (by kernel_rfl), say_none, dSeq_nx (dIfN (S1 := S) (by kernel_rfl))]
  refine dRet_rt ((dIf_t (S1 := S) (by kernel_rfl)).trans ?_)
  refine (dCall_ok (S' := S) (xs := [.ref t, .str "things"]) (dCons_ok (fc _ rfl) (dCons_ok (dOp_ok (x := .lst [.str "things"]) (y := .int 0) (S1 := S) (S2 := S) rfl rfl (by kernel_rfl)) rfl))).trans ?_
  unfold d_said_of_word
  rw [dFn_eq (np := 2) rfl, show frame 2 [.ref t, .str "things"] = [fv (.ref t), fv (.str "things")] from rfl, dSeq_nx (dIfN (S1 := S) (by kernel_rfl))]
  have q : dCB oStr (dCons (dCall d_things_of (dCons (dFld ["Tray"] "table" (dVar 0)) dNil)) dNil) (fzE [fv (.ref t), fv (.str "things")]) S = .ok (.str "2") S := by
    refine (dCB_ok (dCons_ok (S1 := S) (x := .int 2) ?_ rfl)).trans (by kernel_rfl)
    exact (dCall_ok (xs := [.tup [x]]) (dCons_ok (dFld_ok (S' := S) (x := .ref t) rfl (fld_table ht)) rfl)).trans (by kernel_rfl)
  rw [dSeq_rt (dIfS_rt (S1 := S) (by kernel_rfl) q)]
  rfl
theorem say_square {x : Int} {z : Str} (hz : oStr [.int x] S = .ok (.str z) S) (hc : S[c]? = some (conO t)) (ht : S[t]? = some (trayO [.tup [.int x]] ds p)) : d_Console_say [.ref c, .str "square 0 1"] S = .ok (.str z) S := by
  rw [say_def, dFn_eq (np := 2) rfl]
  refine say_start ?_
  have fc : ∀ ρ : En, ρ[0]? = some (fv (.ref c)) → dFld ["Console"] "tray" (dVar 0) ρ S = .ok (.ref t) S := fun ρ e => dFld_ok (S' := S) (x := .ref c) (by unfold dVar; rw [e]; rfl) (fld_con hc)
  rw [say_str, say_words (w := .lst [.str "square", .str "0", .str "1"]) (by kernel_rfl), say_nums (n := .tup [.int 0, .int 1]) (by kernel_rfl), say_has, say_deed (d := .non) (by kernel_rfl), say_none]
  refine dSeq_rt (dIfS_rt (S1 := S) (by kernel_rfl) ?_)
  refine (dCall_ok (S' := S) (xs := [.tup [.tup [.int x]], .str "square", .int 0, .int 1]) (dCons_ok (dFld_ok (S' := S) (x := .ref t) (fc _ rfl) (fld_table ht)) (by kernel_rfl))).trans ?_
  unfold d_said_of_two
  rw [dFn_eq (np := 4) rfl, show frame 7 [.tup [.tup [.int x]], .str "square", .int 0, .int 1] = [fv (.tup [.tup [.int x]]), fv (.str "square"), fv (.int 0), fv (.int 1), none, none, none] from rfl, dSeq_nx (dIfN (S1 := S) (by kernel_rfl))]
  have q : dCB oStr (dCons (dCall d_square_of (dCons (dVar 0) (dCons (dVar 2) (dCons (dVar 3) dNil)))) dNil) (fzE [fv (.tup [.tup [.int x]]), fv (.str "square"), fv (.int 0), fv (.int 1), none, none, none]) S = .ok (.str z) S := (dCB_ok (dCons_ok (S1 := S) (x := .int x) (by kernel_rfl) rfl)).trans hz
  rw [dSeq_rt (dIfS_rt (S1 := S) (by kernel_rfl) q)]
  rfl
end
end DL

namespace DL
open PySem PySem.Spec PyProof.Rows L2
/-! ### the line drawn, printed by k4.py -/
def goods85 : List Str := ["put 9 16", "take", "set 0 1 4", "undo", "things", "dimension", "square 0 1", "ball", "room 0 1", "whole 0 1"]
def suf85 : List Str := [" ", " x", "  ", "\t", ".", "-", " 01"]
def pre85 : List Str := [" ", "x", "-"]
def end85 : List Str := [" -1", " x", " +1", " 1.", "\t"]
def some85 : List Str := ["", " ", "what", "put 1000", "put x", "set", "set 0 1", "set 1 0 4", "set 0 0 4", "set 0 1 1000", "set 0 1 4 4", "take 1", "things 1", "square", "square 0", "square 0 1 2", "ball 1", "room 0", "whole x y"]
def v0 : DE := dOp oAdd (dPv 2) (dCall d__law_pick (dCons (dVar 0) (dCons (dLst (dCons (dC (.str " ")) (dCons (dC (.str " x")) (dCons (dC (.str "  ")) (dCons (dC (.str "\t")) (dCons (dC (.str ".")) (dCons (dC (.str "-")) (dCons (dC (.str " 01")) dNil)))))))) dNil)))
def v1 : DE := dOp oAdd (dCall d__law_pick (dCons (dVar 0) (dCons (dLst (dCons (dC (.str " ")) (dCons (dC (.str "x")) (dCons (dC (.str "-")) dNil)))) dNil))) (dPv 2)
def v2 : DE := dReplIf " " " " "  " (dVar 2) (dVar 2) (dOp oAdd (dOp oAdd (dPv 2) (dC (.str "  "))) (dPv 2))
def v3 : DE := dOp oAdd (dM0 oUpper (dSl oSl (dPv 2) dNoPart (dPart (dC (.int 1))))) (dSl oSl (dPv 2) (dPart (dC (.int 1))) dNoPart)
def v4 : DE := dOp oAdd (dPv 2) (dCall d__law_pick (dCons (dVar 0) (dCons (dLst (dCons (dC (.str " -1")) (dCons (dC (.str " x")) (dCons (dC (.str " +1")) (dCons (dC (.str " 1.")) (dCons (dC (.str "\t")) dNil)))))) dNil)))
def c4 : DT := dAndT (dTst (dOp (oEq false) (dPv 3) (dC (.int 4)))) (dTst (dOp oIn (dC (.str " ")) (dPv 2)))
def v5 : DE := dCall d__law_pick (dCons (dVar 0) (dCons (dOp oAdd (dPv 4) (dLst (dCons (dC (.str "whole x y")) dNil))) dNil))
def set5 (g : DS) : DS := dSeq (dSet 4 (dLst (dCons (dC (.str "")) (dCons (dC (.str " ")) (dCons (dC (.str "what")) (dCons (dC (.str "put 1000")) (dCons (dC (.str "put x")) (dCons (dC (.str "set")) (dCons (dC (.str "set 0 1")) (dCons (dC (.str "set 1 0 4")) (dCons (dC (.str "set 0 0 4")) dNil))))))))))) (dSeq (dSet 4 (dOp oAdd (dPv 4) (dLst (dCons (dC (.str "set 0 1 1000")) (dCons (dC (.str "set 0 1 4 4")) dNil))))) (dSeq (dSet 4 (dOp oAdd (dPv 4) (dLst (dCons (dC (.str "take 1")) (dCons (dC (.str "things 1")) (dCons (dC (.str "square")) (dCons (dC (.str "square 0")) (dCons (dC (.str "square 0 1 2")) (dCons (dC (.str "ball 1")) (dCons (dC (.str "room 0")) dNil)))))))))) g))
def ini85 : DS := dPar [2, 3] (dCons (dCall d__law_pick (dCons (dVar 0) (dCons (dVar 1) dNil))) (dCons (dCall d__law_draw (dCons (dVar 0) (dCons (dC (.int 6)) dNil))) dNil))
theorem line_def : d__law_odd_line = dFn 1 5 (dSeq (dSet 1 (dLst (dCons (dC (.str "put 9 16")) (dCons (dC (.str "take")) (dCons (dC (.str "set 0 1 4")) (dCons (dC (.str "undo")) (dCons (dC (.str "things")) (dCons (dC (.str "dimension")) (dCons (dC (.str "square 0 1")) (dCons (dC (.str "ball")) dNil)))))))))) (dSeq (dSet 1 (dOp oAdd (dPv 1) (dLst (dCons (dC (.str "room 0 1")) (dCons (dC (.str "whole 0 1")) dNil))))) (dSeq ini85 (dSeq (dIfS (dTst (dOp (oEq false) (dPv 3) (dC (.int 0)))) (dRet v0) dNext) (dSeq (dIfS (dTst (dOp (oEq false) (dPv 3) (dC (.int 1)))) (dRet v1) dNext) (dSeq (dIfS (dTst (dOp (oEq false) (dPv 3) (dC (.int 2)))) (dRet v2) dNext) (dSeq (dIfS (dTst (dOp (oEq false) (dPv 3) (dC (.int 3)))) (dRet v3) dNext) (dSeq (dIfS c4 (dRet v4) dNext) (set5 (dRet v5)))))))))) := rfl
def fr85 (n : Nat) (g : Str) (r : Int) (x : Option Sl) : En := [fv (.ref n), fv (.lst (goods85.map .str)), fv (.str g), fv (.int r), x]
theorem oAdd_str {a b : Str} {S : Sto} (h : a.length + b.length ≤ 1000) : oAdd (.str a) (.str b) S = .ok (.str (a ++ b)) S := by
  show (if a.length + b.length ≤ LIM then Out.ok (D.str (a ++ b)) S else .bad) = _
  exact if_pos (Nat.le_trans h (by decide))
theorem mem_strs {d : D} {xs : List Str} (h : d ∈ xs.map D.str) : ∃ x ∈ xs, d = .str x := by
  obtain ⟨x, hx, e⟩ := List.mem_map.mp h
  exact ⟨x, hx, e.symm⟩
theorem len_goods : ∀ g ∈ goods85, g.length ≤ 20 := by decide +kernel
theorem len_suf : ∀ g ∈ suf85, g.length ≤ 20 := by decide +kernel
theorem len_pre : ∀ g ∈ pre85, g.length ≤ 20 := by decide +kernel
theorem len_end : ∀ g ∈ end85, g.length ≤ 20 := by decide +kernel
theorem in0 : ∀ g ∈ goods85, ∀ d ∈ suf85, g ++ d ∈ tab85 := by decide +kernel
theorem in1 : ∀ g ∈ goods85, ∀ d ∈ pre85, d ++ g ∈ tab85 := by decide +kernel
theorem in5 : ∀ d ∈ some85, d ∈ tab85 := by decide +kernel
section
variable {n : Nat} {S0 S : Sto}
theorem w2 : ∀ g ∈ goods85, ∃ l ∈ tab85, ∀ S, v2 (fzE (fr85 n g 2 none)) S = .ok (.str l) S := by
  intro g hg
  simp only [goods85, List.mem_cons, List.mem_nil_iff, or_false] at hg
  rcases hg with rfl | rfl | rfl | rfl | rfl | rfl | rfl | rfl | rfl | rfl
  · exact ⟨"put  9  16", by decide +kernel, fun S => by kernel_rfl⟩
  · exact ⟨"take  take", by decide +kernel, fun S => by kernel_rfl⟩
  · exact ⟨"set  0  1  4", by decide +kernel, fun S => by kernel_rfl⟩
  · exact ⟨"undo  undo", by decide +kernel, fun S => by kernel_rfl⟩
  · exact ⟨"things  things", by decide +kernel, fun S => by kernel_rfl⟩
  · exact ⟨"dimension  dimension", by decide +kernel, fun S => by kernel_rfl⟩
  · exact ⟨"square  0  1", by decide +kernel, fun S => by kernel_rfl⟩
  · exact ⟨"ball  ball", by decide +kernel, fun S => by kernel_rfl⟩
  · exact ⟨"room  0  1", by decide +kernel, fun S => by kernel_rfl⟩
  · exact ⟨"whole  0  1", by decide +kernel, fun S => by kernel_rfl⟩
theorem w3 : ∀ g ∈ goods85, ∃ l ∈ tab85, ∀ S, v3 (fzE (fr85 n g 3 none)) S = .ok (.str l) S := by
  intro g hg
  simp only [goods85, List.mem_cons, List.mem_nil_iff, or_false] at hg
  rcases hg with rfl | rfl | rfl | rfl | rfl | rfl | rfl | rfl | rfl | rfl
  · exact ⟨"Put 9 16", by decide +kernel, fun S => by kernel_rfl⟩
  · exact ⟨"Take", by decide +kernel, fun S => by kernel_rfl⟩
  · exact ⟨"Set 0 1 4", by decide +kernel, fun S => by kernel_rfl⟩
  · exact ⟨"Undo", by decide +kernel, fun S => by kernel_rfl⟩
  · exact ⟨"Things", by decide +kernel, fun S => by kernel_rfl⟩
  · exact ⟨"Dimension", by decide +kernel, fun S => by kernel_rfl⟩
  · exact ⟨"Square 0 1", by decide +kernel, fun S => by kernel_rfl⟩
  · exact ⟨"Ball", by decide +kernel, fun S => by kernel_rfl⟩
  · exact ⟨"Room 0 1", by decide +kernel, fun S => by kernel_rfl⟩
  · exact ⟨"Whole 0 1", by decide +kernel, fun S => by kernel_rfl⟩
theorem w4 : ∀ g ∈ goods85, (∀ S, c4 (fr85 n g 4 none) S = .ok false S) ∨ ((∀ S, c4 (fr85 n g 4 none) S = .ok true S) ∧ ∀ d ∈ end85, g ++ d ∈ tab85) := by
  intro g hg
  simp only [goods85, List.mem_cons, List.mem_nil_iff, or_false] at hg
  rcases hg with rfl | rfl | rfl | rfl | rfl | rfl | rfl | rfl | rfl | rfl
  · exact .inr ⟨fun S => by kernel_rfl, by decide +kernel⟩
  · exact .inl fun S => by kernel_rfl
  · exact .inr ⟨fun S => by kernel_rfl, by decide +kernel⟩
  · exact .inl fun S => by kernel_rfl
  · exact .inl fun S => by kernel_rfl
  · exact .inl fun S => by kernel_rfl
  · exact .inr ⟨fun S => by kernel_rfl, by decide +kernel⟩
  · exact .inl fun S => by kernel_rfl
  · exact .inr ⟨fun S => by kernel_rfl, by decide +kernel⟩
  · exact .inr ⟨fun S => by kernel_rfl, by decide +kernel⟩
theorem line5 {g : Str} {r : Int} (hn : n < S0.length) (h : PS S0 n S) : ∃ l S', set5 (dRet v5) (fr85 n g r none) S = .rt (.str l) S' ∧ PS S0 n S' ∧ l ∈ tab85 := by
  obtain ⟨d, S2, p1, p2, p3⟩ := h.pick hn (ds := some85.map .str) (by decide)
  obtain ⟨l, hl, rfl⟩ := mem_strs p2
  refine ⟨l, S2, ?_, p3, in5 l hl⟩
  have e : ∀ g1 : DS, set5 g1 (fr85 n g r none) S = g1 (fr85 n g r (fv (.lst ((some85.take 18).map .str)))) S := fun g1 => by kernel_rfl
  rw [e]
  refine dRet_rt ?_
  exact (dCall_ok (S' := S) (xs := [.ref n, .lst (some85.map .str)]) (by kernel_rfl)).trans p1
theorem line_ok (hn : n < S0.length) (h : PS S0 n S) : ∃ l S', d__law_odd_line [.ref n] S = .ok (.str l) S' ∧ PS S0 n S' ∧ l ∈ tab85 := by
  obtain ⟨d, S1, p1, p2, p3⟩ := h.pick hn (ds := goods85.map .str) (by decide)
  obtain ⟨g, hg, rfl⟩ := mem_strs p2
  obtain ⟨r, S2, d1, d2, d3, d4⟩ := p3.draw hn (b := 6) (by decide)
  have lg := len_goods g hg
  suffices key : ∃ l S', (dSeq (dIfS (dTst (dOp (oEq false) (dPv 3) (dC (.int 0)))) (dRet v0) dNext) (dSeq (dIfS (dTst (dOp (oEq false) (dPv 3) (dC (.int 1)))) (dRet v1) dNext) (dSeq (dIfS (dTst (dOp (oEq false) (dPv 3) (dC (.int 2)))) (dRet v2) dNext) (dSeq (dIfS (dTst (dOp (oEq false) (dPv 3) (dC (.int 3)))) (dRet v3) dNext) (dSeq (dIfS c4 (dRet v4) dNext) (set5 (dRet v5))))))) (fr85 n g r none) S2 = .rt (.str l) S' ∧ PS S0 n S' ∧ l ∈ tab85 by
    obtain ⟨l, S', k1, k2, k3⟩ := key
    refine ⟨l, S', ?_, k2, k3⟩
    rw [line_def, dFn_eq (np := 1) rfl, show frame 5 [.ref n] = [fv (.ref n), none, none, none, none] from rfl]
    rw [dSeq_nx (ρ' := [fv (.ref n), fv (.lst ((goods85.take 8).map .str)), none, none, none]) (S' := S) (by kernel_rfl), dSeq_nx (ρ' := [fv (.ref n), fv (.lst (goods85.map .str)), none, none, none]) (S' := S) (by kernel_rfl)]
    have i : ini85 [fv (.ref n), fv (.lst (goods85.map .str)), none, none, none] S = .nx (fr85 n g r none) S2 := by
      have c1 : dCall d__law_pick (dCons (dVar 0) (dCons (dVar 1) dNil)) [fv (.ref n), fv (.lst (goods85.map .str)), none, none, none] S = .ok (.str g) S1 := (dCall_ok (S' := S) (xs := [.ref n, .lst (goods85.map .str)]) rfl).trans p1
      have c2 : dCall d__law_draw (dCons (dVar 0) (dCons (dC (.int 6)) dNil)) [fv (.ref n), fv (.lst (goods85.map .str)), none, none, none] S1 = .ok (.int r) S2 := (dCall_ok (S' := S1) (xs := [.ref n, .int 6]) rfl).trans d1
      unfold ini85 dPar
      rw [dCons_ok c1 (dCons_ok c2 rfl)]
      rfl
    rw [dSeq_nx i, k1]
    rfl
  have hr : r = 0 ∨ r = 1 ∨ r = 2 ∨ r = 3 ∨ r = 4 ∨ r = 5 := by omega
  rcases hr with rfl | rfl | rfl | rfl | rfl | rfl
  · obtain ⟨d, S3, q1, q2, q3⟩ := d4.pick hn (ds := suf85.map .str) (by decide)
    obtain ⟨x, hx, rfl⟩ := mem_strs q2
    have lx := len_suf x hx
    refine ⟨g ++ x, S3, dSeq_rt (dIfS_rt (S1 := S2) (by kernel_rfl) ?_), q3, in0 g hg x hx⟩
    refine dOp_ok (x := .str g) (y := .str x) (S1 := S2) (S2 := S3) (by kernel_rfl) ?_ (oAdd_str (by omega))
    exact (dCall_ok (S' := S2) (xs := [.ref n, .lst (suf85.map .str)]) (by kernel_rfl)).trans q1
  · obtain ⟨d, S3, q1, q2, q3⟩ := d4.pick hn (ds := pre85.map .str) (by decide)
    obtain ⟨x, hx, rfl⟩ := mem_strs q2
    have lx := len_pre x hx
    rw [dSeq_nx (dIfN (S1 := S2) (by kernel_rfl))]
    refine ⟨x ++ g, S3, dSeq_rt (dIfS_rt (S1 := S2) (by kernel_rfl) ?_), q3, in1 g hg x hx⟩
    refine dOp_ok (x := .str x) (y := .str g) (S1 := S3) (S2 := S3) ?_ (by kernel_rfl) (oAdd_str (by omega))
    exact (dCall_ok (S' := S2) (xs := [.ref n, .lst (pre85.map .str)]) (by kernel_rfl)).trans q1
  · obtain ⟨l, hl, e⟩ := w2 (n := n) g hg
    rw [dSeq_nx (dIfN (S1 := S2) (by kernel_rfl)), dSeq_nx (dIfN (S1 := S2) (by kernel_rfl))]
    exact ⟨l, S2, dSeq_rt (dIfS_rt (S1 := S2) (by kernel_rfl) (e S2)), d4, hl⟩
  · obtain ⟨l, hl, e⟩ := w3 (n := n) g hg
    rw [dSeq_nx (dIfN (S1 := S2) (by kernel_rfl)), dSeq_nx (dIfN (S1 := S2) (by kernel_rfl)), dSeq_nx (dIfN (S1 := S2) (by kernel_rfl))]
    exact ⟨l, S2, dSeq_rt (dIfS_rt (S1 := S2) (by kernel_rfl) (e S2)), d4, hl⟩
  · rw [dSeq_nx (dIfN (S1 := S2) (by kernel_rfl)), dSeq_nx (dIfN (S1 := S2) (by kernel_rfl)), dSeq_nx (dIfN (S1 := S2) (by kernel_rfl)), dSeq_nx (dIfN (S1 := S2) (by kernel_rfl))]
    rcases w4 (n := n) g hg with e | ⟨e, k⟩
    · rw [dSeq_nx (dIfN (e S2))]
      exact line5 hn d4
    · obtain ⟨d, S3, q1, q2, q3⟩ := d4.pick hn (ds := end85.map .str) (by decide)
      obtain ⟨x, hx, rfl⟩ := mem_strs q2
      have lx := len_end x hx
      refine ⟨g ++ x, S3, dSeq_rt (dIfS_rt (e S2) ?_), q3, k x hx⟩
      refine dOp_ok (x := .str g) (y := .str x) (S1 := S2) (S2 := S3) (by kernel_rfl) ?_ (oAdd_str (by omega))
      exact (dCall_ok (S' := S2) (xs := [.ref n, .lst (end85.map .str)]) (by kernel_rfl)).trans q1
  · rw [dSeq_nx (dIfN (S1 := S2) (by kernel_rfl)), dSeq_nx (dIfN (S1 := S2) (by kernel_rfl)), dSeq_nx (dIfN (S1 := S2) (by kernel_rfl)), dSeq_nx (dIfN (S1 := S2) (by kernel_rfl)), dSeq_nx (dIfN (S1 := S2) (by kernel_rfl))]
    exact line5 hn d4
end
end DL

namespace DL
open PySem PySem.Spec PyProof.Rows L2
/-! ### the round's store -/
def tab85O : O := .tab ("_law_right", none) (lamQ ("_law_right", none))
def dd85 (x : Int) : D := .tup [.str "put", .tup [.int x]]
structure S85 (n : Nat) (T : Sto) (w : List D) (x : Int) : Prop where
  len : n + 6 ≤ T.length
  pos : 0 < n
  tb : T[0]? = some tab85O
  pool : T[n]? = some (.lst w)
  tr : T[n + 1]? = some (trayO [.tup [.int x]] [dd85 x] (n + 2))
  co : T[n + 3]? = some (conO (n + 4))
  ct : T[n + 4]? = some (trayO [.tup [.int x]] [dd85 x] (n + 5))
  cp : T[n + 5]? = some (.lst [.tup []])
section
variable {n : Nat} {T S : Sto} {w y : List D} {x : Int}
theorem S85.put (h : S85 n T w x) : S85 n (T.set n (.lst y)) y x := by
  have hl := h.len
  have hp := h.pos
  exact ⟨by simpa using hl, hp, by rw [List.getElem?_set_ne (by omega)]; exact h.tb, List.getElem?_set_self (by omega), by rw [List.getElem?_set_ne (by omega)]; exact h.tr, by rw [List.getElem?_set_ne (by omega)]; exact h.co, by rw [List.getElem?_set_ne (by omega)]; exact h.ct, by rw [List.getElem?_set_ne (by omega)]; exact h.cp⟩
theorem S85.app {U : Sto} (h : S85 n T w x) : S85 n (T ++ U) w x := by
  have hl := h.len
  have g : ∀ {k : Nat} {o : O}, T[k]? = some o → (T ++ U)[k]? = some o := fun {k o} e => by rw [List.getElem?_append_left (List.getElem?_eq_some_iff.mp e).1]; exact e
  exact ⟨by rw [List.length_append]; omega, h.pos, g h.tb, g h.pool, g h.tr, g h.co, g h.ct, g h.cp⟩
theorem S85.ps (h : S85 n T w x) (hw : P3 w) : PS T n T := by
  refine ⟨w, hw, ?_⟩
  have hn : n < T.length := by have := h.len; omega
  have := List.set_getElem_self hn
  rw [show T[n] = .lst w from (List.getElem?_eq_some_iff.mp h.pool).2] at this
  exact this.symm
/-! ### the tray, the console -/
theorem meth_ok2 {t p : Nat} {rows ds : List D} {den : List D → Sto → Out D} {o : DE} {g : DA} {ρ : En} {xs : List D} {S2 : Sto} (ht : S[t]? = some (trayO rows ds p)) (ho : o ρ S = .ok (.ref t) S) (hg : g ρ S = .ok xs S2) : dMeth "Tray" "do" den o g ρ S = den (.ref t :: xs) S2 := by
  unfold dMeth
  simp only [ho, Out.bind_ok, ht, trayO, hg]
  rfl
theorem go85 {t p : Nat} (hx : x = 4 ∨ x = 9) (ht : S[t]? = some (trayO [] [] p)) (hp : S[p]? = some (.lst [])) (hne : p ≠ t) : d_Tray_do [.ref t, dd85 x] S = .ok .non ((S.set p (.lst [.tup []])).set t (trayO [.tup [.int x]] [dd85 x] p)) := by
  have r1 : d_reason_against [.tup [], (Deed.put [x]).d] S = .ok .non S := by
    rcases hx with rfl | rfl <;> kernel_rfl
  have hb : 0 ≤ x ∧ x ≤ 999 := by omega
  exact do_go (e := .put [x]) (B := 999) (m := 0) ht hp hne tab0 (by decide) ⟨(show 1 ≤ 100 by decide), fun q hq => by rw [List.mem_singleton.mp hq]; exact hb⟩ ⟨rfl, by decide⟩ r1 (by decide) (by decide)
theorem check_tray_ok {t p : Nat} {rows ds : List D} (ht : S[t]? = some (trayO rows ds p)) : d_check_tray [.ref t] S = .ok .non S := by
  have q : oIsi (.nm "Tray") (ownTab "Tray" ["NoneType", "bool", "int", "str", "tuple", "list", "dict"]) [.ref t, .nm "Tray"] S = .ok (.bl true) S := by
    unfold oIsi
    have e : tagS S (.ref t) = some (.own "Tray") := by
      unfold tagS
      simp only [ht, trayO]
    simp only [e]
    kernel_rfl
  unfold d_check_tray
  rw [dFn_eq (np := 1) rfl, show frame 1 [.ref t] = [fv (.ref t)] from rfl]
  have c : dNotT (dTst (dCB (oIsi (.nm "Tray") (ownTab "Tray" ["NoneType", "bool", "int", "str", "tuple", "list", "dict"])) (dCons (dPv 0) (dCons (dC (.nm "Tray")) dNil)))) [fv (.ref t)] S = .ok false S := dNotT_ok (dTst_ok ((dCB_ok (xs := [.ref t, .nm "Tray"]) rfl).trans q))
  rw [dIfN c]
  rfl
theorem copy85 {t p : Nat} (hx : x = 4 ∨ x = 9) (ht : S[t]? = some (trayO [.tup [.int x]] [dd85 x] p)) : d_copy_of [.ref t] S = .ok (.ref S.length) (S ++ [trayO [.tup [.int x]] [dd85 x] (S.length + 1), .lst [.tup []]]) := by
  have tl : t < S.length := (List.getElem?_eq_some_iff.mp ht).1
  unfold d_copy_of
  rw [dFn_eq (np := 1) rfl, show frame 3 [.ref t] = [fv (.ref t), none, none] from rfl]
  rw [dSeq_nx (dSet_ok make_ok)]
  have ht1 : (S ++ [trayO [] [] (S.length + 1), O.lst []])[t]? = some (trayO [.tup [.int x]] [dd85 x] p) := by rw [List.getElem?_append_left tl]; exact ht
  have h2 : (S ++ [trayO [] [] (S.length + 1), O.lst []])[S.length]? = some (trayO [] [] (S.length + 1)) := getElem_app 0
  have h3 : (S ++ [trayO [] [] (S.length + 1), O.lst []])[S.length + 1]? = some (.lst []) := getElem_app 1
  have g := go85 hx h2 h3 (by omega)
  rw [set_app (S := S) 1, show ([trayO [] [] (S.length + 1), O.lst []] : Sto).set 1 (.lst [.tup []]) = [trayO [] [] (S.length + 1), .lst [.tup []]] from rfl, show S.length = S.length + 0 from rfl, set_app (S := S) 0] at g
  simp only [Nat.add_zero] at g
  rw [show ([trayO [] [] (S.length + 1), O.lst [.tup []]] : Sto).set 0 (trayO [.tup [.int x]] [dd85 x] (S.length + 1)) = [trayO [.tup [.int x]] [dd85 x] (S.length + 1), .lst [.tup []]] from rfl] at g
  generalize (S ++ [trayO [D.tup [D.int x]] [dd85 x] (S.length + 1), O.lst [D.tup []]]) = T2 at g ⊢
  generalize (S ++ [trayO [] [] (S.length + 1), O.lst []]) = T1 at g ht1 h2 h3 ⊢
  have it : dItr (dFld ["Tray"] "deeds" (dVar 0)) [fv (.ref t), fv (.ref S.length), none] T1 = .ok [dd85 x] T1 := by
    unfold dItr
    rw [dFld_ok (S' := T1) (x := .ref t) (d := .tup [dd85 x]) rfl (fld_deeds ht1)]
    rfl
  have st : dDrop (dMeth "Tray" "do" d_Tray_do (dVar 1) (dCons (dVar 2) dNil)) [fv (.ref t), fv (.ref S.length), fv (dd85 x)] T1 = .nx [fv (.ref t), fv (.ref S.length), fv (dd85 x)] T2 := dDrop_ok ((meth_ok h2 rfl rfl).trans g)
  have f : dFor (dItr (dFld ["Tray"] "deeds" (dVar 0))) (.name 2) (dDrop (dMeth "Tray" "do" d_Tray_do (dVar 1) (dCons (dVar 2) dNil))) [fv (.ref t), fv (.ref S.length), none] T1 = .nx [fv (.ref t), fv (.ref S.length), fv (dd85 x)] T2 := by
    rw [dFor_eq it]
    unfold forGo
    rw [show Tgt.kv (.name 2) (dd85 x) = some [(2, dd85 x)] from rfl]
    simp only [show setE [fv (.ref t), fv (.ref S.length), none] [(2, dd85 x)] = [fv (.ref t), fv (.ref S.length), fv (dd85 x)] from rfl, st]
    rfl
  rw [show ([fv (.ref t), none, none] : En).set 1 (some (.val (.ref S.length))) = [fv (.ref t), fv (.ref S.length), none] from rfl, dSeq_nx f]
  rfl
/-- Console(tray) -/
theorem mkC85 {t p : Nat} (hx : x = 4 ∨ x = 9) (ht : S[t]? = some (trayO [.tup [.int x]] [dd85 x] p)) : mkD "Console" d_ConsoleU_initU [.ref t] S = .ok (.ref S.length) (S ++ [conO (S.length + 1), trayO [.tup [.int x]] [dd85 x] (S.length + 2), .lst [.tup []]]) := by
  have tl : t < S.length := (List.getElem?_eq_some_iff.mp ht).1
  unfold mkD
  have ht1 : (S ++ [O.ins "Console" []])[t]? = some (trayO [.tup [.int x]] [dd85 x] p) := by rw [List.getElem?_append_left tl]; exact ht
  have e : d_ConsoleU_initU [.ref S.length, .ref t] (S ++ [.ins "Console" []]) = .ok .non (S ++ [conO (S.length + 1), trayO [.tup [.int x]] [dd85 x] (S.length + 2), .lst [.tup []]]) := by
    have c := copy85 hx ht1
    rw [List.length_append, List.append_assoc] at c
    have c : d_copy_of [.ref t] (S ++ [.ins "Console" []]) = .ok (.ref (S.length + 1)) (S ++ [O.ins "Console" [], trayO [.tup [.int x]] [dd85 x] (S.length + 2), .lst [.tup []]]) := c
    have g3 : (S ++ [O.ins "Console" [], trayO [.tup [.int x]] [dd85 x] (S.length + 2), .lst [.tup []]])[S.length]? = some (.ins "Console" []) := getElem_app 0
    have u3 : (S ++ [O.ins "Console" [], trayO [.tup [.int x]] [dd85 x] (S.length + 2), .lst [.tup []]]).set S.length (conO (S.length + 1)) = S ++ [conO (S.length + 1), trayO [.tup [.int x]] [dd85 x] (S.length + 2), .lst [.tup []]] := set_app 0 _
    have k := check_tray_ok ht1
    unfold d_ConsoleU_initU
    rw [dFn_eq (np := 2) rfl, show frame 2 [.ref S.length, .ref t] = [fv (.ref S.length), fv (.ref t)] from rfl]
    rw [dSeq_nx (dDrop_ok ((dCall_ok (xs := [.ref t]) rfl).trans k))]
    unfold dSetF
    rw [(dCall_ok (xs := [.ref t]) rfl).trans c]
    rw [← u3]
    generalize (S ++ [O.ins "Console" [], trayO [.tup [.int x]] [dd85 x] (S.length + 2), .lst [.tup []]]) = T3 at g3 ⊢
    simp only [Out.st_ok]
    rw [show dVar 0 [fv (.ref S.length), fv (.ref t)] T3 = .ok (.ref S.length) T3 from rfl]
    simp only [Out.st_ok, g3]
    rfl
  rw [e]
  rfl
/-- undo -/
theorem undo85 {t p : Nat} {rows ds : List D} (ht : S[t]? = some (trayO rows ds p)) (hp : S[p]? = some (.lst [.tup []])) (hne : p ≠ t) : ∃ S', d_Tray_undo [.ref t] S = .ok .non S' ∧ ∀ k : Nat, k ≠ t → k ≠ p → S'[k]? = S[k]? := by
  have tl : t < S.length := (List.getElem?_eq_some_iff.mp ht).1
  let ρ : En := frame 1 [.ref t]
  let T1 : Sto := S.set p (.lst [])
  let T2 : Sto := T1.set t (trayO [] ds p)
  have o : oEq false (.ref p) (.lst []) S = .ok (.bl false) S := by
    unfold oEq
    have e : drS S (.ref p) = .lst [.tup []] := by
      unfold drS
      simp only [hp]
    rw [e]
    kernel_rfl
  have c : dTst (dOp (oEq false) (dFld ["Tray"] "past" (dVar 0)) (dLst dNil)) ρ S = .ok false S := dTst_ok (dOp_ok (dFld_ok (x := .ref t) rfl (fld_past ht)) (dLst_ok (xs := []) rfl (by decide)) o)
  have ht1 : T1[t]? = some (trayO rows ds p) := (List.getElem?_set_ne hne).trans ht
  have po : dLm lPop (dFld ["Tray"] "past" (dVar 0)) dNil ρ S = .ok (.tup []) T1 := by
    unfold dLm
    rw [dFld_ok (S' := S) (x := .ref t) (d := .ref p) rfl (fld_past ht)]
    simp only [Out.bind_ok, hp]
    rw [show dNil ρ S = .ok [] S from rfl]
    simp only [Out.bind_ok, hp]
    rfl
  have s2 : dSetF ["Tray"] "table" (dLm lPop (dFld ["Tray"] "past" (dVar 0)) dNil) (dVar 0) ρ S = .nx ρ T2 := by
    unfold dSetF
    rw [po]
    simp only [Out.st]
    rw [show dVar 0 ρ T1 = .ok (.ref t) T1 from rfl]
    simp only [Out.st, ht1, trayO]
    rfl
  have ht2 : T2[t]? = some (trayO [] ds p) := List.getElem?_set_self (by simpa [T1] using tl)
  have sl : dSl oSl (dFld ["Tray"] "deeds" (dVar 0)) dNoPart (dPart (dNeg (dC (.int 1)))) ρ T2 = .ok (.tup (cutD ds none (some (-1)))) T2 := by
    unfold dSl
    rw [dFld_ok (S' := T2) (x := .ref t) (d := .tup ds) rfl (fld_deeds ht2)]
    rfl
  have s3 : dSetF ["Tray"] "deeds" (dSl oSl (dFld ["Tray"] "deeds" (dVar 0)) dNoPart (dPart (dNeg (dC (.int 1))))) (dVar 0) ρ T2 = .nx ρ (T2.set t (trayO [] (cutD ds none (some (-1))) p)) := by
    unfold dSetF
    rw [sl]
    simp only [Out.st]
    rw [show dVar 0 ρ T2 = .ok (.ref t) T2 from rfl]
    simp only [Out.st, ht2, trayO]
    rfl
  refine ⟨T2.set t (trayO [] (cutD ds none (some (-1))) p), ?_, fun k h1 h2 => by rw [List.getElem?_set_ne (Ne.symm h1), List.getElem?_set_ne (Ne.symm h1), List.getElem?_set_ne (Ne.symm h2)]⟩
  unfold d_Tray_undo
  rw [dFn_eq (np := 1) rfl, show frame 1 [.ref t] = ρ from rfl, dSeq_nx (dIfN c), dSeq_nx s2, s3]
  rfl
theorem say_undo {c t p : Nat} {rows ds : List D} (hc : S[c]? = some (conO t)) (ht : S[t]? = some (trayO rows ds p)) (hp : S[p]? = some (.lst [.tup []])) (hne : p ≠ t) : ∃ S', d_Console_say [.ref c, .str "undo"] S = .ok (.str "done") S' ∧ ∀ k : Nat, k ≠ t → k ≠ p → S'[k]? = S[k]? := by
  obtain ⟨S', hu, hk⟩ := undo85 ht hp hne
  refine ⟨S', ?_, hk⟩
  rw [say_def, dFn_eq (np := 2) rfl]
  refine say_start ?_
  have fc : ∀ ρ : En, ρ[0]? = some (fv (.ref c)) → dFld ["Console"] "tray" (dVar 0) ρ S = .ok (.ref t) S := fun ρ e => dFld_ok (S' := S) (x := .ref c) (by unfold dVar; rw [e]; rfl) (fld_con hc)
  rw [say_str, say_words (w := .lst [.str "undo"]) (by kernel_rfl), say_nums (n := .tup []) (by kernel_rfl), say_has, say_deed (d := .non) (by kernel_rfl), say_none, dSeq_nx (dIfN (S1 := S) (by kernel_rfl))]
  refine dRet_rt ((dIf_t (S1 := S) (by kernel_rfl)).trans ?_)
  refine (dCall_ok (S' := S) (xs := [.ref t, .str "undo"]) (dCons_ok (fc _ rfl) (dCons_ok (dOp_ok (x := .lst [.str "undo"]) (y := .int 0) (S1 := S) (S2 := S) rfl rfl (by kernel_rfl)) rfl))).trans ?_
  unfold d_said_of_word
  rw [dFn_eq (np := 2) rfl, show frame 2 [.ref t, .str "undo"] = [fv (.ref t), fv (.str "undo")] from rfl]
  have q : dCall d_said_of_undo (dCons (dVar 0) dNil) (fzE [fv (.ref t), fv (.str "undo")]) S = .ok (.str "done") S' := by
    refine (dCall_ok (S' := S) (xs := [.ref t]) rfl).trans ?_
    have m : dDrop (dMeth "Tray" "undo" d_Tray_undo (dVar 0) dNil) [fv (.ref t)] S = .nx [fv (.ref t)] S' := by
      refine dDrop_ok (d := .non) ?_
      unfold dMeth
      rw [show dVar 0 [fv (.ref t)] S = .ok (.ref t) S from rfl]
      simp only [Out.bind_ok, ht, trayO]
      rw [if_pos ⟨trivial, by rfl⟩, show dNil [fv (.ref t)] S = .ok [] S from rfl, Out.bind_ok, hu]
    unfold d_said_of_undo
    rw [dFn_eq (np := 1) rfl, show frame 1 [.ref t] = [fv (.ref t)] from rfl]
    unfold dSeq dTryM
    rw [m]
    rfl
  rw [dSeq_rt (dIfS_rt (S1 := S) (by kernel_rfl) q)]
  rfl
end
end DL

namespace DL
open PySem PySem.Spec PyProof.Rows L2
/-! ### the round -/
def fsR : List (XTab × HF) := [([("InvalidNumber", false), ("InvalidLine", true), ("NotATray", false), ("InvalidDeed", false), ("Barred", false), ("NothingToUndo", false)], hLine "line" 1 "given" ["InvalidLine"] [("InvalidLine", true)]), ([("InvalidNumber", false), ("InvalidLine", false), ("NotATray", true), ("InvalidDeed", false), ("Barred", false), ("NothingToUndo", false)], hLine "tray" 1 "given" ["NotATray"] [("NotATray", true)])]
def refR (gb : DE) : DE := dRef 0 ("_law_right", none) (lamQ ("_law_right", none)) 2 fsR gb
def sayE (a : DE) : DE := dMeth "Console" "say" d_Console_say (dVar 2) (dCons a dNil)
def ans85 : DE := dLst (dCons (sayE (dVar 5)) (dCons (sayE (dC (.str "things"))) (dCons (sayE (dC (.str "square 0 1"))) dNil)))
def told85 : DE := dLst (dCons (sayE (dC (.str "things"))) (dCons (sayE (dC (.str "square 0 1"))) dNil))
def cmp85 : DT := dTst (dOp (oEq true) (dCB oReprX (dCons (dPv 6) dNil)) (dCB oRepr (dCons (dOp oAdd (dLst (dCons (dC (.str "not understood")) dNil)) (dPv 3)) dNil)))
def bod85 : DS := dSeq (dSet 5 (dCall d__law_odd_line (dCons (dVar 0) dNil))) (dSeq (dSet 6 ans85) (dIfS cmp85 (dRet (dC (.bl false))) dNext))
def wish85 (k : Str) : DE := dLst (dCons (dC (.str k)) (dCons (dCB oReprX (dCons (dPv 7) dNil)) (dCons (dC (.bl true)) dNil)))
def bad1 : DT := dTst (dOp (oEq true) (refR (sayE (dVar 7))) (wish85 "line"))
def bad2 : DT := dTst (dOp (oEq true) (refR (dMake "Console" d_ConsoleU_initU (dCons (dVar 7) dNil))) (wish85 "tray"))
def bon85 : DS := dSeq (dIfS bad1 (dRet (dC (.bl false))) dNext) (dIfS bad2 (dRet (dC (.bl false))) dNext)
def thingsE : DE := dLst (dCons (dC .non) (dCons (dC (.int 5)) (dCons (dTup (dCons (dC (.str "ball")) dNil)) (dCons (dLst (dCons (dC (.str "ball")) dNil)) (dCons (dC (.bl true)) (dCons dDct dNil))))))
def do85 : DE := dMeth "Tray" "do" d_Tray_do (dVar 1) (dCons (dTup (dCons (dC (.str "put")) (dCons (dTup (dCons (dCall d__law_pick (dCons (dVar 0) (dCons (dLst (dCons (dC (.int 4)) (dCons (dC (.int 9)) dNil))) dNil))) dNil)) dNil))) dNil)
def end85E : DE := dAnd (dOp (oEq false) (dOp oIx (dPv 3) (dC (.int 0))) (dC (.str "2"))) (dAnd (dOp (oEq false) (dCB oLen (dCons (dFld ["Tray"] "deeds" (dVar 1)) dNil)) (dC (.int 1))) (dOp (oEq false) (sayE (dC (.str "undo"))) (dC (.str "done"))))
theorem right_def : d__law_right = dFn 1 8 (dSeq (dSet 1 (dMake "Tray" d_TrayU_initU dNil)) (dSeq (dDrop do85) (dSeq (dSet 2 (dMake "Console" d_ConsoleU_initU (dCons (dVar 1) dNil))) (dSeq (dSet 3 told85) (dSeq (dFor (dRng1 (dC (.int 40))) (.name 4) bod85) (dSeq (dFor (dItr thingsE) (.name 7) bon85) (dRet end85E))))))) := rfl
def fr6 (n : Nat) (z : Str) (a4 a5 a6 a7 : Option Sl) : En := [fv (.ref n), fv (.ref (n + 1)), fv (.ref (n + 3)), fv (.lst [.str "2", .str z]), a4, a5, a6, a7]
section
variable {n : Nat} {T S : Sto} {w y : List D} {x : Int} {z : Str} {a4 a5 a6 a7 : Option Sl}
theorem oStr85 (hz : (x = 4 ∧ z = "4") ∨ (x = 9 ∧ z = "9")) : oStr [.int x] S = .ok (.str z) S := by
  rcases hz with ⟨rfl, rfl⟩ | ⟨rfl, rfl⟩ <;> kernel_rfl
theorem sayE_ok {ρ : En} {a : DE} {l : D} {S1 : Sto} {d : D} (h : S85 n T w x) (h2 : ρ[2]? = some (fv (.ref (n + 3)))) (ha : a ρ T = .ok l T) (hs : d_Console_say [.ref (n + 3), l] T = .ok d S1) : sayE a ρ T = .ok d S1 :=
  (methC_ok (by decide) h.co (by unfold dVar; rw [h2]; rfl) (dCons_ok ha rfl)).trans hs
theorem told_ok {ρ : En} (hz : (x = 4 ∧ z = "4") ∨ (x = 9 ∧ z = "9")) (h : S85 n T w x) (h2 : ρ[2]? = some (fv (.ref (n + 3)))) : told85 ρ T = .ok (.lst [.str "2", .str z]) T :=
  dLst_ok (dCons_ok (sayE_ok h h2 rfl (say_things h.co h.ct)) (dCons_ok (sayE_ok h h2 rfl (say_square (oStr85 hz) h.co h.ct)) rfl)) (show 2 ≤ 1000 by decide)
theorem ans_ok {ρ : En} {l : Str} (hz : (x = 4 ∧ z = "4") ∨ (x = 9 ∧ z = "9")) (hl : l ∈ tab85) (h : S85 n T w x) (h2 : ρ[2]? = some (fv (.ref (n + 3)))) (h5 : ρ[5]? = some (fv (.str l))) : ans85 ρ T = .ok (.lst [.str "not understood", .str "2", .str z]) T :=
  dLst_ok (dCons_ok (sayE_ok h h2 (by unfold dVar; rw [h5]; rfl) (say_odd h.co h.ct (odd85 l hl))) (dCons_ok (sayE_ok h h2 rfl (say_things h.co h.ct)) (dCons_ok (sayE_ok h h2 rfl (say_square (oStr85 hz) h.co h.ct)) rfl))) (show 3 ≤ 1000 by decide)
theorem cmp_ok (hz : (x = 4 ∧ z = "4") ∨ (x = 9 ∧ z = "9")) : cmp85 (fr6 n z a4 a5 (fv (.lst [.str "not understood", .str "2", .str z])) a7) T = .ok false T := by
  rcases hz with ⟨rfl, rfl⟩ | ⟨rfl, rfl⟩ <;> kernel_rfl
theorem bod85_ok (hz : (x = 4 ∧ z = "4") ∨ (x = 9 ∧ z = "9")) (h : S85 n T w x) (hw : P3 w) : ∃ T' w' b5 b6, S85 n T' w' x ∧ P3 w' ∧ bod85 (fr6 n z a4 a5 a6 a7) T = .nx (fr6 n z a4 b5 b6 a7) T' := by
  obtain ⟨l, T1, d1, ⟨y, hy, rfl⟩, hl⟩ := line_ok (S0 := T) (by have := h.len; omega) (h.ps hw)
  have h1 : S85 n (T.set n (.lst y)) y x := h.put
  generalize T.set n (.lst y) = T1 at d1 h1
  refine ⟨T1, y, fv (.str l), fv (.lst [.str "not understood", .str "2", .str z]), h1, hy, ?_⟩
  unfold bod85
  have s1 : dSet 5 (dCall d__law_odd_line (dCons (dVar 0) dNil)) (fr6 n z a4 a5 a6 a7) T = .nx (fr6 n z a4 (fv (.str l)) a6 a7) T1 := dSet_ok ((dCall_ok (S' := T) (xs := [.ref n]) rfl).trans d1)
  have s2 : dSet 6 ans85 (fr6 n z a4 (fv (.str l)) a6 a7) T1 = .nx (fr6 n z a4 (fv (.str l)) (fv (.lst [.str "not understood", .str "2", .str z])) a7) T1 := dSet_ok (ans_ok hz hl h1 rfl rfl)
  rw [dSeq_nx s1, dSeq_nx s2]
  exact dIfN (cmp_ok hz)
/-! ### what is refused -/
structure Thing (d : D) (z : Str) (S : Sto) : Prop where
  s : d_is_string [d] S = .ok (.bl false) S
  r : oReprX [d] S = .ok (.str z) S
  t : d_check_tray [d] S = .exc "NotATray" (some ("given", d)) S
def eq85 (k z : Str) : Prop := ∀ S, oEq true (.lst [.str k, .str z, .bl true]) (.lst [.str k, .str z, .bl true]) S = .ok (.bl false) S
theorem say_not {c : Nat} {d : D} (h : d_is_string [d] T = .ok (.bl false) T) : d_Console_say [.ref c, d] T = .exc "InvalidLine" (some ("given", d)) T := by
  rw [say_def, dFn_eq (np := 2) rfl, show frame 5 [.ref c, d] = [fv (.ref c), fv d, none, none, none] from rfl]
  have e : eStr [fv (.ref c), fv d, none, none, none] T = .ex "InvalidLine" (some ("given", d)) [fv (.ref c), fv d, none, none, none] T := by
    unfold eStr
    rw [dIfS_ok (dNotT_ok (dTst_ok ((dCall_ok (S' := T) (xs := [d]) rfl).trans h)))]
    rfl
  unfold dSeq
  rw [e]
  rfl
theorem mk_not {d : D} (h : d_check_tray [d] (T ++ [.ins "Console" []]) = .exc "NotATray" (some ("given", d)) (T ++ [.ins "Console" []])) : mkD "Console" d_ConsoleU_initU [d] T = .exc "NotATray" (some ("given", d)) (T ++ [.ins "Console" []]) := by
  unfold mkD
  generalize T ++ [O.ins "Console" []] = T1 at h ⊢
  have e : d_ConsoleU_initU [.ref T.length, d] T1 = .exc "NotATray" (some ("given", d)) T1 := by
    unfold d_ConsoleU_initU
    rw [dFn_eq (np := 2) rfl, show frame 2 [.ref T.length, d] = [fv (.ref T.length), fv d] from rfl]
    have q : dDrop (dCall d_check_tray (dCons (dVar 1) dNil)) [fv (.ref T.length), fv d] T1 = .ex "NotATray" (some ("given", d)) [fv (.ref T.length), fv d] T1 := by
      unfold dDrop
      rw [(dCall_ok (S' := T1) (xs := [d]) rfl).trans h]
      rfl
    unfold dSeq
    rw [q]
    rfl
  rw [e]
  rfl
theorem tab_is (h : T[0]? = some tab85O) : isTab 0 ("_law_right", none) (lamQ ("_law_right", none)) T = true := by
  unfold isTab
  rw [h]
  unfold tab85O
  simp
theorem ref_line {ρ : En} {gb : DE} {d : D} {T1 : Sto} (ht : T[0]? = some tab85O) (hg : gb ρ T = .exc "InvalidLine" (some ("given", d)) T1) (hr : oReprX [d] T1 = .ok (.str z) T1) : refR gb ρ T = .ok (.lst [.str "line", .str z, .bl true]) T1 := by
  unfold refR dRef
  rw [if_pos (tab_is ht), hg]
  have e : goH fsR "InvalidLine" (some ("given", d)) (List.replicate 2 none) T1 = .rt (.lst [.str "line", .str z, .bl true]) T1 := by
    have q : goH fsR "InvalidLine" (some ("given", d)) (List.replicate 2 none) T1 = (match oReprX [d] T1 with | .ok z S' => .rt (.lst [.str "line", z, .bl true]) S' | _ => .bad) := by kernel_rfl
    rw [q, hr]
  simp only [e]
theorem ref_tray {ρ : En} {gb : DE} {d : D} {T1 : Sto} (ht : T[0]? = some tab85O) (hg : gb ρ T = .exc "NotATray" (some ("given", d)) T1) (hr : oReprX [d] T1 = .ok (.str z) T1) : refR gb ρ T = .ok (.lst [.str "tray", .str z, .bl true]) T1 := by
  unfold refR dRef
  rw [if_pos (tab_is ht), hg]
  have e : goH fsR "NotATray" (some ("given", d)) (List.replicate 2 none) T1 = .rt (.lst [.str "tray", .str z, .bl true]) T1 := by
    have q : goH fsR "NotATray" (some ("given", d)) (List.replicate 2 none) T1 = (match oReprX [d] T1 with | .ok z S' => .rt (.lst [.str "tray", z, .bl true]) S' | _ => .bad) := by kernel_rfl
    rw [q, hr]
  simp only [e]
theorem wish_ok {k z1 : Str} {d : D} (hr : oReprX [d] T = .ok (.str z1) T) : wish85 k (fr6 n z a4 a5 a6 (fv d)) T = .ok (.lst [.str k, .str z1, .bl true]) T :=
  dLst_ok (dCons_ok (S1 := T) rfl (dCons_ok ((dCB_ok (S' := T) (xs := [d]) rfl).trans hr) rfl)) (show 3 ≤ 1000 by decide)
theorem bon85_ok {d : D} {z1 : Str} (h : S85 n T w x) (e1 : eq85 "line" z1) (e2 : eq85 "tray" z1) (h1 : Thing d z1 T) (h2 : Thing d z1 (T ++ [.ins "Console" []])) : bon85 (fr6 n z a4 a5 a6 (fv d)) T = .nx (fr6 n z a4 a5 a6 (fv d)) (T ++ [.ins "Console" []]) := by
  have g1 : sayE (dVar 7) (fr6 n z a4 a5 a6 (fv d)) T = .exc "InvalidLine" (some ("given", d)) T := (methC_ok (xs := [d]) (by decide) h.co rfl rfl).trans (say_not h1.s)
  have c1 : bad1 (fr6 n z a4 a5 a6 (fv d)) T = .ok false T := dTst_ok (dOp_ok (ref_line h.tb g1 h1.r) (wish_ok h1.r) (e1 T))
  have m := mk_not h2.t
  have g2 : dMake "Console" d_ConsoleU_initU (dCons (dVar 7) dNil) (fr6 n z a4 a5 a6 (fv d)) T = .exc "NotATray" (some ("given", d)) (T ++ [.ins "Console" []]) := by
    unfold dMake
    rw [show dCons (dVar 7) dNil (fr6 n z a4 a5 a6 (fv d)) T = .ok [d] T from rfl]
    exact m
  generalize T ++ [O.ins "Console" []] = T1 at h2 g2 ⊢
  have c2 : bad2 (fr6 n z a4 a5 a6 (fv d)) T = .ok false T1 := dTst_ok (dOp_ok (ref_tray h.tb g2 h2.r) (wish_ok h2.r) (e2 T1))
  unfold bon85
  rw [dSeq_nx (dIfN c1)]
  exact dIfN c2
theorem thgo : ∀ (ds : List D) (T : Sto) (a7 : Option Sl), S85 n T w x → (∀ d ∈ ds, ∃ z1, eq85 "line" z1 ∧ eq85 "tray" z1 ∧ ∀ U, Thing d z1 (T ++ U)) → ∃ U b7, forGo (.name 7) bon85 ds (fr6 n z a4 a5 a6 a7) T = .nx (fr6 n z a4 a5 a6 b7) (T ++ U)
  | [], T, a7, h, _ => ⟨[], a7, by rw [List.append_nil]; rfl⟩
  | d :: ds, T, a7, h, hd => by
    obtain ⟨z1, e1, e2, ht⟩ := hd d List.mem_cons_self
    have st := bon85_ok (z := z) (a4 := a4) (a5 := a5) (a6 := a6) h e1 e2 (by simpa using ht []) (ht [.ins "Console" []])
    obtain ⟨U, b7, q⟩ := thgo ds (T ++ [.ins "Console" []]) (fv d) h.app fun e he => by
      obtain ⟨z2, f1, f2, f3⟩ := hd e (List.mem_cons_of_mem _ he)
      exact ⟨z2, f1, f2, fun U => by rw [List.append_assoc]; exact f3 _⟩
    refine ⟨[.ins "Console" []] ++ U, b7, ?_⟩
    unfold forGo
    rw [show Tgt.kv (.name 7) d = some [(7, d)] from rfl]
    simp only [show setE (fr6 n z a4 a5 a6 a7) [(7, d)] = fr6 n z a4 a5 a6 (fv d) from rfl, st]
    rw [q, List.append_assoc]
theorem thing_dct {q : Nat} (h : S[q]? = some .dct) : Thing (.ref q) "{}" S := by
  have tg : tagS S (.ref q) = some (.ty "dict") := by
    unfold tagS
    simp only [h]
  refine ⟨?_, ?_, ?_⟩
  · have e : oIsi (.ty "str") (tyTab "str") [.ref q, .ty "str"] S = .ok (.bl false) S := by
      unfold oIsi
      simp only [tg]
      kernel_rfl
    unfold d_is_string
    rw [dFn_eq (np := 1) rfl, show frame 1 [.ref q] = [fv (.ref q)] from rfl, dRet_rt ((dCB_ok (S' := S) (xs := [.ref q, .ty "str"]) rfl).trans e)]
    try rfl
  · unfold oReprX
    simp only [h]
    try rfl
  · have e : oIsi (.nm "Tray") (ownTab "Tray" ["NoneType", "bool", "int", "str", "tuple", "list", "dict"]) [.ref q, .nm "Tray"] S = .ok (.bl false) S := by
      unfold oIsi
      simp only [tg]
      kernel_rfl
    unfold d_check_tray
    rw [dFn_eq (np := 1) rfl, show frame 1 [.ref q] = [fv (.ref q)] from rfl]
    rw [dIfS_ok (dNotT_ok (dTst_ok ((dCB_ok (S' := S) (xs := [.ref q, .nm "Tray"]) rfl).trans e)))]
    rfl
theorem things_all {d : D} (hd : d ∈ ([.non, .int 5, .tup [.str "ball"], .lst [.str "ball"], .bl true, .ref T.length] : List D)) : ∃ z1, eq85 "line" z1 ∧ eq85 "tray" z1 ∧ ∀ U, Thing d z1 ((T ++ [.dct]) ++ U) := by
  simp only [List.mem_cons, List.mem_nil_iff, or_false] at hd
  rcases hd with rfl | rfl | rfl | rfl | rfl | rfl
  · exact ⟨"None", fun S => by kernel_rfl, fun S => by kernel_rfl, fun U => by generalize (T ++ [O.dct]) ++ U = V; exact ⟨by kernel_rfl, by kernel_rfl, by kernel_rfl⟩⟩
  · exact ⟨"5", fun S => by kernel_rfl, fun S => by kernel_rfl, fun U => by generalize (T ++ [O.dct]) ++ U = V; exact ⟨by kernel_rfl, by kernel_rfl, by kernel_rfl⟩⟩
  · exact ⟨"('ball',)", fun S => by kernel_rfl, fun S => by kernel_rfl, fun U => by generalize (T ++ [O.dct]) ++ U = V; exact ⟨by kernel_rfl, by kernel_rfl, by kernel_rfl⟩⟩
  · exact ⟨"['ball']", fun S => by kernel_rfl, fun S => by kernel_rfl, fun U => by generalize (T ++ [O.dct]) ++ U = V; exact ⟨by kernel_rfl, by kernel_rfl, by kernel_rfl⟩⟩
  · exact ⟨"True", fun S => by kernel_rfl, fun S => by kernel_rfl, fun U => by generalize (T ++ [O.dct]) ++ U = V; exact ⟨by kernel_rfl, by kernel_rfl, by kernel_rfl⟩⟩
  · refine ⟨"{}", fun S => by kernel_rfl, fun S => by kernel_rfl, fun U => thing_dct ?_⟩
    rw [List.append_assoc]
    rw [List.getElem?_append_right (Nat.le_refl _)]
    simp
end
end DL

namespace DL
open PySem PySem.Spec PyProof.Rows L2
section
variable {S : Sto} {w : List D}
theorem end85_ok {n : Nat} {T : Sto} {w : List D} {x : Int} {z : Str} {a4 a5 a6 a7 : Option Sl} (h : S85 n T w x) : ∃ T', dRet end85E (fr6 n z a4 a5 a6 a7) T = .rt (.bl true) T' ∧ T'[0]? = some tab85O := by
  obtain ⟨T', hu, hk⟩ := say_undo h.co h.ct h.cp (by omega)
  refine ⟨T', dRet_rt ?_, by rw [hk 0 (by omega) (by omega)]; exact h.tb⟩
  obtain ⟨ρ, hρ⟩ : ∃ ρ, ρ = fzE (fr6 n z a4 a5 a6 a7) := ⟨_, rfl⟩
  have r1 : ρ[1]? = some (fv (.ref (n + 1))) := by rw [hρ]; rfl
  have r2 : ρ[2]? = some (fv (.ref (n + 3))) := by rw [hρ]; rfl
  have r3 : ρ[3]? = some (fv (.lst [.str "2", .str z])) := by rw [hρ]; rfl
  rw [← hρ]
  have e1 : dOp (oEq false) (dOp oIx (dPv 3) (dC (.int 0))) (dC (.str "2")) ρ T = .ok (.bl true) T := by
    refine dOp_ok (x := .str "2") (y := .str "2") (S1 := T) (S2 := T) (dOp_ok (x := .lst [.str "2", .str z]) (y := .int 0) (S1 := T) (S2 := T) ?_ rfl (by kernel_rfl)) rfl (by kernel_rfl)
    unfold dPv
    rw [r3]
    rfl
  have e2 : dOp (oEq false) (dCB oLen (dCons (dFld ["Tray"] "deeds" (dVar 1)) dNil)) (dC (.int 1)) ρ T = .ok (.bl true) T := by
    refine dOp_ok (x := .int 1) (y := .int 1) (S1 := T) (S2 := T) ?_ rfl (by kernel_rfl)
    refine (dCB_ok (S' := T) (xs := [.tup [dd85 x]]) (dCons_ok (dFld_ok (S' := T) (x := .ref (n + 1)) ?_ (fld_deeds h.tr)) rfl)).trans (by kernel_rfl)
    unfold dVar
    rw [r1]
    rfl
  have e3 : dOp (oEq false) (sayE (dC (.str "undo"))) (dC (.str "done")) ρ T = .ok (.bl true) T' := dOp_ok (x := .str "done") (y := .str "done") (S1 := T') (S2 := T') (sayE_ok h r2 rfl hu) rfl (by kernel_rfl)
  unfold end85E dAnd
  rw [e1]
  simp only [Out.bind_ok]
  rw [e2]
  simp only [Out.bind_ok]
  exact e3
theorem right_ok (h0 : S[0]? = some tab85O) (hw : P3 w) : ∃ S', d__law_right [.ref S.length] (S ++ [.lst w]) = .ok (.bl true) S' ∧ S'[0]? = some tab85O := by
  have l0 : 0 < S.length := (List.getElem?_eq_some_iff.mp h0).1
  rw [right_def, dFn_eq (np := 1) rfl, show frame 8 [.ref S.length] = [fv (.ref S.length), none, none, none, none, none, none, none] from rfl]
  -- the tray
  have m1 := make_ok (S := S ++ [.lst w]) (ρ := [fv (.ref S.length), none, none, none, none, none, none, none])
  rw [show (S ++ [O.lst w]).length = S.length + 1 by simp, show (S ++ [O.lst w]) ++ [trayO [] [] (S.length + 1 + 1), .lst []] = S ++ [.lst w, trayO [] [] (S.length + 2), .lst []] by simp] at m1
  have g0 : (S ++ [O.lst w, trayO [] [] (S.length + 2), .lst []])[S.length]? = some (.lst w) := getElem_app 0
  have g1 : (S ++ [O.lst w, trayO [] [] (S.length + 2), .lst []])[S.length + 1]? = some (trayO [] [] (S.length + 2)) := getElem_app 1
  have ps : PS (S ++ [O.lst w, trayO [] [] (S.length + 2), .lst []]) S.length (S ++ [O.lst w, trayO [] [] (S.length + 2), .lst []]) := ⟨w, hw, (set_app (S := S) (T := [O.lst w, trayO [] [] (S.length + 2), .lst []]) 0 (O.lst w)).symm⟩
  obtain ⟨d, S2, q1, q2, ⟨y, hy, rfl⟩⟩ := ps.pick (n := S.length) (by simp) (ds := [.int 4, .int 9]) (by decide)
  obtain ⟨x, hx, rfl⟩ : ∃ x : Int, (x = 4 ∨ x = 9) ∧ d = .int x := by
    simp only [List.mem_cons, List.mem_nil_iff, or_false] at q2
    rcases q2 with rfl | rfl
    · exact ⟨4, .inl rfl, rfl⟩
    · exact ⟨9, .inr rfl, rfl⟩
  rw [show S.length = S.length + 0 from rfl, set_app (S := S) 0] at q1
  simp only [Nat.add_zero] at q1
  rw [show ([O.lst w, trayO [] [] (S.length + 2), .lst []] : Sto).set 0 (.lst y) = [.lst y, trayO [] [] (S.length + 2), .lst []] from rfl] at q1
  have t1 : (S ++ [O.lst y, trayO [] [] (S.length + 2), .lst []])[S.length + 1]? = some (trayO [] [] (S.length + 2)) := getElem_app 1
  have t2 : (S ++ [O.lst y, trayO [] [] (S.length + 2), .lst []])[S.length + 2]? = some (.lst []) := getElem_app 2
  have g := go85 hx t1 t2 (by omega)
  rw [set_app (S := S) 2, show ([O.lst y, trayO [] [] (S.length + 2), .lst []] : Sto).set 2 (.lst [.tup []]) = [.lst y, trayO [] [] (S.length + 2), .lst [.tup []]] from rfl, set_app (S := S) 1,
    show ([O.lst y, trayO [] [] (S.length + 2), .lst [.tup []]] : Sto).set 1 (trayO [.tup [.int x]] [dd85 x] (S.length + 2)) = [.lst y, trayO [.tup [.int x]] [dd85 x] (S.length + 2), .lst [.tup []]] from rfl] at g
  have s2 : dDrop do85 [fv (.ref S.length), fv (.ref (S.length + 1)), none, none, none, none, none, none] (S ++ [O.lst w, trayO [] [] (S.length + 2), .lst []]) = .nx [fv (.ref S.length), fv (.ref (S.length + 1)), none, none, none, none, none, none] (S ++ [.lst y, trayO [.tup [.int x]] [dd85 x] (S.length + 2), .lst [.tup []]]) := by
    have p : dCall d__law_pick (dCons (dVar 0) (dCons (dLst (dCons (dC (.int 4)) (dCons (dC (.int 9)) dNil))) dNil)) [fv (.ref S.length), fv (.ref (S.length + 1)), none, none, none, none, none, none] (S ++ [O.lst w, trayO [] [] (S.length + 2), .lst []]) = .ok (.int x) (S ++ [O.lst y, trayO [] [] (S.length + 2), .lst []]) :=
      (dCall_ok (S' := S ++ [O.lst w, trayO [] [] (S.length + 2), .lst []]) (xs := [.ref S.length, .lst [.int 4, .int 9]]) rfl).trans q1
    refine dDrop_ok ((meth_ok2 (xs := [dd85 x]) g1 rfl ?_).trans g)
    exact dCons_ok (dTup_ok (dCons_ok rfl (dCons_ok (dTup_ok (dCons_ok p rfl) (show 1 ≤ 1000 by decide)) rfl)) (show 2 ≤ 1000 by decide)) rfl
  rw [dSeq_nx (dSet_ok m1), show ([fv (.ref S.length), none, none, none, none, none, none, none] : En).set 1 (some (.val (.ref (S.length + 1)))) = [fv (.ref S.length), fv (.ref (S.length + 1)), none, none, none, none, none, none] from rfl, dSeq_nx s2]
  -- the console
  have t3 : (S ++ [O.lst y, trayO [.tup [.int x]] [dd85 x] (S.length + 2), .lst [.tup []]])[S.length + 1]? = some (trayO [.tup [.int x]] [dd85 x] (S.length + 2)) := getElem_app 1
  have k := mkC85 hx t3
  rw [show (S ++ [O.lst y, trayO [.tup [.int x]] [dd85 x] (S.length + 2), .lst [.tup []]]).length = S.length + 3 by simp, List.append_assoc] at k
  have h85 : S85 S.length (S ++ [O.lst y, trayO [.tup [.int x]] [dd85 x] (S.length + 2), .lst [.tup []], conO (S.length + 4), trayO [.tup [.int x]] [dd85 x] (S.length + 5), .lst [.tup []]]) y x :=
    ⟨by simp, l0, by rw [List.getElem?_append_left l0]; exact h0, getElem_app 0, getElem_app 1, getElem_app 3, getElem_app 4, getElem_app 5⟩
  have k : mkD "Console" d_ConsoleU_initU [.ref (S.length + 1)] (S ++ [O.lst y, trayO [.tup [.int x]] [dd85 x] (S.length + 2), .lst [.tup []]]) = .ok (.ref (S.length + 3)) (S ++ [O.lst y, trayO [.tup [.int x]] [dd85 x] (S.length + 2), .lst [.tup []], conO (S.length + 4), trayO [.tup [.int x]] [dd85 x] (S.length + 5), .lst [.tup []]]) := k
  generalize (S ++ [O.lst y, trayO [.tup [.int x]] [dd85 x] (S.length + 2), .lst [.tup []], conO (S.length + 4), trayO [.tup [.int x]] [dd85 x] (S.length + 5), .lst [.tup []]]) = T at k h85
  generalize (S ++ [O.lst y, trayO [.tup [.int x]] [dd85 x] (S.length + 2), .lst [.tup []]]) = Tq at k ⊢
  generalize S.length = n at k h85 ⊢
  have s3 : dSet 2 (dMake "Console" d_ConsoleU_initU (dCons (dVar 1) dNil)) [fv (.ref n), fv (.ref (n + 1)), none, none, none, none, none, none] Tq = .nx [fv (.ref n), fv (.ref (n + 1)), fv (.ref (n + 3)), none, none, none, none, none] T := by
    refine (dSet_ok (d := .ref (n + 3)) (S' := T) ?_)
    unfold dMake
    rw [show dCons (dVar 1) dNil [fv (.ref n), fv (.ref (n + 1)), none, none, none, none, none, none] Tq = .ok [.ref (n + 1)] Tq from rfl]
    exact k
  rw [dSeq_nx s3]
  obtain ⟨z, hz⟩ : ∃ z : Str, (x = 4 ∧ z = "4") ∨ (x = 9 ∧ z = "9") := by
    rcases hx with rfl | rfl
    · exact ⟨"4", .inl ⟨rfl, rfl⟩⟩
    · exact ⟨"9", .inr ⟨rfl, rfl⟩⟩
  have s4 : dSet 3 told85 [fv (.ref n), fv (.ref (n + 1)), fv (.ref (n + 3)), none, none, none, none, none] T = .nx (fr6 n z none none none none) T := dSet_ok (told_ok hz h85 rfl)
  rw [dSeq_nx s4]
  obtain ⟨ρ1, T1, l1, w1, b4, b5, b6, I1, hw1, rfl⟩ := forGo_inv (t := .name 4) (body := bod85) (fun _ ρ S' => ∃ w' b4 b5 b6, S85 n S' w' x ∧ P3 w' ∧ ρ = fr6 n z b4 b5 b6 none)
    (ds := rngD 0 40) (i := 0) (S := T) (ρ := fr6 n z none none none none) ⟨y, none, none, none, h85, hy, rfl⟩ (fun j d ρ S1 hd ⟨w', b4, b5, b6, p1, p2, e1⟩ => by
    subst e1
    obtain ⟨T2, w2, c5, c6, k1, k2, k3⟩ := bod85_ok (a4 := fv d) (a5 := b5) (a6 := b6) (a7 := none) hz p1 p2
    exact ⟨[(4, d)], _, _, rfl, k3, w2, _, _, _, k1, k2, rfl⟩)
  have f1 := (dFor_eq (t := .name 4) (body := bod85) (dRng1_eq (ρ := fr6 n z none none none none) (S := T) (S1 := T) (j := 40) (f := dC (.int 40)) rfl (by decide))).trans l1
  rw [dSeq_nx f1]
  have it : dItr thingsE (fr6 n z b4 b5 b6 none) T1 = .ok [.non, .int 5, .tup [.str "ball"], .lst [.str "ball"], .bl true, .ref T1.length] (T1 ++ [.dct]) := by kernel_rfl
  obtain ⟨U, b7, l2⟩ := thgo (x := x) (z := z) (a4 := b4) (a5 := b5) (a6 := b6) _ (T1 ++ [.dct]) none I1.app fun d hd => things_all (T := T1) hd
  have f2 := (dFor_eq (t := .name 7) (body := bon85) it).trans l2
  rw [dSeq_nx f2]
  obtain ⟨T', r1, r2⟩ := end85_ok (z := z) (a4 := b4) (a5 := b5) (a6 := b6) (a7 := b7) ((I1.app (U := [.dct])).app (U := U))
  rw [r1]
  exact ⟨T', rfl, r2⟩
/-! ### the rounds -/
theorem compGo_blP {P : Sto → Prop} {t : Tgt} {te : DE} {ρ : En} : ∀ {ds : List D} {S : Sto}, P S → (∀ d ∈ ds, ∀ S, P S → ∃ kvs S', t.kv d = some kvs ∧ te (setE ρ kvs) S = .ok (.bl true) S' ∧ P S') →
    ∃ S', compGo t dYes te ρ ds S = .ok (ds.map fun _ => .bl true) S'
  | [], S, _, _ => ⟨S, by simp [compGo]⟩
  | d :: ds, S, h, st => by
    obtain ⟨kvs, S1, h1, h2, h3⟩ := st d List.mem_cons_self S h
    obtain ⟨S2, q1⟩ := compGo_blP (ds := ds) (S := S1) h3 fun e he => st e (List.mem_cons_of_mem _ he)
    refine ⟨S2, ?_⟩
    rw [compGo_cons h1]
    simp [dYes, h2, q1]
theorem rounds_okP {P : Sto → Prop} {right pool : List D → Sto → Out D} {ns : List Int} (hn : ns.length ≤ 1000) (h : ∀ (t : Int) (S : Sto), P S → 0 ≤ t → t ≤ 100 → ∃ S' x S2, pool [.lst (ns.map .int), .int t] S = .ok x S' ∧ right [x] S' = .ok (.bl true) S2 ∧ P S2) {S : Sto} (hS : P S) :
    ∃ S', dFn 1 2 (dRet (dCB (oBls fun bs => bs.all id) (dCons (dFzL (dComp (dRng1 (dCB oMax2 (dCons (dC (.int 2)) (dCons (dCB oMin2 (dCons (dCB oLen (dCons (dPv 0) dNil)) (dCons (dC (.int 3)) dNil))) dNil)))) (.name 1) dYes (dCall right (dCons (dCall pool (dCons (dVar 0) (dCons (dVar 1) dNil))) dNil)) [1])) dNil))) [.lst (ns.map .int)] S = .ok (.bl true) S' := by
  let ρ : En := [some (.val (.lst (ns.map .int))), none]
  obtain ⟨k, k0, k1, hk⟩ : ∃ k : Int, 0 ≤ k ∧ k ≤ 100 ∧ dCB oMax2 (dCons (dC (.int 2)) (dCons (dCB oMin2 (dCons (dCB oLen (dCons (dPv 0) dNil)) (dCons (dC (.int 3)) dNil))) dNil)) ρ S = .ok (.int k) S := by
    refine ⟨if (if (3 : Int) < ns.length then (3 : Int) else ns.length) > 2 then (if (3 : Int) < ns.length then (3 : Int) else ns.length) else 2, ?_, ?_, ?_⟩
    · split <;> (try split) <;> omega
    · split <;> (try split) <;> omega
    · have e1 : dCB oLen (dCons (dPv 0) dNil) ρ S = .ok (.int ns.length) S := by
        show Out.ok (D.int (ns.map D.int).length) S = _
        rw [List.length_map]
      have e2 : dCB oMin2 (dCons (dCB oLen (dCons (dPv 0) dNil)) (dCons (dC (.int 3)) dNil)) ρ S = .ok (.int (if (3 : Int) < ns.length then (3 : Int) else ns.length)) S := (dCB_ok (op := oMin2) (xs := [.int ns.length, .int 3]) (dCons_ok e1 rfl)).trans rfl
      exact (dCB_ok (op := oMax2) (xs := [.int 2, .int (if (3 : Int) < ns.length then (3 : Int) else ns.length)]) (dCons_ok (S1 := S) rfl (dCons_ok e2 rfl))).trans rfl
  obtain ⟨S', c1⟩ := compGo_blP (P := P) (t := .name 1) (te := dCall right (dCons (dCall pool (dCons (dVar 0) (dCons (dVar 1) dNil))) dNil)) (ρ := wipeE ρ [1]) (ds := rngD 0 k.toNat) (S := S) hS (fun d hd S hS => by
    obtain ⟨i, hi, rfl⟩ := rngD_mem hd
    obtain ⟨S1, x, S2, p1, p2, p3⟩ := h (0 + i) S hS (by omega) (by omega)
    refine ⟨[(1, .int (0 + i))], S2, rfl, ?_, p3⟩
    have q : dCall pool (dCons (dVar 0) (dCons (dVar 1) dNil)) (setE (wipeE ρ [1]) [(1, .int (0 + (i : Int)))]) S = .ok x S1 := (dCall_ok (xs := [.lst (ns.map .int), .int (0 + i)]) rfl).trans p1
    exact (dCall_ok (dCons_ok q rfl)).trans p2)
  refine ⟨S', ?_⟩
  have c2 : dComp (dRng1 (dCB oMax2 (dCons (dC (.int 2)) (dCons (dCB oMin2 (dCons (dCB oLen (dCons (dPv 0) dNil)) (dCons (dC (.int 3)) dNil))) dNil)))) (.name 1) dYes (dCall right (dCons (dCall pool (dCons (dVar 0) (dCons (dVar 1) dNil))) dNil)) [1] ρ S = .ok ((rngD 0 k.toNat).map fun _ => .bl true) S' := by
    rw [dComp_eq (dRng1_eq hk (by omega)) (by rw [rngD_len]; omega)]
    exact c1
  have c3 : dCB (oBls fun bs => bs.all id) (dCons (dFzL (dComp (dRng1 (dCB oMax2 (dCons (dC (.int 2)) (dCons (dCB oMin2 (dCons (dCB oLen (dCons (dPv 0) dNil)) (dCons (dC (.int 3)) dNil))) dNil)))) (.name 1) dYes (dCall right (dCons (dCall pool (dCons (dVar 0) (dCons (dVar 1) dNil))) dNil)) [1])) dNil) (fzE ρ) S = .ok (.bl true) S' := by
    refine (dCB_ok (dCons_ok (dFzL_ok c2) rfl)).trans ?_
    simp only [oBls, lstS, bls_true, all_true]
  rw [dFn_eq (np := 1) rfl, show frame 2 [D.lst (ns.map .int)] = ρ from rfl, dRet_ok c3]
  rfl
end
theorem math (ns : List Int) (h1 : ns.length ≤ 63) (h2 : ∀ z ∈ ns, Builtin.Int.intBits z ≤ 1048576) : ∃ S', d_law [.lst (ns.map .int)] (S0 tfs) = .ok (.bl true) S' := by
  refine rounds_okP (P := fun S => S[0]? = some tab85O) (right := d__law_right) (pool := d__law_pool) (by omega) (fun t S hS t0 t1 => ?_) rfl
  obtain ⟨w, w1, w2⟩ := pool_ok (S := S) (ns := ns) (t := t) (by omega) ⟨t0, t1⟩
  obtain ⟨S2, r, r2⟩ := right_ok (S := S) hS w1
  exact ⟨_, _, S2, w2, r, r2⟩
end DL


namespace DL
open PySem PySem.Spec PyProof.Rows L2
/-! ## the head's run -/
theorem run0 (w : World) : HandSHeadRun.RunEqI R qv hk ob 20000 names (w.withFollow "special-get-raises" false) := by
  unfold HandSHeadRun.RunEqI
  kernel_rfl
theorem run1 (w : World) : HandSHeadRun.RunEqI R qv hk ob 20000 names (w.withFollow "special-get-raises" true) := by
  unfold HandSHeadRun.RunEqI
  kernel_rfl
theorem run (w : World) : HandSHeadRun.RunEqI R qv hk ob 20000 names w := PySem.W.byRow2 "special-get-raises" (P := fun w => HandSHeadRun.RunEqI R qv hk ob 20000 names w) run0 run1 w
/-! ## the end -/
theorem law_facts {w : World} {K : Frag} {h : Heap} {mg : Str → Option Value} {fa' : Addr} (X : K.In h) (TX : TabsX tfs K h) (G : h.Ns mainGlobals mg) (hfa : mg ("law" : Str) = some (.ref fa')) (c : SaysX fa fns tabs exs w K) :
    ∃ (K : Frag) (tf : List He.Defn) (fd : FuncData) (den : List D → Sto → Out D), K.In h ∧ TabsX tf K h ∧ (tf.map fun p => (He.cT K p).2).Nodup ∧ (∀ (s : Shared) (u : Value), BindsTo s fd ⟨[u], []⟩ [("script", u)]) ∧
        (∀ ns : List Int, ns.length ≤ 63 → (∀ z ∈ ns, Builtin.Int.intBits z ≤ 1048576) → ∃ S', den [.lst (ns.map .int)] (S0 tf) = .ok (.bl true) S') ∧
        ∀ base : Heap, K.In base → base.Ns mainGlobals mg → TBs K mg base tf → FnG rw_.prog w K mg base 15 fa' fd ["script"] (spD ⟨K, mg⟩ den) := by
  have T : GD fa fns tabs exs w K mg := ⟨⟨h, X, G⟩, c⟩
  have e := T.glo 107 (x := "law")
  rw [hfa] at e
  cases e
  exact ⟨K, tfs, fd_d_law T, d_law, X, TX, of_decide_eq_true (T.x 19), ba_d_law T, math, fun base _ _ TB => fg_d_law T TB⟩
end DL
open PySem PySem.W PySem.Calls PyProof.Rows
theorem PySem.Challenge.cw_squaresapart_k85_lines_not_understood_holds : PySem.Challenge.rw_squaresapart_k85_lines_not_understood.Holds := by
  w_on; o_law
  refine HandSHeadRun.head_imp (r := OpenLaw.row PySem.Challenge.rw_squaresapart_k85_lines_not_understood) (q := DL.qv) (H := DL.hk) (ob := DL.ob) (M := 20000) (loose := DL.names) (d := HandSHeadRun.topDef (OpenLaw.row PySem.Challenge.rw_squaresapart_k85_lines_not_understood).prog 121) (kwd := []) DL.ob_eq
    DL.run (by kernel_rfl) (by kernel_rfl) (by kernel_rfl) (by rfl) (by first | assumption | decide +kernel) (by decide +kernel) ⟨rfl, rfl, rfl, rfl, rfl, by decide +kernel⟩ ?hw ?hc
  case hw => w_witness2
  case hc =>
    refine DL.law_walkT (l := PySem.Challenge.rw_squaresapart_k85_lines_not_understood) (n := 63) (k := 15) (x := "script") rfl (by decide) (by kernel_rfl) ⟨rfl, by decide, by decide⟩ ?F
    intro w mg fa h Y G hmg0
    obtain ⟨K, KX, c, TX⟩ := Y
    have hmg : mg ("law" : PySem.Str) = some (.ref fa) := by
      have e : (HandSHeadRun.topDef (OpenLaw.row PySem.Challenge.rw_squaresapart_k85_lines_not_understood).prog 121).name = ("law" : PySem.Str) := by kernel_rfl
      rw [← e]
      exact hmg0
    exact DL.law_facts KX TX G hmg c

