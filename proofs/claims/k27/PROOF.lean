import PyProof.Rows.All
import Wide.All
import OpenK.AllK
import Wide.FinOn
import HandS.ForMost
import HandS.ForExc
import HandS.Lambda
import HandS.EndTab
import HandS.CallSlots
import HandS.Flow
import HandS.Style
import KE.KDictKeyed
import HandS.TupAny
import HandS.TupMul
import HandS.IsInst
import PyProof.StrBlock2
import HandS.WordsDict
import HandS.Walk
import HandS.Zip
import HandS.WordsExc
import KE.GoesEnum
import PyProof.SumAny
import KE.KDictZip
import HandS.ExcSuper
import HandS.TryOnly
import HandS.TryMany
import KE.KDictCopyH
import HandS.Spec
import KE.KNestM
import PySem.Challenge.RW_everypageset_k27_whole_folded_sheets
set_option Elab.async false
set_option linter.all false
section
set_option Elab.async false
set_option linter.all false
set_option maxRecDepth 100000
set_option maxHeartbeats 1000000
/-! PL0: data trees, how they lie in the abstract heap, frames, what a step may change. -/
namespace PL
open PySem PySem.Spec PyProof.Rows L2
/-- the built-in types that a program may ask for -/
inductive Ty where
  | non | bl | int | str | tup | lst | dic
  deriving DecidableEq
def Ty.name : Ty → String
  | .non => "NoneType" | .bl => "bool" | .int => "int" | .str => "str" | .tup => "tuple" | .lst => "list" | .dic => "dict"
/-- data: what a value is worth as long as nothing of it changes -/
inductive D where
  | non | bl (b : Bool) | int (i : Int) | str (x : Str) | ty (n : Ty) | ob (a : Addr)
  | tup (xs : List D) | lst (xs : List D) | dic (ks : List Key) (us : List D)
  /-- the script -/
  | scr (ns : List Int)
instance : Inhabited D := ⟨.non⟩
/-- a tuple of the written part -/
def WT (K : PySem.W.Frag) (a : Addr) (vs : List V) : Prop :=
  ∃ (o : Obj) (its : Array Value) (n : Nat), K.lookup a = some o ∧ o.cls = .type "tuple" ∧ o.data = .seq its n ∧ its.size ≤ sizeLine ∧ Vals vs its.toList
/-- a list of the written part -/
def WL (K : PySem.W.Frag) (a : Addr) (vs : List V) : Prop := ∀ H : Hp, SqL K H a vs
theorem WT.sq {K : PySem.W.Frag} {a : Addr} {vs : List V} {H : Hp} (h : WT K a vs) : SqT K H a vs := .inr h
mutual
/-- G: the addresses that never change again -/
inductive Rep (K : PySem.W.Frag) (H : Hp) (G : Addr → Prop) : D → V → Prop
  | non : Rep K H G .non .non
  | bl (b : Bool) : Rep K H G (.bl b) (.bl b)
  | int (i : Int) : Rep K H G (.int i) (.int i)
  | str (x : Str) : Rep K H G (.str x) (.str x)
  | ty (n : Ty) : Rep K H G (.ty n) (.ty n.name)
  | ob (a : Addr) : Rep K H G (.ob a) (.ref a)
  | tup {a : Addr} {vs : List V} {xs : List D} : G a → Rd H a (.tup vs) → Reps K H G xs vs → Rep K H G (.tup xs) (.ref a)
  | tupW {a : Addr} {vs : List V} {xs : List D} : WT K a vs → Reps K H G xs vs → Rep K H G (.tup xs) (.ref a)
  | lst {a : Addr} {vs : List V} {xs : List D} : G a → H a = some (.lst vs) → Reps K H G xs vs → Rep K H G (.lst xs) (.ref a)
  | dic {a : Addr} {ks : List Key} {vs : List V} {us : List D} : G a → H a = some (.dK (ks.zip vs)) → ks.length = vs.length → Reps K H G us vs → Rep K H G (.dic ks us) (.ref a)
  | scr {a : Addr} {o : Obj} {ns : List Int} : G a → H a = some (.frz o (.lst (ns.map V.int))) → Rep K H G (.scr ns) (.ref a)
  | scrW {a : Addr} {ns : List Int} : WL K a (ns.map V.int) → Rep K H G (.scr ns) (.ref a)
inductive Reps (K : PySem.W.Frag) (H : Hp) (G : Addr → Prop) : List D → List V → Prop
  | nil : Reps K H G [] []
  | cons {x : D} {v : V} {xs : List D} {vs : List V} : Rep K H G x v → Reps K H G xs vs → Reps K H G (x :: xs) (v :: vs)
end
/-- what never changes stays -/
structure Keeps (H : Hp) (G : Addr → Prop) (H' : Hp) (G' : Addr → Prop) : Prop where
  gg : ∀ a, G a → G' a
  keep : ∀ a o, G a → H a = some o → (∀ ps, o ≠ .tbl ps) → H' a = some o
section
variable {K : PySem.W.Frag} {H H' : Hp} {G G' : Addr → Prop}
theorem Keeps.rd (k : Keeps H G H' G') {a : Addr} {o : HO} (g : G a) (n : ∀ ps, o ≠ .tbl ps) (r : Rd H a o) : Rd H' a o := by
  rcases r with r | ⟨u, r⟩
  · exact .inl (k.keep a _ g r n)
  · exact .inr ⟨u, k.keep a _ g r (fun ps z => by cases z)⟩
mutual
theorem Rep.ext (k : Keeps H G H' G') : ∀ (x : D) (v : V), Rep K H G x v → Rep K H' G' x v
  | .non, _, h => by cases h; exact .non
  | .bl _, _, h => by cases h; exact .bl _
  | .int _, _, h => by cases h; exact .int _
  | .str _, _, h => by cases h; exact .str _
  | .ty _, _, h => by cases h; exact .ty _
  | .ob _, _, h => by cases h; exact .ob _
  | .scr _, _, h => by
    cases h with
    | scr g r => exact .scr (k.gg _ g) (k.keep _ _ g r (fun ps z => by cases z))
    | scrW w => exact .scrW w
  | .tup xs, _, h => by
    cases h with
    | tup g r s => exact .tup (k.gg _ g) (k.rd g (fun ps z => by cases z) r) (Reps.ext k xs _ s)
    | tupW w s => exact .tupW w (Reps.ext k xs _ s)
  | .lst xs, _, h => by
    cases h with
    | lst g r s => exact .lst (k.gg _ g) (k.keep _ _ g r (fun ps z => by cases z)) (Reps.ext k xs _ s)
  | .dic ks us, _, h => by
    cases h with
    | dic g r l s => exact .dic (k.gg _ g) (k.keep _ _ g r (fun ps z => by cases z)) l (Reps.ext k us _ s)
theorem Reps.ext (k : Keeps H G H' G') : ∀ (xs : List D) (vs : List V), Reps K H G xs vs → Reps K H' G' xs vs
  | [], _, h => by cases h; exact .nil
  | x :: xs, _, h => by
    cases h with
    | cons a b => exact .cons (Rep.ext k x _ a) (Reps.ext k xs _ b)
end
theorem Reps.length : ∀ {xs : List D} {vs : List V}, Reps K H G xs vs → xs.length = vs.length
  | _, _, .nil => rfl
  | _, _, .cons _ t => by rw [List.length_cons, List.length_cons, Reps.length t]
theorem Reps.get : ∀ {xs : List D} {vs : List V} {i : Nat} {x : D}, Reps K H G xs vs → xs[i]? = some x → ∃ v, vs[i]? = some v ∧ Rep K H G x v
  | _, _, _, _, .nil, e => by simp at e
  | _, _, 0, _, .cons r _, e => by simp at e; subst e; exact ⟨_, rfl, r⟩
  | _, _, i + 1, x, .cons _ t, e => by
    obtain ⟨u, h1, h2⟩ := Reps.get (i := i) (x := x) t (by simpa using e)
    exact ⟨u, by simpa using h1, h2⟩
theorem Reps.getV : ∀ {xs : List D} {vs : List V} {i : Nat} {v : V}, Reps K H G xs vs → vs[i]? = some v → ∃ x, xs[i]? = some x ∧ Rep K H G x v
  | _, _, _, _, .nil, e => by simp at e
  | _, _, 0, _, .cons r _, e => by simp at e; subst e; exact ⟨_, rfl, r⟩
  | _, _, i + 1, x, .cons _ t, e => by
    obtain ⟨u, h1, h2⟩ := Reps.getV (i := i) (v := x) t (by simpa using e)
    exact ⟨u, by simpa using h1, h2⟩
theorem Reps.append : ∀ {xs ys : List D} {vs ws : List V}, Reps K H G xs vs → Reps K H G ys ws → Reps K H G (xs ++ ys) (vs ++ ws)
  | _, _, _, _, .nil, s => s
  | _, _, _, _, .cons r t, s => .cons r (Reps.append t s)
theorem Reps.snoc {xs : List D} {vs : List V} {x : D} {v : V} (h : Reps K H G xs vs) (r : Rep K H G x v) : Reps K H G (xs ++ [x]) (vs ++ [v]) := h.append (.cons r .nil)
theorem Reps.take : ∀ {xs : List D} {vs : List V} (n : Nat), Reps K H G xs vs → Reps K H G (xs.take n) (vs.take n)
  | _, _, 0, _ => .nil
  | _, _, _ + 1, .nil => .nil
  | _, _, n + 1, .cons r t => .cons r (Reps.take n t)
theorem Reps.drop : ∀ {xs : List D} {vs : List V} (n : Nat), Reps K H G xs vs → Reps K H G (xs.drop n) (vs.drop n)
  | _, _, 0, r => r
  | _, _, _ + 1, .nil => .nil
  | _, _, n + 1, .cons _ t => Reps.drop n t
theorem Reps.set {x : D} {v : V} (r : Rep K H G x v) : ∀ {xs : List D} {vs : List V} (i : Nat), Reps K H G xs vs → Reps K H G (xs.set i x) (vs.set i v)
  | _, _, _, .nil => .nil
  | _, _, 0, .cons _ t => .cons r t
  | _, _, i + 1, .cons q t => .cons q (Reps.set r i t)
theorem Reps.eraseIdx : ∀ {xs : List D} {vs : List V} (i : Nat), Reps K H G xs vs → Reps K H G (xs.eraseIdx i) (vs.eraseIdx i)
  | _, _, _, .nil => .nil
  | _, _, 0, .cons _ t => t
  | _, _, i + 1, .cons q t => .cons q (Reps.eraseIdx i t)
theorem Reps.reverse {xs : List D} {vs : List V} (h : Reps K H G xs vs) : Reps K H G xs.reverse vs.reverse := by
  induction xs generalizing vs with
  | nil => cases h; exact .nil
  | cons x xs ih => cases h with
    | cons r t => rw [List.reverse_cons, List.reverse_cons]; exact (ih t).append (.cons r .nil)
theorem Reps.split : ∀ {xs ys : List D} {vs : List V}, Reps K H G (xs ++ ys) vs → ∃ us ws, vs = us ++ ws ∧ Reps K H G xs us ∧ Reps K H G ys ws
  | [], _, vs, h => ⟨[], vs, rfl, .nil, h⟩
  | x :: xs, ys, _, .cons r t => by
    obtain ⟨us, ws, e, a, b⟩ := Reps.split (xs := xs) t
    exact ⟨_ :: us, ws, by rw [e]; rfl, .cons r a, b⟩
theorem Reps.dropLast {xs : List D} {vs : List V} (h : Reps K H G xs vs) : Reps K H G xs.dropLast vs.dropLast := by
  rw [List.dropLast_eq_take, List.dropLast_eq_take, h.length]; exact h.take _
theorem Reps.flat {xs : List D} {vs : List V} (h : Reps K H G xs vs) : ∀ k : Nat, Reps K H G (List.replicate k xs).flatten (List.replicate k vs).flatten
  | 0 => .nil
  | k + 1 => by
    rw [List.replicate_succ, List.replicate_succ, List.flatten_cons, List.flatten_cons]
    exact h.append (h.flat k)
theorem Reps.ints : ∀ {ns : List Int} {vs : List V}, Reps K H G (ns.map D.int) vs → vs = ns.map V.int
  | [], _, .nil => rfl
  | n :: ns, _, .cons r t => by cases r; rw [Reps.ints t]; rfl
theorem Reps.ofInts : ∀ (ns : List Int), Reps K H G (ns.map D.int) (ns.map V.int)
  | [] => .nil
  | n :: ns => .cons (.int n) (Reps.ofInts ns)
theorem Reps.bls : ∀ {ns : List Bool} {vs : List V}, Reps K H G (ns.map D.bl) vs → vs = ns.map V.bl
  | [], _, .nil => rfl
  | n :: ns, _, .cons r t => by cases r; rw [Reps.bls t]; rfl
theorem Reps.strs : ∀ {ns : List Str} {vs : List V}, Reps K H G (ns.map D.str) vs → vs = ns.map V.str
  | [], _, .nil => rfl
  | n :: ns, _, .cons r t => by cases r; rw [Reps.strs t]; rfl
end
/-! ### keys that are tuples -/
mutual
def nkey : D → Option NestedKey
  | .non => some .none
  | .bl b => some (.num (if b = true then 1 else 0))
  | .int i => some (.num i)
  | .str x => some (.text x)
  | .tup xs => (nkeys xs).map .tup
  | _ => none
def nkeys : List D → Option (List NestedKey)
  | [] => some []
  | x :: xs => (nkey x).bind fun k => (nkeys xs).map fun ks => k :: ks
end
/-- the dict at a: its keys are tuples, each told by its key and where it stands -/
def NDict (P : Program) (w : World) (a : Addr) (xs : List (NestedKey × Addr × V)) : HO := .ext fun h => xs.length ≤ sizeLine ∧ (a == sysModules) = false ∧ (xs.map (·.1)).Nodup ∧
  ∃ ys : List (NestedKey × Addr × Value), Paired (fun p q => p.1 = q.1 ∧ p.2.1 = q.2.1 ∧ RelV p.2.2 q.2.2) xs ys ∧ ∃ (o : Obj) (es : Array DictEntry) (ep : Nat), h.get? a = some o ∧ o.ExactDict ∧ o.data = .dict es ep ∧ es.toList = ys.map (entryOfKey (nestedKind P w))
/-- its keys and values -/
inductive RepN (K : PySem.W.Frag) (H : Hp) (G : Addr → Prop) : List (D × D) → List (NestedKey × Addr × V) → Prop
  | nil : RepN K H G [] []
  | cons {kd vd : D} {k : NestedKey} {b : Addr} {v : V} {xs : List (D × D)} {ys : List (NestedKey × Addr × V)} : nkey kd = some k → k.depth ≤ 8 → Rep K H G kd (.ref b) → Rep K H G vd v → RepN K H G xs ys → RepN K H G ((kd, vd) :: xs) ((k, b, v) :: ys)
theorem RepN.ext {K : PySem.W.Frag} {H H' : Hp} {G G' : Addr → Prop} (k : Keeps H G H' G') : ∀ {xs : List (D × D)} {ys : List (NestedKey × Addr × V)}, RepN K H G xs ys → RepN K H' G' xs ys
  | _, _, .nil => .nil
  | _, _, .cons e d r q t => .cons e d (Rep.ext k _ _ r) (Rep.ext k _ _ q) (RepN.ext k t)
/-! ### what a slot holds -/
structure Deck where
  at_ : Addr
  lf : Addr
  left : List Int
  mixed : Int
  draws : Int
/-- frozen data, an owned list, an owned dict (its keys ints and texts), the deck -/
inductive O where
  | d (x : D) | ol (xs : List D) | od (ks : List Key) (us : List D) | dk (s : Deck)
  /-- an owned dict whose keys are tuples -/
  | on (P : Program) (w : World) (kvs : List (D × D))
instance : Inhabited O := ⟨.d .non⟩
def kLeft : Key := .inr (Str.ofString "left")
def kMixed : Key := .inr (Str.ofString "mixed")
def kDraws : Key := .inr (Str.ofString "draws")
/-- F: the addresses that may change by it -/
def RelO (K : PySem.W.Frag) (H : Hp) (G : Addr → Prop) : O → V → List Addr → Prop
  | .d x, v, F => Rep K H G x v ∧ F = []
  | .ol xs, v, F => ∃ a vs, v = .ref a ∧ H a = some (.lst vs) ∧ Reps K H G xs vs ∧ F = [a]
  | .od ks us, v, F => ∃ a vs, v = .ref a ∧ H a = some (.dK (ks.zip vs)) ∧ ks.length = vs.length ∧ Reps K H G us vs ∧ F = [a]
  | .dk s, v, F => v = .ref s.at_ ∧ H s.at_ = some (.dK [(kLeft, .ref s.lf), (kMixed, .int s.mixed), (kDraws, .int s.draws)]) ∧ H s.lf = some (.lst (s.left.map V.int)) ∧ F = [s.at_, s.lf]
  | .on P w kvs, v, F => ∃ a xs, v = .ref a ∧ H a = some (NDict P w a xs) ∧ RepN K H G kvs xs ∧ F = [a]
abbrev Fr := List (Option O)
def RelF (K : PySem.W.Frag) (H : Hp) (G : Addr → Prop) : Fr → L2.St → List Addr → Prop
  | [], _, F => F = []
  | _ :: _, [], _ => False
  | none :: Γ, _ :: σ, F => RelF K H G Γ σ F
  | some o :: Γ, s :: σ, F => ∃ v F1 F2, s = some v ∧ RelO K H G o v F1 ∧ RelF K H G Γ σ F2 ∧ F = F1 ++ F2
/-- what stands all the time: the top's tuples, the script (st, with why it stays); the code tables of the lambdas -/
structure Zone where
  st : Hp → (Addr → Prop) → Prop
  stab : ∀ H G H' G', st H G → Keeps H G H' G' → st H' G'
  tb : List (Addr × Str)
structure Good (Z : Zone) (H : Hp) (G : Addr → Prop) (F : List Addr) : Prop where
  nd : F.Nodup
  ng : ∀ a ∈ F, ¬ G a
  gh : ∀ a, G a → ∃ o, H a = some o ∧ ∀ ps, o ≠ .tbl ps
  fh : ∀ a ∈ F, ∃ o, H a = some o ∧ ∀ ps, o ≠ .tbl ps
  st : Z.st H G
  tb : LamX.Tabs Z.tb H
/-- new, as far as it matters (or a table of code) -/
def Nw (H : Hp) (a : Addr) : Prop := ∀ o, H a = some o → ∃ ps, o = .tbl ps
theorem Nw.of {H : Hp} {a : Addr} (h : H a = none) : Nw H a := fun o e => by rw [h] at e; cases e
theorem Nw.no {H : Hp} {a : Addr} {o : HO} (n : Nw H a) (h : H a = some o) (t : ∀ ps, o ≠ .tbl ps) : False := let ⟨ps, e⟩ := n o h; t ps e
/-- a step: what it may change is F and what is new -/
structure Ext (H : Hp) (G : Addr → Prop) (F : List Addr) (H' : Hp) (G' : Addr → Prop) : Prop where
  gg : ∀ a, G a → G' a
  keep : ∀ a o, H a = some o → a ∉ F → (∀ ps, o ≠ .tbl ps) → H' a = some o
  new : ∀ a, G' a → G a ∨ a ∈ F ∨ Nw H a
  there : ∀ a, Nw H' a → Nw H a
section
variable {K : PySem.W.Frag} {Z : Zone} {H H' H1 H2 : Hp} {G G' G1 G2 : Addr → Prop} {F F' F1 F2 Fo R : List Addr}
theorem Ext.refl : Ext H G F H G := ⟨fun _ h => h, fun _ _ h _ _ => h, fun _ h => .inl h, fun _ h => h⟩
theorem Ext.keeps (e : Ext H G F H' G') (n : ∀ a ∈ F, ¬ G a) : Keeps H G H' G' := ⟨e.gg, fun a o g h t => e.keep a o h (fun z => n a z g) t⟩
theorem Ext.trans (e1 : Ext H G F H1 G1) (s : ∀ a ∈ F1, a ∈ F ∨ Nw H a) (e2 : Ext H1 G1 F1 H2 G2) : Ext H G F H2 G2 where
  gg := fun a h => e2.gg a (e1.gg a h)
  keep := fun a o h n t => e2.keep a o (e1.keep a o h n t) (fun z => (s a z).elim n fun q => q.no h t) t
  new := fun a h => (e2.new a h).elim (e1.new a) fun z => z.elim (fun z => .inr (s a z)) fun z => .inr (.inr (e1.there a z))
  there := fun a h => e1.there a (e2.there a h)
theorem Ext.mono (e : Ext H G F H1 G1) (s : ∀ a ∈ F, a ∈ F' ∨ Nw H a) : Ext H G F' H1 G1 where
  gg := e.gg
  keep := fun a o h n t => e.keep a o h (fun z => (s a z).elim n fun q => q.no h t) t
  new := fun a h => (e.new a h).elim .inl fun z => z.elim (fun z => .inr (s a z)) fun z => .inr (.inr z)
  there := e.there
theorem RelO.ext {o : O} {v : V} (e : Ext H G F H' G') (n : ∀ a ∈ F, ¬ G a) (dj : ∀ a ∈ Fo, a ∉ F) (h : RelO K H G o v Fo) : RelO K H' G' o v Fo := by
  have k := e.keeps n
  cases o with
  | d x => exact ⟨Rep.ext k _ _ h.1, h.2⟩
  | ol xs =>
    obtain ⟨a, vs, rfl, h1, h2, rfl⟩ := h
    exact ⟨a, vs, rfl, e.keep a _ h1 (dj a (by simp)) (fun ps z => by cases z), Reps.ext k _ _ h2, rfl⟩
  | od ks us =>
    obtain ⟨a, vs, rfl, h1, l, h2, rfl⟩ := h
    exact ⟨a, vs, rfl, e.keep a _ h1 (dj a (by simp)) (fun ps z => by cases z), l, Reps.ext k _ _ h2, rfl⟩
  | dk s =>
    obtain ⟨rfl, h1, h2, rfl⟩ := h
    exact ⟨rfl, e.keep s.at_ _ h1 (dj _ (by simp)) (fun ps z => by cases z), e.keep s.lf _ h2 (dj _ (by simp)) (fun ps z => by cases z), rfl⟩
  | on P w kvs =>
    obtain ⟨a, xs, rfl, h1, h2, rfl⟩ := h
    exact ⟨a, xs, rfl, e.keep a _ h1 (dj a (by simp)) (fun ps z => by cases z), RepN.ext k h2, rfl⟩
theorem RelF.ext {Γ : Fr} {σ : L2.St} (e : Ext H G F H' G') (n : ∀ a ∈ F, ¬ G a) (dj : ∀ a ∈ Fo, a ∉ F) (h : RelF K H G Γ σ Fo) : RelF K H' G' Γ σ Fo := by
  induction Γ generalizing σ Fo with
  | nil => exact h
  | cons x Γ ih =>
    cases σ with
    | nil => cases x <;> exact False.elim h
    | cons s σ =>
      cases x with
      | none => exact ih dj h
      | some o =>
        obtain ⟨v, A, B, hs, ho, hf, rfl⟩ := h
        exact ⟨v, A, B, hs, ho.ext e n (fun a ha => dj a (List.mem_append_left _ ha)), ih (fun a ha => dj a (List.mem_append_right _ ha)) hf, rfl⟩
/-- temporaries stay while a step goes on with the rest -/
theorem Good.frame (g : Good Z H G (Fo ++ F)) (e : Ext H G F H' G') (g' : Good Z H' G' R) (s : ∀ a ∈ R, a ∈ F ∨ Nw H a) : Good Z H' G' (Fo ++ R) := by
  obtain ⟨n1, n2, n3⟩ := List.nodup_append.mp g.nd
  have fo : ∀ a ∈ Fo, ∃ o, H a = some o ∧ ∀ ps, o ≠ .tbl ps := fun a ha => g.fh a (List.mem_append_left _ ha)
  have nf : ∀ a ∈ Fo, a ∉ F := fun a ha hb => n3 a ha a hb rfl
  refine ⟨List.nodup_append.mpr ⟨n1, g'.nd, fun a ha b hb z => ?_⟩, fun a ha hg => ?_, g'.gh, fun a ha => ?_, g'.st, g'.tb⟩
  · subst z
    rcases s a hb with q | q
    · exact nf a ha q
    · obtain ⟨o, q', t⟩ := fo a ha
      exact q.no q' t
  · rcases List.mem_append.mp ha with ha | ha
    · rcases e.new a hg with q | q | q
      · exact g.ng a (List.mem_append_left _ ha) q
      · exact nf a ha q
      · obtain ⟨o, q', t⟩ := fo a ha
        exact (q.no q' t).elim
    · exact g'.ng a ha hg
  · rcases List.mem_append.mp ha with ha | ha
    · obtain ⟨o, q', t⟩ := fo a ha
      exact ⟨o, e.keep a o q' (nf a ha) t, t⟩
    · exact g'.fh a ha
theorem Good.right (g : Good Z H G (Fo ++ F)) : Good Z H G F :=
  ⟨(List.nodup_append.mp g.nd).2.1, fun a ha => g.ng a (List.mem_append_right _ ha), g.gh, fun a ha => g.fh a (List.mem_append_right _ ha), g.st, g.tb⟩
theorem Good.left (g : Good Z H G (Fo ++ F)) : Good Z H G Fo :=
  ⟨(List.nodup_append.mp g.nd).1, fun a ha => g.ng a (List.mem_append_left _ ha), g.gh, fun a ha => g.fh a (List.mem_append_left _ ha), g.st, g.tb⟩
theorem Good.apart (g : Good Z H G (Fo ++ F)) : ∀ a ∈ Fo, a ∉ F := fun a ha hb => (List.nodup_append.mp g.nd).2.2 a ha a hb rfl
theorem Good.sub (g : Good Z H G F) (nd : F'.Nodup) (s : ∀ a ∈ F', a ∈ F) : Good Z H G F' :=
  ⟨nd, fun a ha => g.ng a (s a ha), g.gh, fun a ha => g.fh a (s a ha), g.st, g.tb⟩
theorem Good.perm (g : Good Z H G F) (p : F.Perm F') : Good Z H G F' := g.sub (p.nodup_iff.mp g.nd) fun a ha => p.mem_iff.mpr ha
end
end PL
end
section
set_option Elab.async false
set_option maxRecDepth 100000
set_option linter.all false
set_option maxHeartbeats 1000000
/-! PL1: what a piece of code computes: results, readings, composition. -/
namespace PL
open PySem PySem.Spec PyProof.Rows L2
abbrev Sl := L2.St
inductive Res (α : Type) where
  | ok (a : α) (Γ : Fr)
  | err (x : Str) (d : D) (Γ : Fr)
  | stuck
abbrev M (α : Type) := Fr → Res α
def Res.bind {α β : Type} (r : Res α) (k : α → Fr → Res β) : Res β := match r with
  | .ok a Γ1 => k a Γ1
  | .err x d Γ1 => .err x d Γ1
  | .stuck => .stuck
def M.bind {α β : Type} (m : M α) (k : α → M β) : M β := fun Γ => (m Γ).bind k
def M.pure {α : Type} (a : α) : M α := fun Γ => .ok a Γ
def M.map {α β : Type} (f : α → β) (m : M α) : M β := fun Γ => (m Γ).bind fun a Γ1 => .ok (f a) Γ1
def M.pair {α β : Type} (a : M α) (b : M β) : M (α × β) := fun Γ => (a Γ).bind fun x Γ1 => (b Γ1).bind fun y Γ2 => .ok (x, y) Γ2
/-- a reading that yields β -/
abbrev TR (β : Type) := Sl → Hp → (β → Hp → Prop) → Prop
/-- how a result is borne: what it is, its value, slots, heap, frozen, its own addresses -/
abbrev RRel (α β : Type) := α → β → Sl → Hp → (Addr → Prop) → List Addr → Prop
def ExR (X : Cx) (H : Hp) (G : Addr → Prop) (x : Str) (d : D) (cls : Value) (dd : Option Addr) : Prop :=
  ∃ C a v, X.mg x = some (.ref C) ∧ cls = .ref C ∧ dd = some a ∧ H a = some (.xd [(Str.ofString "thing", v)]) ∧ G a ∧ Rep X.K H G d v
structure Aft (Z : Zone) (X : Cx) (σ : Sl) (H : Hp) (G : Addr → Prop) (F : List Addr) (Γ' : Fr) (H' : Hp) (G' : Addr → Prop) (Fo F' : List Addr) : Prop where
  rel : RelF X.K H' G' Γ' σ F'
  good : Good Z H' G' (Fo ++ F')
  ext : Ext H G F H' G'
  sub : ∀ a ∈ Fo ++ F', a ∈ F ∨ Nw H a
/-- what a result asks of a reading -/
def EG {α β : Type} (Z : Zone) (X : Cx) (σ : Sl) (H : Hp) (G : Addr → Prop) (F : List Addr) (W : WX) (RR : RRel α β) (t : TR β) : Res α → Prop
  | .ok a Γ' => ∀ Q : β → Hp → Prop, (∀ v H' G' Fo F', RR a v σ H' G' Fo → Aft Z X σ H G F Γ' H' G' Fo F' → Q v H') → t σ H Q
  | .err x d Γ' => (∀ cls dd H' G' F', ExR X H' G' x d cls dd → Aft Z X σ H G F Γ' H' G' [] F' → W cls dd σ H') → ∀ Q, t σ H Q
  | .stuck => True
end PL
namespace PL
open PySem PySem.Spec PyProof.Rows L2
section
variable {Z : Zone} {X : Cx} {σ : Sl} {H H1 : Hp} {G G1 : Addr → Prop} {F F1 Fo : List Addr} {W : WX} {α β γ δ : Type}
structure Stable (RR : RRel α β) : Prop where
  go : ∀ {a v σ H G Fo H' G' F}, RR a v σ H G Fo → Ext H G F H' G' → (∀ a ∈ F, ¬ G a) → (∀ a ∈ Fo, a ∉ F) → RR a v σ H' G' Fo
/-- from any frame -/
def Does (Z : Zone) (X : Cx) (W : WX) (RR : RRel α β) (t : TR β) (m : M α) : Prop :=
  ∀ Γ σ H G F, RelF X.K H G Γ σ F → Good Z H G F → EG Z X σ H G F W RR t (m Γ)
/-- with a result in hand -/
def DoesK (Z : Zone) (X : Cx) (W : WX) (RR : RRel α β) (RR' : RRel γ δ) (a : α) (tk : β → TR δ) (k : M γ) : Prop :=
  ∀ v Γ σ H G Fo F, RR a v σ H G Fo → RelF X.K H G Γ σ F → Good Z H G (Fo ++ F) → EG Z X σ H G (Fo ++ F) W RR' (tk v) (k Γ)
/-- a step seen from further back -/
theorem EG.from {RR : RRel α β} {t : TR β} {r : Res α} (e : Ext H G F H1 G1) (s : ∀ a ∈ F1, a ∈ F ∨ Nw H a) (h : EG Z X σ H1 G1 F1 W RR t r) :
    EG Z X σ H G F W RR (fun σ' _ Q => t σ' H1 Q) r := by
  cases r with
  | stuck => trivial
  | ok a Γ' =>
    intro Q hq
    refine h Q fun v H' G' Fo F' hr ha => hq v H' G' Fo F' hr ⟨ha.rel, ha.good, e.trans s ha.ext, fun b hb => ?_⟩
    rcases ha.sub b hb with z | z
    · exact s b z
    · exact .inr (e.there b z)
  | err x d Γ' =>
    intro hW Q
    refine h (fun cls dd H' G' F' hx ha => hW cls dd H' G' F' hx ⟨ha.rel, ha.good, e.trans s ha.ext, fun b hb => ?_⟩) Q
    rcases ha.sub b hb with z | z
    · exact s b z
    · exact .inr (e.there b z)
/-- one after another -/
theorem EG.bind {RR : RRel α β} {RR' : RRel γ δ} {t : TR β} {tk : β → TR δ} {k : α → M γ} {r : Res α} (h : EG Z X σ H G F W RR t r)
    (hk : ∀ a, DoesK Z X W RR RR' a tk (k a)) : EG Z X σ H G F W RR' (fun σ H Q => t σ H fun v H1 => tk v σ H1 Q) (r.bind k) := by
  cases r with
  | stuck => trivial
  | err x d Γ' =>
    intro hW Q
    exact h hW _
  | ok a Γ1 =>
    show EG Z X σ H G F W RR' (fun σ H Q => t σ H fun v H1 => tk v σ H1 Q) (k a Γ1)
    cases ek : k a Γ1 with
    | stuck => trivial
    | ok b Γ2 =>
      intro Q hq
      refine h _ fun v H' G' Fo F' hr ha => ?_
      have z := (hk a v Γ1 σ H' G' Fo F' hr ha.rel ha.good).from ha.ext ha.sub
      rw [ek] at z
      exact z Q hq
    | err x d Γ2 =>
      intro hW Q
      refine h _ fun v H' G' Fo F' hr ha => ?_
      have z := (hk a v Γ1 σ H' G' Fo F' hr ha.rel ha.good).from ha.ext ha.sub
      rw [ek] at z
      exact z hW Q
/-- two in a row: the first stays while the second runs -/
def RRp (RA : RRel α β) (RB : RRel γ δ) : RRel (α × γ) (β × δ) := fun a v σ H G Fo => ∃ F1 F2, RA a.1 v.1 σ H G F1 ∧ RB a.2 v.2 σ H G F2 ∧ Fo = F1 ++ F2
def tPair (ta : TR β) (tb : TR δ) : TR (β × δ) := fun σ H Q => ta σ H fun u H1 => tb σ H1 fun v H2 => Q (u, v) H2
theorem RRp.stable {RA : RRel α β} {RB : RRel γ δ} (sa : Stable RA) (sb : Stable RB) : Stable (RRp RA RB) := by
  constructor
  rintro ⟨a, c⟩ ⟨u, v⟩ σ H G Fo H' G' F ⟨F1, F2, h1, h2, rfl⟩ e n dj
  exact ⟨F1, F2, sa.go h1 e n (fun a ha => dj a (List.mem_append_left _ ha)), sb.go h2 e n (fun a ha => dj a (List.mem_append_right _ ha)), rfl⟩
theorem DoesK.pair {RA : RRel α β} {RB : RRel γ δ} {tb : TR δ} {mb : M γ} (sa : Stable RA) (hb : Does Z X W RB tb mb) (a : α) :
    DoesK Z X W RA (RRp RA RB) a (fun u σ H Q => tb σ H fun v H2 => Q (u, v) H2) (fun Γ => (mb Γ).bind fun y Γ2 => .ok (a, y) Γ2) := by
  intro v Γ σ H G Fo F hr hf hg
  have hb' := hb Γ σ H G F hf hg.right
  dsimp only
  cases e : mb Γ with
  | stuck => trivial
  | err x d Γ2 =>
    rw [e] at hb'
    intro hW Q
    refine hb' (fun cls dd H' G' F' hx ah => hW cls dd H' G' F' hx ⟨ah.rel, ah.good, ah.ext.mono fun a ha => .inl (List.mem_append_right _ ha), fun b hb => ?_⟩) _
    exact (ah.sub b hb).imp (List.mem_append_right _) id
  | ok c Γ2 =>
    rw [e] at hb'
    intro Q hq
    refine hb' _ fun u H' G' Fu F' hu ah => ?_
    have ng : ∀ a ∈ F, ¬ G a := fun a ha => hg.ng a (List.mem_append_right _ ha)
    refine hq (v, u) H' G' (Fo ++ Fu) F' ⟨Fo, Fu, sa.go hr ah.ext ng hg.apart, hu, rfl⟩ ⟨ah.rel, ?_, ah.ext.mono fun a ha => .inl (List.mem_append_right _ ha), fun b hb => ?_⟩
    · rw [List.append_assoc]
      exact hg.frame ah.ext ah.good ah.sub
    · rw [List.append_assoc] at hb
      rcases List.mem_append.mp hb with z | z
      · exact .inl (List.mem_append_left _ z)
      · exact (ah.sub b z).imp (List.mem_append_right _) id
theorem Does.pair {RA : RRel α β} {RB : RRel γ δ} {ta : TR β} {tb : TR δ} {ma : M α} {mb : M γ} (sa : Stable RA) (ha : Does Z X W RA ta ma) (hb : Does Z X W RB tb mb) :
    Does Z X W (RRp RA RB) (tPair ta tb) (M.pair ma mb) := fun Γ σ H G F hf hg =>
  EG.bind (tk := fun u σ H Q => tb σ H fun v H2 => Q (u, v) H2) (ha Γ σ H G F hf hg) fun a => DoesK.pair sa hb a
theorem Does.bind {RR : RRel α β} {RR' : RRel γ δ} {t : TR β} {tk : β → TR δ} {k : α → M γ} {m : M α} (h : Does Z X W RR t m) (hk : ∀ a, DoesK Z X W RR RR' a tk (k a)) :
    Does Z X W RR' (fun σ H Q => t σ H fun v H1 => tk v σ H1 Q) (m.bind k) := fun Γ σ H G F hf hg => EG.bind (h Γ σ H G F hf hg) hk
/-! ### the kinds of results -/
/-- a value of its own -/
def RO (X : Cx) : RRel O V := fun o v _ H G Fo => RelO X.K H G o v Fo
theorem RO.stable : Stable (RO X) := ⟨fun h e n dj => RelO.ext e n dj h⟩
/-- an operand: a value, or the name of a slot -/
inductive Opd where
  | sol (o : O) | bor (i : Nat)
def RP (X : Cx) : RRel Opd V := fun p v σ H G Fo => match p with
  | .sol o => RelO X.K H G o v Fo
  | .bor i => σ[i]? = some (some v) ∧ Fo = []
theorem RP.stable : Stable (RP X) := by
  constructor
  intro p v σ H G Fo H' G' F h e n dj
  cases p with
  | sol o => exact RelO.ext (o := o) (v := v) e n dj h
  | bor i => exact h
/-- a truth -/
def RB : RRel Bool Bool := fun b c _ _ _ Fo => b = c ∧ Fo = []
theorem RB.stable : Stable RB := ⟨fun h _ _ _ => h⟩
/-- frozen data -/
def RD (X : Cx) : RRel D V := fun x v _ H G Fo => Rep X.K H G x v ∧ Fo = []
theorem RD.stable : Stable (RD X) := ⟨fun h e n _ => ⟨Rep.ext (e.keeps n) _ _ h.1, h.2⟩⟩
def RDs (X : Cx) : RRel (List D) (List V) := fun x v _ H G Fo => Reps X.K H G x v ∧ Fo = []
theorem RDs.stable : Stable (RDs X) := ⟨fun h e n _ => ⟨Reps.ext (e.keeps n) _ _ h.1, h.2⟩⟩
def RPs (X : Cx) : RRel (List Opd) (List V) := fun ps vs σ H G Fo => match ps, vs with
  | [], [] => Fo = []
  | p :: ps, v :: vs => ∃ F1 F2, RP X p v σ H G F1 ∧ RPs X ps vs σ H G F2 ∧ Fo = F1 ++ F2
  | _, _ => False
theorem RPs.stable : Stable (RPs X) := by
  constructor
  intro ps
  induction ps with
  | nil => intro vs σ H G Fo H' G' F h _ _ _; cases vs with
    | nil => exact h
    | cons v vs => exact False.elim h
  | cons p ps ih => intro vs σ H G Fo H' G' F h e n dj; cases vs with
    | nil => exact False.elim h
    | cons v vs =>
      obtain ⟨F1, F2, h1, h2, rfl⟩ := h
      exact ⟨F1, F2, RP.stable.go h1 e n (fun a ha => dj a (List.mem_append_left _ ha)), ih h2 e n (fun a ha => dj a (List.mem_append_right _ ha)), rfl⟩
end
end PL
end
section
set_option Elab.async false
set_option maxRecDepth 100000
set_option linter.all false
set_option maxHeartbeats 1000000
/-! PL2: slots; the judgements; names, constants, pairs of operands, displays. -/
namespace PL
open PySem PySem.Spec PyProof.Rows L2
section
variable {K : PySem.W.Frag} {Z : Zone} {H H' : Hp} {G G' : Addr → Prop} {F Fo : List Addr}
theorem RelF.len : ∀ {Γ : Fr} {σ : Sl} {F : List Addr}, RelF K H G Γ σ F → Γ.length ≤ σ.length
  | [], _, _, _ => Nat.zero_le _
  | none :: Γ, [], _, h => False.elim h
  | some _ :: Γ, [], _, h => False.elim h
  | none :: Γ, _ :: σ, F, h => Nat.succ_le_succ (RelF.len (Γ := Γ) (F := F) h)
  | some o :: Γ, _ :: σ, F, h => by
    obtain ⟨_, _, F2, _, _, h2, _⟩ := h
    exact Nat.succ_le_succ (RelF.len h2)
/-- the slot i, and what becomes of the frame when it is set anew -/
theorem RelF.slot : ∀ {Γ : Fr} {σ : Sl} {F : List Addr} {i : Nat}, RelF K H G Γ σ F → i < Γ.length → F.Nodup → (∀ a ∈ F, ¬ G a) → ∃ A Fi B, F = A ++ (Fi ++ B) ∧
    (∀ o, Γ[i]? = some (some o) → ∃ v, σ[i]? = some (some v) ∧ RelO K H G o v Fi) ∧ (Γ[i]? = some none → Fi = []) ∧
    (∀ H' G' o' v' Fi', Ext H G Fi H' G' → RelO K H' G' o' v' Fi' → RelF K H' G' (Γ.set i (some o')) (σ.set i (some v')) (A ++ (Fi' ++ B))) ∧
    (∀ H' G' x, Ext H G Fi H' G' → RelF K H' G' (Γ.set i none) (σ.set i x) (A ++ B))
  | [], _, _, _, _, hi, _, _ => absurd hi (Nat.not_lt_zero _)
  | x :: Γ, [], _, _, h, _, _, _ => by cases x <;> exact False.elim h
  | none :: Γ, s :: σ, F, 0, h, _, nd, ng => by
    refine ⟨[], [], F, rfl, fun o e => by simp at e, fun _ => rfl, fun H' G' o' v' Fi' e r => ?_, fun H' G' x e => ?_⟩
    · exact ⟨v', Fi', F, rfl, r, RelF.ext (Γ := Γ) e (by simp) (by simp) h, rfl⟩
    · exact RelF.ext (Γ := Γ) e (by simp) (by simp) h
  | some o :: Γ, s :: σ, F, 0, h, _, nd, ng => by
    obtain ⟨v, F1, F2, rfl, h1, h2, rfl⟩ := h
    obtain ⟨n1, n2, n3⟩ := List.nodup_append.mp nd
    have g1 : ∀ a ∈ F1, ¬ G a := fun a ha => ng a (List.mem_append_left _ ha)
    have dj : ∀ a ∈ F2, a ∉ F1 := fun a ha hb => n3 a hb a ha rfl
    refine ⟨[], F1, F2, rfl, fun o' e => ?_, fun e => by simp at e, fun H' G' o' v' Fi' e r => ?_, fun H' G' x e => ?_⟩
    · simp at e
      subst e
      exact ⟨v, rfl, h1⟩
    · exact ⟨v', Fi', F2, rfl, r, RelF.ext e g1 dj h2, rfl⟩
    · exact RelF.ext (Γ := Γ) e g1 dj h2
  | none :: Γ, s :: σ, F, i + 1, h, hi, nd, ng => by
    obtain ⟨A, Fi, B, e, a1, a2, a3, a4⟩ := RelF.slot (Γ := Γ) (σ := σ) (i := i) h (Nat.lt_of_succ_lt_succ hi) nd ng
    exact ⟨A, Fi, B, e, fun o q => a1 o (by simpa using q), fun q => a2 (by simpa using q), fun H' G' o' v' Fi' e r => a3 H' G' o' v' Fi' e r, fun H' G' x e => a4 H' G' x e⟩
  | some o :: Γ, s :: σ, F, i + 1, h, hi, nd, ng => by
    obtain ⟨v, F1, F2, rfl, h1, h2, rfl⟩ := h
    obtain ⟨n1, n2, n3⟩ := List.nodup_append.mp nd
    obtain ⟨A, Fi, B, e, a1, a2, a3, a4⟩ := RelF.slot (Γ := Γ) (σ := σ) (i := i) h2 (Nat.lt_of_succ_lt_succ hi) n2 (fun a ha => ng a (List.mem_append_right _ ha))
    subst e
    have gi : ∀ a ∈ Fi, ¬ G a := fun a ha => ng a (by simp [ha])
    have dj : ∀ a ∈ F1, a ∉ Fi := fun a ha hb => n3 a ha a (by simp [hb]) rfl
    refine ⟨F1 ++ A, Fi, B, by simp, fun o q => a1 o (by simpa using q), fun q => a2 (by simpa using q), fun H' G' o' v' Fi' e r => ?_, fun H' G' x e => ?_⟩
    · exact ⟨v, F1, A ++ (Fi' ++ B), rfl, h1.ext e gi dj, a3 H' G' o' v' Fi' e r, by simp⟩
    · exact ⟨v, F1, A ++ B, rfl, h1.ext e gi dj, a4 H' G' x e, by simp⟩
/-- what a frame tells of a slot -/
theorem RelF.at {Γ : Fr} {σ : Sl} {i : Nat} {o : O} (h : RelF K H G Γ σ F) (e : Γ[i]? = some (some o)) (nd : F.Nodup) (ng : ∀ a ∈ F, ¬ G a) : ∃ v Fi, σ[i]? = some (some v) ∧ RelO K H G o v Fi ∧ ∀ a ∈ Fi, a ∈ F := by
  obtain ⟨A, Fi, B, ef, a1, _⟩ := h.slot (List.getElem?_eq_some_iff.mp e).1 nd ng
  obtain ⟨v, b1, b2⟩ := a1 o e
  exact ⟨v, Fi, b1, b2, fun a ha => by rw [ef]; simp [ha]⟩
/-- only what is frozen grows -/
theorem Ext.frz : Ext H G Fo H (fun a => G a ∨ a ∈ Fo) := ⟨fun _ h => .inl h, fun _ _ h _ _ => h, fun _ h => h.imp id .inl, fun _ h => h⟩
theorem Good.frz (g : Good Z H G (Fo ++ F)) : Good Z H (fun a => G a ∨ a ∈ Fo) F :=
  ⟨(List.nodup_append.mp g.nd).2.1, fun a ha hb => hb.elim (g.ng a (List.mem_append_right _ ha)) fun z => g.apart a z ha, fun a ha => ha.elim (g.gh a) fun z => g.fh a (List.mem_append_left _ z),
    fun a ha => g.fh a (List.mem_append_right _ ha), Z.stab _ _ _ _ g.st ⟨fun _ h => .inl h, fun _ _ _ h _ => h⟩, g.tb⟩
def O.view : O → Option D
  | .d x => some x
  | .ol xs => some (.lst xs)
  | .od ks us => some (.dic ks us)
  | .dk _ => none
  | .on _ _ _ => none
theorem RelO.frz {o : O} {v : V} {x : D} (h : RelO K H G o v Fo) (n : ∀ a ∈ Fo, ¬ G a) (e : o.view = some x) : Rep K H (fun a => G a ∨ a ∈ Fo) x v := by
  have k : Keeps H G H (fun a => G a ∨ a ∈ Fo) := ⟨fun _ h => .inl h, fun _ _ _ h _ => h⟩
  cases o with
  | d y => cases e; exact Rep.ext k _ _ h.1
  | ol xs =>
    cases e
    obtain ⟨a, vs, rfl, h1, h2, rfl⟩ := h
    exact .lst (.inr (by simp)) h1 (Reps.ext k _ _ h2)
  | od ks us =>
    cases e
    obtain ⟨a, vs, rfl, h1, l, h2, rfl⟩ := h
    exact .dic (.inr (by simp)) h1 l (Reps.ext k _ _ h2)
  | dk s => cases e
  | on P w kvs => cases e
end
/-! ### the judgements -/
section
variable (Z : Zone) (X : Cx)
/-- a value that may be kept -/
def EX (e : Expr) (m : M O) : Prop := ∀ W, Takes X W → ∃ t, PE X e t ∧ Does Z X W (RO X) t m
/-- an operand -/
def EP (e : Expr) (m : M Opd) : Prop := ∀ W, Takes X W → ∃ t, PE X e t ∧ Does Z X W (RP X) t m
def TX (e : Expr) (m : M Bool) : Prop := ∀ W, Takes X W → ∃ t, PT X e t ∧ Does Z X W RB t m
/-- frozen data -/
def ED (e : Expr) (m : M D) : Prop := ∀ W, Takes X W → ∃ t, PE X e t ∧ Does Z X W (RD X) t m
def AD (es : List Expr) (m : M (List D)) : Prop := ∀ W, Takes X W → ∃ t, PA X es t ∧ Does Z X W (RDs X) t m
def AP (es : List Expr) (m : M (List Opd)) : Prop := ∀ W, Takes X W → ∃ t, PA X es t ∧ Does Z X W (RPs X) t m
end
section
variable {Z : Zone} {X : Cx} {e : Expr} {es : List Expr} {pos : Pos}
def optR {α : Type} (o : Option α) (Γ : Fr) : Res α := match o with
  | some a => .ok a Γ
  | none => .stuck
def M.frz (m : M O) : M D := fun Γ => (m Γ).bind fun o Γ1 => optR o.view Γ1
theorem EX.frz {m : M O} (h : EX Z X e m) : ED Z X e (M.frz m) := by
  intro W tk
  obtain ⟨t, ht, hd⟩ := h W tk
  refine ⟨t, ht, fun Γ σ H G F hf hg => ?_⟩
  have z := hd Γ σ H G F hf hg
  show EG Z X σ H G F W (RD X) t ((m Γ).bind fun o Γ1 => optR o.view Γ1)
  cases em : m Γ with
  | stuck => trivial
  | err x d Γ1 => rw [em] at z; exact z
  | ok o Γ1 =>
    rw [em] at z
    cases ev : o.view with
    | none => show EG Z X σ H G F W (RD X) t (optR o.view Γ1); rw [ev]; trivial
    | some x =>
      show EG Z X σ H G F W (RD X) t (optR o.view Γ1)
      rw [ev]
      intro Q hq
      refine z Q fun v H' G' Fo F' hr ha => ?_
      have ng : ∀ a ∈ Fo, ¬ G' a := fun a h => ha.good.ng a (List.mem_append_left _ h)
      refine hq v H' (fun a => G' a ∨ a ∈ Fo) [] F' ⟨RelO.frz hr ng ev, rfl⟩ ⟨RelF.ext Ext.frz ng (fun a ha' hb => ha.good.apart a hb ha') ha.rel, ha.good.frz, ⟨fun a h => .inl (ha.ext.gg a h), ha.ext.keep, fun a h => ?_, ha.ext.there⟩, fun a h => ha.sub a (List.mem_append_right _ h)⟩
      rcases h with h | h
      · exact ha.ext.new a h
      · exact .inr (ha.sub a (List.mem_append_left _ h))
theorem ED.ex {m : M D} (h : ED Z X e m) : EX Z X e (M.map O.d m) := by
  intro W tk
  obtain ⟨t, ht, hd⟩ := h W tk
  refine ⟨t, ht, fun Γ σ H G F hf hg => ?_⟩
  have z := hd Γ σ H G F hf hg
  show EG Z X σ H G F W (RO X) t ((m Γ).bind fun x Γ1 => .ok (.d x) Γ1)
  cases em : m Γ with
  | stuck => trivial
  | err x d Γ1 => rw [em] at z; exact z
  | ok x Γ1 => rw [em] at z; exact z
theorem EX.ep {m : M O} (h : EX Z X e m) : EP Z X e (M.map Opd.sol m) := by
  intro W tk
  obtain ⟨t, ht, hd⟩ := h W tk
  refine ⟨t, ht, fun Γ σ H G F hf hg => ?_⟩
  have z := hd Γ σ H G F hf hg
  show EG Z X σ H G F W (RP X) t ((m Γ).bind fun x Γ1 => .ok (.sol x) Γ1)
  cases em : m Γ with
  | stuck => trivial
  | err x d Γ1 => rw [em] at z; exact z
  | ok x Γ1 => rw [em] at z; exact z
theorem ED.ep {m : M D} (h : ED Z X e m) : EP Z X e (M.map (fun x => .sol (.d x)) m) := by
  intro W tk
  obtain ⟨t, ht, hd⟩ := h W tk
  refine ⟨t, ht, fun Γ σ H G F hf hg => ?_⟩
  have z := hd Γ σ H G F hf hg
  show EG Z X σ H G F W (RP X) t ((m Γ).bind fun x Γ1 => .ok (.sol (.d x)) Γ1)
  cases em : m Γ with
  | stuck => trivial
  | err x d Γ1 => rw [em] at z; exact z
  | ok x Γ1 => rw [em] at z; exact z
/-- nothing happens, a value is there -/
theorem Aft.same {σ : Sl} {H : Hp} {G : Addr → Prop} {F : List Addr} {Γ : Fr} (hf : RelF X.K H G Γ σ F) (hg : Good Z H G F) : Aft Z X σ H G F Γ H G [] F := ⟨hf, hg, Ext.refl, fun _ h => .inl h⟩
theorem mem_mid {α : Type} {a : α} {A B C : List α} (h : a ∈ A ++ B) : a ∈ A ++ (C ++ B) := by
  rcases List.mem_append.mp h with h | h
  · exact List.mem_append_left _ h
  · exact List.mem_append_right _ (List.mem_append_right _ h)
/-- a name that is kept: an owned thing freezes -/
def mName (i : Nat) : M D := fun Γ => match Γ[i]? with
  | some (some o) => optR o.view (match o.view with | some x => Γ.set i (some (.d x)) | none => Γ)
  | _ => .stuck
theorem ed_name (i : Nat) {x : Str} (hN : X.N[i]? = some x := by rfl) (hv : Vis X.env.scope x := by first | exact Or.inl rfl | exact Or.inr (Or.inl rfl) | exact Or.inr (Or.inr rfl)) (hd : (x == ("__debug__" : Str)) = false := by decide)
    (hcd : (x == ("__classdict__" : Str)) = false := by decide) : ED Z X (.Name x pos) (mName i) := by
  intro W tk
  refine ⟨_, pe_var hN hv hd hcd, fun Γ σ H G F hf hg => ?_⟩
  unfold mName
  cases eo : Γ[i]? with
  | none => trivial
  | some oo =>
    cases oo with
    | none => trivial
    | some o =>
      cases ev : o.view with
      | none => simp only [ev, optR]; trivial
      | some x =>
        simp only [ev, optR]
        intro Q hq
        obtain ⟨A, Fi, B, ef, a1, a2, a3, a4⟩ := hf.slot (List.getElem?_eq_some_iff.mp eo).1 hg.nd hg.ng
        obtain ⟨v, b1, b2⟩ := a1 o eo
        subst ef
        have gi : ∀ a ∈ Fi, ¬ G a := fun a ha => hg.ng a (by simp [ha])
        have rep := RelO.frz b2 gi ev
        have nd := a3 H (fun a => G a ∨ a ∈ Fi) (.d x) v [] Ext.frz ⟨rep, rfl⟩
        have es : σ.set i (some v) = σ := by
          obtain ⟨hl, e⟩ := List.getElem?_eq_some_iff.mp b1
          rw [← e]; exact List.set_getElem_self hl
        rw [es] at nd
        have g2 : Good Z H G (Fi ++ (A ++ B)) := hg.perm (by rw [← List.append_assoc, ← List.append_assoc]; exact List.Perm.append_right _ List.perm_append_comm)
        refine ⟨v, b1, hq v H _ [] (A ++ B) ⟨rep, rfl⟩ ⟨nd, g2.frz, ?_, fun a ha => .inl (mem_mid ha)⟩⟩
        exact Ext.frz.mono fun a ha => .inl (by simp [ha])
def mBor (i : Nat) : M Opd := fun Γ => match Γ[i]? with
  | some (some _) => .ok (.bor i) Γ
  | _ => .stuck
/-- a name as an operand -/
theorem ep_name (i : Nat) {x : Str} (hN : X.N[i]? = some x := by rfl) (hv : Vis X.env.scope x := by first | exact Or.inl rfl | exact Or.inr (Or.inl rfl) | exact Or.inr (Or.inr rfl)) (hd : (x == ("__debug__" : Str)) = false := by decide)
    (hcd : (x == ("__classdict__" : Str)) = false := by decide) : EP Z X (.Name x pos) (mBor i) := by
  intro W tk
  refine ⟨_, pe_var hN hv hd hcd, fun Γ σ H G F hf hg => ?_⟩
  unfold mBor
  cases eo : Γ[i]? with
  | none => trivial
  | some oo =>
    cases oo with
    | none => trivial
    | some o =>
      intro Q hq
      obtain ⟨v, Fi, b1, b2, _⟩ := hf.at eo hg.nd hg.ng
      exact ⟨v, b1, hq v H G [] F ⟨b1, rfl⟩ (Aft.same hf hg)⟩
/-- constants -/
theorem ed_const {e : Expr} {x : D} {v : V} (h : PE X e (tC v)) (r : ∀ H G, Rep X.K H G x v) : ED Z X e (M.pure x) := fun W tk =>
  ⟨_, h, fun Γ σ H G F hf hg Q hq => hq v H G [] F ⟨r H G, rfl⟩ (Aft.same hf hg)⟩
theorem ed_int {i : Int} {j : Nat} : ED Z X (.Constant (.int i) j pos) (M.pure (.int i)) := ed_const pe_int fun _ _ => .int i
theorem ed_bl {b : Bool} {j : Nat} : ED Z X (.Constant (.bool b) j pos) (M.pure (.bl b)) := ed_const pe_bl fun _ _ => .bl b
theorem ed_non {j : Nat} : ED Z X (.Constant .none j pos) (M.pure .non) := ed_const pe_non fun _ _ => .non
theorem ed_str {x : Str} {j : Nat} : ED Z X (.Constant (.str x) j pos) (M.pure (.str x)) := ed_const pe_str fun _ _ => .str x
/-- the top's constants -/
theorem ed_glob {x : Str} {v : V} {d : D} {u : Value} (hm : X.mg x = some u) (r : RelV v u) (hr : ∀ H G, Rep X.K H G d v) (hg : Gl X x := by rfl) (hd : (x == ("__debug__" : Str)) = false := by decide) : ED Z X (.Name x pos) (M.pure d) :=
  ed_const (pe_glob hg hm r hd) hr
/-- a tuple of the top that stands in the zone -/
theorem ed_gtup {x : Str} {a : Addr} {ds : List D} (hm : X.mg x = some (.ref a)) (hz : ∀ H G, Z.st H G → Rep X.K H G (.tup ds) (.ref a)) (hg : Gl X x := by rfl) (hd : (x == ("__debug__" : Str)) = false := by decide) : ED Z X (.Name x pos) (M.pure (.tup ds)) := fun W tk =>
  ⟨_, pe_glob hg hm (v := .ref a) rfl hd, fun Γ σ H G F hf hgd Q hq => hq (.ref a) H G [] F ⟨hz H G hgd.st, rfl⟩ (Aft.same hf hgd)⟩
end
end PL
end
section
set_option Elab.async false
set_option maxRecDepth 100000
set_option linter.all false
set_option maxHeartbeats 1000000
/-! PL3: what operands are worth; operators, comparisons. -/
namespace PL
open PySem PySem.Spec PyProof.Rows L2
/-- v is worth x in this heap -/
inductive VW (K : PySem.W.Frag) (H : Hp) (G : Addr → Prop) : D → V → Prop
  | of {x : D} {v : V} : Rep K H G x v → VW K H G x v
  | lst {a : Addr} {vs : List V} {xs : List D} : H a = some (.lst vs) → Reps K H G xs vs → VW K H G (.lst xs) (.ref a)
  | dic {a : Addr} {ks : List Key} {vs : List V} {us : List D} : H a = some (.dK (ks.zip vs)) → ks.length = vs.length → Reps K H G us vs → VW K H G (.dic ks us) (.ref a)
inductive VWs (K : PySem.W.Frag) (H : Hp) (G : Addr → Prop) : List D → List V → Prop
  | nil : VWs K H G [] []
  | cons {x : D} {v : V} {xs : List D} {vs : List V} : VW K H G x v → VWs K H G xs vs → VWs K H G (x :: xs) (v :: vs)
section
variable {K : PySem.W.Frag} {H : Hp} {G : Addr → Prop} {v : V}
theorem VW.non (h : VW K H G .non v) : v = .non := by cases h with | of r => cases r; rfl
theorem VW.bl {b : Bool} (h : VW K H G (.bl b) v) : v = .bl b := by cases h with | of r => cases r; rfl
theorem VW.int {i : Int} (h : VW K H G (.int i) v) : v = .int i := by cases h with | of r => cases r; rfl
theorem VW.str {x : Str} (h : VW K H G (.str x) v) : v = .str x := by cases h with | of r => cases r; rfl
theorem VW.ty {n : Ty} (h : VW K H G (.ty n) v) : v = .ty n.name := by cases h with | of r => cases r; rfl
theorem VW.ob {a : Addr} (h : VW K H G (.ob a) v) : v = .ref a := by cases h with | of r => cases r; rfl
theorem VW.tup {xs : List D} (h : VW K H G (.tup xs) v) : ∃ a vs, v = .ref a ∧ SqT K H a vs ∧ Reps K H G xs vs := by
  cases h with
  | of r => cases r with
    | tup g e s => exact ⟨_, _, rfl, .inl e, s⟩
    | tupW w s => exact ⟨_, _, rfl, w.sq, s⟩
theorem VW.lst' {xs : List D} (h : VW K H G (.lst xs) v) : ∃ a vs, v = .ref a ∧ H a = some (.lst vs) ∧ Reps K H G xs vs := by
  cases h with
  | of r => cases r with
    | lst g e s => exact ⟨_, _, rfl, e, s⟩
  | lst e s => exact ⟨_, _, rfl, e, s⟩
theorem VW.dic' {ks : List Key} {us : List D} (h : VW K H G (.dic ks us) v) : ∃ a vs, v = .ref a ∧ H a = some (.dK (ks.zip vs)) ∧ ks.length = vs.length ∧ Reps K H G us vs := by
  cases h with
  | of r => cases r with
    | dic g e l s => exact ⟨_, _, rfl, e, l, s⟩
  | dic e l s => exact ⟨_, _, rfl, e, l, s⟩
end
/-- an operand's worth, in the frame as it is now -/
def rsv (p : Opd) (Γ : Fr) : Option D := match p with
  | .sol o => o.view
  | .bor i => match Γ[i]? with
    | some (some o) => o.view
    | _ => none
section
variable {Z : Zone} {X : Cx} {σ : Sl} {H H' : Hp} {G G' : Addr → Prop} {F Fo Fp : List Addr} {Γ : Fr}
theorem vw_view {o : O} {v : V} {x : D} (h : RelO X.K H G o v Fo) (e : o.view = some x) : VW X.K H G x v := by
  cases o with
  | d y => cases e; exact .of h.1
  | ol xs => cases e; obtain ⟨a, vs, rfl, h1, h2, _⟩ := h; exact .lst h1 h2
  | od ks us => cases e; obtain ⟨a, vs, rfl, h1, l, h2, _⟩ := h; exact .dic h1 l h2
  | dk s => cases e
  | on P w kvs => cases e
theorem vw_of {p : Opd} {v : V} {x : D} (h : RP X p v σ H G Fo) (hf : RelF X.K H G Γ σ F) (nd : F.Nodup) (ng : ∀ a ∈ F, ¬ G a) (e : rsv p Γ = some x) : VW X.K H G x v := by
  cases p with
  | sol o => exact vw_view h e
  | bor i =>
    obtain ⟨h1, _⟩ := h
    unfold rsv at e
    simp only at e
    split at e
    · rename_i o eo
      obtain ⟨v', Fi, b1, b2, _⟩ := hf.at eo nd ng
      rw [h1] at b1
      cases b1
      exact vw_view b2 e
    · cases e
/-- a result that only adds to the heap -/
structure New (H : Hp) (G : Addr → Prop) (H' : Hp) (G' : Addr → Prop) (Fo : List Addr) : Prop where
  grow : ∀ a o, H a = some o → H' a = some o
  gg : ∀ a, G a → G' a
  new : ∀ a, G' a → G a ∨ (H a = none ∧ ∃ o, H' a = some o ∧ ∀ ps, o ≠ .tbl ps)
  nd : Fo.Nodup
  fo : ∀ a ∈ Fo, H a = none ∧ ¬ G' a ∧ ∃ o, H' a = some o ∧ ∀ ps, o ≠ .tbl ps
theorem New.val : New H G H G [] := ⟨fun _ _ h => h, fun _ h => h, fun _ h => .inl h, List.nodup_nil, fun _ h => by simp at h⟩
/-- frozen things have their objects -/
abbrev GH (H : Hp) (G : Addr → Prop) : Prop := ∀ a, G a → ∃ o, H a = some o ∧ ∀ ps, o ≠ .tbl ps
theorem New.frozen {p : Addr} {o : HO} (hp : H p = none) (t : ∀ ps, o ≠ .tbl ps) : New H G (upd H p o) (fun a => G a ∨ a = p) [] :=
  ⟨fun a u h => by rw [upd_ne (ne_of_none h hp)]; exact h, fun _ h => .inl h, fun a h => h.elim .inl fun z => .inr (by subst z; exact ⟨hp, o, upd_same, t⟩), List.nodup_nil, fun _ h => by simp at h⟩
theorem New.owned {p : Addr} {o : HO} (g : GH H G) (hp : H p = none) (t : ∀ ps, o ≠ .tbl ps) : New H G (upd H p o) G [p] :=
  ⟨fun a u h => by rw [upd_ne (ne_of_none h hp)]; exact h, fun _ h => h, fun a h => .inl h, by simp, fun a h => by
    have e : a = p := by simpa using h
    subst e
    exact ⟨hp, (fun z => by obtain ⟨u, e, _⟩ := g a z; rw [hp] at e; cases e), o, upd_same, t⟩⟩
theorem New.keeps (n : New H G H' G' Fo) : Keeps H G H' G' := ⟨n.gg, fun a o _ h _ => n.grow a o h⟩
theorem New.ext (n : New H G H' G' Fo) : Ext H G F H' G' := ⟨n.gg, fun a o h _ _ => n.grow a o h, fun a h => (n.new a h).imp id fun z => .inr (.of z.1), fun a h o e => h o (n.grow a o e)⟩
theorem New.good (n : New H G H' G' Fo) (g : Good Z H G F) : Good Z H' G' (Fo ++ F) := by
  refine ⟨List.nodup_append.mpr ⟨n.nd, g.nd, fun a ha b hb z => ?_⟩, fun a ha hb => ?_, fun a ha => ?_, fun a ha => ?_, Z.stab _ _ _ _ g.st n.keeps, g.tb.ext n.grow⟩
  · subst z
    obtain ⟨o, e, _⟩ := g.fh a hb
    rw [(n.fo a ha).1] at e; cases e
  · rcases List.mem_append.mp ha with ha | ha
    · exact (n.fo a ha).2.1 hb
    · rcases n.new a hb with z | z
      · exact g.ng a ha z
      · obtain ⟨o, e, _⟩ := g.fh a ha
        rw [z.1] at e; cases e
  · rcases n.new a ha with z | z
    · obtain ⟨o, e, t⟩ := g.gh a z
      exact ⟨o, n.grow a o e, t⟩
    · exact z.2
  · rcases List.mem_append.mp ha with ha | ha
    · exact (n.fo a ha).2.2
    · obtain ⟨o, e, t⟩ := g.fh a ha
      exact ⟨o, n.grow a o e, t⟩
theorem EG.new {W : WX} {o : O} {t : TE} (h : ∀ Q : VK, (∀ v H' G' Fo, RelO X.K H' G' o v Fo → New H G H' G' Fo → Q v H') → t σ H Q) (hf : RelF X.K H G Γ σ F) (hg : Good Z H G (Fp ++ F)) :
    EG Z X σ H G (Fp ++ F) W (RO X) t (.ok o Γ) := by
  intro Q hq
  refine h Q fun v H' G' Fo r n => hq v H' G' Fo F r ⟨hf.ext (n.ext (F := [])) (by simp) (by simp), n.good hg.right, n.ext, fun a ha => ?_⟩
  rcases List.mem_append.mp ha with ha | ha
  · exact .inr (.of (n.fo a ha).1)
  · exact .inl (List.mem_append_right _ ha)
end
/-! ### operators by their worth -/
def OpS (X : Cx) (g : Value → Value → Sem Value) (f : D → D → Option O) : Prop := ∃ r : R2, OpR X g r ∧
  ∀ H G x y dx dy o (Q : VK), GH H G → VW X.K H G dx x → VW X.K H G dy y → f dx dy = some o → (∀ v H' G' Fo, RelO X.K H' G' o v Fo → New H G H' G' Fo → Q v H') → r x y H Q
def UnS (X : Cx) (g : Value → Sem Value) (f : D → Option O) : Prop := ∃ r : V → Hp → VK → Prop, UnR X g r ∧
  ∀ H G x dx o (Q : VK), GH H G → VW X.K H G dx x → f dx = some o → (∀ v H' G' Fo, RelO X.K H' G' o v Fo → New H G H' G' Fo → Q v H') → r x H Q
def CaS (X : Cx) (g : Value) (f : List D → Option O) : Prop := ∃ r : List V → Hp → VK → Prop, CallR X g r ∧
  ∀ H G xs ds o (Q : VK), GH H G → VWs X.K H G ds xs → f ds = some o → (∀ v H' G' Fo, RelO X.K H' G' o v Fo → New H G H' G' Fo → Q v H') → r xs H Q
def rsvs : List Opd → Fr → Option (List D)
  | [], _ => some []
  | p :: ps, Γ => (rsv p Γ).bind fun x => (rsvs ps Γ).bind fun xs => some (x :: xs)
theorem vws_of {X : Cx} {σ : Sl} {H : Hp} {G : Addr → Prop} {F : List Addr} {Γ : Fr} (hf : RelF X.K H G Γ σ F) (nd : F.Nodup) (ng : ∀ a ∈ F, ¬ G a) :
    ∀ {ps : List Opd} {vs : List V} {Fo : List Addr} {xs : List D}, RPs X ps vs σ H G Fo → rsvs ps Γ = some xs → VWs X.K H G xs vs
  | [], [], _, xs, _, e => by cases e; exact .nil
  | [], _ :: _, _, _, h, _ => False.elim h
  | _ :: _, [], _, _, h, _ => False.elim h
  | p :: ps, v :: vs, Fo, xs, h, e => by
    obtain ⟨F1, F2, h1, h2, _⟩ := h
    unfold rsvs at e
    cases e1 : rsv p Γ with
    | none => rw [e1] at e; cases e
    | some x =>
      cases e2 : rsvs ps Γ with
      | none => rw [e1, e2] at e; cases e
      | some ys =>
        rw [e1, e2] at e
        cases e
        exact .cons (vw_of h1 hf nd ng e1) (vws_of hf nd ng h2 e2)
def M.op2 (f : D → D → Option O) (pa pb : Opd) : M O := fun Γ => optR ((rsv pa Γ).bind fun x => (rsv pb Γ).bind fun y => f x y) Γ
def M.op1 (f : D → Option O) (pa : Opd) : M O := fun Γ => optR ((rsv pa Γ).bind f) Γ
def M.opn (f : List D → Option O) (ps : List Opd) : M O := fun Γ => optR ((rsvs ps Γ).bind f) Γ
def mBin (f : D → D → Option O) (ma mb : M Opd) : M O := (M.pair ma mb).bind fun p => M.op2 f p.1 p.2
def mUn (f : D → Option O) (ma : M Opd) : M O := ma.bind fun p => M.op1 f p
def mCall (f : List D → Option O) (ma : M (List Opd)) : M O := ma.bind fun p => M.opn f p
section
variable {Z : Zone} {X : Cx} {W : WX} {e a b : Expr} {es : List Expr} {pos : Pos} {ma mb : M Opd} {f : D → D → Option O}
theorem doesK_op2 {r : R2} (h : ∀ H G x y dx dy o (Q : VK), GH H G → VW X.K H G dx x → VW X.K H G dy y → f dx dy = some o → (∀ v H' G' Fo, RelO X.K H' G' o v Fo → New H G H' G' Fo → Q v H') → r x y H Q) (p : Opd × Opd) :
    DoesK Z X W (RRp (RP X) (RP X)) (RO X) p (fun uv _ H Q => r uv.1 uv.2 H Q) (M.op2 f p.1 p.2) := by
  rintro ⟨x, y⟩ Γ σ H G Fo F ⟨F1, F2, h1, h2, rfl⟩ hf hg
  unfold M.op2
  have g := hg.right
  cases e1 : rsv p.1 Γ with
  | none => trivial
  | some dx =>
    cases e2 : rsv p.2 Γ with
    | none => trivial
    | some dy =>
      cases e3 : f dx dy with
      | none => show EG Z X σ H G _ W (RO X) _ (optR (f dx dy) Γ); rw [e3]; trivial
      | some o =>
        show EG Z X σ H G _ W (RO X) _ (optR (f dx dy) Γ)
        rw [e3]
        exact EG.new (t := fun _ H Q => r x y H Q) (fun Q hq => h H G x y dx dy o Q hg.gh (vw_of h1 hf g.nd g.ng e1) (vw_of h2 hf g.nd g.ng e2) e3 hq) hf hg
theorem doesK_op1 {f : D → Option O} {r : V → Hp → VK → Prop} (h : ∀ H G x dx o (Q : VK), GH H G → VW X.K H G dx x → f dx = some o → (∀ v H' G' Fo, RelO X.K H' G' o v Fo → New H G H' G' Fo → Q v H') → r x H Q) (p : Opd) :
    DoesK Z X W (RP X) (RO X) p (fun u _ H Q => r u H Q) (M.op1 f p) := by
  intro x Γ σ H G Fo F h1 hf hg
  unfold M.op1
  have g := hg.right
  cases e1 : rsv p Γ with
  | none => trivial
  | some dx =>
    cases e3 : f dx with
    | none => show EG Z X σ H G _ W (RO X) _ (optR (f dx) Γ); rw [e3]; trivial
    | some o =>
      show EG Z X σ H G _ W (RO X) _ (optR (f dx) Γ)
      rw [e3]
      exact EG.new (t := fun _ H Q => r x H Q) (fun Q hq => h H G x dx o Q hg.gh (vw_of h1 hf g.nd g.ng e1) e3 hq) hf hg
theorem doesK_opn {f : List D → Option O} {r : List V → Hp → VK → Prop} (h : ∀ H G xs ds o (Q : VK), GH H G → VWs X.K H G ds xs → f ds = some o → (∀ v H' G' Fo, RelO X.K H' G' o v Fo → New H G H' G' Fo → Q v H') → r xs H Q) (p : List Opd) :
    DoesK Z X W (RPs X) (RO X) p (fun u _ H Q => r u H Q) (M.opn f p) := by
  intro x Γ σ H G Fo F h1 hf hg
  unfold M.opn
  have g := hg.right
  cases e1 : rsvs p Γ with
  | none => trivial
  | some dx =>
    cases e3 : f dx with
    | none => show EG Z X σ H G _ W (RO X) _ (optR (f dx) Γ); rw [e3]; trivial
    | some o =>
      show EG Z X σ H G _ W (RO X) _ (optR (f dx) Γ)
      rw [e3]
      exact EG.new (t := fun _ H Q => r x H Q) (fun Q hq => h H G x dx o Q hg.gh (vws_of hf g.nd g.ng h1 e1) e3 hq) hf hg
theorem ex_bin {op : Operator} (ho : OpS X (binaryOp op) f) (ha : EP Z X a ma) (hb : EP Z X b mb) : EX Z X (.BinOp a op b pos) (mBin f ma mb) := by
  intro W tk
  obtain ⟨r, h1, h2⟩ := ho
  obtain ⟨ta, pa, da⟩ := ha W tk
  obtain ⟨tb, pb, db⟩ := hb W tk
  exact ⟨_, pe_op h1 pa pb, (Does.pair RP.stable da db).bind (tk := fun uv _ H Q => r uv.1 uv.2 H Q) fun p => doesK_op2 h2 p⟩
theorem ex_cmp {op : CmpOp} (ho : OpS X (compareOp op) f) (ha : EP Z X a ma) (hb : EP Z X b mb) (hm : behindInMarks op b = false) : EX Z X (.Compare a [op] [b] pos) (mBin f ma mb) := by
  intro W tk
  obtain ⟨r, h1, h2⟩ := ho
  obtain ⟨ta, pa, da⟩ := ha W tk
  obtain ⟨tb, pb, db⟩ := hb W tk
  exact ⟨_, pe_cmpR h1 pa pb hm, (Does.pair RP.stable da db).bind (tk := fun uv _ H Q => r uv.1 uv.2 H Q) fun p => doesK_op2 h2 p⟩
theorem ex_un {op : UnaryOp} {f : D → Option O} (ho : UnS X (unaryOp op) f) (ha : EP Z X a ma) : EX Z X (.UnaryOp op a pos) (mUn f ma) := by
  intro W tk
  obtain ⟨r, h1, h2⟩ := ho
  obtain ⟨ta, pa, da⟩ := ha W tk
  exact ⟨_, pe_un h1 pa, da.bind (tk := fun u _ H Q => r u H Q) fun p => doesK_op1 h2 p⟩
/-- xs[i] -/
def IxS (X : Cx) (f : D → D → Option O) : Prop := ∃ r : R2, IxR X r ∧
  ∀ H G x y dx dy o (Q : VK), GH H G → VW X.K H G dx x → VW X.K H G dy y → f dx dy = some o → (∀ v H' G' Fo, RelO X.K H' G' o v Fo → New H G H' G' Fo → Q v H') → r x y H Q
theorem ex_ix (ho : IxS X f) (ha : EP Z X a ma) (hb : EP Z X b mb) (hs : PlainIx b := by exact fun _ _ => rfl) : EX Z X (.Subscript a b pos) (mBin f ma mb) := by
  intro W tk
  obtain ⟨r, h1, h2⟩ := ho
  obtain ⟨ta, pa, da⟩ := ha W tk
  obtain ⟨tb, pb, db⟩ := hb W tk
  exact ⟨_, pe_ix h1 pa pb hs, (Does.pair RP.stable da db).bind (tk := fun uv _ H Q => r uv.1 uv.2 H Q) fun p => doesK_op2 h2 p⟩
/-! ### argument lists -/
theorem ap_nil : AP Z X [] (M.pure []) := fun W tk => ⟨_, pa_nil, fun Γ σ H G F hf hg Q hq => hq [] H G [] F rfl (Aft.same hf hg)⟩
theorem ap_cons {m : M (List Opd)} (ha : EP Z X e ma) (hr : AP Z X es m) (hs : starEach (e :: es) X.env = (false, eval e X.env) :: starEach es X.env := by rfl) :
    AP Z X (e :: es) (M.map (fun p => p.1 :: p.2) (M.pair ma m)) := by
  intro W tk
  obtain ⟨ta, pa, da⟩ := ha W tk
  obtain ⟨tr, pr, dr⟩ := hr W tk
  refine ⟨_, pa_cons pa pr hs, fun Γ σ H G F hf hg => ?_⟩
  have z := Does.pair RP.stable da dr Γ σ H G F hf hg
  refine EG.bind (RR' := RPs X) (k := fun p Γ => .ok (p.1 :: p.2) Γ) (tk := fun uv (_ : Sl) H (Q : List V → Hp → Prop) => Q (uv.1 :: uv.2) H) z fun p uv Γ σ H G Fo F hr hf hg Q hq => ?_
  obtain ⟨F1, F2, h1, h2, rfl⟩ := hr
  exact hq _ H G (F1 ++ F2) F ⟨F1, F2, h1, h2, rfl⟩ ⟨hf, hg, Ext.refl, fun _ h => .inl h⟩
theorem ad_nil : AD Z X [] (M.pure []) := fun W tk => ⟨_, pa_nil, fun Γ σ H G F hf hg Q hq => hq [] H G [] F ⟨.nil, rfl⟩ (Aft.same hf hg)⟩
theorem ad_cons {mx : M D} {m : M (List D)} (ha : ED Z X e mx) (hr : AD Z X es m) (hs : starEach (e :: es) X.env = (false, eval e X.env) :: starEach es X.env := by rfl) :
    AD Z X (e :: es) (M.map (fun p => p.1 :: p.2) (M.pair mx m)) := by
  intro W tk
  obtain ⟨ta, pa, da⟩ := ha W tk
  obtain ⟨tr, pr, dr⟩ := hr W tk
  refine ⟨_, pa_cons pa pr hs, fun Γ σ H G F hf hg => ?_⟩
  have z := Does.pair RD.stable da dr Γ σ H G F hf hg
  refine EG.bind (RR' := RDs X) (k := fun p Γ => .ok (p.1 :: p.2) Γ) (tk := fun uv (_ : Sl) H (Q : List V → Hp → Prop) => Q (uv.1 :: uv.2) H) z fun p uv Γ σ H G Fo F hr hf hg Q hq => ?_
  obtain ⟨F1, F2, ⟨h1, rfl⟩, ⟨h2, rfl⟩, rfl⟩ := hr
  exact hq _ H G [] F ⟨.cons h1 h2, rfl⟩ ⟨hf, hg, Ext.refl, fun _ h => .inl h⟩
theorem ex_callB {x : Str} {id : String} {p : Pos} {m : M (List Opd)} {f : List D → Option O} (ho : CaS X (.builtin id) f) (hm : X.mg x = none) (hv : bootBuiltins x = some (.builtin id)) (ha : AP Z X (e :: es) m) (hg : Gl X x := by rfl) (hn : x ≠ "__name__" := by decide) (hdb : (x == ("__debug__" : Str)) = false := by decide)
    (he : starEach (e :: es) X.env = (false, eval e X.env) :: starEach es X.env := by rfl) (hpl : (backTo pos (starEach es X.env)).any (·.1) = false := by rfl) : EX Z X (.Call (.Name x p) (e :: es) [] pos) (mCall f m) := by
  intro W tk
  obtain ⟨r, h1, h2⟩ := ho
  obtain ⟨ta, pa, da⟩ := ha W tk
  exact ⟨_, pe_callB h1 hg hm hv pa hn hdb he hpl, da.bind (tk := fun u _ H Q => r u H Q) fun p => doesK_opn h2 p⟩
theorem ex_callTy {x : Str} {T : String} {p : Pos} {m : M (List Opd)} {f : List D → Option O} (ho : CaS X (.type T) f) (hm : X.mg x = none) (hv : bootBuiltins x = some (.type T)) (ha : AP Z X (e :: es) m) (hg : Gl X x := by rfl) (hn : x ≠ "__name__" := by decide) (hdb : (x == ("__debug__" : Str)) = false := by decide)
    (he : starEach (e :: es) X.env = (false, eval e X.env) :: starEach es X.env := by rfl) (hpl : (backTo pos (starEach es X.env)).any (·.1) = false := by rfl) : EX Z X (.Call (.Name x p) (e :: es) [] pos) (mCall f m) := by
  intro W tk
  obtain ⟨r, h1, h2⟩ := ho
  obtain ⟨ta, pa, da⟩ := ha W tk
  exact ⟨_, pe_callTy h1 hg hm hv pa hn hdb he hpl, da.bind (tk := fun u _ H Q => r u H Q) fun p => doesK_opn h2 p⟩
/-- (e, ..), [e, ..] -/
def mTup (m : M (List D)) : M D := m.bind fun xs Γ => if xs.length ≤ 16777216 then .ok (.tup xs) Γ else .stuck
def mLst (m : M (List D)) : M O := m.bind fun xs Γ => if xs.length ≤ 16777216 then .ok (.ol xs) Γ else .stuck
theorem ed_tup {m : M (List D)} {k : Nat} (h : AD Z X es m) : ED Z X (.Tuple es k pos) (mTup m) := by
  intro W tk
  obtain ⟨ta, pa, da⟩ := h W tk
  refine ⟨_, pe_tup pa, da.bind (tk := fun (xs : List V) (_ : Sl) (H1 : Hp) (Q : VK) => xs.length ≤ sizeLine ∧ ∀ p, H1 p = none → Q (.ref p) (upd H1 p (.tup xs))) fun xs vs Γ σ H G Fo F hr hf hg => ?_⟩
  obtain ⟨hr, rfl⟩ := hr
  dsimp only
  split
  · rename_i hz
    intro Q hq
    refine ⟨by rw [← hr.length, sizeLine_eq]; exact hz, fun p hp => ?_⟩
    have n : New H G (upd H p (.tup vs)) (fun a => G a ∨ a = p) [] := New.frozen hp (fun ps z => by cases z)
    exact hq (.ref p) _ _ [] F ⟨.tup (.inr rfl) (.inl upd_same) (Reps.ext n.keeps _ _ hr), rfl⟩ ⟨hf.ext (n.ext (F := [])) (by simp) (by simp), n.good hg, n.ext, fun a ha => .inl ha⟩
  · trivial
theorem ex_lst {m : M (List D)} (h : AD Z X es m) : EX Z X (.List es pos) (mLst m) := by
  intro W tk
  obtain ⟨ta, pa, da⟩ := h W tk
  refine ⟨_, pe_lst pa, da.bind (tk := fun (xs : List V) (_ : Sl) (H1 : Hp) (Q : VK) => xs.length ≤ sizeLine ∧ ∀ p, H1 p = none → Q (.ref p) (upd H1 p (.lst xs))) fun xs vs Γ σ H G Fo F hr hf hg => ?_⟩
  obtain ⟨hr, rfl⟩ := hr
  dsimp only
  split
  · rename_i hz
    refine EG.new (t := fun _ H1 Q => vs.length ≤ sizeLine ∧ ∀ p, H1 p = none → Q (.ref p) (upd H1 p (.lst vs))) (fun Q hq => ?_) hf hg
    refine ⟨by rw [← hr.length, sizeLine_eq]; exact hz, fun p hp => ?_⟩
    have n : New H G (upd H p (.lst vs)) G [p] := New.owned hg.gh hp (fun ps z => by cases z)
    exact hq (.ref p) _ _ [p] ⟨p, vs, rfl, upd_same, Reps.ext n.keeps _ _ hr, rfl⟩ n
  · trivial
end
end PL
end
section
set_option Elab.async false
set_option maxRecDepth 100000
set_option linter.all false
set_option maxHeartbeats 1000000
/-! PL4: the operators' worth. -/
namespace PL
open PySem PySem.Spec PyProof.Rows L2
abbrev SZ : Nat := 16777216
theorem sz_eq : (sizeLine : Nat) = SZ := sizeLine_eq
/-! ### results -/
section
variable {X : Cx} {H : Hp} {G : Addr → Prop} {Q : VK}
theorem out_d {x : D} {v : V} (hq : ∀ v H' G' Fo, RelO X.K H' G' (.d x) v Fo → New H G H' G' Fo → Q v H') (r : Rep X.K H G x v) : Q v H := hq v H G [] ⟨r, rfl⟩ New.val
theorem out_tup {xs : List D} {vs : List V} {p : Addr} (hq : ∀ v H' G' Fo, RelO X.K H' G' (.d (.tup xs)) v Fo → New H G H' G' Fo → Q v H') (r : Reps X.K H G xs vs) (hp : H p = none) : Q (.ref p) (upd H p (.tup vs)) := by
  have n : New H G (upd H p (.tup vs)) (fun a => G a ∨ a = p) [] := New.frozen hp (fun ps z => by cases z)
  exact hq _ _ _ [] ⟨.tup (.inr rfl) (.inl upd_same) (Reps.ext n.keeps _ _ r), rfl⟩ n
theorem out_lst {xs : List D} {vs : List V} {p : Addr} (g : GH H G) (hq : ∀ v H' G' Fo, RelO X.K H' G' (.ol xs) v Fo → New H G H' G' Fo → Q v H') (r : Reps X.K H G xs vs) (hp : H p = none) : Q (.ref p) (upd H p (.lst vs)) := by
  have n : New H G (upd H p (.lst vs)) G [p] := New.owned g hp (fun ps z => by cases z)
  exact hq _ _ _ [p] ⟨p, vs, rfl, upd_same, Reps.ext n.keeps _ _ r, rfl⟩ n
theorem out_dic {ks : List Key} {us : List D} {vs : List V} {p : Addr} (g : GH H G) (hq : ∀ v H' G' Fo, RelO X.K H' G' (.od ks us) v Fo → New H G H' G' Fo → Q v H') (l : ks.length = vs.length) (r : Reps X.K H G us vs) (hp : H p = none) : Q (.ref p) (upd H p (.dK (ks.zip vs))) := by
  have n : New H G (upd H p (.dK (ks.zip vs))) G [p] := New.owned g hp (fun ps z => by cases z)
  exact hq _ _ _ [p] ⟨p, vs, rfl, upd_same, l, Reps.ext n.keeps _ _ r, rfl⟩ n
end
/-! ### + - * // % ** & -/
def opAdd : D → D → Option O
  | .int i, .int j => some (.d (.int (i + j)))
  | .str a, .str b => if a.length + b.length ≤ SZ then some (.d (.str (a ++ b))) else none
  | .lst xs, .lst ys => if xs.length + ys.length ≤ SZ then some (.ol (xs ++ ys)) else none
  | .tup xs, .tup ys => if xs.length + ys.length ≤ SZ then some (.d (.tup (xs ++ ys))) else none
  | _, _ => none
def opSub : D → D → Option O
  | .int i, .int j => some (.d (.int (i - j)))
  | _, _ => none
def opMul : D → D → Option O
  | .int i, .int j => if (-(2 ^ 64) < i ∧ i < 2 ^ 64) ∨ (-(2 ^ 64) < j ∧ j < 2 ^ 64) then some (.d (.int (i * j))) else none
  | .lst xs, .int k => if -(2 ^ 63) ≤ k ∧ k < 2 ^ 63 ∧ xs.length * k.toNat ≤ SZ then some (.ol (List.replicate k.toNat xs).flatten) else none
  | .tup xs, .int k => if xs ≠ [] ∧ 2 ≤ k ∧ k ≤ 1000 ∧ xs.length ≤ 1000 then some (.d (.tup (List.replicate k.toNat xs).flatten)) else none
  | _, _ => none
def opFdiv : D → D → Option O
  | .int i, .int j => if 0 < j ∧ j < 1073741824 then some (.d (.int (i / j))) else none
  | _, _ => none
def opMod : D → D → Option O
  | .int i, .int j => if 0 < j then some (.d (.int (i % j))) else none
  | _, _ => none
def opPow : D → D → Option O
  | .int i, .int j => if 0 ≤ j ∧ j ≤ 1000000 ∧ i.natAbs < 2 ^ 64 then some (.d (.int (i ^ j.toNat))) else none
  | _, _ => none
def opAnd : D → D → Option O
  | .int i, .int j => some (.d (.int (Builtin.bitAnd i j)))
  | _, _ => none
def opShl : D → D → Option O
  | .int i, .int j => if 0 ≤ j ∧ j ≤ 1000000 ∧ i.natAbs < 2 ^ 64 then some (.d (.int (i * 2 ^ j.toNat))) else none
  | _, _ => none
def opNeg : D → Option O
  | .int i => some (.d (.int (-i)))
  | _ => none
section
variable {X : Cx}
theorem os_add : OpS X (binaryOp .Add) opAdd := by
  refine ⟨_, op_add.or (op_add_str.or (op_cat.or op_catA)), fun H G x y dx dy o Q g hx hy e hq => ?_⟩
  unfold opAdd at e
  split at e
  · cases e
    exact .inl ⟨_, _, hx.int, hy.int, out_d hq (.int _)⟩
  · split at e
    · rename_i hz
      cases e
      exact .inr (.inl ⟨_, _, hx.str, hy.str, by rw [sz_eq]; exact hz, out_d hq (.str _)⟩)
    · cases e
  · split at e
    · rename_i hz
      cases e
      obtain ⟨a, vs, rfl, h1, r1⟩ := hx.lst'
      obtain ⟨b, ws, rfl, h2, r2⟩ := hy.lst'
      exact .inr (.inr (.inl ⟨a, b, vs, ws, rfl, rfl, h1, h2, by rw [← r1.length, ← r2.length, sz_eq]; exact hz, fun p hp => out_lst g hq (r1.append r2) hp⟩))
    · cases e
  · split at e
    · rename_i xs ys hz
      cases e
      obtain ⟨a, vs, rfl, h1, r1⟩ := hx.tup
      obtain ⟨b, ws, rfl, h2, r2⟩ := hy.tup
      refine .inr (.inr (.inr ⟨a, b, vs, ws, rfl, rfl, h1, h2, by rw [← r1.length, ← r2.length, sz_eq]; exact hz, fun z => ?_, fun _ z => ?_, fun _ _ p hp => out_tup hq (r1.append r2) hp⟩))
      · subst z
        cases r1
        cases hy with | of r => exact out_d hq r
      · subst z
        cases r2
        rw [List.append_nil] at hq
        cases hx with | of r => exact out_d hq r
    · cases e
  · cases e
theorem os_sub : OpS X (binaryOp .Sub) opSub := by
  refine ⟨_, op_sub, fun H G x y dx dy o Q g hx hy e hq => ?_⟩
  unfold opSub at e
  split at e
  · cases e
    exact ⟨_, _, hx.int, hy.int, out_d hq (.int _)⟩
  · cases e
theorem os_mul : OpS X (binaryOp .Mult) opMul := by
  refine ⟨_, op_mul.or (op_rep.or op_repT), fun H G x y dx dy o Q g hx hy e hq => ?_⟩
  unfold opMul at e
  split at e
  · split at e
    · rename_i hz
      cases e
      exact .inl ⟨_, _, hx.int, hy.int, hz, out_d hq (.int _)⟩
    · cases e
  · split at e
    · rename_i xs k hz
      cases e
      obtain ⟨a, vs, rfl, h1, r1⟩ := hx.lst'
      exact .inr (.inl ⟨a, _, vs, rfl, hy.int, h1, hz.1, hz.2.1, by rw [← r1.length, sz_eq]; exact hz.2.2, fun p hp => out_lst g hq (r1.flat _) hp⟩)
    · cases e
  · split at e
    · rename_i xs k hz
      cases e
      obtain ⟨a, vs, rfl, h1, r1⟩ := hx.tup
      refine .inr (.inr ⟨a, _, vs, rfl, hy.int, h1, fun z => ?_, hz.2.1, hz.2.2.1, by rw [← r1.length]; exact hz.2.2.2, fun p hp => out_tup hq (r1.flat _) hp⟩)
      subst z
      cases r1
      exact hz.1 rfl
    · cases e
  · cases e
theorem os_fdiv : OpS X (binaryOp .FloorDiv) opFdiv := by
  refine ⟨_, op_fdiv, fun H G x y dx dy o Q g hx hy e hq => ?_⟩
  unfold opFdiv at e
  split at e
  · split at e
    · rename_i hz
      cases e
      exact ⟨_, _, hx.int, hy.int, hz, out_d hq (.int _)⟩
    · cases e
  · cases e
theorem os_mod : OpS X (binaryOp .Mod) opMod := by
  refine ⟨_, op_mod, fun H G x y dx dy o Q g hx hy e hq => ?_⟩
  unfold opMod at e
  split at e
  · split at e
    · rename_i hz
      cases e
      exact ⟨_, _, hx.int, hy.int, hz, out_d hq (.int _)⟩
    · cases e
  · cases e
theorem os_pow : OpS X (binaryOp .Pow) opPow := by
  refine ⟨_, op_pow, fun H G x y dx dy o Q g hx hy e hq => ?_⟩
  unfold opPow at e
  split at e
  · split at e
    · rename_i hz
      cases e
      exact ⟨_, _, hx.int, hy.int, hz, out_d hq (.int _)⟩
    · cases e
  · cases e
theorem os_shl : OpS X (binaryOp .LShift) opShl := by
  refine ⟨_, op_shl, fun H G x y dx dy o Q g hx hy e hq => ?_⟩
  unfold opShl at e
  split at e
  · split at e
    · rename_i hz
      cases e
      exact ⟨_, _, hx.int, hy.int, hz, out_d hq (.int _)⟩
    · cases e
  · cases e
theorem os_and : OpS X (binaryOp .BitAnd) opAnd := by
  refine ⟨_, op_and, fun H G x y dx dy o Q g hx hy e hq => ?_⟩
  unfold opAnd at e
  split at e
  · cases e
    exact ⟨_, _, hx.int, hy.int, out_d hq (.int _)⟩
  · cases e
theorem us_neg : UnS X (unaryOp .USub) opNeg := by
  refine ⟨_, un_neg, fun H G x dx o Q g hx e hq => ?_⟩
  unfold opNeg at e
  split at e
  · cases e
    exact ⟨_, hx.int, out_d hq (.int _)⟩
  · cases e
end
/-! ### comparisons -/
mutual
def D.py : D → Option PyData
  | .non => some .none
  | .bl b => some (.bool b)
  | .int i => some (.int i)
  | .str x => some (.str x)
  | .ty _ => none
  | .ob _ => none
  | .tup xs => (pys xs).map .tuple
  | .lst xs => (pys xs).map .list
  | .dic _ _ => none
  | .scr _ => none
def pys : List D → Option (List PyData)
  | [] => some []
  | x :: xs => (D.py x).bind fun a => (pys xs).map fun as => a :: as
end
def eqD (x y : D) : Option Bool := x.py.bind fun a => y.py.bind fun b => if SeqAt.shaped a = true ∧ SeqAt.shaped b = true then some (PyData.eqv a b) else none
def opEq (x y : D) : Option O := (eqD x y).map fun b => .d (.bl b)
def opNe (x y : D) : Option O := (eqD x y).map fun b => .d (.bl (!b))
def opLt : D → D → Option O
  | .int i, .int j => some (.d (.bl (decide (i < j))))
  | .str i, .str j => some (.d (.bl (decide (i.cps.toList < j.cps.toList))))
  | _, _ => none
def opLe : D → D → Option O
  | .int i, .int j => some (.d (.bl (decide (i ≤ j))))
  | .str i, .str j => some (.d (.bl (!decide (j.cps.toList < i.cps.toList))))
  | _, _ => none
def opGt : D → D → Option O
  | .int i, .int j => some (.d (.bl (decide (j < i))))
  | .str i, .str j => some (.d (.bl (decide (j.cps.toList < i.cps.toList))))
  | _, _ => none
def opGe : D → D → Option O
  | .int i, .int j => some (.d (.bl (decide (j ≤ i))))
  | .str i, .str j => some (.d (.bl (!decide (i.cps.toList < j.cps.toList))))
  | _, _ => none
def D.flat : D → Bool
  | .non => true | .bl _ => true | .int _ => true | .str _ => true | _ => false
def flatEq : D → D → Bool
  | .non, .non => true
  | .bl a, .bl b => a == b
  | .bl a, .int b => (if a then 1 else 0) == b
  | .int a, .bl b => a == (if b then 1 else 0)
  | .int a, .int b => a == b
  | .str a, .str b => a == b
  | _, _ => false
def keyD : D → Option Key
  | .int i => some (.inl i)
  | .str x => some (.inr x)
  | _ => none
/-- the place of a key among keys -/
def atK (k : Key) : List Key → List D → Option D
  | a :: ks, u :: us => if a = k then some u else atK k ks us
  | _, _ => none
def inD (x : D) : D → Option Bool
  | .tup xs => if x.flat = true ∧ xs.all D.flat = true then some (xs.any fun y => flatEq y x) else none
  | .lst xs => if x.flat = true ∧ xs.all D.flat = true then some (xs.any fun y => flatEq y x) else none
  | .str z => match x with
    | .str c => some (!(Builtin.Str.occurrences z c 0 z.length 1).isEmpty)
    | _ => none
  | _ => none
def opIn (x y : D) : Option O := (inD x y).map fun b => .d (.bl b)
def opNotIn (x y : D) : Option O := (inD x y).map fun b => .d (.bl (!b))
def D.isNon : D → Bool
  | .non => true
  | _ => false
def opIs (x y : D) : Option O := if y.isNon then some (.d (.bl x.isNon)) else none
def opIsNot (x y : D) : Option O := if y.isNon then some (.d (.bl (!x.isNon))) else none
section
variable {X : Cx} {K : PySem.W.Frag} {H : Hp} {G : Addr → Prop}
mutual
theorem dp_of : ∀ (x : D) (v : V) (d : PyData), Rep K H G x v → x.py = some d → Dp K H v d
  | .non, _, _, h, e => by cases h; cases e; exact .non
  | .bl _, _, _, h, e => by cases h; cases e; exact .bl _
  | .int _, _, _, h, e => by cases h; cases e; exact .int _
  | .str _, _, _, h, e => by cases h; cases e; exact .str _
  | .ty _, _, _, _, e => by cases e
  | .ob _, _, _, _, e => by cases e
  | .dic _ _, _, _, _, e => by cases e
  | .scr _, _, _, _, e => by cases e
  | .tup xs, _, d, h, e => by
    cases ep : pys xs with
    | none => rw [D.py, ep] at e; cases e
    | some ds =>
      rw [D.py, ep] at e
      cases e
      cases h with
      | tup g h1 s => exact .tup (.inl h1) (dps_of xs _ _ s ep)
      | tupW w s => exact .tup w.sq (dps_of xs _ _ s ep)
  | .lst xs, _, d, h, e => by
    cases ep : pys xs with
    | none => rw [D.py, ep] at e; cases e
    | some ds =>
      rw [D.py, ep] at e
      cases e
      cases h with
      | lst g h1 s => exact .lst (.of h1) (dps_of xs _ _ s ep)
theorem dps_of : ∀ (xs : List D) (vs : List V) (ds : List PyData), Reps K H G xs vs → pys xs = some ds → DpAll K H vs ds
  | [], _, _, h, e => by cases h; cases e; exact .nil
  | x :: xs, _, _, h, e => by
    cases h with
    | cons a b =>
      cases e1 : x.py with
      | none => rw [pys, e1] at e; cases e
      | some d =>
        cases e2 : pys xs with
        | none => rw [pys, e1, e2] at e; cases e
        | some ds =>
          rw [pys, e1, e2] at e
          cases e
          exact .cons (dp_of x _ _ a e1) (dps_of xs _ _ b e2)
end
theorem dp_vw {x : D} {v : V} {d : PyData} (h : VW K H G x v) (e : x.py = some d) : Dp K H v d := by
  cases h with
  | of r => exact dp_of x v d r e
  | lst h1 s =>
    rename_i a vs xs
    cases ep : pys xs with
    | none => rw [D.py, ep] at e; cases e
    | some ds =>
      rw [D.py, ep] at e
      cases e
      exact .lst (.of h1) (dps_of xs _ _ s ep)
  | dic h1 l s => cases e
theorem eqD_some {x y : D} {b : Bool} (h : eqD x y = some b) : ∃ d e, x.py = some d ∧ y.py = some e ∧ SeqAt.shaped d = true ∧ SeqAt.shaped e = true ∧ b = PyData.eqv d e := by
  unfold eqD at h
  cases e1 : x.py with
  | none => rw [e1] at h; cases h
  | some d =>
    cases e2 : y.py with
    | none => rw [e1, e2] at h; cases h
    | some e =>
      rw [e1, e2] at h
      simp only [Option.bind_some] at h
      split at h
      · rename_i hs
        cases h
        exact ⟨d, e, rfl, rfl, hs.1, hs.2, rfl⟩
      · cases h
theorem os_eq (hu : X.A.units + 64 < cLine) : OpS X (compareOp .Eq) opEq := by
  refine ⟨_, op_eqD hu, fun H G x y dx dy o Q g hx hy e hq => ?_⟩
  unfold opEq at e
  cases eb : eqD dx dy with
  | none => rw [eb] at e; cases e
  | some b =>
    rw [eb] at e
    cases e
    obtain ⟨d, d', e1, e2, s1, s2, rfl⟩ := eqD_some eb
    exact ⟨d, d', dp_vw hx e1, dp_vw hy e2, s1, s2, out_d hq (.bl _)⟩
theorem os_ne (hu : X.A.units + 64 < cLine) : OpS X (compareOp .NotEq) opNe := by
  refine ⟨_, op_neD hu, fun H G x y dx dy o Q g hx hy e hq => ?_⟩
  unfold opNe at e
  cases eb : eqD dx dy with
  | none => rw [eb] at e; cases e
  | some b =>
    rw [eb] at e
    cases e
    obtain ⟨d, d', e1, e2, s1, s2, rfl⟩ := eqD_some eb
    exact ⟨d, d', dp_vw hx e1, dp_vw hy e2, s1, s2, out_d hq (.bl _)⟩
theorem os_lt : OpS X (compareOp .Lt) opLt := by
  refine ⟨_, op_lt.or op_lt_str, fun H G x y dx dy o Q g hx hy e hq => ?_⟩
  unfold opLt at e
  split at e
  · cases e; exact .inl ⟨_, _, hx.int, hy.int, out_d hq (.bl _)⟩
  · cases e; exact .inr ⟨_, _, hx.str, hy.str, out_d hq (.bl _)⟩
  · cases e
theorem os_le : OpS X (compareOp .LtE) opLe := by
  refine ⟨_, op_le.or op_le_str, fun H G x y dx dy o Q g hx hy e hq => ?_⟩
  unfold opLe at e
  split at e
  · cases e; exact .inl ⟨_, _, hx.int, hy.int, out_d hq (.bl _)⟩
  · cases e; exact .inr ⟨_, _, hx.str, hy.str, out_d hq (.bl _)⟩
  · cases e
theorem os_gt : OpS X (compareOp .Gt) opGt := by
  refine ⟨_, op_gt.or op_gt_str, fun H G x y dx dy o Q g hx hy e hq => ?_⟩
  unfold opGt at e
  split at e
  · cases e; exact .inl ⟨_, _, hx.int, hy.int, out_d hq (.bl _)⟩
  · cases e; exact .inr ⟨_, _, hx.str, hy.str, out_d hq (.bl _)⟩
  · cases e
theorem os_ge : OpS X (compareOp .GtE) opGe := by
  refine ⟨_, op_ge.or op_ge_str, fun H G x y dx dy o Q g hx hy e hq => ?_⟩
  unfold opGe at e
  split at e
  · cases e; exact .inl ⟨_, _, hx.int, hy.int, out_d hq (.bl _)⟩
  · cases e; exact .inr ⟨_, _, hx.str, hy.str, out_d hq (.bl _)⟩
  · cases e
theorem flat_rep {x : D} {v : V} (h : Rep K H G x v) (f : x.flat = true) : flatV v = true := by
  cases h <;> first | rfl | cases f
theorem flat_reps : ∀ {xs : List D} {vs : List V}, Reps K H G xs vs → xs.all D.flat = true → vs.all flatV = true
  | _, _, .nil, _ => rfl
  | _, _, .cons a b, f => by
    rw [List.all_cons, Bool.and_eq_true] at f ⊢
    exact ⟨flat_rep a f.1, flat_reps b f.2⟩
theorem flatEq_rep {x y : D} {v u : V} (hx : Rep K H G x v) (hy : Rep K H G y u) (fx : x.flat = true) (fy : y.flat = true) : eqV v u = flatEq x y := by
  cases hx <;> cases hy <;> first | rfl | exact absurd fx (by simp [D.flat]) | exact absurd fy (by simp [D.flat])
theorem inV_rep {x : D} {v : V} (hx : Rep K H G x v) (fx : x.flat = true) : ∀ {xs : List D} {vs : List V}, Reps K H G xs vs → xs.all D.flat = true → inV v vs = xs.any fun y => flatEq y x
  | _, _, .nil, _ => rfl
  | _, _, .cons a b, f => by
    rw [List.all_cons, Bool.and_eq_true] at f
    rw [List.any_cons, ← inV_rep hx fx b f.2, ← flatEq_rep a hx f.1 fx]
    rfl
theorem vw_rep {x : D} {v : V} (h : VW K H G x v) (f : x.flat = true) : Rep K H G x v := by
  cases h with
  | of r => exact r
  | lst => cases f
  | dic => cases f
theorem os_in : OpS X (compareOp .In) opIn := by
  refine ⟨_, op_in_seq.or op_in_str, fun H G x y dx dy o Q g hx hy e hq => ?_⟩
  unfold opIn at e
  cases eb : inD dx dy with
  | none => rw [eb] at e; cases e
  | some b =>
    rw [eb] at e
    cases e
    unfold inD at eb
    split at eb
    · split at eb
      · rename_i hf
        cases eb
        obtain ⟨a, vs, rfl, h1, r1⟩ := hy.tup
        have hx' := vw_rep hx hf.1
        exact .inl ⟨a, vs, rfl, .inr h1, flat_rep hx' hf.1, flat_reps r1 hf.2, by rw [if_neg Bool.false_ne_true, inV_rep hx' hf.1 r1 hf.2]; exact out_d hq (.bl _)⟩
      · cases eb
    · split at eb
      · rename_i hf
        cases eb
        obtain ⟨a, vs, rfl, h1, r1⟩ := hy.lst'
        have hx' := vw_rep hx hf.1
        exact .inl ⟨a, vs, rfl, .inl (.of h1), flat_rep hx' hf.1, flat_reps r1 hf.2, by rw [if_neg Bool.false_ne_true, inV_rep hx' hf.1 r1 hf.2]; exact out_d hq (.bl _)⟩
      · cases eb
    · split at eb
      · cases eb
        exact .inr ⟨_, _, hx.str, hy.str, out_d hq (.bl _)⟩
      · cases eb
    · cases eb
theorem os_notIn : OpS X (compareOp .NotIn) opNotIn := by
  refine ⟨_, op_notIn_seq.or L2.op_notin_str, fun H G x y dx dy o Q g hx hy e hq => ?_⟩
  unfold opNotIn at e
  cases eb : inD dx dy with
  | none => rw [eb] at e; cases e
  | some b =>
    rw [eb] at e
    cases e
    unfold inD at eb
    split at eb
    · split at eb
      · rename_i hf
        cases eb
        obtain ⟨a, vs, rfl, h1, r1⟩ := hy.tup
        have hx' := vw_rep hx hf.1
        exact .inl ⟨a, vs, rfl, .inr h1, flat_rep hx' hf.1, flat_reps r1 hf.2, by rw [if_pos rfl, inV_rep hx' hf.1 r1 hf.2]; exact out_d hq (.bl _)⟩
      · cases eb
    · split at eb
      · rename_i hf
        cases eb
        obtain ⟨a, vs, rfl, h1, r1⟩ := hy.lst'
        have hx' := vw_rep hx hf.1
        exact .inl ⟨a, vs, rfl, .inl (.of h1), flat_rep hx' hf.1, flat_reps r1 hf.2, by rw [if_pos rfl, inV_rep hx' hf.1 r1 hf.2]; exact out_d hq (.bl _)⟩
      · cases eb
    · split at eb
      · cases eb
        exact .inr ⟨_, _, hx.str, hy.str, out_d hq (.bl _)⟩
      · cases eb
    · cases eb
theorem isNon_vw {x : D} {v : V} (h : VW K H G x v) : decide (v = .non) = x.isNon := by
  cases h with
  | of r => cases r <;> simp [D.isNon]
  | lst => simp [D.isNon]
  | dic => simp [D.isNon]
theorem os_is : OpS X (compareOp .Is) opIs := by
  refine ⟨_, op_isN, fun H G x y dx dy o Q g hx hy e hq => ?_⟩
  unfold opIs at e
  split at e
  · rename_i hn
    cases e
    exact ⟨of_decide_eq_true (by rw [isNon_vw hy]; exact hn), by rw [isNon_vw hx]; exact out_d hq (.bl _)⟩
  · cases e
theorem os_isNot : OpS X (compareOp .IsNot) opIsNot := by
  refine ⟨_, op_notN, fun H G x y dx dy o Q g hx hy e hq => ?_⟩
  unfold opIsNot at e
  split at e
  · rename_i hn
    cases e
    exact ⟨of_decide_eq_true (by rw [isNon_vw hy]; exact hn), by rw [isNon_vw hx]; exact out_d hq (.bl _)⟩
  · cases e
/-! ### subscripts -/
def opIx : D → D → Option O
  | .lst xs, .int i => (atI xs i).map .d
  | .tup xs, .int i => (atI xs i).map .d
  | .str z, .int i => if z.length ≤ SZ then (atI z.cps.toList i).map fun c => .d (.str ⟨#[c]⟩) else none
  | _, _ => none
theorem atI_reps {xs : List D} {vs : List V} {i : Int} {x : D} (r : Reps K H G xs vs) (e : atI xs i = some x) : ∃ v, atI vs i = some v ∧ Rep K H G x v := by
  unfold atI at e ⊢
  rw [← r.length]
  cases ei : ixN xs.length i with
  | none => rw [ei] at e; cases e
  | some j =>
    rw [ei] at e
    exact r.get e
theorem is_ix : IxS X opIx := by
  refine ⟨_, ix_seq, fun H G x y dx dy o Q g hx hy e hq => ?_⟩
  unfold opIx at e
  split at e
  · rename_i xs i
    cases ea : atI xs i with
    | none => rw [ea] at e; cases e
    | some z =>
      rw [ea] at e
      cases e
      obtain ⟨a, vs, rfl, h1, r1⟩ := hx.lst'
      obtain ⟨v, e1, r2⟩ := atI_reps r1 ea
      exact .inl ⟨a, vs, i, v, rfl, hy.int, .of h1, e1, out_d hq r2⟩
  · rename_i xs i
    cases ea : atI xs i with
    | none => rw [ea] at e; cases e
    | some z =>
      rw [ea] at e
      cases e
      obtain ⟨a, vs, rfl, h1, r1⟩ := hx.tup
      obtain ⟨v, e1, r2⟩ := atI_reps r1 ea
      exact .inr (.inl ⟨a, vs, i, v, rfl, hy.int, h1, e1, out_d hq r2⟩)
  · split at e
    · rename_i z i hz
      cases ea : atI z.cps.toList i with
      | none => rw [ea] at e; cases e
      | some c =>
        rw [ea] at e
        cases e
        exact .inr (.inr ⟨z, i, c, hx.str, hy.int, by rw [sz_eq]; exact hz, ea, out_d hq (.str _)⟩)
    · cases e
  · cases e
end
end PL
end
section
set_option Elab.async false
set_option maxRecDepth 100000
set_option linter.all false
set_option maxHeartbeats 1000000
/-! PL5: tests, and, or, not, if-else, chains, slices; calls of built-ins. -/
namespace PL
open PySem PySem.Spec PyProof.Rows L2
section
variable {Z : Zone} {X : Cx} {W : WX} {α β γ δ : Type}
theorem Does.imp {RR : RRel α β} {t t' : TR β} {m : M α} (h : Does Z X W RR t m) (i : ∀ σ H Q, t σ H Q → t' σ H Q) : Does Z X W RR t' m := by
  intro Γ σ H G F hf hg
  have z := h Γ σ H G F hf hg
  cases e : m Γ with
  | stuck => trivial
  | ok a Γ1 => rw [e] at z; exact fun Q hq => i _ _ _ (z Q hq)
  | err x d Γ1 => rw [e] at z; exact fun hW Q => i _ _ _ (z hW Q)
/-- the weakest reading of an expression -/
def cE (X : Cx) (e : Expr) : TE := fun σ H Q => ∀ pins s, Inv X pins σ H s → wpAny (model X.prog X.w) X.A (eval e X.env) (L2.EP X pins σ Q) X.xe s
def cT (X : Cx) (e : Expr) : TT := fun σ H Q => ∀ pins s, Inv X pins σ H s → wpAny (model X.prog X.w) X.A (isTrue e X.env (eval e X.env)) (TP X pins σ Q) X.xe s
theorem pe_c {e : Expr} : PE X e (cE X e) := ⟨fun pins s σ H Q I h => h pins s I⟩
theorem pt_c {e : Expr} : PT X e (cT X e) := ⟨fun pins s σ H Q I h => h pins s I⟩
theorem EX.c {e : Expr} {m : M O} (h : EX Z X e m) (tk : Takes X W) : Does Z X W (RO X) (cE X e) m := by
  obtain ⟨t, ht, hd⟩ := h W tk
  exact hd.imp fun σ H Q q pins s I => ht.run pins s σ H Q I q
theorem ED.c {e : Expr} {m : M D} (h : ED Z X e m) (tk : Takes X W) : Does Z X W (RD X) (cE X e) m := by
  obtain ⟨t, ht, hd⟩ := h W tk
  exact hd.imp fun σ H Q q pins s I => ht.run pins s σ H Q I q
theorem TX.c {e : Expr} {m : M Bool} (h : TX Z X e m) (tk : Takes X W) : Does Z X W RB (cT X e) m := by
  obtain ⟨t, ht, hd⟩ := h W tk
  exact hd.imp fun σ H Q q pins s I => ht.run pins s σ H Q I q
/-! ### tests -/
def O.tr : O → Option Bool
  | .d (.bl k) => some k
  | _ => none
def mB (m : M O) : M Bool := m.bind fun o Γ => optR o.tr Γ
theorem Does.test {t : TE} {m : M O} (h : Does Z X W (RO X) t m) : Does Z X W RB (tTest t) (mB m) := by
  refine h.bind (tk := fun x (_ : Sl) H (Q : Bool → Hp → Prop) => ∃ k, x = .bl k ∧ Q k H) fun o v Γ σ H G Fo F hr hf hg => ?_
  cases e : o.tr with
  | none => trivial
  | some k =>
    intro Q hq
    have ho : o = .d (.bl k) := by
      unfold O.tr at e
      split at e
      · cases e; rfl
      · cases e
    subst ho
    obtain ⟨hr, rfl⟩ := hr
    cases hr
    exact ⟨k, rfl, hq k H G [] F ⟨rfl, rfl⟩ ⟨hf, hg, Ext.refl, fun a ha => .inl ha⟩⟩
def truthD : D → Option Bool
  | .non => some false
  | .bl b => some b
  | .int i => some (i != 0)
  | .str x => if x.length ≤ SZ then some ((x.length : Int) != 0) else none
  | .tup xs => some (!xs.isEmpty)
  | .lst xs => some (!xs.isEmpty)
  | .dic ks _ => some (!ks.isEmpty)
  | _ => none
theorem tru_vw {H : Hp} {G : Addr → Prop} {x : D} {v : V} {k : Bool} (h : VW X.K H G x v) (e : truthD x = some k) : TruV X.K v H k := by
  cases x with
  | non => cases e; rw [h.non]; rfl
  | bl b => cases e; rw [h.bl]; rfl
  | int i => cases e; rw [h.int]; rfl
  | str y =>
    unfold truthD at e
    simp only at e
    split at e
    · rename_i hz
      cases e
      rw [h.str]
      exact ⟨by rw [sz_eq]; exact hz, rfl⟩
    · cases e
  | ty n => cases e
  | ob a => cases e
  | scr ns => cases e
  | tup xs =>
    cases e
    obtain ⟨a, vs, rfl, h1, r⟩ := h.tup
    exact .inr (.inl ⟨vs, h1, by cases r <;> rfl⟩)
  | lst xs =>
    cases e
    obtain ⟨a, vs, rfl, h1, r⟩ := h.lst'
    exact .inl ⟨vs, .of h1, by cases r <;> rfl⟩
  | dic ks us =>
    cases e
    obtain ⟨a, vs, rfl, h1, l, r⟩ := h.dic'
    refine .inr (.inr ⟨_, h1, ?_⟩)
    cases ks with
    | nil => rfl
    | cons k ks =>
      cases vs with
      | nil => cases l
      | cons v vs => rfl
def mTruth (m : M Opd) : M Bool := m.bind fun p Γ => optR ((rsv p Γ).bind truthD) Γ
theorem doesK_truth {p : Opd} : DoesK Z X W (RP X) RB p (fun x (_ : Sl) H Q => ∃ k, TruV X.K x H k ∧ Q k H) (fun Γ => optR ((rsv p Γ).bind truthD) Γ) := by
  intro v Γ σ H G Fo F hr hf hg
  cases e : (rsv p Γ).bind truthD with
  | none => dsimp only; rw [e]; trivial
  | some k =>
    dsimp only
    rw [e]
    intro Q hq
    obtain ⟨x, e1, e2⟩ := Option.bind_eq_some_iff.mp e
    have g := hg.right
    exact ⟨k, tru_vw (vw_of hr hf g.nd g.ng e1) e2, hq k H G [] F ⟨rfl, rfl⟩ ⟨hf, g, Ext.refl, fun a ha => .inl (List.mem_append_right _ ha)⟩⟩
theorem tx_truth {e : Expr} {m : M Opd} (h : EP Z X e m) (he : ∀ whole, isTrue e X.env whole = (do let v ← whole; standAt e.pos; holding [v] (truthy v)) := by intro _; rfl) : TX Z X e (mTruth m) := by
  intro W tk
  obtain ⟨t, ht, hd⟩ := h W tk
  exact ⟨_, pt_truth ht he, hd.bind (tk := fun x (_ : Sl) H (Q : Bool → Hp → Prop) => ∃ k, TruV X.K x H k ∧ Q k H) fun p => doesK_truth⟩
theorem tx_cmp {op : CmpOp} {a b : Expr} {pos : Pos} {ma mb : M Opd} {f : D → D → Option O} (ho : OpS X (compareOp op) f) (ha : EP Z X a ma) (hb : EP Z X b mb) (hm : behindInMarks op b = false) : TX Z X (.Compare a [op] [b] pos) (mB (mBin f ma mb)) := by
  intro W tk
  obtain ⟨r, h1, h2⟩ := ho
  obtain ⟨ta, pa, da⟩ := ha W tk
  obtain ⟨tb, pb, db⟩ := hb W tk
  exact ⟨_, pt_cmpR h1 pa pb hm, Does.test ((Does.pair RP.stable da db).bind (tk := fun uv _ H Q => r uv.1 uv.2 H Q) fun p => doesK_op2 h2 p)⟩
theorem tx_not {a : Expr} {pos : Pos} {m : M Bool} (h : TX Z X a m) : TX Z X (.UnaryOp .Not a pos) (M.map (!·) m) := by
  intro W tk
  obtain ⟨t, ht, hd⟩ := h W tk
  refine ⟨_, pt_not ht, hd.bind (RR' := RB) (tk := fun c (_ : Sl) H (Q : Bool → Hp → Prop) => Q (!c) H) (k := fun c Γ => .ok (!c) Γ) fun c v Γ σ H G Fo F hr hf hg Q hq => ?_⟩
  obtain ⟨rfl, rfl⟩ := hr
  exact hq _ H G [] F ⟨rfl, rfl⟩ ⟨hf, hg, Ext.refl, fun a ha => .inl ha⟩
def mIf {α : Type} (mt : M Bool) (ma mb : M α) : M α := mt.bind fun c => if c = true then ma else mb
theorem Does.ite {RR : RRel α β} {t : TT} {ta tb : TR β} {mt : M Bool} {ma mb : M α} (h : Does Z X W RB t mt) (ha : Does Z X W RR ta ma) (hb : Does Z X W RR tb mb) :
    Does Z X W RR (fun σ H Q => t σ H fun c H1 => if c = true then ta σ H1 Q else tb σ H1 Q) (mIf mt ma mb) := by
  refine h.bind (tk := fun c σ H Q => if c = true then ta σ H Q else tb σ H Q) fun c v Γ σ H G Fo F hr hf hg => ?_
  obtain ⟨rfl, rfl⟩ := hr
  cases c with
  | true =>
    have z := ha Γ σ H G F hf hg
    simp only [if_true] at z ⊢
    exact z
  | false =>
    have z := hb Γ σ H G F hf hg
    simp only [Bool.false_eq_true, if_false] at z ⊢
    exact z
/-- tests joined -/
def PWX (Z : Zone) (X : Cx) (e : Expr) (m : M Bool) : Prop := ∀ W, Takes X W → ∃ t, PW X e t ∧ Does Z X W RB t m
theorem tx_pw {e : Expr} {m : M Bool} (h : PWX Z X e m) : TX Z X e m := fun W tk => let ⟨t, a, b⟩ := h W tk; ⟨t, a.pt, b⟩
theorem Does.pureB {c : Bool} : Does Z X W RB (fun _ H Q => Q c H) (M.pure c) := fun Γ σ H G F hf hg Q hq => hq c H G [] F ⟨rfl, rfl⟩ (Aft.same hf hg)
theorem pw_and1X {a : Expr} {pos : Pos} {m : M Bool} (h : TX Z X a m) : PWX Z X (.BoolOp .And [a] pos) m := fun W tk => let ⟨t, a, b⟩ := h W tk; ⟨t, pw_and1 a, b⟩
theorem pw_or1X {a : Expr} {pos : Pos} {m : M Bool} (h : TX Z X a m) : PWX Z X (.BoolOp .Or [a] pos) m := fun W tk => let ⟨t, a, b⟩ := h W tk; ⟨t, pw_or1 a, b⟩
theorem pw_andX {a b : Expr} {rest : List Expr} {pos : Pos} {ma mb : M Bool} (ha : TX Z X a ma) (hb : PWX Z X (.BoolOp .And (b :: rest) pos) mb) : PWX Z X (.BoolOp .And (a :: b :: rest) pos) (mIf ma mb (M.pure false)) := by
  intro W tk
  obtain ⟨ta, pa, da⟩ := ha W tk
  obtain ⟨tb, pb, db⟩ := hb W tk
  exact ⟨_, pw_and pa pb, da.ite db Does.pureB⟩
theorem pw_orX {a b : Expr} {rest : List Expr} {pos : Pos} {ma mb : M Bool} (ha : TX Z X a ma) (hb : PWX Z X (.BoolOp .Or (b :: rest) pos) mb) : PWX Z X (.BoolOp .Or (a :: b :: rest) pos) (mIf ma (M.pure true) mb) := by
  intro W tk
  obtain ⟨ta, pa, da⟩ := ha W tk
  obtain ⟨tb, pb, db⟩ := hb W tk
  exact ⟨_, pw_or pa pb, da.ite Does.pureB db⟩
/-! ### joined as values -/
def mSel (w : Bool) (ma mb : M O) : M O := ma.bind fun o Γ => match o.view.bind truthD with
  | some k => if k = w then mb Γ else .ok o Γ
  | none => .stuck
theorem Does.sel {w : Bool} {ta tb : TE} {ma mb : M O} (ha : Does Z X W (RO X) ta ma) (hb : Does Z X W (RO X) tb mb) :
    Does Z X W (RO X) (fun σ H Q => ta σ H fun x H1 => ∃ k, TruV X.K x H1 k ∧ if k = w then tb σ H1 Q else Q x H1) (mSel w ma mb) := by
  refine ha.bind (tk := fun x σ H Q => ∃ k, TruV X.K x H k ∧ if k = w then tb σ H Q else Q x H) fun o v Γ σ H G Fo F hr hf hg => ?_
  dsimp only
  cases e : o.view.bind truthD with
  | none => trivial
  | some k =>
    dsimp only
    obtain ⟨x, e1, e2⟩ := Option.bind_eq_some_iff.mp e
    have tv := tru_vw (vw_view hr e1) e2
    by_cases hk : k = w
    · rw [if_pos hk]
      have z := (hb Γ σ H G F hf hg.right).from (F := Fo ++ F) Ext.refl fun a ha => .inl (List.mem_append_right _ ha)
      cases em : mb Γ with
      | stuck => trivial
      | ok b Γ1 => rw [em] at z; exact fun Q hq => ⟨k, tv, by rw [if_pos hk]; exact z Q hq⟩
      | err x d Γ1 => rw [em] at z; exact fun hW Q => ⟨k, tv, by rw [if_pos hk]; exact z hW Q⟩
    · rw [if_neg hk]
      exact fun Q hq => ⟨k, tv, by rw [if_neg hk]; exact hq v H G Fo F hr ⟨hf, hg, Ext.refl, fun a ha => .inl ha⟩⟩
theorem ex_one {op : BoolOp} {a : Expr} {pos : Pos} {m : M O} (h : EX Z X a m) : EX Z X (.BoolOp op [a] pos) m := fun W tk => let ⟨t, a, b⟩ := h W tk; ⟨t, pe_one a, b⟩
theorem ex_and {a b : Expr} {rest : List Expr} {pos : Pos} {ma mb : M O} (ha : EX Z X a ma) (hb : EX Z X (.BoolOp .And (b :: rest) pos) mb) : EX Z X (.BoolOp .And (a :: b :: rest) pos) (mSel true ma mb) := by
  intro W tk
  obtain ⟨ta, pa, da⟩ := ha W tk
  obtain ⟨tb, pb, db⟩ := hb W tk
  exact ⟨_, pe_andT pa pb, da.sel db⟩
theorem ex_or {a b : Expr} {rest : List Expr} {pos : Pos} {ma mb : M O} (ha : EX Z X a ma) (hb : EX Z X (.BoolOp .Or (b :: rest) pos) mb) : EX Z X (.BoolOp .Or (a :: b :: rest) pos) (mSel false ma mb) := by
  intro W tk
  obtain ⟨ta, pa, da⟩ := ha W tk
  obtain ⟨tb, pb, db⟩ := hb W tk
  refine ⟨_, pe_orT pa pb, (da.sel (w := false) db).imp fun σ H Q h => ?_⟩
  show ta σ H fun x H1 => ∃ k, TruV X.K x H1 k ∧ if k = true then Q x H1 else tb σ H1 Q
  have e : (fun x H1 => ∃ k, TruV X.K x H1 k ∧ if k = true then Q x H1 else tb σ H1 Q) = (fun x H1 => ∃ k, TruV X.K x H1 k ∧ if k = false then tb σ H1 Q else Q x H1) := by
    funext x H1
    refine propext ⟨fun ⟨k, a, b⟩ => ⟨k, a, ?_⟩, fun ⟨k, a, b⟩ => ⟨k, a, ?_⟩⟩
    · cases k <;> simpa using b
    · cases k <;> simpa using b
  rw [e]
  exact h
theorem ex_not {a : Expr} {pos : Pos} {m : M Opd} (h : EP Z X a m) : EX Z X (.UnaryOp .Not a pos) (M.map (fun c => .d (.bl (!c))) (mTruth m)) := by
  intro W tk
  obtain ⟨t, ht, hd⟩ := h W tk
  have z := hd.bind (tk := fun x (_ : Sl) H (Q : Bool → Hp → Prop) => ∃ k, TruV X.K x H k ∧ Q k H) fun p => doesK_truth
  refine ⟨_, pe_notT ht, z.bind (RR' := RO X) (tk := fun c (_ : Sl) H (Q : VK) => Q (.bl (!c)) H) (k := fun c Γ => .ok (.d (.bl (!c))) Γ) fun c v Γ σ H G Fo F hr hf hg Q hq => ?_⟩
  obtain ⟨rfl, rfl⟩ := hr
  exact hq _ H G [] F ⟨.bl _, rfl⟩ ⟨hf, hg, Ext.refl, fun a ha => .inl ha⟩
theorem ex_if {c a b : Expr} {pos : Pos} {mc : M Bool} {ma mb : M O} (hc : TX Z X c mc) (ha : EX Z X a ma) (hb : EX Z X b mb) : EX Z X (.IfExp c a b pos) (mIf mc ma mb) := by
  intro W tk
  obtain ⟨tc, pc, dc⟩ := hc W tk
  obtain ⟨ta, pa, da⟩ := ha W tk
  obtain ⟨tb, pb, db⟩ := hb W tk
  exact ⟨_, pe_ifExp pc pa pb, dc.ite da db⟩
/-! ### a op b op' c -/
def mChain (f g : D → D → Option O) (ma mb mc : M Opd) : M O := (M.pair ma mb).bind fun p Γ1 => (M.op2 f p.1 p.2 Γ1).bind fun o _ => match o.tr with
  | some true => (mc Γ1).bind fun q Γ2 => M.op2 g p.2 q Γ2
  | some false => .ok (.d (.bl false)) Γ1
  | none => .stuck
theorem tr_some {o : O} {k : Bool} (e : o.tr = some k) : o = .d (.bl k) := by
  unfold O.tr at e
  split at e
  · cases e; rfl
  · cases e
theorem optR_some {α : Type} {o : Option α} {Γ Γ1 : Fr} {a : α} (h : optR o Γ = .ok a Γ1) : o = some a ∧ Γ = Γ1 := by
  cases o with
  | none => cases h
  | some b => cases h; exact ⟨rfl, rfl⟩
theorem does_chain {r r' : R2} {f g : D → D → Option O} {ta tb tc : TE} {ma mb mc : M Opd} (h2 : ∀ H G x y dx dy o (Q : VK), GH H G → VW X.K H G dx x → VW X.K H G dy y → f dx dy = some o → (∀ v H' G' Fo, RelO X.K H' G' o v Fo → New H G H' G' Fo → Q v H') → r x y H Q)
    (h2' : ∀ H G x y dx dy o (Q : VK), GH H G → VW X.K H G dx x → VW X.K H G dy y → g dx dy = some o → (∀ v H' G' Fo, RelO X.K H' G' o v Fo → New H G H' G' Fo → Q v H') → r' x y H Q) (da : Does Z X W (RP X) ta ma) (db : Does Z X W (RP X) tb mb) (dc : Does Z X W (RP X) tc mc) : Does Z X W (RO X) (tChain r r' ta tb tc) (mChain f g ma mb mc) := by
  refine (Does.pair RP.stable da db).bind (tk := fun uv σ H Q => r uv.1 uv.2 H fun z H3 => ∃ k, z = .bl k ∧ (if k = true then tc σ H3 fun w' H4 => r' uv.2 w' H4 Q else Q (.bl false) H3)) fun p => ?_
  rintro ⟨x, y⟩ Γ σ H G Fo F ⟨F1, F2, hr1, hr2, rfl⟩ hf hg
  dsimp only
  have g0 := hg.right
  cases e1 : M.op2 f p.1 p.2 Γ with
  | stuck => trivial
  | err x d Γ1 =>
    unfold M.op2 at e1
    cases e2 : (rsv p.1 Γ).bind fun x => (rsv p.2 Γ).bind fun y => f x y with
    | none => rw [e2] at e1; cases e1
    | some o => rw [e2] at e1; cases e1
  | ok o Γ1 =>
    unfold M.op2 at e1
    obtain ⟨e2, rfl⟩ := optR_some e1
    obtain ⟨dx, ex, e3⟩ := Option.bind_eq_some_iff.mp e2
    obtain ⟨dy, ey, e4⟩ := Option.bind_eq_some_iff.mp e3
    have first : ∀ (Q : VK), (∀ v H' G' Fo, RelO X.K H' G' o v Fo → New H G H' G' Fo → Q v H') → r x y H Q := fun Q hq => h2 H G x y dx dy o Q g0.gh (vw_of hr1 hf g0.nd g0.ng ex) (vw_of hr2 hf g0.nd g0.ng ey) e4 hq
    show EG Z X σ H G _ W (RO X) _ (match o.tr with
      | some true => (mc Γ).bind fun q Γ2 => M.op2 g p.2 q Γ2
      | some false => .ok (.d (.bl false)) Γ
      | none => .stuck)
    cases ek : o.tr with
    | none => trivial
    | some k =>
      have eo := tr_some ek
      subst eo
      have step : ∀ {H' G' Fo'}, New H G H' G' Fo' → RelF X.K H' G' Γ σ F ∧ Good Z H' G' ((F1 ++ F2) ++ F) ∧ RP X p.2 y σ H' G' F2 ∧ Ext H G ((F1 ++ F2) ++ F) H' G' := fun {H' G' Fo'} n =>
        ⟨hf.ext (n.ext (F := [])) (by simp) (by simp), (n.good hg).right, RP.stable.go hr2 (n.ext (F := [])) (by simp) (by simp), n.ext⟩
      cases k with
      | false =>
        intro Q hq
        refine first _ fun v H' G' Fo' hr n => ?_
        obtain ⟨hr, rfl⟩ := hr
        cases hr
        obtain ⟨s1, s2, s3, s4⟩ := step n
        exact ⟨false, rfl, by rw [if_neg Bool.false_ne_true]; exact hq (.bl false) H' G' [] F ⟨.bl _, rfl⟩ ⟨s1, s2.right, s4, fun a ha => .inl (List.mem_append_right _ ha)⟩⟩
      | true =>
        dsimp only
        have inner : ∀ {H' G' Fo'}, New H G H' G' Fo' → EG Z X σ H G ((F1 ++ F2) ++ F) W (RO X) (fun σ _ Q => tc σ H' fun w' H4 => r' y w' H4 Q) ((mc Γ).bind fun q Γ2 => M.op2 g p.2 q Γ2) := fun {H' G' Fo'} n => by
          obtain ⟨s1, s2, s3, s4⟩ := step n
          rw [List.append_assoc] at s2
          have z := DoesK.pair RP.stable dc p.2 y Γ σ H' G' F2 F s3 s1 s2.right
          have z2 := EG.bind (tk := fun uv _ H Q => r' uv.1 uv.2 H Q) z fun q => doesK_op2 h2' q
          have z3 := z2.from s4 (fun a ha => .inl (by rw [List.append_assoc]; exact List.mem_append_right _ ha))
          have e5 : ((mc Γ).bind fun y Γ2 => Res.ok (p.2, y) Γ2).bind (fun q => M.op2 g q.1 q.2) = (mc Γ).bind fun q Γ2 => M.op2 g p.2 q Γ2 := by
            cases mc Γ <;> rfl
          rw [e5] at z3
          exact z3
        cases em : (mc Γ).bind fun q Γ2 => M.op2 g p.2 q Γ2 with
        | stuck => trivial
        | ok b Γ2 =>
          intro Q hq
          refine first _ fun v H' G' Fo' hr n => ?_
          obtain ⟨hr, rfl⟩ := hr
          cases hr
          have z := inner n
          rw [em] at z
          exact ⟨true, rfl, by rw [if_pos rfl]; exact z Q hq⟩
        | err e d Γ2 =>
          intro hW Q
          refine first _ fun v H' G' Fo' hr n => ?_
          obtain ⟨hr, rfl⟩ := hr
          cases hr
          have z := inner n
          rw [em] at z
          exact ⟨true, rfl, by rw [if_pos rfl]; exact z hW Q⟩
theorem ex_chain {op op' : CmpOp} {a b c : Expr} {pos : Pos} {f g : D → D → Option O} {ma mb mc : M Opd} (ho : OpS X (compareOp op) f) (ho' : OpS X (compareOp op') g) (ha : EP Z X a ma) (hb : EP Z X b mb) (hc : EP Z X c mc)
    (hm : lastMarks [op, op'] [b, c] = false := by with_unfolding_all rfl) : EX Z X (.Compare a [op, op'] [b, c] pos) (mChain f g ma mb mc) := by
  intro W tk
  obtain ⟨r, h1, h2⟩ := ho
  obtain ⟨r', h1', h2'⟩ := ho'
  obtain ⟨ta, pa, da⟩ := ha W tk
  obtain ⟨tb, pb, db⟩ := hb W tk
  obtain ⟨tc, pc, dc⟩ := hc W tk
  exact ⟨_, pe_chain h1 h1' pa pb pc hm, does_chain h2 h2' da db dc⟩
theorem tx_chain {op op' : CmpOp} {a b c : Expr} {pos : Pos} {f g : D → D → Option O} {ma mb mc : M Opd} (ho : OpS X (compareOp op) f) (ho' : OpS X (compareOp op') g) (ha : EP Z X a ma) (hb : EP Z X b mb) (hc : EP Z X c mc)
    (hm : lastMarks [op, op'] [b, c] = false := by with_unfolding_all rfl) : TX Z X (.Compare a [op, op'] [b, c] pos) (mB (mChain f g ma mb mc)) := by
  intro W tk
  obtain ⟨r, h1, h2⟩ := ho
  obtain ⟨r', h1', h2'⟩ := ho'
  obtain ⟨ta, pa, da⟩ := ha W tk
  obtain ⟨tb, pb, db⟩ := hb W tk
  obtain ⟨tc, pc, dc⟩ := hc W tk
  exact ⟨_, pt_chain h1 h1' pa pb pc hm, Does.test (does_chain h2 h2' da db dc)⟩
/-! ### slices -/
def RI : RRel (Option Int) (Option Int) := fun a v _ _ _ Fo => a = v ∧ Fo = []
theorem RI.stable : Stable RI := ⟨fun h _ _ _ => h⟩
def P0 (Z : Zone) (X : Cx) (e : Option Expr) (m : M (Option Int)) : Prop := ∀ W, Takes X W → ∃ t, PO X e t ∧ Does Z X W RI t m
def intD : D → Option (Option Int)
  | .int i => some (some i)
  | _ => none
def mInt (m : M Opd) : M (Option Int) := m.bind fun p Γ => optR ((rsv p Γ).bind intD) Γ
theorem p0_none : P0 Z X none (M.pure none) := fun W tk => ⟨_, po_none, fun Γ σ H G F hf hg Q hq => hq none H G [] F ⟨rfl, rfl⟩ (Aft.same hf hg)⟩
theorem p0_some {e : Expr} {m : M Opd} (h : EP Z X e m) : P0 Z X (some e) (mInt m) := by
  intro W tk
  obtain ⟨t, ht, hd⟩ := h W tk
  refine ⟨_, po_some ht, hd.bind (RR' := RI) (tk := fun (x : V) (_ : Sl) H (Q : Option Int → Hp → Prop) => ∃ i, x = V.int i ∧ Q (some i) H) fun p v Γ σ H G Fo F hr hf hg => ?_⟩
  cases e : (rsv p Γ).bind intD with
  | none => trivial
  | some k =>
    intro Q hq
    obtain ⟨x, e1, e2⟩ := Option.bind_eq_some_iff.mp e
    have g := hg.right
    have hx := vw_of hr hf g.nd g.ng e1
    unfold intD at e2
    split at e2
    · cases e2
      exact ⟨_, hx.int, hq _ H G [] F ⟨rfl, rfl⟩ ⟨hf, g, Ext.refl, fun a ha => .inl (List.mem_append_right _ ha)⟩⟩
    · cases e2
def SlS (X : Cx) (f : D → Option Int → Option Int → Option O) : Prop := ∃ r, SlR X r ∧
  ∀ H G x dx lo hi o (Q : VK), GH H G → VW X.K H G dx x → f dx lo hi = some o → (∀ v H' G' Fo, RelO X.K H' G' o v Fo → New H G H' G' Fo → Q v H') → r x lo hi H Q
def mSlice (f : D → Option Int → Option Int → Option O) (ma : M Opd) (ml mh : M (Option Int)) : M O :=
  (M.pair (M.pair ma ml) mh).bind fun p Γ => optR ((rsv p.1.1 Γ).bind fun x => f x p.1.2 p.2) Γ
theorem ex_slice {e : Expr} {lo hi : Option Expr} {pos p2 : Pos} {f : D → Option Int → Option Int → Option O} {ma : M Opd} {ml mh : M (Option Int)} (hs : SlS X f) (ha : EP Z X e ma) (hl : P0 Z X lo ml) (hh : P0 Z X hi mh) :
    EX Z X (.Subscript e (.Slice lo hi none p2) pos) (mSlice f ma ml mh) := by
  intro W tk
  obtain ⟨r, h1, h2⟩ := hs
  obtain ⟨ta, pa, da⟩ := ha W tk
  obtain ⟨tl, pl, dl⟩ := hl W tk
  obtain ⟨th, ph, dh⟩ := hh W tk
  refine ⟨_, pe_slice h1 pa pl ph, (Does.pair (RRp.stable RP.stable RI.stable) (Does.pair RP.stable da dl) dh).bind (tk := fun uv (_ : Sl) H (Q : VK) => r uv.1.1 uv.1.2 uv.2 H Q) fun p => ?_⟩
  rintro ⟨⟨x, l⟩, u⟩ Γ σ H G Fo F ⟨_, _, ⟨F1, _, hr1, ⟨e1, rfl⟩, rfl⟩, ⟨e2, rfl⟩, rfl⟩ hf hg
  have g := hg.right
  dsimp only at e1 e2 ⊢
  subst e1 e2
  cases e : (rsv p.1.1 Γ).bind fun x => f x p.1.2 p.2 with
  | none => trivial
  | some o =>
    obtain ⟨dx, ex, e3⟩ := Option.bind_eq_some_iff.mp e
    exact EG.new (t := fun _ H Q => r x p.1.2 p.2 H Q) (fun Q hq => h2 H G x dx _ _ o Q g.gh (vw_of hr1 hf g.nd g.ng ex) e3 hq) hf hg
def cutD {α : Type} (xs : List α) (lo hi : Option Int) : List α := (xs.drop (HT.sIx xs.length 0 lo)).take (HT.sIx xs.length xs.length hi - HT.sIx xs.length 0 lo)
def opSl (x : D) (lo hi : Option Int) : Option O := match x with
  | .lst xs => some (.ol (cutD xs lo hi))
  | .tup xs => some (.d (.tup (cutD xs lo hi)))
  | .str z => if z.length ≤ SZ then some (.d (.str (cutS z lo hi))) else none
  | .scr ns => some (.ol (cutD (ns.map D.int) lo hi))
  | _ => none
theorem ss_sl : SlS X opSl := by
  refine ⟨_, sl_list.or (sl_tupA.or sl_str), fun H G x dx lo hi o Q g hx e hq => ?_⟩
  unfold opSl at e
  split at e
  · rename_i xs
    cases e
    obtain ⟨a, vs, rfl, h1, r⟩ := hx.lst'
    refine .inl ⟨a, vs, rfl, .of h1, fun p hp => ?_⟩
    have z : Reps X.K H G (cutD xs lo hi) (cutV vs lo hi) := by
      unfold cutD cutV
      rw [r.length]
      exact (r.drop _).take _
    exact out_lst g hq z hp
  · rename_i xs
    cases e
    obtain ⟨a, vs, rfl, h1, r⟩ := hx.tup
    have z : Reps X.K H G (cutD xs lo hi) (cutV vs lo hi) := by
      unfold cutD cutV
      rw [r.length]
      exact (r.drop _).take _
    refine .inr (.inl ⟨a, vs, rfl, h1, fun w => ?_, fun _ p hp => out_tup hq z hp⟩)
    have ew : cutD xs lo hi = xs := by
      unfold cutD
      rw [r.length, w.1, w.2, List.drop_zero, Nat.sub_zero, ← r.length, List.take_length]
    rw [ew] at hq
    cases hx with | of r => exact out_d hq r
  · split at e
    · rename_i hz
      cases e
      exact .inr (.inr ⟨_, hx.str, by rw [sz_eq]; exact hz, out_d hq (.str _)⟩)
    · cases e
  · rename_i ns
    cases e
    have z : Reps X.K H G (cutD (ns.map D.int) lo hi) (cutV (ns.map V.int) lo hi) := by
      unfold cutD cutV
      rw [List.length_map, List.length_map]
      exact ((Reps.ofInts ns).drop _).take _
    cases hx with
    | of r => cases r with
      | scr gg h1 => exact .inl ⟨_, _, rfl, .inl (.inr ⟨_, h1⟩), fun p hp => out_lst g hq z hp⟩
      | scrW w => exact .inl ⟨_, _, rfl, w H, fun p hp => out_lst g hq z hp⟩
  · cases e
/-- xs[::-1] of a list -/
def opRev : D → Option O
  | .lst xs => some (.ol xs.reverse)
  | _ => none
theorem ex_rev {e : Expr} {k : Nat} {p1 p2 p3 pos : Pos} {m : M Opd} (h : EP Z X e m) : EX Z X (.Subscript e (.Slice none none (some (.UnaryOp .USub (.Constant (.int 1) k p1) p2)) p3) pos) (mUn opRev m) := by
  intro W tk
  obtain ⟨t, ht, hd⟩ := h W tk
  refine ⟨_, pe_revL ht, hd.bind (tk := fun x (_ : Sl) H1 (Q : VK) => ∃ a xs, x = .ref a ∧ SqL X.K H1 a xs ∧ ∀ p, H1 p = none → Q (.ref p) (upd H1 p (.lst xs.reverse))) fun p =>
    doesK_op1 (r := fun x H1 Q => ∃ a xs, x = .ref a ∧ SqL X.K H1 a xs ∧ ∀ p, H1 p = none → Q (.ref p) (upd H1 p (.lst xs.reverse))) (fun H G x dx o Q g hx e hq => ?_) p⟩
  unfold opRev at e
  split at e
  · cases e
    obtain ⟨a, vs, rfl, h1, r⟩ := hx.lst'
    exact ⟨a, vs, rfl, .of h1, fun p hp => out_lst g hq r.reverse hp⟩
  · cases e
/-! ### built-ins -/
def fLen : List D → Option O
  | [.str x] => if x.length ≤ SZ then some (.d (.int x.length)) else none
  | [.tup xs] => some (.d (.int xs.length))
  | [.lst xs] => some (.d (.int xs.length))
  | [.dic ks _] => some (.d (.int ks.length))
  | _ => none
theorem vws1 {K : PySem.W.Frag} {H : Hp} {G : Addr → Prop} {x : D} {vs : List V} (h : VWs K H G [x] vs) : ∃ v, vs = [v] ∧ VW K H G x v := by
  cases h with | cons a b => cases b; exact ⟨_, rfl, a⟩
theorem vws2 {K : PySem.W.Frag} {H : Hp} {G : Addr → Prop} {x y : D} {vs : List V} (h : VWs K H G [x, y] vs) : ∃ v w, vs = [v, w] ∧ VW K H G x v ∧ VW K H G y w := by
  cases h with | cons a b => cases b with | cons c d => cases d; exact ⟨_, _, rfl, a, c⟩
theorem cs_len : CaS X (.builtin "len") fLen := by
  refine ⟨_, call_len.or call_lenD, fun H G xs ds o Q g hx e hq => ?_⟩
  unfold fLen at e
  split at e
  · split at e
    · rename_i hz
      cases e
      obtain ⟨v, rfl, h⟩ := vws1 hx
      exact .inl ⟨_, _, rfl, by rw [h.str]; exact ⟨by rw [sz_eq]; exact hz, rfl⟩, out_d hq (.int _)⟩
    · cases e
  · cases e
    obtain ⟨v, rfl, h⟩ := vws1 hx
    obtain ⟨a, vs, rfl, h1, r⟩ := h.tup
    exact .inl ⟨_, _, rfl, .inr ⟨vs, h1, r.length⟩, out_d hq (.int _)⟩
  · cases e
    obtain ⟨v, rfl, h⟩ := vws1 hx
    obtain ⟨a, vs, rfl, h1, r⟩ := h.lst'
    exact .inl ⟨_, _, rfl, .inl ⟨vs, .of h1, r.length⟩, out_d hq (.int _)⟩
  · rename_i ks us
    cases e
    obtain ⟨v, rfl, h⟩ := vws1 hx
    obtain ⟨a, vs, rfl, h1, l, r⟩ := h.dic'
    refine .inr ⟨a, _, rfl, h1, ?_⟩
    have el : (ks.zip vs).length = ks.length := by rw [List.length_zip, ← l, Nat.min_self]
    rw [el]
    exact out_d hq (.int _)
  · cases e
def fInt : List D → Option O
  | [.int i] => some (.d (.int i))
  | [.bl k] => some (.d (.int (if k then 1 else 0)))
  | _ => none
theorem cs_int : CaS X (.type "int") fInt := by
  refine ⟨_, call_int1, fun H G xs ds o Q g hx e hq => ?_⟩
  unfold fInt at e
  split at e
  · cases e
    obtain ⟨v, rfl, h⟩ := vws1 hx
    exact .inl ⟨_, by rw [h.int], out_d hq (.int _)⟩
  · cases e
    obtain ⟨v, rfl, h⟩ := vws1 hx
    exact .inr ⟨_, by rw [h.bl], out_d hq (.int _)⟩
  · cases e
def fMax : List D → Option O
  | [.int i, .int j] => some (.d (.int (if j > i then j else i)))
  | _ => none
def fMin : List D → Option O
  | [.int i, .int j] => some (.d (.int (if j < i then j else i)))
  | _ => none
def fAbs : List D → Option O
  | [.int i] => some (.d (.int (if i < 0 then -i else i)))
  | _ => none
theorem cs_max (hc : X.calm = true) : CaS X (.builtin "max") fMax := by
  refine ⟨_, call_max2 hc, fun H G xs ds o Q g hx e hq => ?_⟩
  unfold fMax at e
  split at e
  · cases e
    obtain ⟨v, w, rfl, h, h'⟩ := vws2 hx
    exact ⟨_, _, by rw [h.int, h'.int], out_d hq (.int _)⟩
  · cases e
theorem cs_min (hc : X.calm = true) : CaS X (.builtin "min") fMin := by
  refine ⟨_, call_min2 hc, fun H G xs ds o Q g hx e hq => ?_⟩
  unfold fMin at e
  split at e
  · cases e
    obtain ⟨v, w, rfl, h, h'⟩ := vws2 hx
    exact ⟨_, _, by rw [h.int, h'.int], out_d hq (.int _)⟩
  · cases e
theorem cs_abs : CaS X (.builtin "abs") fAbs := by
  refine ⟨_, call_abs, fun H G xs ds o Q g hx e hq => ?_⟩
  unfold fAbs at e
  split at e
  · cases e
    obtain ⟨v, rfl, h⟩ := vws1 hx
    exact ⟨_, by rw [h.int], out_d hq (.int _)⟩
  · cases e
def fList : List D → Option O
  | [.lst xs] => some (.ol xs)
  | [.tup xs] => some (.ol xs)
  | _ => none
def fTuple : List D → Option O
  | [.lst xs] => some (.d (.tup xs))
  | [.tup xs] => some (.d (.tup xs))
  | _ => none
theorem cs_list : CaS X (.type "list") fList := by
  refine ⟨_, call_list_of, fun H G xs ds o Q g hx e hq => ?_⟩
  unfold fList at e
  split at e
  · cases e
    obtain ⟨v, rfl, h⟩ := vws1 hx
    obtain ⟨a, vs, rfl, h1, r⟩ := h.lst'
    exact ⟨a, vs, rfl, .inl (.of h1), fun p hp => out_lst g hq r hp⟩
  · cases e
    obtain ⟨v, rfl, h⟩ := vws1 hx
    obtain ⟨a, vs, rfl, h1, r⟩ := h.tup
    exact ⟨a, vs, rfl, .inr h1, fun p hp => out_lst g hq r hp⟩
  · cases e
theorem cs_tuple : CaS X (.type "tuple") fTuple := by
  refine ⟨_, call_tuple_of, fun H G xs ds o Q g hx e hq => ?_⟩
  unfold fTuple at e
  split at e
  · cases e
    obtain ⟨v, rfl, h⟩ := vws1 hx
    obtain ⟨a, vs, rfl, h1, r⟩ := h.lst'
    exact ⟨a, vs, rfl, .inl ⟨.of h1, fun p hp => out_tup hq r hp⟩⟩
  · cases e
    obtain ⟨v, rfl, h⟩ := vws1 hx
    obtain ⟨a, vs, rfl, h1, r⟩ := h.tup
    refine ⟨a, vs, rfl, .inr ⟨h1, ?_⟩⟩
    cases h with | of r => exact out_d hq r
  · cases e
def blsD : List D → Option (List Bool)
  | [] => some []
  | .bl b :: xs => (blsD xs).map fun bs => b :: bs
  | _ :: _ => none
theorem blsD_map : ∀ {xs : List D} {bs : List Bool}, blsD xs = some bs → xs = bs.map D.bl
  | [], _, e => by cases e; rfl
  | x :: xs, bs, e => by
    cases x with
    | bl b =>
      cases e1 : blsD xs with
      | none => rw [blsD, e1] at e; cases e
      | some cs => rw [blsD, e1] at e; cases e; rw [blsD_map e1]; rfl
    | _ => cases e
def fAll : List D → Option O
  | [.lst xs] => (blsD xs).map fun bs => .d (.bl (bs.all id))
  | _ => none
def fAny : List D → Option O
  | [.lst xs] => (blsD xs).map fun bs => .d (.bl (bs.any id))
  | _ => none
theorem cs_all (hc : X.calm = true) : CaS X (.builtin "all") fAll := by
  refine ⟨_, cr_all hc, fun H G xs ds o Q g hx e hq => ?_⟩
  unfold fAll at e
  split at e
  · rename_i ys
    cases eb : blsD ys with
    | none => rw [eb] at e; cases e
    | some bs =>
      rw [eb] at e
      cases e
      obtain ⟨v, rfl, h⟩ := vws1 hx
      obtain ⟨a, vs, rfl, h1, r⟩ := h.lst'
      rw [blsD_map eb] at r
      exact ⟨a, bs, rfl, .of (by rw [h1, r.bls]), out_d hq (.bl _)⟩
  · cases e
theorem cs_any (hc : X.calm = true) : CaS X (.builtin "any") fAny := by
  refine ⟨_, cr_any hc, fun H G xs ds o Q g hx e hq => ?_⟩
  unfold fAny at e
  split at e
  · rename_i ys
    cases eb : blsD ys with
    | none => rw [eb] at e; cases e
    | some bs =>
      rw [eb] at e
      cases e
      obtain ⟨v, rfl, h⟩ := vws1 hx
      obtain ⟨a, vs, rfl, h1, r⟩ := h.lst'
      rw [blsD_map eb] at r
      exact ⟨a, bs, rfl, .of (by rw [h1, r.bls]), out_d hq (.bl _)⟩
  · cases e
/-! ### isinstance -/
def tyD : D → Option Ty
  | .non => some .non | .bl _ => some .bl | .int _ => some .int | .str _ => some .str | .tup _ => some .tup | .lst _ => some .lst | .dic _ _ => some .dic
  | _ => none
def instT (a b : Ty) : Bool := decide (a = b) || (decide (a = .bl) && decide (b = .int))
def isiAny (a : Ty) : List D → Option Bool
  | [] => some false
  | .ty b :: cs => if b = .non then none else (isiAny a cs).map fun r => instT a b || r
  | _ :: _ => none
def fIsi : List D → Option O
  | [x, .ty b] => if b = .non then none else (tyD x).map fun a => .d (.bl (instT a b))
  | [x, .tup cs] => (tyD x).bind fun a => (isiAny a cs).map fun r => .d (.bl r)
  | _ => none
theorem kitB_ty (a b : Ty) (h : b ≠ .non) : kitB a.name b.name = some (instT a b) := by
  cases b <;> first | exact absurd rfl h | (cases a <;> decide +kernel)
theorem tyX {K : PySem.W.Frag} {H : Hp} {G : Addr → Prop} {x : D} {v : V} {a : Ty} (h : VW K H G x v) (e : tyD x = some a) : TyX K H v (.type a.name) := by
  cases x with
  | non => cases e; rw [h.non]; exact .base .non
  | bl b => cases e; rw [h.bl]; exact .base (.bl _)
  | int i => cases e; rw [h.int]; exact .base (.int _)
  | str y => cases e; rw [h.str]; exact .base (.str _)
  | ty n => cases e
  | ob a => cases e
  | scr ns => cases e
  | tup xs =>
    cases e
    cases h with
    | of r => cases r with
      | tup g h1 s => exact h1.elim (fun h => .base (.tup h)) fun ⟨_, h⟩ => .fTuple h
      | tupW w s => obtain ⟨o, _, _, k, c, _⟩ := w; exact .kTuple k c
  | lst xs => cases e; obtain ⟨a, vs, rfl, h1, r⟩ := h.lst'; exact .base (.lst h1)
  | dic ks us => cases e; obtain ⟨a, vs, rfl, h1, l, r⟩ := h.dic'; exact .base (.dK h1)
theorem isiAny_ok {K : PySem.W.Frag} {H : Hp} {G : Addr → Prop} {a : Ty} : ∀ {cs : List D} {vs : List V} {r : Bool}, Reps K H G cs vs → isiAny a cs = some r → ∃ us, Paired ClsV vs us ∧ PySem.W.kitAny K (.type a.name) us = some r
  | [], _, r, .nil, e => by cases e; exact ⟨[], .nil, kitAny_nil⟩
  | x :: cs, _, r, .cons h t, e => by
    cases x with
    | ty b =>
      unfold isiAny at e
      split at e
      · cases e
      · rename_i hb
        cases e1 : isiAny a cs with
        | none => rw [e1] at e; cases e
        | some r' =>
          rw [e1] at e
          cases e
          obtain ⟨us, p, q⟩ := isiAny_ok t e1
          cases h
          refine ⟨.type b.name :: us, .cons (.ty _) p, kitAny_cons (kit_ty (kitB_ty a b hb)) (fun z => ?_) (fun z => ?_)⟩
          · rw [z]; exact q
          · rw [z]; rfl
    | _ => cases e
/-- isinstance(x, T), T a tuple that is read: new or of the top -/
def rIsiR (K : PySem.W.Frag) : List V → Hp → VK → Prop := fun ys H Q => ∃ (y : V) (l : Addr) (ds : List V) (ty : Value) (ws : List Value) (r : Bool), ys = [y, .ref l] ∧ Rd H l (.tup ds) ∧ Paired ClsV ds ws ∧ TyX K H y ty ∧ PySem.W.kitAny K ty ws = some r ∧ Q (.bl r) H
theorem call_isiR {X : Cx} : CallR X (.builtin "isinstance") (rIsiR X.K) := by
  rintro pins s σ H ys us Q I rr ⟨y, l, ds, ty, ws, r, rfl, hl, pk, hty, hk, hq⟩
  obtain ⟨v1, v2, rfl, q1, q2⟩ := vals2 rr
  obtain rfl : v2 = Value.ref l := q2
  obtain ⟨P, Z, hp, hne⟩ := kit_of I q1 hty
  obtain ⟨_, its, rv, ⟨c1, c2, c3, c4⟩, f1, f2, n, f3⟩ := hl.ok I.hok
  obtain rfl := ClsV.all pk rv
  simp only at f2 f3
  subst f2 f3
  exact PySem.W.kia_tup Z I.kIn hp f1 hk hne fun k => ⟨.bl r, H, I.tok k, rfl, hq⟩
theorem cs_isi : CaS X (.builtin "isinstance") fIsi := by
  refine ⟨_, call_isi.or (call_isiR.or call_isiK), fun H G xs ds o Q g hx e hq => ?_⟩
  unfold fIsi at e
  split at e
  · split at e
    · cases e
    · rename_i x b hb
      cases ea : tyD x with
      | none => rw [ea] at e; cases e
      | some a =>
        rw [ea] at e
        cases e
        obtain ⟨v, w, rfl, h, h'⟩ := vws2 hx
        exact .inl ⟨_, _, _, _, _, by rw [h'.ty], .ty _, tyX h ea, kit_ty (kitB_ty a b hb), out_d hq (.bl _)⟩
  · rename_i x cs
    cases ea : tyD x with
    | none => rw [ea] at e; cases e
    | some a =>
      rw [ea] at e
      simp only [Option.bind_some] at e
      cases er : isiAny a cs with
      | none => rw [er] at e; cases e
      | some r =>
        rw [er] at e
        cases e
        obtain ⟨v, w, rfl, h, h'⟩ := vws2 hx
        cases h' with
        | of q => cases q with
          | tup gg h1 s =>
            obtain ⟨us, p, k⟩ := isiAny_ok s er
            exact .inr (.inl ⟨_, _, _, _, _, _, rfl, h1, p, tyX h ea, k, out_d hq (.bl _)⟩)
          | tupW w s =>
            obtain ⟨us, p, k⟩ := isiAny_ok s er
            obtain ⟨⟨oc, od, dt, sl⟩, its, n, w1, w2, w3, _, w5⟩ := w
            simp only at w2 w3
            subst w2 w3
            have eu := ClsV.all p w5
            exact .inr (.inr ⟨_, _, od, us, n, sl, _, _, rfl, by rw [w1, ← eu], tyX h ea, k, out_d hq (.bl _)⟩)
  · cases e
end
end PL
end
section
set_option Elab.async false
set_option maxRecDepth 100000
set_option linter.all false
set_option maxHeartbeats 1000000
/-! PL6: statements, blocks, targets, walks, for, while. -/
namespace PL
open PySem PySem.Spec PyProof.Rows L2
inductive Fl where
  | nx | bk | ct | rt (o : O)
structure AftS (Z : Zone) (X : Cx) (σ : Sl) (H : Hp) (G : Addr → Prop) (F : List Addr) (Γ' : Fr) (σ' : Sl) (H' : Hp) (G' : Addr → Prop) (Fo F' : List Addr) : Prop where
  rel : RelF X.K H' G' Γ' σ' F'
  good : Good Z H' G' (Fo ++ F')
  ext : Ext H G F H' G'
  sub : ∀ a ∈ Fo ++ F', a ∈ F ∨ Nw H a
  len : σ'.length = σ.length
section
variable {Z : Zone} {X : Cx} {σ σ1 : Sl} {H H1 : Hp} {G G1 : Addr → Prop} {F F1 Fo : List Addr} {Γ Γ1 : Fr}
theorem AftS.here (hf : RelF X.K H G Γ σ F) (hg : Good Z H G F) : AftS Z X σ H G F Γ σ H G [] F := ⟨hf, hg, Ext.refl, fun _ h => .inl h, rfl⟩
theorem AftS.trans {Γ' σ' H' G' Fo' F'} (a : AftS Z X σ H G F Γ1 σ1 H1 G1 Fo F1) (b : AftS Z X σ1 H1 G1 (Fo ++ F1) Γ' σ' H' G' Fo' F') : AftS Z X σ H G F Γ' σ' H' G' Fo' F' :=
  ⟨b.rel, b.good, a.ext.trans a.sub b.ext, fun x hx => (b.sub x hx).elim (a.sub x) fun z => .inr (a.ext.there x z), b.len.trans a.len⟩
theorem Aft.s {Γ' H' G' Fo' F'} (a : Aft Z X σ H G F Γ' H' G' Fo' F') : AftS Z X σ H G F Γ' σ H' G' Fo' F' := ⟨a.rel, a.good, a.ext, a.sub, rfl⟩
/-- what is to hold behind a statement -/
def SQ (Z : Zone) (X : Cx) (σ : Sl) (H : Hp) (G : Addr → Prop) (F : List Addr) (Γ' : Fr) (D : Ends) : Fl → Prop
  | .nx => ∀ σ' H' G' F', AftS Z X σ H G F Γ' σ' H' G' [] F' → D.nx σ' H'
  | .bk => ∀ σ' H' G' F', AftS Z X σ H G F Γ' σ' H' G' [] F' → D.bk σ' H'
  | .ct => ∀ σ' H' G' F', AftS Z X σ H G F Γ' σ' H' G' [] F' → D.ct σ' H'
  | .rt o => ∀ v σ' H' G' Fo F', RelO X.K H' G' o v Fo → AftS Z X σ H G F Γ' σ' H' G' Fo F' → D.rt v H'
def SE (Z : Zone) (X : Cx) (σ : Sl) (H : Hp) (G : Addr → Prop) (F : List Addr) (W : WX) (x : Str) (d : D) (Γ' : Fr) : Prop :=
  ∀ cls dd σ' H' G' F', ExR X H' G' x d cls dd → AftS Z X σ H G F Γ' σ' H' G' [] F' → W cls dd σ' H'
def SG (Z : Zone) (X : Cx) (σ : Sl) (H : Hp) (G : Addr → Prop) (F : List Addr) (W : WX) (t : TS) : Res Fl → Prop
  | .ok fl Γ' => ∀ D : Ends, SQ Z X σ H G F Γ' D fl → t D σ H
  | .err x d Γ' => SE Z X σ H G F W x d Γ' → ∀ D, t D σ H
  | .stuck => True
theorem SQ.from {D : Ends} {fl : Fl} {Γ' : Fr} (a : AftS Z X σ H G F Γ1 σ1 H1 G1 [] F1) (h : SQ Z X σ H G F Γ' D fl) : SQ Z X σ1 H1 G1 F1 Γ' D fl := by
  cases fl with
  | nx => exact fun σ' H' G' F' b => h σ' H' G' F' (a.trans b)
  | bk => exact fun σ' H' G' F' b => h σ' H' G' F' (a.trans b)
  | ct => exact fun σ' H' G' F' b => h σ' H' G' F' (a.trans b)
  | rt o => exact fun v σ' H' G' Fo F' r b => h v σ' H' G' Fo F' r (a.trans b)
theorem SE.from {W : WX} {x : Str} {d : D} {Γ' : Fr} (a : AftS Z X σ H G F Γ1 σ1 H1 G1 [] F1) (h : SE Z X σ H G F W x d Γ') : SE Z X σ1 H1 G1 F1 W x d Γ' :=
  fun cls dd σ' H' G' F' e b => h cls dd σ' H' G' F' e (a.trans b)
end
def DoesS (Z : Zone) (X : Cx) (W : WX) (t : TS) (m : M Fl) : Prop := ∀ Γ σ H G F, RelF X.K H G Γ σ F → Good Z H G F → SG Z X σ H G F W t (m Γ)
def SX (Z : Zone) (X : Cx) (st : Stmt) (m : M Fl) : Prop := ∀ W, Takes X W → ∃ t, PS X st t ∧ DoesS Z X W t m
def BX (Z : Zone) (X : Cx) (st : List Stmt) (m : M Fl) : Prop := ∀ W, Takes X W → ∃ t, PSs X st t ∧ DoesS Z X W t m
def mSeq (m r : M Fl) : M Fl := fun Γ => (m Γ).bind fun fl Γ1 => match fl with
  | .nx => r Γ1
  | f => .ok f Γ1
section
variable {Z : Zone} {X : Cx} {W : WX} {st : Stmt} {rest : List Stmt} {pos : Pos}
theorem bx_nil : BX Z X [] (M.pure .nx) := fun W tk => ⟨_, pss_nil, fun Γ σ H G F hf hg D hq => hq σ H G F (.here hf hg)⟩
theorem bx_cons {m r : M Fl} (h : SX Z X st m) (hr : BX Z X rest r) : BX Z X (st :: rest) (mSeq m r) := by
  intro W tk
  obtain ⟨t, ht, hd⟩ := h W tk
  obtain ⟨u, hu, hd'⟩ := hr W tk
  refine ⟨_, pss_cons ht hu, fun Γ σ H G F hf hg => ?_⟩
  have z := hd Γ σ H G F hf hg
  unfold mSeq
  cases e : m Γ with
  | stuck => trivial
  | err x d Γ1 => rw [e] at z; exact fun hW D => z hW _
  | ok fl Γ1 =>
    rw [e] at z
    cases fl with
    | nx =>
      show SG Z X σ H G F W (tSeq t u) (r Γ1)
      cases e2 : r Γ1 with
      | stuck => trivial
      | ok f Γ2 =>
        intro D hq
        refine z _ fun σ' H' G' F' a => ?_
        have z2 := hd' Γ1 σ' H' G' F' a.rel a.good
        rw [e2] at z2
        exact z2 D (hq.from a)
      | err x d Γ2 =>
        intro hW D
        refine z _ fun σ' H' G' F' a => ?_
        have z2 := hd' Γ1 σ' H' G' F' a.rel a.good
        rw [e2] at z2
        exact z2 (hW.from a) D
    | bk => exact fun D hq => z _ hq
    | ct => exact fun D hq => z _ hq
    | rt o => exact fun D hq => z _ hq
theorem bx_one {m : M Fl} (h : SX Z X st m) : BX Z X [st] m := fun W tk => let ⟨t, a, b⟩ := h W tk; ⟨t, pss_one a, b⟩
theorem sx_pass : SX Z X (.Pass pos) (M.pure .nx) := fun W tk => ⟨_, ps_pass, fun Γ σ H G F hf hg D hq => hq σ H G F (.here hf hg)⟩
theorem sx_break : SX Z X (.Break pos) (M.pure .bk) := fun W tk => ⟨_, ps_break, fun Γ σ H G F hf hg D hq => hq σ H G F (.here hf hg)⟩
theorem sx_continue : SX Z X (.Continue pos) (M.pure .ct) := fun W tk => ⟨_, ps_continue, fun Γ σ H G F hf hg D hq => hq σ H G F (.here hf hg)⟩
theorem sx_retN : SX Z X (.Return none pos) (M.pure (.rt (.d .non))) := fun W tk => ⟨_, ps_retN, fun Γ σ H G F hf hg D hq => hq .non σ H G [] F ⟨.non, rfl⟩ (.here hf hg)⟩
theorem sx_ret {e : Expr} {m : M O} (h : EX Z X e m) : SX Z X (.Return (some e) pos) (M.map Fl.rt m) := by
  intro W tk
  obtain ⟨t, ht, hd⟩ := h W tk
  refine ⟨_, ps_ret ht, fun Γ σ H G F hf hg => ?_⟩
  have z := hd Γ σ H G F hf hg
  show SG Z X σ H G F W (tRet t) ((m Γ).bind fun o Γ1 => .ok (.rt o) Γ1)
  cases e : m Γ with
  | stuck => trivial
  | err x d Γ1 => rw [e] at z; exact fun hW D => z (fun cls dd H' G' F' ex a => hW cls dd σ H' G' F' ex a.s) _
  | ok o Γ1 => rw [e] at z; exact fun D hq => z _ fun v H' G' Fo F' r a => hq v σ H' G' Fo F' r a.s
theorem sx_expr {e : Expr} {m : M O} (h : EX Z X e m) (hs : swapsWith e none pos.line X.env = pure false := by rfl) : SX Z X (.Expr e pos) (M.map (fun _ => Fl.nx) m) := by
  intro W tk
  obtain ⟨t, ht, hd⟩ := h W tk
  refine ⟨_, ps_expr ht hs, fun Γ σ H G F hf hg => ?_⟩
  have z := hd Γ σ H G F hf hg
  show SG Z X σ H G F W (tDrop t) ((m Γ).bind fun o Γ1 => .ok .nx Γ1)
  cases e : m Γ with
  | stuck => trivial
  | err x d Γ1 => rw [e] at z; exact fun hW D => z (fun cls dd H' G' F' ex a => hW cls dd σ H' G' F' ex a.s) _
  | ok o Γ1 => rw [e] at z; exact fun D hq => z _ fun v H' G' Fo F' r a => hq σ H' G' F' ⟨a.rel, a.good.right, a.ext, fun x hx => a.sub x (List.mem_append_right _ hx), rfl⟩
theorem sx_if {c : Expr} {a b : List Stmt} {mc : M Bool} {ma mb : M Fl} (hc : TX Z X c mc) (ha : BX Z X a ma) (hb : BX Z X b mb) : SX Z X (.If c a b pos) (mIf mc ma mb) := by
  intro W tk
  obtain ⟨tc, pc, dc⟩ := hc W tk
  obtain ⟨ta, pa, da⟩ := ha W tk
  obtain ⟨tb, pb, db⟩ := hb W tk
  refine ⟨_, ps_if pc pa pb, fun Γ σ H G F hf hg => ?_⟩
  have z := dc Γ σ H G F hf hg
  show SG Z X σ H G F W (tIfS tc ta tb) ((mc Γ).bind fun c => if c = true then ma else mb)
  cases e : mc Γ with
  | stuck => trivial
  | err x d Γ1 => rw [e] at z; exact fun hW D => z (fun cls dd H' G' F' ex a => hW cls dd σ H' G' F' ex a.s) _
  | ok c Γ1 =>
    rw [e] at z
    have go : ∀ (t : TS) (m : M Fl), DoesS Z X W t m → (∀ D, (∀ H' G' F', AftS Z X σ H G F Γ1 σ H' G' [] F' → t D σ H') → tIfS tc ta tb D σ H) → SG Z X σ H G F W (tIfS tc ta tb) (m Γ1) := fun t m dm st => by
      cases e2 : m Γ1 with
      | stuck => trivial
      | ok f Γ2 =>
        exact fun D hq => st D fun H' G' F' a => by
          have z2 := dm Γ1 σ H' G' F' a.rel a.good
          rw [e2] at z2
          exact z2 D (hq.from a)
      | err x d Γ2 =>
        exact fun hW D => st D fun H' G' F' a => by
          have z2 := dm Γ1 σ H' G' F' a.rel a.good
          rw [e2] at z2
          exact z2 (hW.from a) D
    cases c with
    | true =>
      exact go ta ma da fun D st => z _ fun v H' G' Fo F' r a => by
        obtain ⟨rfl, rfl⟩ := r
        show if true = true then ta D σ H' else tb D σ H'
        rw [if_pos rfl]
        exact st H' G' F' a.s
    | false =>
      exact go tb mb db fun D st => z _ fun v H' G' Fo F' r a => by
        obtain ⟨rfl, rfl⟩ := r
        show if false = true then ta D σ H' else tb D σ H'
        rw [if_neg Bool.false_ne_true]
        exact st H' G' F' a.s
/-! ### a name is set -/
def setFr (i : Nat) (o : O) (Γ : Fr) : Res Fl := if i < Γ.length then .ok .nx (Γ.set i (some o)) else .stuck
theorem setFr_ok {i : Nat} {o : O} {v : V} {Γ Γ' : Fr} {fl : Fl} {σ σ0 : Sl} {H H0 : Hp} {G G0 : Addr → Prop} {F F0 Fo : List Addr} (hr : RelO X.K H G o v Fo) (a : AftS Z X σ0 H0 G0 F0 Γ σ H G Fo F) (e : setFr i o Γ = .ok fl Γ') :
    fl = .nx ∧ ∃ F', AftS Z X σ0 H0 G0 F0 Γ' (σ.set i (some v)) H G [] F' ∧ ∀ x ∈ F', x ∈ Fo ++ F := by
  unfold setFr at e
  split at e
  · rename_i hi
    cases e
    have gF := a.good.right
    obtain ⟨A, Fi, B, ef, a1, a2, a3, a4⟩ := a.rel.slot hi gF.nd gF.ng
    subst ef
    have sub : ∀ x ∈ A ++ (Fo ++ B), x ∈ Fo ++ (A ++ (Fi ++ B)) := fun x hx => by
      rcases List.mem_append.mp hx with h | h
      · exact List.mem_append_right _ (List.mem_append_left _ h)
      · rcases List.mem_append.mp h with h | h
        · exact List.mem_append_left _ h
        · exact List.mem_append_right _ (List.mem_append_right _ (List.mem_append_right _ h))
    have nd : (A ++ (Fo ++ B)).Nodup := by
      obtain ⟨n1, n2, n3⟩ := List.nodup_append.mp a.good.nd
      obtain ⟨m1, m2, m3⟩ := List.nodup_append.mp n2
      obtain ⟨k1, k2, k3⟩ := List.nodup_append.mp m2
      refine List.nodup_append.mpr ⟨m1, List.nodup_append.mpr ⟨n1, k2, fun x hx y hy => n3 x hx y (List.mem_append_right _ (List.mem_append_right _ hy))⟩, fun x hx y hy z => ?_⟩
      rcases List.mem_append.mp hy with hy | hy
      · exact n3 y hy x (List.mem_append_left _ hx) z.symm
      · exact m3 x hx y (List.mem_append_right _ hy) z
    exact ⟨rfl, A ++ (Fo ++ B), ⟨a3 H G o v Fo Ext.refl hr, a.good.sub nd sub, a.ext, fun x hx => a.sub x (sub x hx), by rw [List.length_set]; exact a.len⟩, sub⟩
  · cases e
def mSet (i : Nat) (m : M O) : M Fl := m.bind fun o Γ => setFr i o Γ
/-- a reading that stores what it yields -/
theorem DoesS.set {t : TE} {m : M O} {i : Nat} (hd : Does Z X W (RO X) t m) : DoesS Z X W (tAsg t (gName i)) (mSet i m) := by
  intro Γ σ H G F hf hg
  have z := hd Γ σ H G F hf hg
  show SG Z X σ H G F W (tAsg t (gName i)) ((m Γ).bind fun o Γ1 => setFr i o Γ1)
  cases e : m Γ with
  | stuck => trivial
  | err x d Γ1 => rw [e] at z; exact fun hW D => z (fun cls dd H' G' F' ex a => hW cls dd σ H' G' F' ex a.s) _
  | ok o Γ1 =>
    rw [e] at z
    show SG Z X σ H G F W (tAsg t (gName i)) (setFr i o Γ1)
    cases e2 : setFr i o Γ1 with
    | stuck => trivial
    | err x d Γ2 => unfold setFr at e2; split at e2 <;> cases e2
    | ok fl Γ2 =>
      intro D hq
      refine z _ fun v H' G' Fo F' r a => ?_
      obtain ⟨rfl, F2, b, _⟩ := setFr_ok r a.s e2
      exact hq _ H' G' F2 b
theorem sx_set (i : Nat) {x : Str} {e : Expr} {pos' : Pos} {m : M O} (h : EX Z X e m) (hN : X.N.Nodup) (hi : X.N[i]? = some x := by rfl) (hx : Loc X.env.scope x := by first | exact Or.inl rfl | exact Or.inr rfl) (hs : swapsWith e (some (.Name x pos')) pos.line X.env = pure false := by rfl) (hf : X.fn x = true ∨ X.env.scope.names.lookup x = some .local := by first | exact .inl rfl | exact .inr rfl) :
    SX Z X (.Assign [.Name x pos'] e pos) (mSet i m) := by
  intro W tk
  obtain ⟨t, ht, hd⟩ := h W tk
  exact ⟨_, ps_set hN hi hx ht hs hf, DoesS.set hd⟩
/-- a, b = x, y -/
def mPar (i j : Nat) (ma mb : M O) : M Fl := (M.pair ma mb).bind fun p Γ => (setFr i p.1 Γ).bind fun _ Γ1 => setFr j p.2 Γ1
theorem AftS.regroup {σ0 σ : Sl} {H0 H : Hp} {G0 G : Addr → Prop} {F0 F1 F2 F : List Addr} {Γ : Fr} (a : AftS Z X σ0 H0 G0 F0 Γ σ H G (F1 ++ F2) F) : AftS Z X σ0 H0 G0 F0 Γ σ H G F1 F := by
  have g := a.good
  rw [List.append_assoc] at g
  obtain ⟨n1, n2, n3⟩ := List.nodup_append.mp g.nd
  refine ⟨a.rel, g.sub (List.nodup_append.mpr ⟨n1, (List.nodup_append.mp n2).2.1, fun x hx y hy => n3 x hx y (List.mem_append_right _ hy)⟩) fun x hx => ?_, a.ext, fun x hx => a.sub x ?_, a.len⟩
  · rcases List.mem_append.mp hx with h | h
    · exact List.mem_append_left _ h
    · exact List.mem_append_right _ (List.mem_append_right _ h)
  · rw [List.append_assoc]
    rcases List.mem_append.mp hx with h | h
    · exact List.mem_append_left _ h
    · exact List.mem_append_right _ (List.mem_append_right _ h)
theorem set2_ok {i j : Nat} {o o' : O} {v v' : V} {Γ Γ' : Fr} {fl : Fl} {σ σ0 : Sl} {H H0 : Hp} {G G0 : Addr → Prop} {F F0 F1 F2 : List Addr} (hr : RelO X.K H G o v F1) (hr' : RelO X.K H G o' v' F2)
    (a : AftS Z X σ0 H0 G0 F0 Γ σ H G (F1 ++ F2) F) (e : ((setFr i o Γ).bind fun _ Γ1 => setFr j o' Γ1) = .ok fl Γ') : fl = .nx ∧ ∃ F', AftS Z X σ0 H0 G0 F0 Γ' ((σ.set i (some v)).set j (some v')) H G [] F' := by
  cases e1 : setFr i o Γ with
  | stuck => rw [e1] at e; cases e
  | err x d Γ2 => rw [e1] at e; cases e
  | ok f Γ1 =>
    rw [e1] at e
    obtain ⟨rfl, F', b, sub⟩ := setFr_ok hr a.regroup e1
    have g := a.good
    rw [List.append_assoc] at g
    obtain ⟨n1, n2, n3⟩ := List.nodup_append.mp g.nd
    obtain ⟨m1, m2, m3⟩ := List.nodup_append.mp n2
    have dj : ∀ x ∈ F2, ∀ y ∈ F', x ≠ y := fun x hx y hy z => by
      rcases List.mem_append.mp (sub y hy) with h | h
      · exact n3 y h x (List.mem_append_left _ hx) z.symm
      · exact m3 x hx y h z
    have b' : AftS Z X σ0 H0 G0 F0 Γ1 (σ.set i (some v)) H G F2 F' := by
      refine ⟨b.rel, g.sub (List.nodup_append.mpr ⟨m1, b.good.nd, dj⟩) fun x hx => ?_, a.ext, fun x hx => ?_, b.len⟩
      · rcases List.mem_append.mp hx with h | h
        · exact List.mem_append_right _ (List.mem_append_left _ h)
        · rcases List.mem_append.mp (sub x h) with h | h
          · exact List.mem_append_left _ h
          · exact List.mem_append_right _ (List.mem_append_right _ h)
      · rcases List.mem_append.mp hx with h | h
        · exact a.sub x (List.mem_append_left _ (List.mem_append_right _ h))
        · exact b.sub x h
    obtain ⟨rfl, F3, c, _⟩ := setFr_ok hr' b' e
    exact ⟨rfl, F3, c⟩
theorem sx_par (i j : Nat) {x y : Str} {a b : Expr} {px py pt : Pos} {kt k2 : Nat} {pt2 : Pos} {ma mb : M O} (ha : EX Z X a ma) (hb : EX Z X b mb) (hN : X.N.Nodup) (hc : X.calm = true := by rfl) (hi : X.N[i]? = some x := by rfl) (hj : X.N[j]? = some y := by rfl) (hij : i ≠ j := by decide)
    (hx : X.env.scope.names.lookup x = some .local := by rfl) (hy : X.env.scope.names.lookup y = some .local := by rfl)
    (hw : swappedStores [.Tuple [.Name x px, .Name y py] kt pt] (.Tuple [a, b] k2 pt2) X.env = pure (some [x, y]) := by rfl)
    (hs : swapsWithSole [.Tuple [.Name x px, .Name y py] kt pt] (.Tuple [a, b] k2 pt2) pos.line X.env = pure false := by rfl)
    (s1 : starEach [a, b] X.env = (false, eval a X.env) :: starEach [b] X.env := by rfl) (s2 : starEach [b] X.env = (false, eval b X.env) :: starEach [] X.env := by rfl) :
    SX Z X (.Assign [.Tuple [.Name x px, .Name y py] kt pt] (.Tuple [a, b] k2 pt2) pos) (mPar i j ma mb) := by
  intro W tk
  obtain ⟨ta, pa, da⟩ := ha W tk
  obtain ⟨tb, pb, db⟩ := hb W tk
  refine ⟨_, ps_par hc hN hi hj hij hx hy (pa_cons pa (pa_cons pb pa_nil s2) s1) hw hs, fun Γ σ H G F hf hg => ?_⟩
  have z := Does.pair RO.stable da db Γ σ H G F hf hg
  show SG Z X σ H G F W _ ((M.pair ma mb Γ).bind fun p Γ => (setFr i p.1 Γ).bind fun _ Γ1 => setFr j p.2 Γ1)
  cases e : M.pair ma mb Γ with
  | stuck => trivial
  | err x d Γ1 => rw [e] at z; exact fun hW D => z (fun cls dd H' G' F' ex a => hW cls dd σ H' G' F' ex a.s) (fun uv H' => ∃ v w, [uv.1, uv.2] = [v, w] ∧ D.nx ((σ.set i (some v)).set j (some w)) H')
  | ok p Γ1 =>
    rw [e] at z
    show SG Z X σ H G F W _ ((setFr i p.1 Γ1).bind fun _ Γ1 => setFr j p.2 Γ1)
    cases e2 : (setFr i p.1 Γ1).bind fun _ Γ1 => setFr j p.2 Γ1 with
    | stuck => trivial
    | err x d Γ2 =>
      cases e3 : setFr i p.1 Γ1 with
      | stuck => rw [e3] at e2; cases e2
      | err _ _ _ => unfold setFr at e3; split at e3 <;> cases e3
      | ok f Γ3 => rw [e3] at e2; have e2' : setFr j p.2 Γ3 = _ := e2; unfold setFr at e2'; split at e2' <;> cases e2'
    | ok fl Γ2 =>
      intro D hq
      refine z (fun uv H' => ∃ v w, [uv.1, uv.2] = [v, w] ∧ D.nx ((σ.set i (some v)).set j (some w)) H') fun uv H' G' Fo F' r a => ?_
      obtain ⟨F1, F2, r1, r2, rfl⟩ := r
      obtain ⟨rfl, F3, b⟩ := set2_ok r1 r2 a.s e2
      exact ⟨uv.1, uv.2, rfl, hq _ H' G' F3 b⟩
/-! ### targets of frozen data -/
/-- ix: the slots that may be set -/
def TgR (Z : Zone) (X : Cx) (ix : List Nat) (g : TG) (f : D → Fr → Option Fr) : Prop :=
  ∀ x v Γ Γ' σ H G F (Q : Sl → Hp → Prop), Rep X.K H G x v → RelF X.K H G Γ σ F → Good Z H G F → f x Γ = some Γ' → (∀ σ' F', AftS Z X σ H G F Γ' σ' H G [] F' → (∀ j, j ∉ ix → σ'[j]? = σ[j]?) → Q σ' H) → g v σ H Q
def TgX (Z : Zone) (X : Cx) (tg : Expr) (ix : List Nat) (f : D → Fr → Option Fr) : Prop := ∃ g, PG X tg g ∧ TgR Z X ix g f
def TgsX (Z : Zone) (X : Cx) (tgs : List Expr) (ix : List Nat) (f : List D → Fr → Option Fr) : Prop := ∃ g, PGs X tgs g ∧
  ∀ xs vs Γ Γ' σ H G F (Q : Sl → Hp → Prop), Reps X.K H G xs vs → RelF X.K H G Γ σ F → Good Z H G F → f xs Γ = some Γ' → (∀ σ' F', AftS Z X σ H G F Γ' σ' H G [] F' → (∀ j, j ∉ ix → σ'[j]? = σ[j]?) → Q σ' H) → g vs σ H Q
def gN (i : Nat) (x : D) (Γ : Fr) : Option Fr := if i < Γ.length then some (Γ.set i (some (.d x))) else none
def gT (n : Nat) (f : List D → Fr → Option Fr) (x : D) (Γ : Fr) : Option Fr := match x with
  | .tup xs => if xs.length = n then f xs Γ else none
  | _ => none
def g0 (xs : List D) (Γ : Fr) : Option Fr := match xs with
  | [] => some Γ
  | _ => none
def gC (f : D → Fr → Option Fr) (g : List D → Fr → Option Fr) (xs : List D) (Γ : Fr) : Option Fr := match xs with
  | x :: r => (f x Γ).bind (g r)
  | [] => none
theorem tg_name (i : Nat) {x : Str} (hN : X.N.Nodup) (hi : X.N[i]? = some x := by rfl) (hx : Loc X.env.scope x := by first | exact Or.inl rfl | exact Or.inr rfl) (hf : X.fn x = true ∨ X.env.scope.names.lookup x = some .local := by first | exact .inl rfl | exact .inr rfl) : TgX Z X (.Name x pos) [i] (gN i) := by
  refine ⟨_, pg_name hN hi hx hf, fun x v Γ Γ' σ H G F Q hr hf hg e hq => ?_⟩
  have e2 : setFr i (.d x) Γ = .ok .nx Γ' := by
    unfold gN at e
    unfold setFr
    split at e
    · rename_i h; cases e; rw [if_pos h]
    · cases e
  obtain ⟨_, F', b, _⟩ := setFr_ok (o := .d x) (Fo := []) ⟨hr, rfl⟩ (AftS.here hf hg) e2
  exact hq _ F' b fun j hj => List.getElem?_set_ne (fun z => hj (by simp [z]))
theorem tgs_nil : TgsX Z X [] [] g0 := by
  refine ⟨_, pgs_nil, fun xs vs Γ Γ' σ H G F Q hr hf hg e hq => ?_⟩
  cases hr with
  | nil => cases e; exact ⟨rfl, hq σ F (.here hf hg) fun _ _ => rfl⟩
  | cons _ _ => cases e
theorem tgs_cons {e : Expr} {es : List Expr} {ix jx : List Nat} {f : D → Fr → Option Fr} {g : List D → Fr → Option Fr} (h1 : TgX Z X e ix f) (h2 : TgsX Z X es jx g) (hs : (assignEach (e :: es) X.env).map (·.2) = assign e X.env :: (assignEach es X.env).map (·.2) := by rfl) : TgsX Z X (e :: es) (ix ++ jx) (gC f g) := by
  obtain ⟨t, pt, dt⟩ := h1
  obtain ⟨u, pu, du⟩ := h2
  refine ⟨_, pgs_cons pt pu hs, fun xs vs Γ Γ' σ H G F Q hr hf hg e hq => ?_⟩
  cases hr with
  | nil => cases e
  | cons a b =>
    obtain ⟨Γ1, e1, e2⟩ := Option.bind_eq_some_iff.mp (show (f _ Γ).bind (g _) = some Γ' from e)
    refine ⟨_, _, rfl, dt _ _ Γ Γ1 σ H G F _ a hf hg e1 fun σ1 F1 a1 o1 => ?_⟩
    exact du _ _ Γ1 Γ' σ1 H G F1 _ b a1.rel a1.good e2 fun σ2 F2 a2 o2 => hq σ2 F2 (a1.trans a2) fun j hj =>
      (o2 j fun z => hj (List.mem_append_right _ z)).trans (o1 j fun z => hj (List.mem_append_left _ z))
theorem tg_tup {es : List Expr} {k : Nat} {n : Nat} {ix : List Nat} {f : List D → Fr → Option Fr} (h : TgsX Z X es ix f) (hc : X.calm = true := by rfl) (hn : (assignEach es X.env).length = n := by rfl) (hst : (assignEach es X.env).findIdx? (·.1) = none := by rfl) : TgX Z X (.Tuple es k pos) ix (gT n f) := by
  obtain ⟨t, pt, dt⟩ := h
  refine ⟨_, pg_tup hc pt hn hst, fun x v Γ Γ' σ H G F Q hr hf hg e hq => ?_⟩
  unfold gT at e
  split at e
  · split at e
    · rename_i xs hl
      obtain ⟨a, vs, rfl, h1, r⟩ := (VW.of hr).tup
      exact ⟨a, vs, rfl, h1, by rw [← r.length]; exact hl, dt _ _ Γ Γ' σ H G F Q r hf hg e hq⟩
    · cases e
  · cases e
/-- target = value, the value frozen -/
def mAsg (f : D → Fr → Option Fr) (m : M D) : M Fl := m.bind fun x Γ => match f x Γ with
  | some Γ' => .ok .nx Γ'
  | none => .stuck
theorem sx_asg {tg e : Expr} {f : D → Fr → Option Fr} {ix : List Nat} {m : M D} (he : ED Z X e m) (hg : TgX Z X tg ix f) (hs : swapsWithSole [tg] e pos.line X.env = pure false := by rfl) (hw : swappedStores [tg] e X.env = pure none := by rfl)
    (h1 : (assignEach [tg] X.env).map (·.2) = [assign tg X.env] := by rfl) : SX Z X (.Assign [tg] e pos) (mAsg f m) := by
  intro W tk
  obtain ⟨t, ht, hd⟩ := he W tk
  obtain ⟨g, pg, dg⟩ := hg
  refine ⟨_, ps_asg ht pg hs hw h1, fun Γ σ H G F hf hgd => ?_⟩
  have z := hd Γ σ H G F hf hgd
  show SG Z X σ H G F W (tAsg t g) ((m Γ).bind fun x Γ => match f x Γ with
    | some Γ' => .ok .nx Γ'
    | none => .stuck)
  cases e : m Γ with
  | stuck => trivial
  | err x d Γ1 => rw [e] at z; exact fun hW D => z (fun cls dd H' G' F' ex a => hW cls dd σ H' G' F' ex a.s) _
  | ok x Γ1 =>
    rw [e] at z
    show SG Z X σ H G F W (tAsg t g) (match f x Γ1 with
      | some Γ' => .ok .nx Γ'
      | none => .stuck)
    cases e2 : f x Γ1 with
    | none => trivial
    | some Γ2 =>
      intro D hq
      refine z _ fun v H' G' Fo F' r a => ?_
      obtain ⟨r, rfl⟩ := r
      exact dg x v Γ1 Γ2 σ H' G' F' _ r a.rel a.good e2 fun σ2 F2 b _ => hq σ2 H' G' F2 (a.s.trans b)
end
end PL
end
section
set_option Elab.async false
set_option maxRecDepth 100000
set_option linter.all false
set_option maxHeartbeats 1000000
/-! PL7: what is walked; for, while, comprehensions. -/
namespace PL
open PySem PySem.Spec PyProof.Rows L2
/-! ### what is walked -/
structure WalkD (K : PySem.W.Frag) (J : It) (xs : List D) (H0 : Hp) (G0 : Addr → Prop) : Prop where
  ex : ∃ (Gd : Hp → Prop) (Y : Nat → Hp → V → Hp → Prop), Walk J xs.length Gd Y ∧ (∀ H G, Keeps H0 G0 H G → Gd H) ∧
    ∀ i x H G v H', xs[i]? = some x → Keeps H0 G0 H G → GH H G → Y i H v H' → ∃ G', Rep K H' G' x v ∧ New H G H' G' []
def RW (X : Cx) : RRel (List D) It := fun xs J _ H G Fo => WalkD X.K J xs H G ∧ Fo = []
def IX (Z : Zone) (X : Cx) (tg iter : Expr) (m : M (List D)) : Prop := ∀ W, Takes X W → ∃ wi, PI X tg iter wi ∧ Does Z X W (RW X) wi m
section
variable {Z : Zone} {X : Cx} {W : WX} {tg e : Expr} {es : List Expr} {p pos : Pos}
theorem pi_or {w1 w2 : TI} (a : PI X tg e w1) (b : PI X tg e w2) : PI X tg e (fun σ H R => w1 σ H R ∨ w2 σ H R) := ⟨fun pins s σ H R I h => h.elim (a.run pins s σ H R I) (b.run pins s σ H R I)⟩
theorem Keeps.refl {H : Hp} {G : Addr → Prop} : Keeps H G H G := ⟨fun _ h => h, fun _ _ _ h _ => h⟩
theorem Keeps.trans {H H1 H2 : Hp} {G G1 G2 : Addr → Prop} (a : Keeps H G H1 G1) (b : Keeps H1 G1 H2 G2) : Keeps H G H2 G2 := ⟨fun x h => b.gg x (a.gg x h), fun x o g h t => b.keep x o (a.gg x g) (a.keep x o g h t) t⟩
/-- frozen or written: it is read as it was -/
theorem VW.stays {H H' : Hp} {G G' : Addr → Prop} {K : PySem.W.Frag} {x : D} {v : V} (h : Rep K H G x v) (k : Keeps H G H' G') : Rep K H' G' x v := Rep.ext k x v h
theorem walk_seq {K : PySem.W.Frag} {H : Hp} {G : Addr → Prop} {x : D} {xs : List D} {a : Addr} (h : Rep K H G x (.ref a)) (e : x = .lst xs) : WalkD K (Itl K a) xs H G := by
  subst e
  cases h with
  | lst g h1 r =>
    rename_i vs
    refine ⟨⟨fun H => SqL K H a vs, YAt vs, ?_, fun H' G' k => .of (k.keep _ _ g h1 (fun ps z => by cases z)), fun i x H' G' v H'' hx k gh y => ?_⟩⟩
    · rw [r.length]; exact walk_list
    · obtain ⟨rfl, hv⟩ := y
      obtain ⟨v', e1, r1⟩ := r.get hx
      rw [hv] at e1
      cases e1
      exact ⟨G', Rep.ext k _ _ r1, New.val⟩
theorem walk_tup' {K : PySem.W.Frag} {H : Hp} {G : Addr → Prop} {x : D} {xs : List D} {a : Addr} (h : Rep K H G x (.ref a)) (e : x = .tup xs) : WalkD K (Itt K a) xs H G := by
  subst e
  have go : ∀ {vs : List V}, (∀ H' G', Keeps H G H' G' → SqT K H' a vs) → Reps K H G xs vs → WalkD K (Itt K a) xs H G := fun {vs} st r => by
    refine ⟨⟨fun H => SqT K H a vs, YAt vs, ?_, st, fun i x H' G' v H'' hx k gh y => ?_⟩⟩
    · rw [r.length]; exact walk_tup
    · obtain ⟨rfl, hv⟩ := y
      obtain ⟨v', e1, r1⟩ := r.get hx
      rw [hv] at e1
      cases e1
      exact ⟨G', Rep.ext k _ _ r1, New.val⟩
  cases h with
  | tup g h1 r => exact go (fun H' G' k => .inl (k.rd g (fun ps z => by cases z) h1)) r
  | tupW w r => exact go (fun H' G' k => w.sq) r
def D.items : D → Option (List D)
  | .lst xs => some xs
  | .tup xs => some xs
  | _ => none
def mItems (m : M D) : M (List D) := m.bind fun x Γ => optR x.items Γ
theorem ix_seq {m : M D} (h : ED Z X e m) : IX Z X tg e (mItems m) := by
  intro W tk
  obtain ⟨t, ht, hd⟩ := h W tk
  refine ⟨_, pi_or (pi_list ht) (pi_tup ht), ?_⟩
  intro Γ σ H G F hf hg
  have z := hd Γ σ H G F hf hg
  show EG Z X σ H G F W (RW X) _ ((m Γ).bind fun x Γ => optR x.items Γ)
  cases em : m Γ with
  | stuck => trivial
  | err x d Γ1 => rw [em] at z; exact fun hW Q => .inl (z hW _)
  | ok x Γ1 =>
    rw [em] at z
    show EG Z X σ H G F W (RW X) _ (optR x.items Γ1)
    cases ei : x.items with
    | none => trivial
    | some xs =>
      intro Q hq
      cases x with
      | lst ys =>
        cases ei
        refine .inl (z _ fun v H' G' Fo F' r a => ?_)
        obtain ⟨r, rfl⟩ := r
        obtain ⟨b, vs, rfl, h1, r1⟩ := (VW.of r).lst'
        exact ⟨b, rfl, ⟨vs, .of h1⟩, hq _ H' G' [] F' ⟨walk_seq r rfl, rfl⟩ a⟩
      | tup ys =>
        cases ei
        refine .inr (z _ fun v H' G' Fo F' r a => ?_)
        obtain ⟨r, rfl⟩ := r
        obtain ⟨b, vs, rfl, h1, r1⟩ := (VW.of r).tup
        exact ⟨b, rfl, ⟨vs, h1⟩, hq _ H' G' [] F' ⟨walk_tup' r rfl, rfl⟩ a⟩
      | _ => cases ei
/-- lo, lo + c, .. -/
def rangeD (lo c : Int) (n : Nat) : List D := (List.range n).map fun i => .int (lo + (i : Nat) * c)
theorem walk_rangeD {K : PySem.W.Frag} {H : Hp} {G : Addr → Prop} {lo c : Int} {n : Nat} : WalkD K (Itc lo c n) (rangeD lo c n) H G := by
  refine ⟨⟨fun _ => True, YFn fun i => .int (lo + (i : Nat) * c), ?_, fun _ _ _ => trivial, fun i x H' G' v H'' hx k gh y => ?_⟩⟩
  · have e : (rangeD lo c n).length = n := by simp [rangeD]
    rw [e]; exact walk_rangeC
  · obtain ⟨rfl, rfl⟩ := y
    have e : x = .int (lo + (i : Nat) * c) := by
      unfold rangeD at hx
      rw [List.getElem?_map] at hx
      cases er : (List.range n)[i]? with
      | none => rw [er] at hx; cases hx
      | some j =>
        rw [er] at hx
        have ej : j = i := by
          obtain ⟨h1, h2⟩ := List.getElem?_eq_some_iff.mp er
          rw [List.getElem_range] at h2
          exact h2.symm
        subst ej
        cases hx; rfl
    subst e
    exact ⟨G', .int _, New.val⟩
theorem walk_range1 {K : PySem.W.Frag} {H : Hp} {G : Addr → Prop} {lo : Int} {n : Nat} : WalkD K (Itr lo n) (rangeD lo 1 n) H G := by
  obtain ⟨⟨Gd, Y, w, h1, h2⟩⟩ := walk_rangeD (K := K) (H := H) (G := G) (lo := lo) (c := 1) (n := n)
  have e : Itr lo n = Itc lo 1 n := by
    unfold Itr Itc
    simp only [Int.mul_one]
  rw [e]
  exact walk_rangeD
def small62 (i : Int) : Prop := -(2 ^ 62) ≤ i ∧ i < 2 ^ 62
instance (i : Int) : Decidable (small62 i) := inferInstanceAs (Decidable (_ ∧ _))
def fRange1 : List D → Option (List D)
  | [.int j] => if small62 j then some (rangeD 0 1 j.toNat) else none
  | _ => none
def fRange2 : List D → Option (List D)
  | [.int i, .int j] => if small62 i ∧ small62 j then some (rangeD i 1 (j - i).toNat) else none
  | _ => none
def fRange3 : List D → Option (List D)
  | [.int i, .int j, .int c] => if small62 i ∧ small62 j ∧ c = -1 then some (rangeD i (-1) (i - j).toNat) else none
  | _ => none
def mRange (f : List D → Option (List D)) (m : M (List Opd)) : M (List D) := m.bind fun ps Γ => optR ((rsvs ps Γ).bind f) Γ
theorem does_range {t : TA} {m : M (List Opd)} {f : List D → Option (List D)} {k : List V → (It → Hp → Prop) → Hp → Prop} (hd : Does Z X W (RPs X) t m)
    (h : ∀ ds vs xs H G (R : It → Hp → Prop), VWs X.K H G ds vs → f ds = some xs → (∀ J, WalkD X.K J xs H G → R J H) → k vs R H) : Does Z X W (RW X) (fun σ H R => t σ H fun vs H1 => k vs R H1) (mRange f m) := by
  refine hd.bind (RR' := RW X) (tk := fun vs (_ : Sl) H1 R => k vs R H1) fun ps vs Γ σ H G Fo F hr hf hgd => ?_
  cases e : (rsvs ps Γ).bind f with
  | none => trivial
  | some xs =>
    intro Q hq
    obtain ⟨ds, e1, e2⟩ := Option.bind_eq_some_iff.mp e
    have g := hgd.right
    exact h ds vs xs H G Q (vws_of hf g.nd g.ng hr e1) e2 fun J w => hq J H G [] F ⟨w, rfl⟩ ⟨hf, g, Ext.refl, fun a ha => .inl (List.mem_append_right _ ha)⟩
theorem ix_range1 {a : Expr} {m : M (List Opd)} (ha : AP Z X [a] m) (hm : X.mg "range" = none) (hg : Gl X "range" := by rfl) (hs : starEach [a] X.env = [(false, eval a X.env)] := by rfl) : IX Z X tg (.Call (.Name "range" p) [a] [] pos) (mRange fRange1 m) := by
  intro W tk
  obtain ⟨t, ht, hd⟩ := ha W tk
  refine ⟨_, pi_range1 hg hm ht hs, does_range (k := fun vs R H1 => ∃ j : Int, vs = [V.int j] ∧ -(2 ^ 62) ≤ j ∧ j < 2 ^ 62 ∧ R (Itr 0 j.toNat) H1) hd fun ds vs xs H G R hv e hq => ?_⟩
  unfold fRange1 at e
  split at e
  · split at e
    · rename_i j hj
      cases e
      obtain ⟨v, rfl, h⟩ := vws1 hv
      exact ⟨j, by rw [h.int], hj.1, hj.2, hq _ walk_range1⟩
    · cases e
  · cases e
theorem ix_range2 {a b : Expr} {m : M (List Opd)} (ha : AP Z X [a, b] m) (hm : X.mg "range" = none) (hg : Gl X "range" := by rfl) (hs : starEach [a, b] X.env = [(false, eval a X.env), (false, eval b X.env)] := by rfl) (hs2 : starEach [b] X.env = [(false, eval b X.env)] := by rfl) :
    IX Z X tg (.Call (.Name "range" p) [a, b] [] pos) (mRange fRange2 m) := by
  intro W tk
  obtain ⟨t, ht, hd⟩ := ha W tk
  refine ⟨_, pi_range2 hg hm ht hs hs2, does_range (k := fun vs R H1 => ∃ i j : Int, vs = [V.int i, V.int j] ∧ (-(2 ^ 62) ≤ i ∧ i < 2 ^ 62 ∧ -(2 ^ 62) ≤ j ∧ j < 2 ^ 62) ∧ R (Itr i (j - i).toNat) H1) hd fun ds vs xs H G R hv e hq => ?_⟩
  unfold fRange2 at e
  split at e
  · split at e
    · rename_i i j hj
      cases e
      obtain ⟨v, w, rfl, h, h'⟩ := vws2 hv
      exact ⟨i, j, by rw [h.int, h'.int], ⟨hj.1.1, hj.1.2, hj.2.1, hj.2.2⟩, hq _ walk_range1⟩
    · cases e
  · cases e
/-! ### for -/
def forL (f : D → Fr → Option Fr) (mb : M Fl) : List D → M Fl
  | [], Γ => .ok .nx Γ
  | x :: xs, Γ => match f x Γ with
    | none => .stuck
    | some Γ1 => (mb Γ1).bind fun fl Γ2 => match fl with
      | .nx => forL f mb xs Γ2
      | .ct => forL f mb xs Γ2
      | .bk => .ok .nx Γ2
      | .rt o => .ok (.rt o) Γ2
def mFor (mi : M (List D)) (f : D → Fr → Option Fr) (mb : M Fl) : M Fl := mi.bind fun xs => forL f mb xs
def FinS (Z : Zone) (X : Cx) (σ : Sl) (H : Hp) (G : Addr → Prop) (F : List Addr) (W : WX) (D : Ends) : Res Fl → Prop
  | .ok fl Γ' => SQ Z X σ H G F Γ' D fl
  | .err x d Γ' => SE Z X σ H G F W x d Γ'
  | .stuck => False
theorem SG.of {t : TS} {r : Res Fl} {σ : Sl} {H : Hp} {G : Addr → Prop} {F : List Addr} (h : ∀ D, FinS Z X σ H G F W D r → t D σ H) : SG Z X σ H G F W t r := by
  cases r with
  | stuck => trivial
  | ok fl Γ => exact fun D hq => h D hq
  | err x d Γ => exact fun hW D => h D hW
theorem SG.use {t : TS} {r : Res Fl} {σ : Sl} {H : Hp} {G : Addr → Prop} {F : List Addr} {D : Ends} (z : SG Z X σ H G F W t r) (h : FinS Z X σ H G F W D r) : t D σ H := by
  cases r with
  | stuck => exact h.elim
  | ok fl Γ => exact z D h
  | err x d Γ => exact z h D
theorem EG.use {α β : Type} {RR : RRel α β} {t : TR β} {r : Res α} {σ : Sl} {H : Hp} {G : Addr → Prop} {F : List Addr} {Q : β → Hp → Prop} (z : EG Z X σ H G F W RR t r) (ok : ∀ a Γ', r = .ok a Γ' → ∀ v H' G' Fo F', RR a v σ H' G' Fo → Aft Z X σ H G F Γ' H' G' Fo F' → Q v H')
    (er : ∀ x d Γ', r = .err x d Γ' → SE Z X σ H G F W x d Γ') (st : r ≠ .stuck) : t σ H Q := by
  cases r with
  | stuck => exact absurd rfl st
  | ok a Γ => exact z Q (ok a Γ rfl)
  | err x d Γ => exact z (fun cls dd H' G' F' e a => er x d Γ rfl cls dd σ H' G' F' e a.s) Q
theorem FinS.from {σ σ1 : Sl} {H H1 : Hp} {G G1 : Addr → Prop} {F F1 : List Addr} {Γ1 : Fr} {D : Ends} {r : Res Fl} (a : AftS Z X σ H G F Γ1 σ1 H1 G1 [] F1) (h : FinS Z X σ H G F W D r) : FinS Z X σ1 H1 G1 F1 W D r := by
  cases r with
  | stuck => exact h
  | ok fl Γ => exact SQ.from a h
  | err x d Γ => exact SE.from a h
theorem FinS.ne {σ : Sl} {H : Hp} {G : Addr → Prop} {F : List Addr} {D : Ends} {r : Res Fl} (h : FinS Z X σ H G F W D r) : r ≠ .stuck := fun z => by rw [z] at h; exact h
theorem AftS.keeps {σ σ1 : Sl} {H H1 : Hp} {G G1 : Addr → Prop} {F F1 Fo : List Addr} {Γ1 : Fr} (a : AftS Z X σ H G F Γ1 σ1 H1 G1 Fo F1) (n : ∀ x ∈ F, ¬ G x) : Keeps H G H1 G1 := a.ext.keeps n
/-- a pure addition on the way -/
theorem AftS.new {σ σ1 : Sl} {H H1 H2 : Hp} {G G1 G2 : Addr → Prop} {F F1 : List Addr} {Γ1 : Fr} (a : AftS Z X σ H G F Γ1 σ1 H1 G1 [] F1) (n : New H1 G1 H2 G2 []) : AftS Z X σ H G F Γ1 σ1 H2 G2 [] F1 :=
  ⟨a.rel.ext (n.ext (F := [])) (by simp) (by simp), n.good a.good, a.ext.trans a.sub n.ext, fun x hx => a.sub x hx, a.len⟩
theorem sx_for {iter : Expr} {body : List Stmt} {ix : List Nat} {mi : M (List D)} {f : D → Fr → Option Fr} {mb : M Fl} (hi : IX Z X tg iter mi) (hg : TgX Z X tg ix f) (hb : BX Z X body mb) (hp : PassesOwn (model X.prog X.w) X.A X.env X.xe) (hc : X.calm = true := by rfl)
    (hs : ∀ x, foldedSetIterable iter X.env x = pure x := by intro _; rfl) : SX Z X (.For tg iter body [] pos) (mFor mi f mb) := by
  intro W tk
  obtain ⟨wi, pi, di⟩ := hi W tk
  obtain ⟨g, pg, dg⟩ := hg
  obtain ⟨tb, pb, db⟩ := hb W tk
  refine ⟨_, ps_for hp hc pi pg pb hs, fun Γ σ H G F hf hgd => SG.of fun D fin => ?_⟩
  refine (di Γ σ H G F hf hgd).use (fun xs Γ1 ei J H0 G0 Fo F0 w a0 => ?_) (fun x d Γ' ei => ?_) (fun ei => ?_)
  · obtain ⟨⟨⟨Gd, Y, wk, hG, hY⟩⟩, rfl⟩ := w
    have er : mFor mi f mb Γ = forL f mb xs Γ1 := by show (mi Γ).bind _ = _; rw [ei]; rfl
    rw [er] at fin
    have n0 : ∀ x ∈ F0, ¬ G0 x := a0.good.ng
    refine for_it wk (fun i σ2 H2 => ∃ Γ2 G2 F2, AftS Z X σ H0 G0 F0 Γ2 σ2 H2 G2 [] F2 ∧ forL f mb (xs.drop i) Γ2 = forL f mb xs Γ1) ⟨Γ1, G0, F0, .here a0.rel a0.good, rfl⟩ (fun i σ2 H2 _ ⟨Γ2, G2, F2, a2, _⟩ => hG H2 G2 (a2.keeps n0)) ?_ ?_
    · rintro i v σ2 H2 H3 hi ⟨Γ2, G2, F2, a2, e2⟩ y
      obtain ⟨G3, rv, nw⟩ := hY i xs[i] H2 G2 v H3 (by simp [hi]) (a2.keeps n0) a2.good.gh y
      rw [List.drop_eq_getElem_cons hi] at e2
      rw [← e2] at fin
      have a3 := a2.new nw
      cases ef : f xs[i] Γ2 with
      | none => exact absurd (show forL f mb (xs[i] :: xs.drop (i + 1)) Γ2 = .stuck by simp only [forL, ef]) fin.ne
      | some Γ3 =>
        have e3 : forL f mb (xs[i] :: xs.drop (i + 1)) Γ2 = (mb Γ3).bind fun fl Γ2 => match fl with
          | .nx => forL f mb (xs.drop (i + 1)) Γ2
          | .ct => forL f mb (xs.drop (i + 1)) Γ2
          | .bk => .ok .nx Γ2
          | .rt o => .ok (.rt o) Γ2 := by simp only [forL, ef]
        refine dg xs[i] v Γ2 Γ3 σ2 H3 G3 F2 _ rv a3.rel a3.good ef fun σ4 F4 a4 _ => ?_
        have a5 := a3.trans a4
        refine (db Γ3 σ4 H3 G3 F4 a4.rel a4.good).use ?_
        rw [e3] at fin e2
        cases eb : mb Γ3 with
        | stuck => rw [eb] at fin; exact fin
        | err x d Γ5 => rw [eb] at fin; exact (show SE Z X σ H G F W x d Γ5 from fin).from (a0.s.trans a5)
        | ok fl Γ5 =>
          rw [eb] at fin e2
          cases fl with
          | nx => exact fun σ6 H6 G6 F6 a6 => ⟨Γ5, G6, F6, a5.trans a6, e2⟩
          | ct => exact fun σ6 H6 G6 F6 a6 => ⟨Γ5, G6, F6, a5.trans a6, e2⟩
          | bk => exact (show SQ Z X σ H G F Γ5 D .nx from fin).from (a0.s.trans a5)
          | rt o => exact (show SQ Z X σ H G F Γ5 D (.rt o) from fin).from (a0.s.trans a5)
    · rintro σ2 H2 ⟨Γ2, G2, F2, a2, e2⟩
      rw [List.drop_length] at e2
      rw [← e2] at fin
      exact fin σ2 H2 G2 F2 (a0.s.trans a2)
  · have er : mFor mi f mb Γ = .err x d Γ' := by show (mi Γ).bind _ = _; rw [ei]; rfl
    rw [er] at fin
    exact fin
  · have er : mFor mi f mb Γ = .stuck := by show (mi Γ).bind _ = _; rw [ei]; rfl
    rw [er] at fin
    exact fin
/-! ### while -/
def whileL (mc : M Bool) (mb : M Fl) : Nat → M Fl
  | 0, _ => .stuck
  | n + 1, Γ => (mc Γ).bind fun c Γ1 => if c = true then (mb Γ1).bind fun fl Γ2 => match fl with
      | .nx => whileL mc mb n Γ2
      | .ct => whileL mc mb n Γ2
      | .bk => .ok .nx Γ2
      | .rt o => .ok (.rt o) Γ2
    else .ok .nx Γ1
theorem sx_while (n : Nat) {c : Expr} {body : List Stmt} {mc : M Bool} {mb : M Fl} (hc : TX Z X c mc) (hb : BX Z X body mb) (hp : PassesOwn (model X.prog X.w) X.A X.env X.xe) : SX Z X (.While c body [] pos) (whileL mc mb n) := by
  intro W tk
  obtain ⟨tc, pc, dc⟩ := hc W tk
  obtain ⟨tb, pb, db⟩ := hb W tk
  refine ⟨_, ps_while hp pc pb, fun Γ σ H G F hf hgd => SG.of fun D fin => ?_⟩
  refine ⟨fun m σ2 H2 => ∃ Γ2 G2 F2, AftS Z X σ H G F Γ2 σ2 H2 G2 [] F2 ∧ whileL mc mb m Γ2 = whileL mc mb n Γ, ⟨n, Γ, G, F, .here hf hgd, rfl⟩, ?_⟩
  rintro m σ2 H2 ⟨Γ2, G2, F2, a2, e2⟩
  rw [← e2] at fin
  cases m with
  | zero => exact fin.elim
  | succ m =>
    have e3 : whileL mc mb (m + 1) Γ2 = (mc Γ2).bind fun c Γ1 => if c = true then (mb Γ1).bind fun fl Γ2 => match fl with
        | .nx => whileL mc mb m Γ2
        | .ct => whileL mc mb m Γ2
        | .bk => .ok .nx Γ2
        | .rt o => .ok (.rt o) Γ2
      else .ok .nx Γ1 := rfl
    rw [e3] at fin e2
    refine (dc Γ2 σ2 H2 G2 F2 a2.rel a2.good).use (fun b Γ3 ec v H3 G3 Fo F3 r a3 => ?_) (fun x d Γ' ec => ?_) (fun ec => ?_)
    · obtain ⟨rfl, rfl⟩ := r
      rw [ec] at fin e2
      have a4 := a2.trans a3.s
      cases b with
      | false =>
        dsimp only
        rw [if_neg Bool.false_ne_true]
        exact (show SQ Z X σ H G F Γ3 D .nx from fin) σ2 H3 G3 F3 a4
      | true =>
        dsimp only
        rw [if_pos rfl]
        refine ⟨_, fun σ' H' h => ⟨m, Nat.lt_succ_self m, h⟩, ?_⟩
        refine (db Γ3 σ2 H3 G3 F3 a3.rel a3.good).use ?_
        have fin' : FinS Z X σ H G F W D ((mb Γ3).bind fun fl Γ2 => match fl with
          | .nx => whileL mc mb m Γ2
          | .ct => whileL mc mb m Γ2
          | .bk => .ok .nx Γ2
          | .rt o => .ok (.rt o) Γ2) := fin
        have e2' : ((mb Γ3).bind fun fl Γ2 => match fl with
          | .nx => whileL mc mb m Γ2
          | .ct => whileL mc mb m Γ2
          | .bk => .ok .nx Γ2
          | .rt o => .ok (.rt o) Γ2) = whileL mc mb n Γ := e2
        cases eb : mb Γ3 with
        | stuck => rw [eb] at fin'; exact fin'
        | err x d Γ5 => rw [eb] at fin'; exact (show SE Z X σ H G F W x d Γ5 from fin').from a4
        | ok fl Γ5 =>
          rw [eb] at fin' e2'
          cases fl with
          | nx => exact fun σ6 H6 G6 F6 a6 => ⟨Γ5, G6, F6, a4.trans a6, e2'⟩
          | ct => exact fun σ6 H6 G6 F6 a6 => ⟨Γ5, G6, F6, a4.trans a6, e2'⟩
          | bk => exact (show SQ Z X σ H G F Γ5 D .nx from fin').from a4
          | rt o => exact (show SQ Z X σ H G F Γ5 D (.rt o) from fin').from a4
    · rw [ec] at fin
      exact (show SE Z X σ H G F W x d Γ' from fin).from a2
    · rw [ec] at fin
      exact fin
end
end PL
end
section
set_option Elab.async false
set_option maxRecDepth 100000
set_option linter.all false
set_option maxHeartbeats 1000000
/-! PL8: list comprehensions. -/
namespace PL
open PySem PySem.Spec PyProof.Rows L2
/-! ### slots forgotten -/
def clr : List Nat → Fr → Fr
  | [], Γ => Γ
  | v :: vs, Γ => (clr vs Γ).set v none
section
variable {K : PySem.W.Frag} {H : Hp} {G : Addr → Prop}
theorem RelF.congr : ∀ {Γ : Fr} {σ σ' : Sl} {F : List Addr}, (∀ (j : Nat) (o : O), Γ[j]? = some (some o) → σ'[j]? = σ[j]?) → Γ.length ≤ σ'.length → RelF K H G Γ σ F → RelF K H G Γ σ' F
  | [], _, _, _, _, _, h => h
  | x :: Γ, _, [], _, _, l, _ => absurd l (Nat.not_succ_le_zero _)
  | x :: Γ, [], _ :: _, _, _, _, h => by cases x <;> exact False.elim h
  | none :: Γ, _ :: σ, s :: σ', F, c, l, h => RelF.congr (Γ := Γ) (σ := σ) (σ' := σ') (fun j o e => c (j + 1) o (by simpa using e)) (Nat.le_of_succ_le_succ l) h
  | some o :: Γ, t :: σ, s :: σ', F, c, l, h => by
    obtain ⟨v, F1, F2, e, h1, h2, rfl⟩ := h
    have es : s = t := by simpa using c 0 o rfl
    exact ⟨v, F1, F2, by rw [es, e], h1, RelF.congr (fun j o e => c (j + 1) o (by simpa using e)) (Nat.le_of_succ_le_succ l) h2, rfl⟩
theorem RelF.drop {Γ : Fr} {σ : Sl} {F : List Addr} (i : Nat) (h : RelF K H G Γ σ F) (nd : F.Nodup) (ng : ∀ a ∈ F, ¬ G a) : ∃ F', RelF K H G (Γ.set i none) σ F' ∧ F'.Nodup ∧ ∀ a ∈ F', a ∈ F := by
  by_cases hi : i < Γ.length
  · obtain ⟨A, Fi, B, e, _, _, _, a4⟩ := h.slot hi nd ng
    subst e
    have hs : i < σ.length := Nat.lt_of_lt_of_le hi h.len
    have z := a4 H G σ[i] Ext.refl
    rw [List.set_getElem_self hs] at z
    refine ⟨A ++ B, z, ?_, fun a ha => mem_mid ha⟩
    obtain ⟨n1, n2, n3⟩ := List.nodup_append.mp nd
    exact List.nodup_append.mpr ⟨n1, (List.nodup_append.mp n2).2.1, fun x hx y hy => n3 x hx y (List.mem_append_right _ hy)⟩
  · exact ⟨F, by rw [List.set_eq_of_length_le (Nat.le_of_not_lt hi)]; exact h, nd, fun _ h => h⟩
theorem RelF.clr : ∀ (own : List Nat) {Γ : Fr} {σ : Sl} {F : List Addr}, RelF K H G Γ σ F → F.Nodup → (∀ a ∈ F, ¬ G a) → ∃ F', RelF K H G (clr own Γ) σ F' ∧ F'.Nodup ∧ ∀ a ∈ F', a ∈ F
  | [], _, _, F, h, nd, _ => ⟨F, h, nd, fun _ h => h⟩
  | v :: vs, _, _, F, h, nd, ng => by
    obtain ⟨F1, h1, n1, s1⟩ := RelF.clr vs h nd ng
    obtain ⟨F2, h2, n2, s2⟩ := RelF.drop v h1 n1 (fun a ha => ng a (s1 a ha))
    exact ⟨F2, h2, n2, fun a ha => s1 a (s2 a ha)⟩
theorem clr_off : ∀ {own : List Nat} {Γ : Fr} {j : Nat} {o : O}, (clr own Γ)[j]? = some (some o) → j ∉ own
  | [], _, _, _, _ => by simp
  | v :: vs, Γ, j, o, h => by
    unfold clr at h
    by_cases e : v = j
    · subst e
      by_cases hv : v < (clr vs Γ).length
      · rw [List.getElem?_set_self hv] at h; cases h
      · rw [List.getElem?_eq_none (by simpa using hv)] at h; cases h
    · rw [List.getElem?_set_ne e] at h
      simp only [List.mem_cons, not_or]
      exact ⟨fun q => e q.symm, clr_off h⟩
theorem clr_length : ∀ (own : List Nat) (Γ : Fr), (clr own Γ).length = Γ.length
  | [], _ => rfl
  | v :: vs, Γ => by unfold clr; rw [List.length_set, clr_length vs]
end
theorem wipe_in {σ : Sl} {i : Nat} : ∀ {vs : List Nat}, i ∈ vs → (wipe σ vs)[i]? = if i < σ.length then some none else none
  | [], h => absurd h (by simp)
  | v :: vs, h => by
    unfold wipe
    by_cases e : v = i
    · subst e
      by_cases hv : v < σ.length
      · rw [if_pos hv, List.getElem?_set_self (by rw [wipe_length]; exact hv)]
      · rw [if_neg hv, List.getElem?_eq_none (by rw [List.length_set, wipe_length]; omega)]
    · rw [List.getElem?_set_ne e]
      exact wipe_in ((List.mem_cons.mp h).resolve_left fun q => e q.symm)
theorem wipe_same {σ σ' : Sl} {vs : List Nat} (l : σ'.length = σ.length) (h : ∀ j, j ∉ vs → σ'[j]? = (wipe σ vs)[j]?) : wipe σ' vs = wipe σ vs := by
  refine List.ext_getElem? fun i => ?_
  by_cases hi : i ∈ vs
  · rw [wipe_in hi, wipe_in hi, l]
  · rw [wipe_out hi, h i hi]
/-! ### readings that hold in every block -/
def cG (X : Cx) (tg : Expr) : TG := fun v σ H Q => ∀ pins s u, Inv X pins σ H s → RelV v u → wpAny (model X.prog X.w) X.A (assign tg X.env u) (fun _ s' => ∃ σ' H', Inv X pins σ' H' s' ∧ Q σ' H') X.xe s
theorem pg_c {X : Cx} {tg : Expr} : PG X tg (cG X tg) := ⟨fun pins s σ H v u Q I r h => h pins s u I r⟩
theorem TgX.c {Z : Zone} {X : Cx} {tg : Expr} {ix : List Nat} {f : D → Fr → Option Fr} (h : TgX Z X tg ix f) : TgR Z X ix (cG X tg) f := by
  obtain ⟨g, pg, dg⟩ := h
  exact fun x v Γ Γ' σ H G F Q r hf hg e hq pins s u I ru => pg.run pins s σ H v u Q I ru (dg x v Γ Γ' σ H G F Q r hf hg e hq)
def cTs (X : Cx) (ifs : List Expr) : TT := fun σ H Q => ∀ pins s, Inv X pins σ H s →
  wpAny (model X.prog X.w) X.A (forIn ifs true fun c r => if r = true then do let ok ← isTrue c X.env (eval c X.env); pure (ForInStep.yield ok) else pure (ForInStep.yield r)) (TP X pins σ Q) X.xe s
theorem pts_c {X : Cx} {ifs : List Expr} : PTs X ifs (cTs X ifs) := ⟨fun pins s σ H Q I h => h pins s I⟩
def TsX (Z : Zone) (X : Cx) (ifs : List Expr) (m : M Bool) : Prop := ∀ W, Takes X W → ∃ t, PTs X ifs t ∧ Does Z X W RB t m
theorem TsX.c {Z : Zone} {X : Cx} {W : WX} {ifs : List Expr} {m : M Bool} (h : TsX Z X ifs m) (tk : Takes X W) : Does Z X W RB (cTs X ifs) m := by
  obtain ⟨t, ht, hd⟩ := h W tk
  exact hd.imp fun σ H Q q pins s I => ht.run pins s σ H Q I q
theorem ts_nil {Z : Zone} {X : Cx} : TsX Z X [] (M.pure true) := fun W tk => ⟨_, pts_nil, Does.pureB⟩
theorem ts_one {Z : Zone} {X : Cx} {c : Expr} {m : M Bool} (h : TX Z X c m) : TsX Z X [c] m := fun W tk => let ⟨t, a, b⟩ := h W tk; ⟨t, pts_one a, b⟩
/-! ### the comprehension -/
def compL (own : List Nat) (f : D → Fr → Option Fr) (mt : M Bool) (me : M D) : List D → List D → Fr → Res (List D)
  | [], acc, Γ => .ok acc Γ
  | x :: xs, acc, Γ => match f x Γ with
    | none => .stuck
    | some Γ1 => match mt Γ1 with
      | .ok true Γ2 => (match me Γ2 with
        | .ok y Γ3 => if acc.length < SZ then compL own f mt me xs (acc ++ [y]) (clr own Γ3) else .stuck
        | _ => .stuck)
      | .ok false Γ2 => compL own f mt me xs acc (clr own Γ2)
      | _ => .stuck
def mComp (own : List Nat) (mi : M (List D)) (f : D → Fr → Option Fr) (mt : M Bool) (me : M D) : M O :=
  mi.bind fun xs Γ => (compL own f mt me xs [] (clr own Γ)).bind fun acc Γ2 => .ok (.ol acc) Γ2
section
variable {Z : Zone} {X : Cx} {W : WX} {tg iter elt : Expr} {ifs : List Expr} {scope : Scope} {own : List (Str × Nat)} {pos : Pos} {ix : List Nat} {mi : M (List D)} {f : D → Fr → Option Fr} {mt : M Bool} {me : M D}
theorem compL_ne_err {own : List Nat} : ∀ {xs acc : List D} {Γ : Fr} {x : Str} {d : D} {Γ' : Fr}, compL own f mt me xs acc Γ ≠ .err x d Γ'
  | [], acc, Γ, x, d, Γ', h => by cases h
  | y :: xs, acc, Γ, x, d, Γ', h => by
    unfold compL at h
    split at h
    · cases h
    · split at h
      · split at h
        · split at h
          · exact compL_ne_err h
          · cases h
        · cases h
      · exact compL_ne_err h
      · cases h
abbrev CB (X : Cx) (s : Shared) (H : Hp) (scope : Scope) (cl : List (Str × Addr)) (C : Addr) (fp : List Addr) : Cx := X.blk s H scope (compEnvC scope cl C X.env) fp
theorem AftS.newK {σ σ1 : Sl} {H H1 H2 : Hp} {G G1 G2 : Addr → Prop} {F F1 Fo : List Addr} {Γ1 : Fr} (a : AftS Z X σ H G F Γ1 σ1 H1 G1 Fo F1) (n : New H1 G1 H2 G2 []) : AftS Z X σ H G F Γ1 σ1 H2 G2 Fo F1 :=
  ⟨a.rel.ext (n.ext (F := [])) (by simp) (by simp), n.good a.good, a.ext.trans a.sub n.ext, fun x hx => a.sub x hx, a.len⟩
/-- the new list within the turns -/
structure Turn0 (Z : Zone) (X : Cx) (σ : Sl) (H0 : Hp) (G0 : Addr → Prop) (F0 : List Addr) (Dl : Addr) (acc : List D) (Γ : Fr) (σ1 : Sl) (H : Hp) (G : Addr → Prop) (F : List Addr) : Prop where
  a : AftS Z X σ H0 G0 F0 Γ σ1 H G [Dl] F
  l : RelO X.K H G (.ol acc) (.ref Dl) [Dl]
theorem Turn0.step {σ σ1 σ2 : Sl} {H0 H H' : Hp} {G0 G G' : Addr → Prop} {F0 F F' Fo : List Addr} {Dl : Addr} {acc : List D} {Γ Γ' : Fr} (t : Turn0 Z X σ H0 G0 F0 Dl acc Γ σ1 H G F) (b : AftS Z X σ1 H G F Γ' σ2 H' G' Fo F') : Turn0 Z X σ H0 G0 F0 Dl acc Γ' σ2 H' G' F' := by
  have g := t.a.good
  have ng : ∀ a ∈ F, ¬ G a := fun a ha => g.ng a (List.mem_append_right _ ha)
  refine ⟨⟨b.rel, g.frame b.ext b.good.right fun x hx => b.sub x (List.mem_append_right _ hx), t.a.ext.trans t.a.sub (b.ext.mono fun a ha => .inl (List.mem_append_right _ ha)), fun x hx => ?_, b.len.trans t.a.len⟩, t.l.ext b.ext ng g.apart⟩
  rcases List.mem_append.mp hx with h | h
  · exact t.a.sub x (List.mem_append_left _ h)
  · rcases b.sub x (List.mem_append_right _ h) with z | z
    · exact t.a.sub x (List.mem_append_right _ z)
    · exact .inr (t.a.ext.there x z)
/-- other slots, the same where the frame tells anything -/
theorem Turn0.slots {σ σ1 σ2 : Sl} {H0 H : Hp} {G0 G : Addr → Prop} {F0 F : List Addr} {Dl : Addr} {acc : List D} {Γ : Fr} (t : Turn0 Z X σ H0 G0 F0 Dl acc Γ σ1 H G F) (c : ∀ (j : Nat) (o : O), Γ[j]? = some (some o) → σ2[j]? = σ1[j]?) (l : σ2.length = σ1.length) : Turn0 Z X σ H0 G0 F0 Dl acc Γ σ2 H G F :=
  ⟨⟨t.a.rel.congr c (by rw [l]; exact t.a.rel.len), t.a.good, t.a.ext, t.a.sub, l.trans t.a.len⟩, t.l⟩
theorem Turn0.clr {σ σ1 : Sl} {H0 H : Hp} {G0 G : Addr → Prop} {F0 F : List Addr} {Dl : Addr} {acc : List D} {Γ : Fr} (own : List Nat) (t : Turn0 Z X σ H0 G0 F0 Dl acc Γ σ1 H G F) : ∃ F', Turn0 Z X σ H0 G0 F0 Dl acc (clr own Γ) σ1 H G F' := by
  have g := t.a.good
  obtain ⟨F', h1, n1, s1⟩ := RelF.clr own t.a.rel g.right.nd g.right.ng
  refine ⟨F', ⟨h1, g.sub ?_ fun x hx => ?_, t.a.ext, fun x hx => t.a.sub x ?_, t.a.len⟩, t.l⟩
  · exact List.nodup_append.mpr ⟨(List.nodup_append.mp g.nd).1, n1, fun x hx y hy => (List.nodup_append.mp g.nd).2.2 x hx y (s1 y hy)⟩
  · exact (List.mem_append.mp hx).elim (List.mem_append_left _) fun z => List.mem_append_right _ (s1 x z)
  · exact (List.mem_append.mp hx).elim (List.mem_append_left _) fun z => List.mem_append_right _ (s1 x z)
/-- an item is put at the list's end -/
theorem Turn0.push {σ σ1 : Sl} {H0 H : Hp} {G0 G : Addr → Prop} {F0 F : List Addr} {Dl : Addr} {acc : List D} {Γ : Fr} {y : D} {yv : V} (t : Turn0 Z X σ H0 G0 F0 Dl acc Γ σ1 H G F) (r : Rep X.K H G y yv) :
    ∃ vs, H Dl = some (.lst vs) ∧ vs.length = acc.length ∧ Turn0 Z X σ H0 G0 F0 Dl (acc ++ [y]) Γ σ1 (upd H Dl (.lst (vs ++ [yv]))) G F := by
  obtain ⟨_, vs, e, h1, h2, _⟩ := t.l
  cases e
  have g := t.a.good
  have nD : ¬ G Dl := g.ng Dl (by simp)
  have ex : Ext H G [Dl] (upd H Dl (.lst (vs ++ [yv]))) G := ⟨fun _ h => h, fun a o h n _ => by rw [upd_ne (fun z => n (by simp [z]))]; exact h, fun _ h => .inl h, fun a h => by
    by_cases e : a = Dl
    · subst e; exact (h.no upd_same (fun ps z => by cases z)).elim
    · exact fun o q => h o (by rw [upd_ne e]; exact q)⟩
  have n1 : ∀ a ∈ [Dl], ¬ G a := fun a ha => by simp at ha; subst ha; exact nD
  have k := ex.keeps n1
  have ap : ∀ a ∈ F, a ∉ [Dl] := fun a ha hb => g.apart a hb ha
  refine ⟨vs, h1, h2.length.symm, ⟨t.a.rel.ext ex n1 ap, ⟨g.nd, g.ng, fun a ha => ?_, fun a ha => ?_, Z.stab _ _ _ _ g.st k, ?_⟩, t.a.ext.trans t.a.sub (ex.mono fun a ha => .inl (List.mem_append_left _ ha)), t.a.sub, t.a.len⟩, ⟨Dl, vs ++ [yv], rfl, upd_same, (Reps.ext k _ _ h2).snoc (Rep.ext k _ _ r), rfl⟩⟩
  · obtain ⟨o, e, tb⟩ := g.gh a ha
    exact ⟨o, ex.keep a o e (fun z => n1 a z ha) tb, tb⟩
  · by_cases e : a = Dl
    · subst e; exact ⟨_, upd_same, fun ps z => by cases z⟩
    · rw [upd_ne e]; exact g.fh a ha
  · intro p hp
    obtain ⟨ps, t1, t2, t3⟩ := g.tb p hp
    have np : ∀ b o, H b = some o → (∀ xs, o ≠ .lst xs) → b ≠ Dl := fun b o e n z => by subst z; rw [h1] at e; exact n vs (Option.some.inj e).symm
    refine ⟨ps, by rw [upd_ne (np _ _ t1 fun xs z => by cases z)]; exact t1, t2, fun pos cv hcv => ?_⟩
    obtain ⟨c, e1, e2⟩ := t3 pos cv hcv
    exact ⟨c, e1, by rw [upd_ne (np _ _ e2 fun xs z => by unfold LamX.CodeO at z; cases z)]; exact e2⟩
abbrev cgL (X : Cx) (scope : Scope) (tg : Expr) : TG := fun v σ H Q => ∀ s H0 C cl fp, cG (CB X s H0 scope cl C fp) tg v σ H Q
abbrev ctL (X : Cx) (scope : Scope) (ifs : List Expr) : TT := fun σ H Q => ∀ s H0 C cl fp, cTs (CB X s H0 scope cl C fp) ifs σ H Q
abbrev ceL (X : Cx) (scope : Scope) (elt : Expr) : TE := fun σ H Q => ∀ s H0 C cl fp, cE (CB X s H0 scope cl C fp) elt σ H Q
theorem does_lc {wi : TI} (di : Does Z X W (RW X) wi mi) (hg : ∀ s H C cl fp, TgX Z (CB X s H scope cl C fp) tg ix f) (ht : ∀ s H C cl fp, TsX Z (CB X s H scope cl C fp) ifs mt) (he : ∀ s H C cl fp, ED Z (CB X s H scope cl C fp) elt me)
    (hix : ∀ j ∈ ix, j ∈ own.map (·.2)) : Does Z X W (RO X) (tLc wi (cgL X scope tg) (ctL X scope ifs) (ceL X scope elt) (own.map (·.2))) (mComp (own.map (·.2)) mi f mt me) := by
  intro Γ σ H G F hf hgd
  have z := di Γ σ H G F hf hgd
  show EG Z X σ H G F W (RO X) _ ((mi Γ).bind fun xs Γ => (compL (own.map (·.2)) f mt me xs [] (PL.clr (own.map (·.2)) Γ)).bind fun acc Γ2 => .ok (.ol acc) Γ2)
  generalize ev : own.map (·.2) = vs at hix
  cases em : mi Γ with
  | stuck => trivial
  | err x d Γ1 => rw [em] at z; exact fun hW Q => z hW _
  | ok xs Γ1 =>
    rw [em] at z
    show EG Z X σ H G F W (RO X) _ ((compL vs f mt me xs [] (PL.clr vs Γ1)).bind fun acc Γ2 => .ok (.ol acc) Γ2)
    cases er : compL vs f mt me xs [] (PL.clr vs Γ1) with
    | stuck => trivial
    | err x d Γ2 => exact absurd er compL_ne_err
    | ok racc Γf =>
      intro Q hq
      refine z _ fun J H0 G0 Fo F0 w a0 => ?_
      obtain ⟨⟨⟨Gd, Y, wk, hGd, hY⟩⟩, rfl⟩ := w
      intro Dl hD
      have n0 : ∀ x ∈ F0, ¬ G0 x := a0.good.ng
      have nw0 : New H0 G0 (upd H0 Dl (.lst [])) G0 [Dl] := New.owned a0.good.gh hD (fun ps z => by cases z)
      have t0 : Turn0 Z X σ H0 G0 F0 Dl [] Γ1 σ (upd H0 Dl (.lst [])) G0 F0 := ⟨⟨a0.rel.ext (nw0.ext (F := [])) (by simp) (by simp), nw0.good a0.good, nw0.ext, fun x hx => by
        rcases List.mem_append.mp hx with h | h
        · exact .inr (.of (nw0.fo x h).1)
        · exact .inl h, rfl⟩, ⟨Dl, [], rfl, upd_same, .nil, rfl⟩⟩
      refine lc_it (g := fun v σ H Q => ∀ s H0 C cl fp, cG (CB X s H0 scope cl C fp) tg v σ H Q) (tt := fun σ H Q => ∀ s H0 C cl fp, cTs (CB X s H0 scope cl C fp) ifs σ H Q) (te := fun σ H Q => ∀ s H0 C cl fp, cE (CB X s H0 scope cl C fp) elt σ H Q) (vs := vs) (σ := σ) (H1 := H0) (D := Dl) (Qd := fun H => Q (.ref Dl) H) wk (fun i H2 => ∃ acc Γ2 G2 F2, Turn0 Z X σ H0 G0 F0 Dl acc Γ2 σ H2 G2 F2 ∧ (∀ (j : Nat) (o : O), Γ2[j]? = some (some o) → j ∉ vs) ∧ compL vs f mt me (xs.drop i) acc Γ2 = .ok racc Γf) ?_ (fun i H2 _ ⟨acc, Γ2, G2, F2, t2, _⟩ => hGd H2 G2 (t2.a.keeps n0)) ?_ ?_
      · obtain ⟨F1, t1⟩ := t0.clr vs
        exact ⟨[], _, G0, F1, t1, fun j o => clr_off, er⟩
      · rintro i v H2 H3 hil ⟨acc, Γ2, G2, F2, t2, off, e2⟩ y
        obtain ⟨G3, rv, nw⟩ := hY i xs[i] H2 G2 v H3 (by simp [hil]) (t2.a.keeps n0) t2.a.good.gh y
        rw [List.drop_eq_getElem_cons hil] at e2
        have t3 : Turn0 Z X σ H0 G0 F0 Dl acc Γ2 σ H3 G3 F2 := ⟨t2.a.newK nw, t2.l.ext (nw.ext (F := [])) (by simp) (by simp)⟩
        have t4 := t3.slots (σ2 := wipe σ vs) (fun j o e => wipe_out (off j o e)) (wipe_length σ vs)
        unfold compL at e2
        cases ef : f xs[i] Γ2 with
        | none => simp only [ef] at e2; cases e2
        | some Γ3 =>
          simp only [ef] at e2
          -- the target
          have tgt : ∀ Qt : Sl → Hp → Prop, (∀ σ4 F4, AftS Z X (wipe σ vs) H3 G3 F2 Γ3 σ4 H3 G3 [] F4 → (∀ j, j ∉ ix → σ4[j]? = (wipe σ vs)[j]?) → Qt σ4 H3) → ∀ s H0 C cl fp, cG (CB X s H0 scope cl C fp) tg v (wipe σ vs) H3 Qt := fun Qt hQ s H0 C cl fp =>
            (hg s H0 C cl fp).c xs[i] v Γ2 Γ3 (wipe σ vs) H3 G3 F2 Qt rv t4.a.rel t4.a.good.right ef fun σ4 F4 a off => hQ σ4 F4 ⟨a.rel, a.good, a.ext, a.sub, a.len⟩ off
          refine tgt _ fun σ4 F4 a4 o4 => ?_
          have t5 := t4.step a4
          have l4 : σ4.length = σ.length := a4.len.trans (wipe_length σ vs)
          have w4 : wipe σ4 vs = wipe σ vs := wipe_same l4 fun j hj => o4 j fun h => hj (hix j h)
          refine ⟨w4, ?_⟩
          have back : ∀ {acc' : List D} {Γ5 : Fr} {H5 : Hp} {G5 : Addr → Prop} {F5 : List Addr}, Turn0 Z X σ H0 G0 F0 Dl acc' Γ5 σ4 H5 G5 F5 → compL vs f mt me (xs.drop (i + 1)) acc' (PL.clr vs Γ5) = .ok racc Γf →
              ∃ acc Γ2 G2 F2, Turn0 Z X σ H0 G0 F0 Dl acc Γ2 σ H5 G2 F2 ∧ (∀ (j : Nat) (o : O), Γ2[j]? = some (some o) → j ∉ vs) ∧ compL vs f mt me (xs.drop (i + 1)) acc Γ2 = .ok racc Γf := fun {acc' Γ5 H5 G5 F5} t e => by
            obtain ⟨F6, t6⟩ := t.clr vs
            refine ⟨acc', _, G5, F6, t6.slots (fun j o ej => ?_) l4.symm, fun j o => clr_off, e⟩
            have hj := clr_off ej
            rw [← wipe_out hj, ← w4, wipe_out hj]
          have nt : (mt Γ3) ≠ .stuck := fun e => by rw [e] at e2; cases e2
          have ne : ∀ x d Γ', mt Γ3 ≠ .err x d Γ' := fun x d Γ' e => by rw [e] at e2; cases e2
          intro s H0 C cl fp
          refine ((ht s H0 C cl fp).c (W := fun _ _ _ _ => False) L2.takes0 Γ3 σ4 H3 G3 F4 a4.rel a4.good).use (fun c Γ5 ec b H5 G5 Fo5 F5 r5 a5 => ?_) (fun x d Γ' e => absurd e (ne x d Γ')) nt
          obtain ⟨rfl, rfl⟩ := r5
          rw [ec] at e2
          have a5' : AftS Z X σ4 H3 G3 F4 Γ5 σ4 H5 G5 [] F5 := ⟨a5.rel, a5.good, a5.ext, a5.sub, rfl⟩
          have t6 := t5.step a5'
          cases c with
          | false =>
            simp only [Bool.false_eq_true, if_false] at e2 ⊢
            exact back t6 e2
          | true =>
            simp only [if_true] at e2 ⊢
            have nt2 : (me Γ5) ≠ .stuck := fun e => by rw [e] at e2; cases e2
            have ne2 : ∀ x d Γ', me Γ5 ≠ .err x d Γ' := fun x d Γ' e => by rw [e] at e2; cases e2
            intro s H0 C cl fp
            refine ((he s H0 C cl fp).c (W := fun _ _ _ _ => False) L2.takes0 Γ5 σ4 H5 G5 F5 a5.rel a5.good).use (fun yd Γ6 ey yv H6 G6 Fo6 F6 r6 a6 => ?_) (fun x d Γ' e => absurd e (ne2 x d Γ')) nt2
            obtain ⟨r6, rfl⟩ := r6
            rw [ey] at e2
            simp only at e2
            split at e2
            · rename_i hz
              have a6' : AftS Z X σ4 H5 G5 F5 Γ6 σ4 H6 G6 [] F6 := ⟨a6.rel, a6.good, a6.ext, a6.sub, rfl⟩
              have t7 := t6.step a6'
              obtain ⟨ws, e7, l7, t8⟩ := t7.push r6
              exact ⟨ws, e7, by rw [l7, sz_eq]; exact hz, back t8 e2⟩
            · cases e2
      · rintro H2 ⟨acc, Γ2, G2, F2, t2, off, e2⟩
        rw [List.drop_length] at e2
        cases e2
        exact hq (.ref Dl) H2 G2 [Dl] F2 t2.l ⟨t2.a.rel, t2.a.good, a0.ext.trans a0.sub t2.a.ext, fun x hx => (t2.a.sub x hx).elim (a0.sub x) fun z => .inr (a0.ext.there x z)⟩
theorem ex_lc (hi : IX Z X tg iter mi) (ok : BlkOk X.N X.env.scope scope own) (hN : X.N.Nodup) (hg : ∀ s H C cl fp, TgX Z (CB X s H scope cl C fp) tg ix f) (ht : ∀ s H C cl fp, TsX Z (CB X s H scope cl C fp) ifs mt) (he : ∀ s H C cl fp, ED Z (CB X s H scope cl C fp) elt me)
    (hix : ∀ j ∈ ix, j ∈ own.map (·.2)) (hc : X.calm = true := by rfl) (hs : ∀ x, foldedSetIterable iter X.env x = pure x := by intro _; rfl) : EX Z X (.ListComp elt [⟨tg, iter, ifs, 0⟩] scope pos) (mComp (own.map (·.2)) mi f mt me) := by
  intro W tk
  obtain ⟨wi, pi, di⟩ := hi W tk
  exact ⟨_, pe_lc (X := X) (g := cgL X scope tg) (tt := ctL X scope ifs) (te := ceL X scope elt) hc hN pi ok (fun s H C cl fp => ⟨fun pins s' σ H' v u Q I r h => h s H C cl fp pins s' u I r⟩) (fun s H C cl fp => ⟨fun pins s' σ H' Q I h => h s H C cl fp pins s' I⟩)
    (fun s H C cl fp => ⟨fun pins s' σ H' Q I h => h s H C cl fp pins s' I⟩) hs, does_lc di hg ht he hix⟩
/-- name = [comprehension] on one line -/
theorem sx_setLc (i : Nat) {y : Str} {py spos : Pos} (hi : IX Z X tg iter mi) (ok : BlkOk X.N X.env.scope scope own) (hN : X.N.Nodup) (hg : ∀ s H C cl fp, TgX Z (CB X s H scope cl C fp) tg ix f) (ht : ∀ s H C cl fp, TsX Z (CB X s H scope cl C fp) ifs mt) (he : ∀ s H C cl fp, ED Z (CB X s H scope cl C fp) elt me)
    (hix : ∀ j ∈ ix, j ∈ own.map (·.2)) (hy : X.N[i]? = some y := by rfl) (hyl : X.env.scope.names.lookup y = some .local := by rfl) (hsw : swapsWith (.ListComp elt [⟨tg, iter, ifs, 0⟩] scope pos) (some (.Name y py)) spos.line X.env = pure true := by rfl) (hc : X.calm = true := by rfl) (hs : ∀ x, foldedSetIterable iter X.env x = pure x := by intro _; rfl) :
    SX Z X (.Assign [.Name y py] (.ListComp elt [⟨tg, iter, ifs, 0⟩] scope pos) spos) (mSet i (mComp (own.map (·.2)) mi f mt me)) := by
  intro W tk
  obtain ⟨wi, pi, di⟩ := hi W tk
  exact ⟨_, ps_setLc (X := X) (g := cgL X scope tg) (tt := ctL X scope ifs) (te := ceL X scope elt) hc hN hy hyl hsw pi ok (fun s H C cl fp => ⟨fun pins s' σ H' v u Q I r h => h s H C cl fp pins s' u I r⟩) (fun s H C cl fp => ⟨fun pins s' σ H' Q I h => h s H C cl fp pins s' I⟩)
    (fun s H C cl fp => ⟨fun pins s' σ H' Q I h => h s H C cl fp pins s' I⟩) hs, DoesS.set (does_lc di hg ht he hix)⟩
end
end PL
end
section
set_option Elab.async false
set_option maxRecDepth 100000
set_option linter.all false
set_option maxHeartbeats 1000000
/-! PL9: what a def answers; its promise; calls of it. -/
namespace PL
open PySem PySem.Spec PyProof.Rows L2
/-- an answer; the deck that was handed in, as it is then -/
inductive FR where
  | ok (o : O) (k : Option Deck)
  | err (x : Str) (d : D) (k : Option Deck)
  | stuck
abbrev FSem := Option Deck → List D → FR
def RelK (K : PySem.W.Frag) (H : Hp) (k : Option Deck) (vk : List V) (F : List Addr) : Prop := match k with
  | none => vk = [] ∧ F = []
  | some s => ∃ v, vk = [v] ∧ RelO K H (fun _ => False) (.dk s) v F
def ExM (K : PySem.W.Frag) (mg : Str → Option Value) (H : Hp) (G : Addr → Prop) (x : Str) (d : D) (cls : Value) (dd : Option Addr) : Prop :=
  ∃ C a v, mg x = some (.ref C) ∧ cls = .ref C ∧ dd = some a ∧ H a = some (.xd [(Str.ofString "thing", v)]) ∧ G a ∧ Rep K H G d v
structure AftK (Z : Zone) (K : PySem.W.Frag) (H : Hp) (G : Addr → Prop) (F : List Addr) (vk : List V) (k' : Option Deck) (H' : Hp) (G' : Addr → Prop) (Fo F' : List Addr) : Prop where
  rel : RelK K H' k' vk F'
  good : Good Z H' G' (Fo ++ F')
  ext : Ext H G F H' G'
  sub : ∀ a ∈ Fo ++ F', a ∈ F ∨ Nw H a
def FEnd (Z : Zone) (K : PySem.W.Frag) (mg : Str → Option Value) (H : Hp) (G : Addr → Prop) (F : List Addr) (vk : List V) (Q : VK) (E : XK) : FR → Prop
  | .ok o k' => ∀ v H' G' Fo F', RelO K H' G' o v Fo → AftK Z K H G F vk k' H' G' Fo F' → Q v H'
  | .err x d k' => ∀ cls dd H' G' F', ExM K mg H' G' x d cls dd → AftK Z K H G F vk k' H' G' [] F' → E cls dd H'
  | .stuck => False
/-- the promise of a def -/
def spF (Z : Zone) (K : PySem.W.Frag) (mg : Str → Option Value) (f : FSem) (n : Nat) : Sp := fun vs H Q E => ∃ G F k ds vk us, vs = vk ++ us ∧ vs.length = n ∧ RelK K H k vk F ∧ Reps K H G ds us ∧ Good Z H G F ∧ FEnd Z K mg H G F vk Q E (f k ds)
def argO (k : Option Deck) (ds : List D) : List O := (match k with | some s => [O.dk s] | none => []) ++ ds.map O.d
def finK (k : Option Deck) (Γ : Fr) : Option (Option Deck) := match k with
  | none => some none
  | some s => match Γ with
    | some (.dk s') :: _ => if s'.at_ = s.at_ then some (some s') else none
    | _ => none
def fnSem (n : Nat) (m : M Fl) : FSem := fun k ds => match m ((argO k ds).map some ++ List.replicate (n - (argO k ds).length) none) with
  | .ok .nx Γ => (match finK k Γ with | some k' => .ok (.d .non) k' | none => .stuck)
  | .ok (.rt o) Γ => (match finK k Γ with | some k' => .ok o k' | none => .stuck)
  | .ok _ _ => .stuck
  | .err x d Γ => (match finK k Γ with | some k' => .err x d k' | none => .stuck)
  | .stuck => .stuck
section
variable {K : PySem.W.Frag} {Z : Zone} {mg : Str → Option Value} {H H' : Hp} {G G' : Addr → Prop} {F Fo F' : List Addr} {k k' : Option Deck} {vk us : List V} {ds : List D}
theorem relF_none : ∀ n m, n ≤ m → RelF K H G (List.replicate n none) (List.replicate m none) []
  | 0, m, _ => rfl
  | n + 1, 0, h => absurd h (Nat.not_succ_le_zero _)
  | n + 1, m + 1, h => relF_none n m (Nat.le_of_succ_le_succ h)
theorem relF_ds {Γ : Fr} {σ : Sl} : ∀ {ds : List D} {us : List V}, Reps K H G ds us → RelF K H G Γ σ F → RelF K H G ((ds.map O.d).map some ++ Γ) (us.map some ++ σ) F
  | _, _, .nil, h => h
  | _, _, .cons r t, h => ⟨_, [], F, rfl, ⟨r, rfl⟩, relF_ds t h, rfl⟩
theorem dk_any {s : Deck} {v : V} (h : RelO K H G (.dk s) v F) : RelO K H G' (.dk s) v F := h
theorem RelK.len (h : RelK K H k vk F) (r : Reps K H G ds us) : (argO k ds).length = (vk ++ us).length := by
  unfold argO
  cases k with
  | none => obtain ⟨rfl, _⟩ := h; simp [r.length]
  | some s => obtain ⟨v, rfl, _⟩ := h; simp [r.length]
theorem relF_start {N : List Str} (hk : RelK K H k vk F) (hr : Reps K H G ds us) : RelF K H G ((argO k ds).map some ++ List.replicate (N.length - (argO k ds).length) none) (L2.start N (vk ++ us)) F := by
  have e := hk.len hr
  unfold L2.start
  rw [e]
  unfold argO
  cases k with
  | none =>
    obtain ⟨rfl, rfl⟩ := hk
    exact relF_ds hr (relF_none _ _ (Nat.le_refl _))
  | some s =>
    obtain ⟨v, rfl, h⟩ := hk
    exact ⟨v, F, [], rfl, dk_any h, relF_ds hr (relF_none _ _ (Nat.le_refl _)), by simp⟩
theorem finK_ok {Γ : Fr} {σ : Sl} {F0 : List Addr} (e : finK k Γ = some k') (hk : RelK K H k vk F) (hf : RelF K H' G' Γ σ F0) (g : Good Z H' G' (Fo ++ F0)) : ∃ F', RelK K H' k' vk F' ∧ Good Z H' G' (Fo ++ F') ∧ ∀ a ∈ F', a ∈ F0 := by
  cases k with
  | none =>
    cases e
    obtain ⟨rfl, rfl⟩ := hk
    exact ⟨[], ⟨rfl, rfl⟩, by rw [List.append_nil]; exact g.left, fun a h => by simp at h⟩
  | some s =>
    obtain ⟨v, rfl, rfl, _⟩ := hk
    unfold finK at e
    simp only at e
    split at e
    · rename_i s' Γ'
      split at e
      · rename_i ea
        cases e
        cases σ with
        | nil => exact False.elim hf
        | cons x σ =>
          obtain ⟨v', F1, F2, rfl, h1, h2, rfl⟩ := hf
          refine ⟨F1, ⟨v', ?_, dk_any h1⟩, ?_, fun a h => List.mem_append_left _ h⟩
          · obtain ⟨rfl, _⟩ := h1
            rw [ea]
          · rw [← List.append_assoc] at g
            exact g.left
      · cases e
    · cases e
end
section
variable {P : Program} {w : World} {K : PySem.W.Frag} {mg : Str → Option Value} {base : Heap} {Z : Zone}
/-- a def keeps its promise -/
theorem fn_ok {x qual : Str} {st : Stmt} {f : Addr} {fd : FuncData} {N ps : List Str} {k : Nat} {m : M Fl} (F : Fun K x qual st f fd) (S : FnScope N ps (defScope st))
    (hb : ∀ (cdv : Value) (A : Around) (outer : List Env) (s : Shared) (H : Hp) (E : XK), Room k (A.deeper (envOfC qual (defScope st) s.heap.objs.size f cdv)) → BX Z (cxOf (L2.CX P w) P w K mg base N qual (defScope st) f cdv A outer s H E) (defBody st) m) :
    FnOk P w K mg base (L2.CX P w) (k + 1) f fd ps (spF Z K mg (fnSem N.length m) ps.length) := by
  refine Fun.okX F S (fun vs H Q E h => ?_) fun cdv A outer s H vs Q E hr h => ?_
  · obtain ⟨_, _, _, _, _, _, _, hl, _⟩ := h
    exact hl
  · obtain ⟨G, F, k, ds, vk, us, rfl, hl, hk, hr', hg, h⟩ := h
    obtain ⟨t, ht, hd⟩ := hb cdv A outer s H E hr (fun cls d _ H => E cls d H) (takes_of rfl rfl rfl rfl)
    refine ⟨t, ht, (hd _ _ H G F (relF_start (N := N) hk hr') hg).use ?_⟩
    unfold fnSem at h
    cases em : m ((argO k ds).map some ++ List.replicate (N.length - (argO k ds).length) none) with
    | stuck => simp only [em] at h; exact h
    | err x d Γ =>
      simp only [em] at h
      cases ek : finK k Γ with
      | none => simp only [ek] at h; exact False.elim h
      | some k' =>
        simp only [ek] at h
        intro cls dd σ' H' G' F' hx a
        obtain ⟨F2, h1, h2, h3⟩ := finK_ok ek hk a.rel a.good
        exact h cls dd H' G' F2 hx ⟨h1, h2, a.ext, fun b hb => a.sub b (h3 b hb)⟩
    | ok fl Γ =>
      cases fl with
      | nx =>
        simp only [em] at h
        cases ek : finK k Γ with
        | none => simp only [ek] at h; exact False.elim h
        | some k' =>
          simp only [ek] at h
          intro σ' H' G' F' a
          obtain ⟨F2, h1, h2, h3⟩ := finK_ok ek hk a.rel a.good
          exact h .non H' G' [] F2 ⟨.non, rfl⟩ ⟨h1, h2, a.ext, fun b hb => a.sub b (h3 b hb)⟩
      | rt o =>
        simp only [em] at h
        cases ek : finK k Γ with
        | none => simp only [ek] at h; exact False.elim h
        | some k' =>
          simp only [ek] at h
          intro v σ' H' G' Fo F' r a
          obtain ⟨F2, h1, h2, h3⟩ := finK_ok ek hk a.rel a.good
          refine h v H' G' Fo F2 r ⟨h1, h2, a.ext, fun b hb => ?_⟩
          exact (List.mem_append.mp hb).elim (fun z => a.sub b (List.mem_append_left _ z)) fun z => a.sub b (List.mem_append_right _ (h3 b z))
      | bk => simp only [em] at h; exact False.elim h
      | ct => simp only [em] at h; exact False.elim h
/-- a def that may be called by its name -/
structure FC (P : Program) (w : World) (K : PySem.W.Frag) (mg : Str → Option Value) (base : Heap) (Z : Zone) (k : Nat) (x : Str) (st : Stmt) (ps : List Str) (f : FSem) : Prop where
  ex : ∃ (a : Addr) (fd : FuncData), FnOk P w K mg base (L2.CX P w) k a fd ps (spF Z K mg f ps.length) ∧ mg x = some (.ref a) ∧ PySem.W.keepIn K (.ref a) = true ∧ Binds K fd ps [] ∧ Fun K x x st a fd
theorem FC.mono {j k : Nat} {x : Str} {st : Stmt} {ps : List Str} {f : FSem} (h : FC P w K mg base Z j x st ps f) (l : j ≤ k) : FC P w K mg base Z k x st ps f := let ⟨a, fd, h1, h2⟩ := h.ex; ⟨a, fd, h1.mono l, h2⟩
/-- from the fragment's def and its body -/
theorem fc_ok {x : Str} {st : Stmt} {N ps : List Str} {k : Nat} {m : M Fl} {f : FSem} (ex : ∃ (a : Addr) (fd : FuncData), Fun K x x st a fd ∧ mg x = some (.ref a)) (S : FnScope N ps (defScope st))
    (hbind : ∀ (kV doc pm : Value) (an : Option Addr) (cdv ct : Value) (us : List Value), us.length = ps.length → bindArgs (PySem.W.fnOf x x (defArgs st) (defBody st) (defScope st) .none kV doc pm an cdv ct) ⟨us, []⟩ = pure (ps.zip us))
    (hb : ∀ (a : Addr) (cdv : Value) (A : Around) (outer : List Env) (s : Shared) (H : Hp) (E : XK), Room k (A.deeper (envOfC x (defScope st) s.heap.objs.size a cdv)) → BX Z (cxOf (L2.CX P w) P w K mg base N x (defScope st) a cdv A outer s H E) (defBody st) m)
    (he : fnSem N.length m = f) : FC P w K mg base Z (k + 1) x st ps f := by
  obtain ⟨a, fd, F, hm⟩ := ex
  subst he
  exact ⟨a, fd, fn_ok F S (hb a), hm, F.kp, F.binds hbind, F⟩
end
abbrev FCX (X : Cx) (Z : Zone) (k : Nat) (x : Str) (st : Stmt) (ps : List Str) (f : FSem) : Prop := FC X.prog X.w X.K X.mg X.base Z k x st ps f
def mCallP (n : Nat) (f : FSem) (m : M (List D)) : M O := m.bind fun ds Γ => if ds.length = n then (match f none ds with
  | .ok o none => .ok o Γ
  | .err x d none => .err x d Γ
  | _ => .stuck) else .stuck
def kCallD (n : Nat) (f : FSem) (q : Opd × List D) : M O := fun Γ => match q.1 with
  | .bor i => if q.2.length + 1 = n then (match Γ[i]? with
    | some (some (.dk s)) => (match f (some s) q.2 with
      | .ok o (some s') => .ok o (Γ.set i (some (.dk s')))
      | .err x d (some s') => .err x d (Γ.set i (some (.dk s')))
      | _ => .stuck)
    | _ => .stuck) else .stuck
  | _ => .stuck
def mCallD (n : Nat) (f : FSem) (i : Nat) (m : M (List D)) : M O := (M.pair (mBor i) m).bind (kCallD n f)
section
variable {Z : Zone} {X : Cx} {W : WX} {k : Nat} {x : Str} {st : Stmt} {ps ks : List Str} {f : FSem} {p pos : Pos} {e : Expr} {es : List Expr}
theorem doesK_callP {n : Nat} {ds : List D} :
    DoesK Z X W (RDs X) (RO X) ds (fun vs σ H Q => spF Z X.K X.mg f n vs H Q (WE W σ)) (fun Γ => if ds.length = n then (match f none ds with
      | .ok o none => .ok o Γ
      | .err x d none => .err x d Γ
      | _ => .stuck) else .stuck) := by
  intro vs Γ σ H G Fo F hr hf hg
  obtain ⟨hr, rfl⟩ := hr
  have g0 : Good Z H G [] := by
    have z : Good Z H G (F ++ []) := by rw [List.append_nil]; exact hg
    exact z.right
  have back : ∀ {H' G' R}, Ext H G [] H' G' → Good Z H' G' R → (∀ a ∈ R, a ∈ ([] : List Addr) ∨ Nw H a) → Good Z H' G' (R ++ F) := fun {H' G' R} e g s =>
    (Good.frame (Fo := F) (F := []) (by rw [List.append_nil]; exact hg) e g s).perm List.perm_append_comm
  dsimp only
  split
  · rename_i hn
    have hl : vs.length = n := by rw [← hr.length]; exact hn
    cases ef : f none ds with
    | stuck => trivial
    | ok o k' =>
      cases k' with
      | some s => trivial
      | none =>
        intro Q hq
        refine ⟨G, [], none, ds, [], vs, rfl, hl, ⟨rfl, rfl⟩, hr, g0, ?_⟩
        rw [ef]
        intro v H' G' Fo F' r a
        obtain ⟨_, rfl⟩ := a.rel
        have sub := a.sub
        have gd := a.good
        rw [List.append_nil] at sub gd
        refine hq v H' G' Fo F r ⟨hf.ext (a.ext.mono (F' := []) (fun _ h => .inl h)) (by simp) (by simp), back a.ext gd sub, a.ext.mono (fun _ h => by simp at h), fun b hb => ?_⟩
        rcases List.mem_append.mp hb with z | z
        · exact .inr ((sub b z).resolve_left (by simp))
        · exact .inl z
    | err x d k' =>
      cases k' with
      | some s => trivial
      | none =>
        intro hW Q
        refine ⟨G, [], none, ds, [], vs, rfl, hl, ⟨rfl, rfl⟩, hr, g0, ?_⟩
        rw [ef]
        intro cls dd H' G' F' hx a
        obtain ⟨_, rfl⟩ := a.rel
        have gd := a.good
        refine hW cls dd H' G' F hx ⟨hf.ext a.ext (by simp) (by simp), back a.ext gd (fun b hb => by simp at hb), a.ext.mono (fun _ h => by simp at h), fun b hb => .inl hb⟩
  · trivial
/-- the context's fixed parts -/
structure Same5 (X : Cx) (P : Program) (w : World) (K : PySem.W.Frag) (mg : Str → Option Value) (base : Heap) : Prop where
  e1 : X.prog = P
  e2 : X.w = w
  e3 : X.K = K
  e4 : X.mg = mg
  e5 : X.base = base
/-- f(e, ..), what is handed in frozen -/
theorem ex_call {P : Program} {w : World} {K : PySem.W.Frag} {mg : Str → Option Value} {base : Heap} {A0 : Around} {n : Nat} {m : M (List D)} (F : FC P w K mg base Z k x st ps f) (hr : Room k A0) (ha : AD Z X (e :: es) m) (h5 : Same5 X P w K mg base := by exact ⟨rfl, rfl, rfl, rfl, rfl⟩) (hA : X.A = A0 := by rfl) (hn : ps.length = n := by rfl) (hg : Gl X x := by rfl) (hdb : (x == ("__debug__" : Str)) = false := by decide) (he : starEach (e :: es) X.env = (false, eval e X.env) :: starEach es X.env := by rfl)
    (hpl : (backTo pos (starEach es X.env)).any (·.1) = false := by rfl) : EX Z X (.Call (.Name x p) (e :: es) [] pos) (mCallP n f m) := by
  intro W tk
  obtain ⟨rfl, rfl, rfl, rfl, rfl⟩ := h5
  subst hA hn
  obtain ⟨a, fd, h1, h2, h3, h4, _⟩ := F.ex
  obtain ⟨t, ht, hd⟩ := ha W tk
  exact ⟨_, pe_callS (E := WE W) h1 hr hg h2 h3 h4 (fun σ => passAt tk σ) ht hdb he hpl, hd.bind (tk := fun vs σ H Q => spF Z X.K X.mg f ps.length vs H Q (WE W σ)) fun ds => doesK_callP⟩
theorem perm_mid {A B C : List Addr} : (A ++ (B ++ C)).Perm ((A ++ C) ++ B) := by
  rw [List.append_assoc]
  exact List.Perm.append_left _ List.perm_append_comm
theorem doesK_callD {n : Nat} {q : Opd × List D} :
    DoesK Z X W (RRp (RP X) (RDs X)) (RO X) q (fun vs σ H Q => spF Z X.K X.mg f n (vs.1 :: vs.2) H Q (WE W σ)) (kCallD n f q) := by
  rintro ⟨v, vs⟩ Γ σ H G Fo F ⟨F1, F2, h1, ⟨h2, rfl⟩, rfl⟩ hf hg
  obtain ⟨q1, ds⟩ := q
  cases q1 with
  | sol o => trivial
  | bor i =>
  obtain ⟨hv, rfl⟩ := h1
  unfold kCallD
  dsimp only
  split
  · rename_i hn
    cases ei : Γ[i]? with
    | none => trivial
    | some oo =>
      cases oo with
      | none => trivial
      | some o =>
        cases o with
        | dk s =>
          dsimp only
          obtain ⟨A, Fi, B, e, a1, a2, a3, a4⟩ := hf.slot (List.getElem?_eq_some_iff.mp ei).1 hg.right.nd hg.right.ng
          obtain ⟨v', b1, b2⟩ := a1 _ ei
          have b1' := b1
          rw [show σ[i]? = some (some v) from hv] at b1'
          cases b1'
          have es : σ.set i (some v) = σ := by
            obtain ⟨hl, e⟩ := List.getElem?_eq_some_iff.mp b1
            rw [← e]; exact List.set_getElem_self hl
          subst e
          have g1 : Good Z H G ((A ++ B) ++ Fi) := hg.right.perm perm_mid
          have hl : (v :: vs).length = n := by rw [List.length_cons, ← h2.length]; exact hn
          have sp : ∀ Q E, FEnd Z X.K X.mg H G Fi [v] Q E (f (some s) ds) → spF Z X.K X.mg f n (v :: vs) H Q E := fun Q E h => ⟨G, Fi, some s, ds, [v], vs, rfl, hl, ⟨v, rfl, dk_any b2⟩, h2, g1.right, h⟩
          cases ef : f (some s) ds with
          | stuck => trivial
          | ok o k' =>
            cases k' with
            | none => trivial
            | some s' =>
              intro Q hQ
              refine sp _ _ ?_
              rw [ef]
              intro r H' G' Fo Fi' hr a
              obtain ⟨v2, ev, hd⟩ := a.rel
              cases ev
              have rel := a3 H' G' (.dk s') v Fi' a.ext (dk_any hd)
              rw [es] at rel
              refine hQ r H' G' Fo (A ++ (Fi' ++ B)) hr ⟨rel, ?_, a.ext.mono (fun b hb => .inl (by simp [hb])), fun b hb => ?_⟩
              · refine (g1.frame a.ext a.good a.sub).perm ?_
                have p1 : ((A ++ B) ++ (Fo ++ Fi')).Perm ((Fo ++ Fi') ++ (A ++ B)) := List.perm_append_comm
                refine p1.trans ?_
                rw [List.append_assoc]
                refine List.Perm.append_left _ ?_
                rw [← List.append_assoc, ← List.append_assoc]
                exact List.Perm.append_right _ List.perm_append_comm
              · rcases List.mem_append.mp hb with z | z
                · exact (a.sub b (List.mem_append_left _ z)).imp (fun z => by simp [z]) id
                · rcases List.mem_append.mp z with z | z
                  · exact .inl (by simp [z])
                  · rcases List.mem_append.mp z with z | z
                    · exact (a.sub b (List.mem_append_right _ z)).imp (fun z => by simp [z]) id
                    · exact .inl (by simp [z])
          | err x d k' =>
            cases k' with
            | none => trivial
            | some s' =>
              intro hW Q
              refine sp _ _ ?_
              rw [ef]
              intro cls dd H' G' Fi' hx a
              obtain ⟨v2, ev, hd⟩ := a.rel
              cases ev
              have rel := a3 H' G' (.dk s') v Fi' a.ext (dk_any hd)
              rw [es] at rel
              refine hW cls dd H' G' (A ++ (Fi' ++ B)) hx ⟨rel, ?_, a.ext.mono (fun b hb => .inl (by simp [hb])), fun b hb => ?_⟩
              · refine (g1.frame a.ext a.good a.sub).perm ?_
                have p1 : ((A ++ B) ++ ([] ++ Fi')).Perm ((Fi' ++ A) ++ B) := by
                  rw [List.nil_append]
                  refine (List.perm_append_comm).trans ?_
                  rw [List.append_assoc]
                refine p1.trans ?_
                rw [List.nil_append, ← List.append_assoc]
                exact List.Perm.append_right _ List.perm_append_comm
              · rcases List.mem_append.mp (show b ∈ A ++ (Fi' ++ B) from hb) with z | z
                · exact .inl (by simp [z])
                · rcases List.mem_append.mp z with z | z
                  · exact (a.sub b (List.mem_append_right _ z)).imp (fun z => by simp [z]) id
                  · exact .inl (by simp [z])
        | _ => trivial
  · trivial
/-- f(deck, e, ..) -/
theorem ex_callD (i : Nat) {P : Program} {w : World} {K : PySem.W.Frag} {mg : Str → Option Value} {base : Heap} {A0 : Around} {n : Nat} {y : Str} {py : Pos} {m : M (List D)} (F : FC P w K mg base Z k x st ps f) (hr : Room k A0) (ha : AD Z X es m) (h5 : Same5 X P w K mg base := by exact ⟨rfl, rfl, rfl, rfl, rfl⟩) (hA : X.A = A0 := by rfl) (hn : ps.length = n := by rfl) (hN : X.N[i]? = some y := by rfl) (hv : Vis X.env.scope y := by first | exact Or.inl rfl | exact Or.inr (Or.inl rfl) | exact Or.inr (Or.inr rfl)) (hd : (y == ("__debug__" : Str)) = false := by decide)
    (hcd : (y == ("__classdict__" : Str)) = false := by decide) (hg : Gl X x := by rfl) (hdb : (x == ("__debug__" : Str)) = false := by decide) (he : starEach (.Name y py :: es) X.env = (false, eval (.Name y py) X.env) :: starEach es X.env := by rfl)
    (hpl : (backTo pos (starEach es X.env)).any (·.1) = false := by rfl) : EX Z X (.Call (.Name x p) (.Name y py :: es) [] pos) (mCallD n f i m) := by
  intro W tk
  obtain ⟨rfl, rfl, rfl, rfl, rfl⟩ := h5
  subst hA hn
  obtain ⟨a, fd, h1, h2, h3, h4, _⟩ := F.ex
  obtain ⟨t, ht, hd'⟩ := ha W tk
  obtain ⟨ty, pty, dy⟩ := ep_name (Z := Z) (pos := py) i hN hv hd hcd W tk
  exact ⟨_, pe_callS (E := WE W) h1 hr hg h2 h3 h4 (fun σ => passAt tk σ) (pa_cons pty ht he) hdb he hpl, (Does.pair RP.stable dy hd').bind (tk := fun vs σ H Q => spF Z X.K X.mg f ps.length (vs.1 :: vs.2) H Q (WE W σ)) fun q => doesK_callD⟩
/-! ### keywords -/
def KD (Z : Zone) (X : Cx) (kws : List Keyword) (m : M (List D)) : Prop := ∀ W, Takes X W → ∃ t, PK X kws t ∧ Does Z X W (RDs X) t m
theorem kd_nil : KD Z X [] (M.pure []) := fun W tk => ⟨_, pk_nil, fun Γ σ H G F hf hg Q hq => hq [] H G [] F ⟨.nil, rfl⟩ (Aft.same hf hg)⟩
theorem kd_cons {nm : Option Str} {kpos : Pos} {kws : List Keyword} {mx : M D} {m : M (List D)} (ha : ED Z X e mx) (hr : KD Z X kws m) : KD Z X (⟨nm, e, kpos⟩ :: kws) (M.map (fun p => p.1 :: p.2) (M.pair mx m)) := by
  intro W tk
  obtain ⟨ta, pa, da⟩ := ha W tk
  obtain ⟨tr, pr, dr⟩ := hr W tk
  refine ⟨_, pk_cons pa pr, fun Γ σ H G F hf hg => ?_⟩
  have z := Does.pair RD.stable da dr Γ σ H G F hf hg
  refine EG.bind (RR' := RDs X) (k := fun p Γ => .ok (p.1 :: p.2) Γ) (tk := fun uv (_ : Sl) H (Q : List V → Hp → Prop) => Q (uv.1 :: uv.2) H) z fun p uv Γ σ H G Fo F hr hf hg Q hq => ?_
  obtain ⟨F1, F2, ⟨h1, rfl⟩, ⟨h2, rfl⟩, rfl⟩ := hr
  exact hq _ H G [] F ⟨.cons h1 h2, rfl⟩ ⟨hf, hg, Ext.refl, fun _ h => .inl h⟩
def pick {α : Type} (g : List Nat) (l : List α) : List α := g.filterMap (l[·]?)
theorem Reps.pick {K : PySem.W.Frag} {H : Hp} {G : Addr → Prop} {ds : List D} {vs : List V} (r : Reps K H G ds vs) : ∀ g : List Nat, Reps K H G (pick g ds) (pick g vs)
  | [] => .nil
  | i :: g => by
    unfold PL.pick
    rw [List.filterMap_cons, List.filterMap_cons]
    cases e : ds[i]? with
    | none =>
      have e2 : vs[i]? = none := List.getElem?_eq_none (by rw [← r.length]; exact List.getElem?_eq_none_iff.mp e)
      rw [e2]
      exact Reps.pick r g
    | some x =>
      obtain ⟨v, e2, h⟩ := r.get e
      rw [e2]
      exact .cons h (Reps.pick r g)
theorem Vals.pick {vs : List V} {us : List Value} (r : Vals vs us) : ∀ g : List Nat, Vals (PL.pick g vs) (PL.pick g us)
  | [] => .nil
  | i :: g => by
    unfold PL.pick
    rw [List.filterMap_cons, List.filterMap_cons]
    cases e : vs[i]? with
    | none =>
      have e2 : us[i]? = none := List.getElem?_eq_none (by rw [← r.length]; exact List.getElem?_eq_none_iff.mp e)
      rw [e2]
      exact Vals.pick r g
    | some x =>
      obtain ⟨v, e2, h⟩ := r.get e
      rw [e2]
      exact .cons h (Vals.pick r g)
theorem run_fnKS {CX : CXT} {fa : Addr} {fd : FuncData} {sp : Sp} {E : L2.St → XK} {g : List Nat} {pins : List (Addr × Obj)} {σ : L2.St} {H : Hp} {s : Shared} {Q : VK} {us ws : List Value} {vs zs : List V} (F : FnOk X.prog X.w X.K X.mg X.base CX k fa fd ps sp) (hr : Room k X.A)
    (hb : ∀ (s : Shared) (us ws : List Value), (pick g (us ++ ws)).length = ps.length → us.length + ws.length = ps.length → ws.length = ks.length → BindsTo s fd ⟨us, ks.zip ws⟩ (ps.zip (pick g (us ++ ws)))) (hx : PassesAt CX X σ (E σ))
    (I : Inv X pins σ H s) (r : Vals vs us) (rz : Vals zs ws) (l1 : vs.length + zs.length = ps.length) (l2 : zs.length = ks.length) (h : sp (pick g (vs ++ zs)) H Q (E σ)) : wpAny (model X.prog X.w) X.A (PySem.call (.ref fa) us (ks.zip ws)) (L2.EP X pins σ Q) X.xe s := by
  have r2 := Vals.pick (r.append rz) g
  have hl : (pick g (us ++ ws)).length = ps.length := by rw [← r2.length]; exact F.len _ _ _ _ h
  refine wpAny_call (codeAny_mono (F.run X.A X.stack s H ⟨us, ks.zip ws⟩ (pick g (us ++ ws)) (pick g (vs ++ zs)) Q (E σ) hr I.env0 (hb s us ws hl (by rw [← r.length, ← rz.length]; exact l1) (by rw [← rz.length]; exact l2)) r2 h) fun r s' hq => ?_)
  cases r with
  | error e => exact hx pins H s e s' I hq
  | ok fl =>
    cases fl with
    | ret u => exact I.after hq
    | next => exact False.elim hq
    | brk => exact False.elim hq
    | cont => exact False.elim hq
def kCallK (n nk : Nat) (g : List Nat) (f : FSem) (q : List D × List D) : M O := fun Γ => if q.1.length + q.2.length = n ∧ q.2.length = nk then (if (pick g (q.1 ++ q.2)).length = n then (match f none (pick g (q.1 ++ q.2)) with
  | .ok o none => .ok o Γ
  | .err x d none => .err x d Γ
  | _ => .stuck) else .stuck) else .stuck
def mCallK (n nk : Nat) (g : List Nat) (f : FSem) (mp mk : M (List D)) : M O := (M.pair mp mk).bind (kCallK n nk g f)
def mCallK0 (n nk : Nat) (g : List Nat) (f : FSem) (mk : M (List D)) : M O := mk.bind fun zs => kCallK n nk g f ([], zs)
theorem eg_callK {g : List Nat} {q : List D × List D} {vs zs : List V} {Γ : Fr} {σ : L2.St} {H : Hp} {G : Addr → Prop} {F : List Addr} (r1 : Reps X.K H G q.1 vs) (r2 : Reps X.K H G q.2 zs) (hf : RelF X.K H G Γ σ F) (hgd : Good Z H G F) :
    EG Z X σ H G F W (RO X) (fun σ H Q => (vs.length + zs.length = ps.length ∧ zs.length = ks.length) ∧ spF Z X.K X.mg f ps.length (pick g (vs ++ zs)) H Q (WE W σ)) (kCallK ps.length ks.length g f q Γ) := by
  unfold kCallK
  split
  · rename_i hl
    have z := doesK_callP (Z := Z) (X := X) (W := W) (f := f) (n := ps.length) (ds := pick g (q.1 ++ q.2)) (pick g (vs ++ zs)) Γ σ H G [] F ⟨(r1.append r2).pick g, rfl⟩ hf hgd
    have hl' : vs.length + zs.length = ps.length ∧ zs.length = ks.length := by rw [← r1.length, ← r2.length]; exact hl
    have gen : ∀ r : Res O, EG Z X σ H G F W (RO X) (fun σ H Q => spF Z X.K X.mg f ps.length (pick g (vs ++ zs)) H Q (WE W σ)) r → EG Z X σ H G F W (RO X) (fun σ H Q => (vs.length + zs.length = ps.length ∧ zs.length = ks.length) ∧ spF Z X.K X.mg f ps.length (pick g (vs ++ zs)) H Q (WE W σ)) r := fun r z' => by
      cases r with
      | stuck => trivial
      | ok o Γ1 => exact fun Q hq => ⟨hl', z' Q hq⟩
      | err x d Γ1 => exact fun hW Q => ⟨hl', z' hW Q⟩
    exact gen _ z
  · trivial
/-- f(e, .., k = v, ..): g tells for each parameter which argument -/
theorem ex_callK (g : List Nat) {P : Program} {w : World} {K : PySem.W.Frag} {mg : Str → Option Value} {base : Heap} {A0 : Around} {n nk : Nat} {kws : List Keyword} {mp mk : M (List D)} (F : FC P w K mg base Z k x st ps f) (hr : Room k A0) (ha : AD Z X (e :: es) mp) (hkw : KD Z X kws mk)
    (hbind : ∀ (kV doc pm : Value) (an : Option Addr) (cdv ct : Value) (us ws : List Value), us.length + ws.length = ps.length → ws.length = ks.length → bindArgs (PySem.W.fnOf x x (defArgs st) (defBody st) (defScope st) .none kV doc pm an cdv ct) ⟨us, ks.zip ws⟩ = pure (ps.zip (pick g (us ++ ws))))
    (h5 : Same5 X P w K mg base := by exact ⟨rfl, rfl, rfl, rfl, rfl⟩) (hA : X.A = A0 := by rfl) (hn : ps.length = n := by rfl) (hnk : ks.length = nk := by rfl) (hall : (backToKw pos (keywordEach kws X.env)).all (·.1.isSome) = true := by rfl) (hks : (backToKw pos (keywordEach kws X.env)).filterMap (·.1) = ks := by rfl) (hg : Gl X x := by rfl) (hdb : (x == ("__debug__" : Str)) = false := by decide)
    (he : starEach (e :: es) X.env = (false, eval e X.env) :: starEach es X.env := by rfl) (hpl : ((backTo pos (starEach (e :: es) X.env)).any (·.1) || (backToKw pos (keywordEach kws X.env)).any (·.1.isNone)) = false := by rfl) :
    EX Z X (.Call (.Name x p) (e :: es) kws pos) (mCallK n nk g f mp mk) := by
  intro W tk
  obtain ⟨rfl, rfl, rfl, rfl, rfl⟩ := h5
  subst hA hn hnk
  obtain ⟨a, fd, h1, h2, h3, h4, ⟨⟨oc, od, kV, doc, pm, an, cdv, ct, osl, rfl, lk, hcd⟩, _⟩⟩ := F.ex
  obtain ⟨t, ht, hd⟩ := ha W tk
  obtain ⟨u, hu, hd2⟩ := hkw W tk
  have hb : ∀ (s : Shared) (us ws : List Value), (pick g (us ++ ws)).length = ps.length → us.length + ws.length = ps.length → ws.length = ks.length → BindsTo s (PySem.W.fnOf x x (defArgs st) (defBody st) (defScope st) .none kV doc pm an cdv ct) ⟨us, ks.zip ws⟩ (ps.zip (pick g (us ++ ws))) :=
    fun s us ws _ l1 l2 => .of_eq (hbind kV doc pm an cdv ct us ws l1 l2)
  have pe : PE X (.Call (.Name x p) (e :: es) kws pos) (fun σ H Q => tPair t u σ H fun vs H2 => (vs.1.length + vs.2.length = ps.length ∧ vs.2.length = ks.length) ∧ spF Z X.K X.mg f ps.length (pick g (vs.1 ++ vs.2)) H2 Q (WE W σ)) := by
    refine ⟨fun pins s σ H Q I h => ?_⟩
    refine wpAny_Call_Name_kw (ld_glob I hg h2 ?_ hdb)
    refine PySem.W.callWith_KW (h₀ := X.base) I.ok.mod.kin h3 hall (thn (ht.run pos pins s σ H _ I h) fun us s1 ⟨vs, H1, I1, r, q⟩ => ?_) hpl he
    refine thn (hu.run pos pins s1 σ H1 _ I1 q) fun ws s2 ⟨zs, H2, I2, rz, l, q2⟩ => ⟨I2.kIn, ?_⟩
    rw [hks]
    exact run_fnKS (E := WE W) h1 hr hb (passAt tk σ) I2 r rz l.1 l.2 q2
  refine ⟨_, pe, (Does.pair RDs.stable hd hd2).bind (RR' := RO X) (tk := fun vs σ H Q => (vs.1.length + vs.2.length = ps.length ∧ vs.2.length = ks.length) ∧ spF Z X.K X.mg f ps.length (pick g (vs.1 ++ vs.2)) H Q (WE W σ)) fun q => ?_⟩
  rintro ⟨vs, zs⟩ Γ σ H G Fo F ⟨F1, F2, ⟨r1, rfl⟩, ⟨r2, rfl⟩, rfl⟩ hf hgd
  exact eg_callK r1 r2 hf hgd
theorem ex_callK0 (g : List Nat) {P : Program} {w : World} {K : PySem.W.Frag} {mg : Str → Option Value} {base : Heap} {A0 : Around} {n nk : Nat} {kws : List Keyword} {mk : M (List D)} (F : FC P w K mg base Z k x st ps f) (hr : Room k A0) (hkw : KD Z X kws mk)
    (hbind : ∀ (kV doc pm : Value) (an : Option Addr) (cdv ct : Value) (us ws : List Value), us.length + ws.length = ps.length → ws.length = ks.length → bindArgs (PySem.W.fnOf x x (defArgs st) (defBody st) (defScope st) .none kV doc pm an cdv ct) ⟨us, ks.zip ws⟩ = pure (ps.zip (pick g (us ++ ws))))
    (h5 : Same5 X P w K mg base := by exact ⟨rfl, rfl, rfl, rfl, rfl⟩) (hA : X.A = A0 := by rfl) (hn : ps.length = n := by rfl) (hnk : ks.length = nk := by rfl) (hall : (backToKw pos (keywordEach kws X.env)).all (·.1.isSome) = true := by rfl) (hks : (backToKw pos (keywordEach kws X.env)).filterMap (·.1) = ks := by rfl) (hg : Gl X x := by rfl) (hdb : (x == ("__debug__" : Str)) = false := by decide)
    (hpl : ((backTo pos (starEach [] X.env)).any (·.1) || (backToKw pos (keywordEach kws X.env)).any (·.1.isNone)) = false := by rfl) :
    EX Z X (.Call (.Name x p) [] kws pos) (mCallK0 n nk g f mk) := by
  intro W tk
  obtain ⟨rfl, rfl, rfl, rfl, rfl⟩ := h5
  subst hA hn hnk
  obtain ⟨a, fd, h1, h2, h3, h4, ⟨⟨oc, od, kV, doc, pm, an, cdv, ct, osl, rfl, lk, hcd⟩, _⟩⟩ := F.ex
  obtain ⟨u, hu, hd2⟩ := hkw W tk
  have hb : ∀ (s : Shared) (us ws : List Value), (pick g (us ++ ws)).length = ps.length → us.length + ws.length = ps.length → ws.length = ks.length → BindsTo s (PySem.W.fnOf x x (defArgs st) (defBody st) (defScope st) .none kV doc pm an cdv ct) ⟨us, ks.zip ws⟩ (ps.zip (pick g (us ++ ws))) :=
    fun s us ws _ l1 l2 => .of_eq (hbind kV doc pm an cdv ct us ws l1 l2)
  have pe : PE X (.Call (.Name x p) [] kws pos) (fun σ H Q => u σ H fun zs H2 => (([] : List V).length + zs.length = ps.length ∧ zs.length = ks.length) ∧ spF Z X.K X.mg f ps.length (pick g ([] ++ zs)) H2 Q (WE W σ)) := by
    refine ⟨fun pins s σ H Q I h => ?_⟩
    refine wpAny_Call_Name_kw (ld_glob I hg h2 ?_ hdb)
    refine PySem.W.callWith_KW0 (h₀ := X.base) I.ok.mod.kin h3 hall ?_ hpl
    refine thn (hu.run pos pins s σ H _ I h) fun ws s2 ⟨zs, H2, I2, rz, l, q2⟩ => ⟨I2.kIn, ?_⟩
    rw [hks]
    exact run_fnKS (us := []) (vs := []) (E := WE W) h1 hr hb (passAt tk σ) I2 .nil rz l.1 l.2 q2
  refine ⟨_, pe, hd2.bind (RR' := RO X) (tk := fun zs σ H Q => (([] : List V).length + zs.length = ps.length ∧ zs.length = ks.length) ∧ spF Z X.K X.mg f ps.length (pick g ([] ++ zs)) H Q (WE W σ)) fun q => ?_⟩
  rintro zs Γ σ H G Fo F ⟨r2, rfl⟩ hf hgd
  exact eg_callK (q := ([], q)) (vs := []) .nil r2 hf hgd
end
end PL
end
section
set_option Elab.async false
set_option maxRecDepth 100000
set_option linter.all false
set_option maxHeartbeats 1000000
/-! PL10: more that is walked: zip, enumerate. -/
namespace PL
open PySem PySem.Spec PyProof.Rows L2
theorem meets_enum1 {v : Value} {o : Obj} {H : Heap → Prop} (B : Begins v o H) :
    Meets (Builtin.«enumerate.__new__» ⟨[.type "enumerate", v], []⟩) (fun _ R s => H s.heap ∧
      R (.ok (.ret (.ref (s.heap.push o).objs.size))) { s with heap := (s.heap.push o).push { cls := .type "enumerate", data := .fields #[.none, .bool false, .ref s.heap.objs.size, rawInt 0, .none, .none] } }) :=
  .of_wp fun prog w A R s h => by
    obtain ⟨hp, g, d, tk, os⟩ := s; obtain ⟨h1, h⟩ := h
    have hsub := sub_enumerate
    have q1 : ∀ {A' : Around} {E : Value → Shared → Prop} {Q : Value → Shared → Prop}, Q (.ref hp.objs.size) ⟨hp.push o, g, d, tk, os⟩ → wpAny (model prog w) A' (pyIter v) Q E ⟨hp, g, d, tk, os⟩ :=
      fun q => B.iter prog w _ _ ⟨hp, g, d, tk, os⟩ _ h1 q
    wp_walk using q1
    refine wpAny_stack_any fun st => wpAny_pure ?_
    split
    · rename_i c _ _ _ _ _
      cases (c == Value.type "enumerate")
      · wp_walk using q1
        exact ⟨_, rfl, h⟩
      · wp_walk using q1
        exact ⟨_, rfl, h⟩
    · wp_walk using q1
      exact ⟨_, rfl, h⟩
theorem enum_begins1 {prog : Program} {w : World} {A : Around} {E : Value → Shared → Prop} {s : Shared} {v : Value} {o : Obj} {H : Heap → Prop} {Q : Value → Shared → Prop} (B : Begins v o H) (h1 : H s.heap)
    (h : ∀ h', IsEnum h' (s.heap.objs.size + 1) s.heap.objs.size 0 .none → h'.get? s.heap.objs.size = some o → h'.objs.size = s.heap.objs.size + 2 →
      (∀ b o, s.heap.get? b = some o → h'.get? b = some o) → Q (.ref (s.heap.objs.size + 1)) { s with heap := h' }) :
    wpAny (model prog w) A (PySem.call (.type "enumerate") [v]) Q E s := by
  refine callType_new F.called_enumerate (by decide) (F.typeCall_enumerate_1 _) (F.newCall_enumerate_1 _) (fun obj => F.args_object_init_2 obj _) F.entry_enumerate_new
    (meets_enum1 B) ⟨h1, ?_⟩
  have hz : (s.heap.push o).objs.size = s.heap.objs.size + 1 := Heap.size_push ..
  show _ ∧ _
  rw [hz]
  have he : IsEnum ((s.heap.push o).push { cls := .type "enumerate", data := .fields #[.none, .bool false, .ref s.heap.objs.size, rawInt 0, .none, .none] }) (s.heap.objs.size + 1) s.heap.objs.size 0 .none := by
    have := Heap.get?_push_size (s.heap.push o) (o := { cls := .type "enumerate", data := .fields #[.none, .bool false, .ref s.heap.objs.size, rawInt 0, .none, .none] }) rfl
    rw [hz] at this; exact this
  exact ⟨⟨_, he, rfl⟩, h _ he (Heap.get?_push_of_some _ (Heap.get?_push_size _ B.free)) (by rw [Heap.size_push, hz]) fun b o x => Heap.get?_push_of_some _ (Heap.get?_push_of_some _ x)⟩
/-- the tuple at a, each item in a new pair -/
def IteT (K : PySem.W.Frag) (a : Addr) : It :=
  ⟨fun i H => ∃ (xs : List V) (x : V), SqT K H a xs ∧ xs[i]? = some x, fun i H v H' => ∃ T x, v = .ref T ∧ H T = none ∧ H' = upd H T (.tup [.int (i : Nat), x]) ∧ ∀ xs, SqT K H a xs → xs[i]? = some x, fun i H => ∃ xs : List V, SqT K H a xs ∧ xs.length = i⟩
theorem turn_enumT {P : Program} {w : World} {K : PySem.W.Frag} {elts : List Expr} {kk : Nat} {tpos : Pos} (a e it : Addr) :
    Turn P w K (.Tuple elts kk tpos) (IteT K a) [e, it] e (fun i h => (∃ old, IsEnum h e it ((i : Nat) : Int) old) ∧ h.IsTupleIter it a i ∧ e ≠ it ∧ a ≠ it ∧ a ≠ e) where
  mem := by simp
  obj := fun i h st b hb => by
    obtain ⟨⟨old, he⟩, ⟨o, ho, hc, hd⟩, _⟩ := st
    have e' : b = e ∨ b = it := by simpa using hb
    rcases e' with z | z
    · rw [z]; exact ⟨_, he, fun v q => nomatch q⟩
    · rw [z]; exact ⟨o, ho, fun v q => by rw [hd] at q; cases q⟩
  keep := fun i h h' st k => let ⟨⟨old, he⟩, hi, hne⟩ := st; ⟨⟨old, k e (by simp) _ he⟩, hi.at fun o q => k it (by simp) o q, hne⟩
  item := by
    intro X hP hw hK hc i pins s σ H E I hf st hg
    subst hP hw hK
    obtain ⟨⟨old, he⟩, hit, hne, nai, nae⟩ := st
    obtain ⟨xs, x, hq, hx⟩ := hg
    obtain ⟨its, rv, p, hz⟩ := I.tuple hq
    obtain ⟨u, hu, ru⟩ := rv.get hx
    have hel : e < s.heap.objs.size := Heap.lt_size he
    have hil : it < s.heap.objs.size := by obtain ⟨_, q, _⟩ := hit; exact Heap.lt_size q
    have hlt : i < its.toArray.size := by
      obtain ⟨h1, _⟩ := List.getElem?_eq_some_iff.mp hu
      simpa using h1
    refine wpAny_pyNext_enum_itemD (Draws.tuple (prog := X.prog) (w := X.w) (A := X.A.in1) (show X.A.in1.handled = none from I.ok.hd hc) it a nai its.toArray) he ⟨hit, show s.heap.IsTuple a its.toArray from p⟩ hlt hne (by simp [hne, Ne.symm nae]) fun x' h' tk hx' ho st' hT hsz hk => ?_
    have ex : x' = u := by
      have z : its.toArray[i]? = some u := by simpa using hu
      rw [z] at hx'; exact (Option.some.inj hx').symm
    subst ex
    obtain ⟨hit', ht'⟩ := st'
    refine ⟨_, rfl, wpAny_letOwnedTupleGo_enum (s := { s with heap := h', toks := tk + 1 }) ho fun h'' he' sb => ?_⟩
    have hT2 : h''.get? s.heap.objs.size = some { cls := .type "tuple", data := .seq #[.int i tk, x'] } := (sb.2 _ (Nat.ne_of_gt hel)).trans hT
    have new : ObjOk X.prog X.w (upd H s.heap.objs.size (.tup [.int (i : Nat), x])) h'' s.heap.objs.size (.tup [.int (i : Nat), x]) :=
      ⟨by show 2 ≤ sizeLine; decide, [.int i tk, x'], .cons ⟨_, rfl⟩ (.cons ru .nil), ⟨_, hT2, rfl, _, rfl⟩⟩
    have I1 : Inv X pins σ (upd H s.heap.objs.size (.tup [.int (i : Nat), x])) { s with heap := h'', toks := tk + 1 } :=
      I.turnedNew (ch := [e, it]) (fun b ob hb q => (sb.2 b (fun z => hb (by simp [z]))).trans (hk b ob (fun z => hb (by simp [z])) (fun z => hb (by simp [z])) q)) hf (Nat.le_refl _) new
    refine ⟨.ref s.heap.objs.size, _, I1, rfl, ⟨_, x, rfl, I.hok.fresh (Nat.le_refl _), rfl, fun ys hy => by rw [I.tuple_inj hy hq]; exact hx⟩, ⟨⟨x', ?_⟩, hit'.at fun o q => (sb.2 it (Ne.symm hne)).trans q, hne, nai, nae⟩, fun b hb => ?_⟩
    · have e1 : ((i + 1 : Nat) : Int) = (i : Int) + 1 := by omega
      rw [e1]; exact he'
    · have hb' : b < s.heap.objs.size := by
        have e' : b = e ∨ b = it := by simpa using hb
        rcases e' with z | z
        · rw [z]; exact hel
        · rw [z]; exact hil
      rw [upd_ne (Nat.ne_of_lt hb')]
      exact (hf b hb).1
  done := by
    intro X hP hw hK hc i pins s σ H E I hf st hg
    subst hP hw hK
    obtain ⟨⟨old, he⟩, hit, hne, nai, nae⟩ := st
    obtain ⟨xs, hq, hx⟩ := hg
    obtain ⟨its, rv, p, hz⟩ := I.tuple hq
    obtain ⟨f0, f1, f2, f3, f4, f5⟩ := hf it (by simp)
    have hl := rv.length
    subst hx
    have hi : xs.length = its.toArray.size := by simpa using hl
    refine wpAny_pyNext_enum_endD (Draws.tuple (prog := X.prog) (w := X.w) (A := X.A.in1) (show X.A.in1.handled = none from I.ok.hd hc) it a nai its.toArray) he (by rw [← hi]; exact ⟨hit, show s.heap.IsTuple a its.toArray from p⟩) fun h' eb => ⟨rfl, I.turned (t' := s.toks) (fun b o hb q => eb b o hb q) f0 f1 f3 f4 f5⟩
  self := fun A i s Q E st h => let ⟨⟨_, he⟩, _⟩ := st; wpAny_pyIter_enum he h
def iEnumT (K : PySem.W.Frag) (ta : TA) : TI := fun σ H R => ta σ H fun vs H1 => ∃ a xs, vs = [.ref a] ∧ SqT K H1 a xs ∧ R (IteT K a) H1
theorem pi_enumT {X : Cx} {e : Expr} {ta : TA} {p pos tpos : Pos} {elts : List Expr} {kk : Nat} (hg : Gl X "enumerate") (hm : X.mg "enumerate" = none) (ha : PA X [e] ta) (hs : starEach [e] X.env = [(false, eval e X.env)] := by rfl) :
    PI X (.Tuple elts kk tpos) (.Call (.Name "enumerate" p) [e] [] pos) (iEnumT X.K ta) := by
  refine ⟨fun pins s σ H R I h => ?_⟩
  refine Call_ (ld_blt I hg hm boot_enumerate (PyProof.Rows.callWith_type1 (thn (ha.run pos pins s σ H _ I h) fun us s1 ⟨vs, H1, I1, r1, q1⟩ => ?_) hs rfl))
  obtain ⟨a, xs, ex, hq, q⟩ := q1
  subst ex
  cases r1 with
  | cons r rr =>
    cases rr
    cases r
    obtain ⟨its, rv, p', hz⟩ := I1.tuple hq
    have p2 : s1.heap.IsTuple a its.toArray := p'
    obtain ⟨oa, hoa, _⟩ := id p2
    have hal : a < s1.heap.objs.size := Heap.lt_size hoa
    refine enum_begins1 (begins_tuple a its.toArray) p2 fun h' he hit hsz hk => wpAny_pyIter_enum he ?_
    have I2 : Inv X pins σ H1 { s1 with heap := h' } := I1.kept (t' := s1.toks) hk
    refine ⟨s1.heap.objs.size + 1, [s1.heap.objs.size + 1, s1.heap.objs.size], _, _, H1, rfl, I2, turn_enumT a (s1.heap.objs.size + 1) s1.heap.objs.size, ⟨⟨.none, he⟩, ⟨_, hit, rfl, rfl⟩, Nat.succ_ne_self _, Nat.ne_of_lt hal, Nat.ne_of_lt (Nat.lt_succ_of_lt hal)⟩, fun b hb => ?_, q⟩
    have e' : b = s1.heap.objs.size + 1 ∨ b = s1.heap.objs.size := by simpa using hb
    have hle : s1.heap.objs.size ≤ b := by
      rcases e' with z | z
      · rw [z]; exact Nat.le_add_right _ _
      · rw [z]; exact Nat.le_refl _
    exact I1.fpOk hle (I1.hok.fresh hle)
/-! ### walks of frozen things in pairs -/
section
variable {Z : Zone} {X : Cx} {W : WX} {e e2 : Expr} {p pos tpos : Pos} {elts : List Expr} {kk : Nat}
theorem walk_enumT {K : PySem.W.Frag} {a : Addr} {xs : List V} : Walk (IteT K a) xs.length (fun H => SqT K H a xs) (YPair (fun i => some (.int (i : Nat))) (fun i => xs[i]?)) := by
  refine ⟨fun i _ hi q => ⟨xs, xs[i], q, by simp [hi]⟩, fun _ q => ⟨xs, q, rfl⟩, fun i H v H' _ q y => ?_⟩
  obtain ⟨T, x, h1, h2, h3, h4⟩ := y
  exact ⟨T, .int (i : Nat), x, h1, h2, h3, rfl, h4 xs q⟩
theorem walk_zipT {K : PySem.W.Frag} {a b : Addr} {xs ys : List V} {n : Nat} (hn : n = min xs.length ys.length) : Walk (RZ.ItzT K a b) n (fun H => SqT K H a xs ∧ SqT K H b ys) (YPair (fun i => xs[i]?) (fun i => ys[i]?)) := by
  subst hn
  refine ⟨fun i _ hi q => ?_, fun _ q => ⟨xs, ys, q.1, q.2, by omega⟩, fun i H v H' _ q y => ?_⟩
  · have h1 : i < xs.length := by omega
    have h2 : i < ys.length := by omega
    exact ⟨xs, ys, xs[i], ys[i], q.1, q.2, by simp [h1], by simp [h2]⟩
  · obtain ⟨T, x, z, h1, h2, h3, h4, h5⟩ := y
    exact ⟨T, x, z, h1, h2, h3, h4 xs q.1, h5 ys q.2⟩
/-- new pairs of frozen things -/
theorem pairs_new {K : PySem.W.Frag} {xs ys : Nat → Option V} {i : Nat} {H H' : Hp} {G : Addr → Prop} {v : V} {dx dy : D} (y : YPair xs ys i H v H') (rx : ∀ x, xs i = some x → Rep K H G dx x) (ry : ∀ x, ys i = some x → Rep K H G dy x) : ∃ G', Rep K H' G' (.tup [dx, dy]) v ∧ New H G H' G' [] := by
  obtain ⟨T, x, z, rfl, hT, rfl, h1, h2⟩ := y
  have n : New H G (upd H T (.tup [x, z])) (fun a => G a ∨ a = T) [] := New.frozen hT (fun ps z => by cases z)
  exact ⟨_, .tup (.inr rfl) (.inl upd_same) (.cons (Rep.ext n.keeps _ _ (rx x h1)) (.cons (Rep.ext n.keeps _ _ (ry z h2)) .nil)), n⟩
def enumD : Nat → List D → List D
  | _, [] => []
  | i, x :: xs => .tup [.int i, x] :: enumD (i + 1) xs
theorem enumD_length : ∀ (i : Nat) (xs : List D), (enumD i xs).length = xs.length
  | _, [] => rfl
  | i, x :: xs => by unfold enumD; rw [List.length_cons, List.length_cons, enumD_length]
theorem enumD_get : ∀ (k i : Nat) (xs : List D) (x : D), (enumD k xs)[i]? = some x → ∃ y, xs[i]? = some y ∧ x = .tup [.int ((k + i : Nat) : Int), y]
  | _, _, [], _, h => by simp [enumD] at h
  | k, 0, y :: ys, x, h => by
    simp [enumD] at h
    exact ⟨y, rfl, h.symm⟩
  | k, i + 1, y :: ys, x, h => by
    obtain ⟨z, e1, e2⟩ := enumD_get (k + 1) i ys x (by simpa [enumD] using h)
    exact ⟨z, by simpa using e1, by rw [e2]; congr 3; omega⟩
def zipD (xs ys : List D) : List D := List.zipWith (fun x y => .tup [x, y]) xs ys
theorem zipD_get {xs ys : List D} {i : Nat} {x : D} (h : (zipD xs ys)[i]? = some x) : ∃ y z, xs[i]? = some y ∧ ys[i]? = some z ∧ x = .tup [y, z] := by
  unfold zipD at h
  rw [List.getElem?_zipWith] at h
  cases e1 : xs[i]? with
  | none => rw [e1] at h; simp at h
  | some y =>
    cases e2 : ys[i]? with
    | none => rw [e1, e2] at h; simp at h
    | some z => rw [e1, e2] at h; simp at h; exact ⟨y, z, rfl, rfl, h.symm⟩
/-- a frozen list or tuple in any later heap -/
theorem seqL_stays {K : PySem.W.Frag} {H H' : Hp} {G G' : Addr → Prop} {xs : List D} {v : V} (h : Rep K H G (.lst xs) v) : ∃ a vs, v = .ref a ∧ Reps K H G xs vs ∧ ∀ H' G', Keeps H G H' G' → SqL K H' a vs := by
  cases h with
  | lst g h1 r => exact ⟨_, _, rfl, r, fun H' G' k => .of (k.keep _ _ g h1 (fun ps z => by cases z))⟩
theorem seqT_stays {K : PySem.W.Frag} {H : Hp} {G : Addr → Prop} {xs : List D} {v : V} (h : Rep K H G (.tup xs) v) : ∃ a vs, v = .ref a ∧ Reps K H G xs vs ∧ ∀ H' G', Keeps H G H' G' → SqT K H' a vs := by
  cases h with
  | tup g h1 r => exact ⟨_, _, rfl, r, fun H' G' k => .inl (k.rd g (fun ps z => by cases z) h1)⟩
  | tupW w r => exact ⟨_, _, rfl, r, fun H' G' k => w.sq⟩
def fEnum : List D → Option (List D)
  | [.lst xs] => some (enumD 0 xs)
  | [.tup xs] => some (enumD 0 xs)
  | _ => none
def fZip : List D → Option (List D)
  | [.lst xs, .lst ys] => some (zipD xs ys)
  | [.tup xs, .tup ys] => some (zipD xs ys)
  | _ => none
def mWalk (f : List D → Option (List D)) (m : M (List D)) : M (List D) := m.bind fun ds Γ => optR (f ds) Γ
theorem does_walk {t : TA} {m : M (List D)} {f : List D → Option (List D)} {k : List V → (It → Hp → Prop) → Hp → Prop} (hd : Does Z X W (RDs X) t m)
    (h : ∀ ds vs xs H G (R : It → Hp → Prop), Reps X.K H G ds vs → f ds = some xs → (∀ J, WalkD X.K J xs H G → R J H) → k vs R H) : Does Z X W (RW X) (fun σ H R => t σ H fun vs H1 => k vs R H1) (mWalk f m) := by
  refine hd.bind (RR' := RW X) (tk := fun vs (_ : Sl) H1 R => k vs R H1) fun ds vs Γ σ H G Fo F hr hf hgd => ?_
  obtain ⟨hr, rfl⟩ := hr
  dsimp only
  cases e : f ds with
  | none => trivial
  | some xs =>
    intro Q hq
    exact h ds vs xs H G Q hr e fun J w => hq J H G [] F ⟨w, rfl⟩ ⟨hf, hgd, Ext.refl, fun a ha => .inl ha⟩
theorem ix_enum {m : M (List D)} (ha : AD Z X [e] m) (hm : X.mg "enumerate" = none) (hg : Gl X "enumerate" := by rfl) (hs : starEach [e] X.env = [(false, eval e X.env)] := by rfl) :
    IX Z X (.Tuple elts kk tpos) (.Call (.Name "enumerate" p) [e] [] pos) (mWalk fEnum m) := by
  intro W tk
  obtain ⟨t, ht, hd⟩ := ha W tk
  refine ⟨_, pi_or (pi_enum hg hm ht hs) (pi_enumT hg hm ht hs), fun Γ σ H G F hf hgd => ?_⟩
  have z := hd Γ σ H G F hf hgd
  show EG Z X σ H G F W (RW X) _ ((m Γ).bind fun ds Γ => optR (fEnum ds) Γ)
  cases em : m Γ with
  | stuck => trivial
  | err x d Γ1 => rw [em] at z; exact fun hW Q => .inl (z hW _)
  | ok ds Γ1 =>
    rw [em] at z
    show EG Z X σ H G F W (RW X) _ (optR (fEnum ds) Γ1)
    cases ei : fEnum ds with
    | none => trivial
    | some xs =>
      unfold fEnum at ei
      split at ei
      · rename_i xs0
        cases ei
        intro Q hq
        refine .inl (z _ fun vs H' G' Fo F' r a => ?_)
        obtain ⟨r, rfl⟩ := r
        cases r with
        | cons r1 rr =>
          cases rr
          obtain ⟨b, ws, rfl, r2, st⟩ := seqL_stays (H' := H') (G' := G') r1
          refine ⟨b, ws, rfl, st _ _ Keeps.refl, hq _ H' G' [] F' ⟨⟨fun H => SqL X.K H b ws, YPair (fun i => some (.int (i : Nat))) (fun i => ws[i]?), ?_, st, fun i x H1 G1 v H2 hx k gh y => ?_⟩, rfl⟩ a⟩
          · rw [enumD_length, r2.length]; exact walk_enum
          · obtain ⟨y0, e1, rfl⟩ := enumD_get 0 i _ _ hx
            refine pairs_new y (fun x hx => ?_) fun x hx => ?_
            · cases hx; rw [Nat.zero_add]; exact .int _
            · obtain ⟨u, e2, r3⟩ := r2.get e1
              rw [e2] at hx; cases hx
              exact Rep.ext k _ _ r3
      · rename_i xs0
        cases ei
        intro Q hq
        refine .inr (z _ fun vs H' G' Fo F' r a => ?_)
        obtain ⟨r, rfl⟩ := r
        cases r with
        | cons r1 rr =>
          cases rr
          obtain ⟨b, ws, rfl, r2, st⟩ := seqT_stays r1
          refine ⟨b, ws, rfl, st _ _ Keeps.refl, hq _ H' G' [] F' ⟨⟨fun H => SqT X.K H b ws, YPair (fun i => some (.int (i : Nat))) (fun i => ws[i]?), ?_, st, fun i x H1 G1 v H2 hx k gh y => ?_⟩, rfl⟩ a⟩
          · rw [enumD_length, r2.length]; exact walk_enumT
          · obtain ⟨y0, e1, rfl⟩ := enumD_get 0 i _ _ hx
            refine pairs_new y (fun x hx => ?_) fun x hx => ?_
            · cases hx; rw [Nat.zero_add]; exact .int _
            · obtain ⟨u, e2, r3⟩ := r2.get e1
              rw [e2] at hx; cases hx
              exact Rep.ext k _ _ r3
      · cases ei
theorem zipD_length {xs ys : List D} : (zipD xs ys).length = min xs.length ys.length := by unfold zipD; rw [List.length_zipWith]
theorem ix_zip {m : M (List D)} (ha : AD Z X [e, e2] m) (hm : X.mg "zip" = none) (hg : Gl X "zip" := by rfl) (hs : starEach [e, e2] X.env = (false, eval e X.env) :: starEach [e2] X.env := by rfl) (hpl : (backTo pos (starEach [e2] X.env)).any (·.1) = false := by rfl) :
    IX Z X (.Tuple elts kk tpos) (.Call (.Name "zip" p) [e, e2] [] pos) (mWalk fZip m) := by
  intro W tk
  obtain ⟨t, ht, hd⟩ := ha W tk
  refine ⟨_, RZ.pi_zipA hg hm ht hs hpl, does_walk (k := fun vs R H1 => ∃ a b xs ys, vs = [V.ref a, V.ref b] ∧ ((SqL X.K H1 a xs ∧ SqL X.K H1 b ys ∧ R (Itz X.K a b) H1) ∨ (SqT X.K H1 a xs ∧ SqT X.K H1 b ys ∧ R (RZ.ItzT X.K a b) H1))) hd fun ds vs xs H G R hv ei hq => ?_⟩
  unfold fZip at ei
  split at ei
  · rename_i xs0 ys0
    cases ei
    cases hv with
    | cons r1 rr =>
      cases rr with
      | cons r2 rr =>
        cases rr
        obtain ⟨b, ws, rfl, s1, st1⟩ := seqL_stays (H' := H) (G' := G) r1
        obtain ⟨c, us, rfl, s2, st2⟩ := seqL_stays (H' := H) (G' := G) r2
        refine ⟨b, c, ws, us, rfl, .inl ⟨st1 _ _ Keeps.refl, st2 _ _ Keeps.refl, hq _ ⟨fun H => SqL X.K H b ws ∧ SqL X.K H c us, _, walk_zip (by rw [zipD_length, s1.length, s2.length]), fun H G k => ⟨st1 _ _ k, st2 _ _ k⟩, fun i x H1 G1 v H2 hx k gh y => ?_⟩⟩⟩
        obtain ⟨y0, z0, e1, e2, rfl⟩ := zipD_get hx
        refine pairs_new y (fun x hx => ?_) fun x hx => ?_
        · obtain ⟨u, e3, r3⟩ := s1.get e1
          rw [e3] at hx; cases hx
          exact Rep.ext k _ _ r3
        · obtain ⟨u, e3, r3⟩ := s2.get e2
          rw [e3] at hx; cases hx
          exact Rep.ext k _ _ r3
  · rename_i xs0 ys0
    cases ei
    cases hv with
    | cons r1 rr =>
      cases rr with
      | cons r2 rr =>
        cases rr
        obtain ⟨b, ws, rfl, s1, st1⟩ := seqT_stays r1
        obtain ⟨c, us, rfl, s2, st2⟩ := seqT_stays r2
        refine ⟨b, c, ws, us, rfl, .inr ⟨st1 _ _ Keeps.refl, st2 _ _ Keeps.refl, hq _ ⟨fun H => SqT X.K H b ws ∧ SqT X.K H c us, _, walk_zipT (by rw [zipD_length, s1.length, s2.length]), fun H G k => ⟨st1 _ _ k, st2 _ _ k⟩, fun i x H1 G1 v H2 hx k gh y => ?_⟩⟩⟩
        obtain ⟨y0, z0, e1, e2, rfl⟩ := zipD_get hx
        refine pairs_new y (fun x hx => ?_) fun x hx => ?_
        · obtain ⟨u, e3, r3⟩ := s1.get e1
          rw [e3] at hx; cases hx
          exact Rep.ext k _ _ r3
        · obtain ⟨u, e3, r3⟩ := s2.get e2
          rw [e3] at hx; cases hx
          exact Rep.ext k _ _ r3
  · cases ei
end
end PL
end
section
set_option Elab.async false
set_option maxRecDepth 100000
set_option linter.all false
set_option maxHeartbeats 1000000
/-! PL11: methods of the lists that a slot owns. -/
namespace PL
open PySem PySem.Spec PyProof.Rows L2
section
variable {K : PySem.W.Frag} {Z : Zone} {H : Hp} {G : Addr → Prop} {F : List Addr}
/-- an owned list is rewritten -/
theorem ext_upd {l : Addr} {o : HO} (t : ∀ ps, o ≠ .tbl ps) : Ext H G [l] (upd H l o) G := ⟨fun _ h => h, fun a u h n _ => by rw [upd_ne (fun z => n (by simp [z]))]; exact h, fun _ h => .inl h, fun a h => by
  by_cases e : a = l
  · subst e; exact (h.no upd_same t).elim
  · exact fun o q => h o (by rw [upd_ne e]; exact q)⟩
theorem Good.upd {l : Addr} {o u : HO} (g : Good Z H G F) (h1 : l ∈ F) (hl : H l = some o) (t1 : ∀ ps, o ≠ .tbl ps) (t3 : ∀ φ, o ≠ .ext φ) (t2 : ∀ ps, u ≠ .tbl ps) : Good Z (upd H l u) G F := by
  have n1 : ∀ a ∈ [l], ¬ G a := fun a ha => by simp at ha; subst ha; exact g.ng _ h1
  have ex : Ext H G [l] (L2.upd H l u) G := ext_upd t2
  refine ⟨g.nd, g.ng, fun a ha => ?_, fun a ha => ?_, Z.stab _ _ _ _ g.st (ex.keeps n1), ?_⟩
  · obtain ⟨o, e, tb⟩ := g.gh a ha
    exact ⟨o, ex.keep a o e (fun z => n1 a z ha) tb, tb⟩
  · by_cases e : a = l
    · subst e; exact ⟨_, upd_same, t2⟩
    · rw [upd_ne e]; exact g.fh a ha
  · intro p hp
    obtain ⟨ps, q1, q2, q3⟩ := g.tb p hp
    refine ⟨ps, ?_, q2, fun pos cv hcv => ?_⟩
    · rw [upd_ne (fun z => by rw [z, hl] at q1; exact t1 ps (Option.some.inj q1))]; exact q1
    · obtain ⟨c, e1, e2⟩ := q3 pos cv hcv
      refine ⟨c, e1, ?_⟩
      rw [upd_ne (fun z => by rw [z, hl] at e2; unfold LamX.CodeO at e2; exact t3 _ (Option.some.inj e2))]; exact e2
end
def MetS (K : PySem.W.Frag) (r : V → List V → Hp → VK → Prop) (f : List D → List D → Option (List D × D)) : Prop :=
  ∀ H G l xs vs args ws ys y (Q : VK), H l = some (.lst vs) → Reps K H G xs vs → Reps K H G args ws → ¬ G l → f xs args = some (ys, y) →
    (∀ v vs', Rep K H G y v → Reps K H G ys vs' → Q v (upd H l (.lst vs'))) → r (.ref l) ws H Q
def fAppend (xs : List D) : List D → Option (List D × D)
  | [y] => if xs.length < SZ then some (xs ++ [y], .non) else none
  | _ => none
def fExtend (xs : List D) : List D → Option (List D × D)
  | [.lst ys] => if xs.length + ys.length ≤ SZ then some (xs ++ ys, .non) else none
  | _ => none
def fPop (xs : List D) : List D → Option (List D × D)
  | [] => (xs[xs.length - 1]?).bind fun y => some (xs.dropLast, y)
  | _ => none
def fPopAt (xs : List D) : List D → Option (List D × D)
  | [.int i] => if -(2 ^ 63) ≤ i ∧ i < 2 ^ 63 then (seqIndex? i xs.length).bind fun k => (xs[k]?).bind fun y => some (xs.eraseIdx k, y) else none
  | _ => none
def fInsert (xs : List D) : List D → Option (List D × D)
  | [.int i, y] => if xs.length < SZ ∧ 0 ≤ i ∧ i < 2 ^ 63 then some (xs.take i.toNat ++ [y] ++ xs.drop i.toNat, .non) else none
  | _ => none
section
variable {K : PySem.W.Frag}
theorem ms_append : MetS K rAppend fAppend := by
  intro H G l xs vs args ws ys y Q hl hx ha ng e q
  unfold fAppend at e
  split at e
  · split at e
    · rename_i hz
      cases e
      cases ha with
      | cons r rr =>
        cases rr
        exact ⟨l, vs, _, rfl, rfl, hl, by rw [← hx.length, sizeLine_eq]; exact hz, q .non _ .non (hx.snoc r)⟩
    · cases e
  · cases e
theorem ms_extend : MetS K rExtend fExtend := by
  intro H G l xs vs args ws ys y Q hl hx ha ng e q
  unfold fExtend at e
  split at e
  · split at e
    · rename_i hz
      cases e
      cases ha with
      | cons r rr =>
        cases rr
        cases r with
        | lst g h1 r1 => exact ⟨l, _, vs, _, rfl, rfl, hl, h1, by rw [← hx.length, ← r1.length, sizeLine_eq]; exact hz, q .non _ .non (hx.append r1)⟩
    · cases e
  · cases e
theorem ms_pop : MetS K rPop fPop := by
  intro H G l xs vs args ws ys y Q hl hx ha ng e q
  unfold fPop at e
  split at e
  · obtain ⟨z, e1, e2⟩ := Option.bind_eq_some_iff.mp e
    cases e2
    cases ha
    obtain ⟨v, e3, r⟩ := hx.get e1
    exact ⟨l, vs, v, rfl, rfl, hl, by rw [← hx.length]; exact e3, q v _ r hx.dropLast⟩
  · cases e
theorem ms_popAt : MetS K rPopAt fPopAt := by
  intro H G l xs vs args ws ys y Q hl hx ha ng e q
  unfold fPopAt at e
  split at e
  · split at e
    · rename_i hz
      obtain ⟨k, e1, e2⟩ := Option.bind_eq_some_iff.mp e
      obtain ⟨z, e3, e4⟩ := Option.bind_eq_some_iff.mp e2
      cases e4
      cases ha with
      | cons r rr =>
        cases rr
        cases r
        obtain ⟨v, e5, r⟩ := hx.get e3
        exact ⟨l, vs, _, k, v, rfl, rfl, hl, hz.1, hz.2, by rw [← hx.length]; exact e1, e5, q v _ r (hx.eraseIdx k)⟩
    · cases e
  · cases e
theorem ms_insert : MetS K (fun x vs H Q => ∃ (l : Addr) (xs : List V) (i : Int) (y : V), x = .ref l ∧ vs = [.int i, y] ∧ H l = some (.lst xs) ∧ xs.length < sizeLine ∧ 0 ≤ i ∧ i < 2 ^ 63 ∧
    Q .non (upd H l (.lst (xs.take i.toNat ++ [y] ++ xs.drop i.toNat)))) fInsert := by
  intro H G l xs vs args ws ys y Q hl hx ha ng e q
  unfold fInsert at e
  split at e
  · split at e
    · rename_i hz
      cases e
      cases ha with
      | cons r rr =>
        cases rr with
        | cons r' rr =>
          cases rr
          cases r
          exact ⟨l, vs, _, _, rfl, rfl, hl, by rw [← hx.length, sizeLine_eq]; exact hz.1, hz.2.1, hz.2.2, q .non _ .non (((hx.take _).append (.cons r' .nil)).append (hx.drop _))⟩
    · cases e
  · cases e
end
def mOwn (i : Nat) : M Opd := fun Γ => match Γ[i]? with
  | some (some (.ol _)) => .ok (.bor i) Γ
  | _ => .stuck
def kMeth (f : List D → List D → Option (List D × D)) (q : Opd × List D) : M O := fun Γ => match q.1 with
  | .bor i => (match Γ[i]? with
    | some (some (.ol xs)) => (match f xs q.2 with
      | some (ys, y) => .ok (.d y) (Γ.set i (some (.ol ys)))
      | none => .stuck)
    | _ => .stuck)
  | _ => .stuck
def mMeth (f : List D → List D → Option (List D × D)) (i : Nat) (m : M (List D)) : M O := (M.pair (mOwn i) m).bind (kMeth f)
section
variable {Z : Zone} {X : Cx} {W : WX} {x : Str} {e : Expr} {es : List Expr} {p apos cpos : Pos} {f : List D → List D → Option (List D × D)} {r : V → List V → Hp → VK → Prop} {name : Str} {id : String}
theorem does_own {i : Nat} (hN : X.N[i]? = some x) : Does Z X W (RP X) (fun σ H Q => tVar i σ H fun x H1 => tyV X.K "list" x H1 ∧ Q x H1) (mOwn i) := by
  intro Γ σ H G F hf hg
  unfold mOwn
  split
  · rename_i xs eo
    intro Q hq
    obtain ⟨v, Fi, b1, b2, _⟩ := hf.at eo hg.nd hg.ng
    obtain ⟨a, vs, rfl, h1, h2, _⟩ := b2
    exact ⟨_, b1, .inl ⟨rfl, vs, .of h1⟩, hq _ H G [] F ⟨b1, rfl⟩ (Aft.same hf hg)⟩
  · trivial
theorem doesK_meth (ms : MetS X.K r f) {q : Opd × List D} : DoesK Z X W (RRp (RP X) (RDs X)) (RO X) q (fun vs _ H Q => r vs.1 vs.2 H Q) (kMeth f q) := by
  rintro ⟨v, vs⟩ Γ σ H G Fo F ⟨F1, F2, h1, ⟨h2, rfl⟩, rfl⟩ hf hg
  obtain ⟨q1, ds⟩ := q
  cases q1 with
  | sol o => trivial
  | bor i =>
  obtain ⟨hv, rfl⟩ := h1
  unfold kMeth
  dsimp only
  split
  · rename_i xs ei
    split
    · rename_i ys y ef
      obtain ⟨A, Fi, B, e, a1, a2, a3, a4⟩ := hf.slot (List.getElem?_eq_some_iff.mp ei).1 hg.right.nd hg.right.ng
      obtain ⟨v', b1, b2⟩ := a1 _ ei
      rw [show σ[i]? = some (some v) from hv] at b1
      cases b1
      have es : σ.set i (some v) = σ := by
        obtain ⟨hl, e⟩ := List.getElem?_eq_some_iff.mp (show σ[i]? = some (some v) from hv)
        rw [← e]; exact List.set_getElem_self hl
      subst e
      obtain ⟨l, ws, rfl, c1, c2, rfl⟩ := b2
      have gF := hg.right
      have hlF : l ∈ A ++ ([l] ++ B) := by simp
      have ng : ¬ G l := gF.ng l hlF
      intro Q hQ
      refine ms H G l xs ws ds vs ys y Q c1 c2 h2 ng ef fun u vs' ru rys => ?_
      have ex : Ext H G [l] (upd H l (.lst vs')) G := ext_upd (fun ps z => by cases z)
      have n1 : ∀ a ∈ [l], ¬ G a := fun a ha => by simp at ha; subst ha; exact ng
      have k := ex.keeps n1
      have rel := a3 (upd H l (.lst vs')) G (.ol ys) (.ref l) [l] ex ⟨l, vs', rfl, upd_same, Reps.ext k _ _ rys, rfl⟩
      rw [es] at rel
      exact hQ u _ G [] (A ++ ([l] ++ B)) ⟨Rep.ext k _ _ ru, rfl⟩ ⟨rel, gF.upd hlF c1 (fun ps z => by cases z) (fun φ z => by cases z) (fun ps z => by cases z), ex.mono (fun a ha => .inl (by simp at ha; subst ha; simp)), fun a ha => .inl ha⟩
    · trivial
  · trivial
/-- name.m(e, ..) -/
theorem ex_meth (i : Nat) {m : M (List D)} (slot : PySem.Slot "list" name id) (hty : typeOf (.builtin id) = pure (.type "method_descriptor")) (hm : MtR X id r) (ms : MetS X.K r f) (ha : AD Z X (e :: es) m) (hN : X.N[i]? = some x := by rfl) (hv : Vis X.env.scope x := by first | exact Or.inl rfl | exact Or.inr (Or.inl rfl) | exact Or.inr (Or.inr rfl)) (hd : (x == ("__debug__" : Str)) = false := by decide)
    (hcd : (x == ("__classdict__" : Str)) = false := by decide) (hbase : attributeBase (.Name x p) name X.env (eval (.Name x p) X.env) = eval (.Name x p) X.env := by rfl)
    (hfew : ((backTo cpos (starEach (e :: es) X.env)).all (fun x => !x.1) && (backToKw cpos (keywordEach [] X.env)).all (fun x => x.1.isSome)
      && decide ((e :: es).length + ([] : List Keyword).length + (if ([] : List Keyword).isEmpty then 0 else 1) < 30)) = true := by rfl)
    (hline : (apos.endLine == cpos.line) = true := by rfl) (hs : starEach (e :: es) X.env = (false, eval e X.env) :: starEach es X.env := by rfl) (hplain : (backTo cpos (starEach es X.env)).any (·.1) = false := by rfl) :
    EX Z X (.Call (.Attribute (.Name x p) name apos) (e :: es) [] cpos) (mMeth f i m) := by
  intro W tk
  obtain ⟨t, ht, hd'⟩ := ha W tk
  exact ⟨_, pe_bm PySem.F.plainAttrs_list slot hty hm (pe_var hN hv hd hcd) ht hbase hfew hline hs hplain, (Does.pair RP.stable (does_own (Z := Z) hN) hd').bind (tk := fun vs _ H Q => r vs.1 vs.2 H Q) fun q => doesK_meth ms⟩
theorem ex_meth0 (i : Nat) (slot : PySem.Slot "list" name id) (hty : typeOf (.builtin id) = pure (.type "method_descriptor")) (hm : MtR X id r) (ms : MetS X.K r f) (hN : X.N[i]? = some x := by rfl) (hv : Vis X.env.scope x := by first | exact Or.inl rfl | exact Or.inr (Or.inl rfl) | exact Or.inr (Or.inr rfl)) (hd : (x == ("__debug__" : Str)) = false := by decide)
    (hcd : (x == ("__classdict__" : Str)) = false := by decide) (hbase : attributeBase (.Name x p) name X.env (eval (.Name x p) X.env) = eval (.Name x p) X.env := by rfl) (hline : (apos.endLine == cpos.line) = true := by rfl) :
    EX Z X (.Call (.Attribute (.Name x p) name apos) [] [] cpos) (mMeth f i (M.pure [])) := by
  intro W tk
  refine ⟨_, pe_bm0 PySem.F.plainAttrs_list slot hty hm (pe_var hN hv hd hcd) hbase hline, ?_⟩
  have hd' : Does Z X W (RDs X) (fun σ H Q => Q [] H) (M.pure []) := fun Γ σ H G F hf hg Q hq => hq [] H G [] F ⟨.nil, rfl⟩ (Aft.same hf hg)
  exact (Does.pair RP.stable (does_own (Z := Z) hN) hd').bind (tk := fun vs _ H Q => r vs.1 vs.2 H Q) fun q => doesK_meth ms
end
end PL
namespace PL
open PySem PySem.Spec PyProof.Rows L2
section
variable {Z : Zone} {X : Cx} {W : WX} {x : Str} {e e2 : Expr} {p apos cpos : Pos}
theorem ex_append (i : Nat) {m : M (List D)} (ha : AD Z X [e] m) (hN : X.N[i]? = some x := by rfl) (hv : Vis X.env.scope x := by first | exact Or.inl rfl | exact Or.inr (Or.inl rfl) | exact Or.inr (Or.inr rfl)) (hd : (x == ("__debug__" : Str)) = false := by decide)
    (hcd : (x == ("__classdict__" : Str)) = false := by decide) (hbase : attributeBase (.Name x p) "append" X.env (eval (.Name x p) X.env) = eval (.Name x p) X.env := by rfl)
    (hfew : ((backTo cpos (starEach [e] X.env)).all (fun x => !x.1) && (backToKw cpos (keywordEach [] X.env)).all (fun x => x.1.isSome)
      && decide (([e] : List Expr).length + ([] : List Keyword).length + (if ([] : List Keyword).isEmpty then 0 else 1) < 30)) = true := by rfl)
    (hline : (apos.endLine == cpos.line) = true := by rfl) (hs : starEach [e] X.env = (false, eval e X.env) :: starEach [] X.env := by rfl) (hplain : (backTo cpos (starEach [] X.env)).any (·.1) = false := by rfl) :
    EX Z X (.Call (.Attribute (.Name x p) "append" apos) [e] [] cpos) (mMeth fAppend i m) := ex_meth i PySem.F.slot_list_append PySem.F.type_list_append mt_append ms_append ha hN hv hd hcd hbase hfew hline hs hplain
theorem ex_extend (i : Nat) {m : M (List D)} (ha : AD Z X [e] m) (hN : X.N[i]? = some x := by rfl) (hv : Vis X.env.scope x := by first | exact Or.inl rfl | exact Or.inr (Or.inl rfl) | exact Or.inr (Or.inr rfl)) (hd : (x == ("__debug__" : Str)) = false := by decide)
    (hcd : (x == ("__classdict__" : Str)) = false := by decide) (hbase : attributeBase (.Name x p) "extend" X.env (eval (.Name x p) X.env) = eval (.Name x p) X.env := by rfl)
    (hfew : ((backTo cpos (starEach [e] X.env)).all (fun x => !x.1) && (backToKw cpos (keywordEach [] X.env)).all (fun x => x.1.isSome)
      && decide (([e] : List Expr).length + ([] : List Keyword).length + (if ([] : List Keyword).isEmpty then 0 else 1) < 30)) = true := by rfl)
    (hline : (apos.endLine == cpos.line) = true := by rfl) (hs : starEach [e] X.env = (false, eval e X.env) :: starEach [] X.env := by rfl) (hplain : (backTo cpos (starEach [] X.env)).any (·.1) = false := by rfl) :
    EX Z X (.Call (.Attribute (.Name x p) "extend" apos) [e] [] cpos) (mMeth fExtend i m) := ex_meth i PySem.F.slot_list_extend PySem.F.type_list_extend mt_extend ms_extend ha hN hv hd hcd hbase hfew hline hs hplain
theorem ex_popAt (i : Nat) {m : M (List D)} (ha : AD Z X [e] m) (hN : X.N[i]? = some x := by rfl) (hv : Vis X.env.scope x := by first | exact Or.inl rfl | exact Or.inr (Or.inl rfl) | exact Or.inr (Or.inr rfl)) (hd : (x == ("__debug__" : Str)) = false := by decide)
    (hcd : (x == ("__classdict__" : Str)) = false := by decide) (hbase : attributeBase (.Name x p) "pop" X.env (eval (.Name x p) X.env) = eval (.Name x p) X.env := by rfl)
    (hfew : ((backTo cpos (starEach [e] X.env)).all (fun x => !x.1) && (backToKw cpos (keywordEach [] X.env)).all (fun x => x.1.isSome)
      && decide (([e] : List Expr).length + ([] : List Keyword).length + (if ([] : List Keyword).isEmpty then 0 else 1) < 30)) = true := by rfl)
    (hline : (apos.endLine == cpos.line) = true := by rfl) (hs : starEach [e] X.env = (false, eval e X.env) :: starEach [] X.env := by rfl) (hplain : (backTo cpos (starEach [] X.env)).any (·.1) = false := by rfl) :
    EX Z X (.Call (.Attribute (.Name x p) "pop" apos) [e] [] cpos) (mMeth fPopAt i m) := ex_meth i PySem.F.slot_list_pop PySem.F.type_list_pop mt_popAt ms_popAt ha hN hv hd hcd hbase hfew hline hs hplain
theorem ex_pop (i : Nat) (hN : X.N[i]? = some x := by rfl) (hv : Vis X.env.scope x := by first | exact Or.inl rfl | exact Or.inr (Or.inl rfl) | exact Or.inr (Or.inr rfl)) (hd : (x == ("__debug__" : Str)) = false := by decide)
    (hcd : (x == ("__classdict__" : Str)) = false := by decide) (hbase : attributeBase (.Name x p) "pop" X.env (eval (.Name x p) X.env) = eval (.Name x p) X.env := by rfl) (hline : (apos.endLine == cpos.line) = true := by rfl) :
    EX Z X (.Call (.Attribute (.Name x p) "pop" apos) [] [] cpos) (mMeth fPop i (M.pure [])) := ex_meth0 i PySem.F.slot_list_pop PySem.F.type_list_pop mt_pop ms_pop hN hv hd hcd hbase hline
end
end PL
end
section
set_option Elab.async false
set_option maxRecDepth 100000
set_option linter.all false
set_option maxHeartbeats 1000000
/-! PL12: sum(lists, []), list(zip(a, b)). -/
namespace PL
open PySem PySem.Spec PyProof.Rows L2
/-! ### sum(lists, []) -/
section
variable {prog : Program} {w : World} {A : Around} {R : Result → Shared → Prop} {I L S : Addr}
def flatA (f : Nat → Array Value) (i : Nat) : Nat → Array Value
  | 0 => #[]
  | k + 1 => f i ++ flatA f (i + 1) k
theorem sub_list_str : isSubtype (.type "list") (.type "str") = pure false := by rw [isSubtype_type]; kernel_rfl
theorem sub_list_bytes : isSubtype (.type "list") (.type "bytes") = pure false := by rw [isSubtype_type]; kernel_rfl
theorem sub_list_bytearray : isSubtype (.type "list") (.type "bytearray") = pure false := by rw [isSubtype_type]; kernel_rfl
theorem args_sum2 (a b : Value) : argsOk "sum" ⟨[a, b], []⟩ := by unfold argsOk; kernel_rfl
theorem codeAny_sum_lists (hh : A.handled = none) (its : Array Value) (f : Nat → Array Value) (hSI : S ≠ I) (hSL : S ≠ L) (hIL : I ≠ L) :
    ∀ (k i : Nat) (s : Shared) (T : Addr) (acc : Array Value) (c n : Nat), its.size - i = k → i ≤ its.size → s.heap.IsListIter I L i → s.heap.IsList L its →
    (∀ j, i ≤ j → j < its.size → ∃ b n, its[j]? = some (.ref b) ∧ b ≠ S ∧ b ≠ I ∧ s.heap.get? b = some { cls := .type "list", data := .seq (f j) n }) →
    T ≠ S → T ≠ I → s.heap.get? T = some { cls := .type "list", data := .seq acc n } → s.heap.get? S = some { cls := .type "list", data := .seq #[.ref T] c } → (acc ++ flatA f i k).size ≤ sizeLine →
    (∀ s' T' n', (∀ b o, b ≠ S → b ≠ I → s.heap.get? b = some o → s'.heap.get? b = some o) → s'.heap.get? T' = some { cls := .type "list", data := .seq (acc ++ flatA f i k) n' } → (T' = T ∧ k = 0 ∨ s.heap.objs.size ≤ T') → s'.gens = s.gens → s'.os = s.os → s'.drawn = s.drawn →
      R (.ok (.ret (.ref T'))) s') → codeAny (model prog w) A (.builtin "sum.loop" ⟨[.ref I, .ref S, rawInt 2, rawInt 0], []⟩) R s := by
  intro k
  induction k with
  | zero =>
    intro i s T acc c n hk hi hit hL hls nTS nTI hT hS hz hR
    refine codeAny_builtin F.entry_sum_loop ?_
    rw [Around.under_plainId F.plain_sum_loop _]
    show wpAny _ A.in1 (seqItems? (.ref S) >>= _) _ _ s
    refine wpAny_bind (wpAny_seqItems hS rfl ?_)
    show wpAny _ A.in1 (tryCatch (pyNext (.ref I)) _ >>= _) _ _ s
    refine wpAny_bind (wpAny_tryCatch (wpAny_pyNext_list_end (show A.in1.handled = none from hh) hit hL (by simp; omega) fun h' hx => ?_))
    exact wpAny_pure (hR { s with heap := h' } T n (fun b o h1 h2 e => hx b o h2 e) (by simp [flatA]; exact hx T _ nTI hT) (.inl ⟨rfl, rfl⟩) rfl rfl rfl)
  | succ k ih =>
    intro i s T acc c n hk hi hit hL hls nTS nTI hT hS hz hR
    have hlt : i < its.size := by omega
    obtain ⟨b, nb, e1, nbS, nbI, e2⟩ := hls i (Nat.le_refl _) hlt
    refine codeAny_builtin F.entry_sum_loop ?_
    rw [Around.under_plainId F.plain_sum_loop _]
    show wpAny _ A.in1 (seqItems? (.ref S) >>= _) _ _ s
    refine wpAny_bind (wpAny_seqItems hS rfl ?_)
    show wpAny _ A.in1 (tryCatch (pyNext (.ref I)) _ >>= _) _ _ s
    refine wpAny_bind (wpAny_tryCatch (wpAny_pyNext_list_item hit hL e1 fun h' hit' sb => ?_))
    have k1 : ∀ b o, b ≠ I → s.heap.get? b = some o → h'.get? b = some o := fun b o n e => (sb.2 b n).trans e
    have hT1 := k1 T _ nTI hT
    have hS1 := k1 S _ hSI hS
    have hb1 := k1 b _ nbI e2
    have hfl : flatA f i (k + 1) = f i ++ flatA f (i + 1) k := rfl
    have hz1 : acc.size + (f i).size ≤ sizeLine := by
      rw [hfl] at hz
      simp only [Array.size_append] at hz
      omega
    show wpAny _ A.in1 ((holding [Value.ref b] (binaryOp .Add (.ref T) (.ref b))).attempt >>= _) _ _ _
    refine wpAny_bind (wpAny_attempt (wpAny_holding (PySem.P.add_list (s := { s with heap := h' }) hT1 hb1 ?_ hz1)))
    have sz1 : h'.objs.size = s.heap.objs.size := sb.1
    have T'eq : h'.objs.size = s.heap.objs.size := sz1
    have hS2 : (h'.push { cls := .type "list", data := .seq (acc ++ f i) }).get? S = some { cls := .type "list", data := .seq #[.ref T] c } := Heap.get?_push_of_some _ hS1
    show wpAny _ A.in1 (updateSeq S (fun _ => #[.ref h'.objs.size]) >>= _) _ _ _
    refine wpAny_bind (wpAny_updateSeq hS2 rfl ?_)
    refine wpAny_bind (wpAny_letGo ?_)
    have hS3 := Heap.get?_update_self (Obj.mapSeq fun _ => #[Value.ref h'.objs.size]) hS2 rfl
    show wpAny _ A.in1 (updateSeq S (fun _ => #[.ref h'.objs.size]) >>= _) _ _ _
    refine wpAny_bind (wpAny_updateSeq hS3 rfl ?_)
    have hS4 := Heap.get?_update_self (Obj.mapSeq fun _ => #[Value.ref h'.objs.size]) hS3 rfl
    have kk : ∀ b o, b ≠ S → b ≠ I → s.heap.get? b = some o → (((h'.push { cls := .type "list", data := .seq (acc ++ f i) }).update S (Obj.mapSeq fun _ => #[Value.ref h'.objs.size])).update S (Obj.mapSeq fun _ => #[Value.ref h'.objs.size])).get? b = some o := fun b o h1 h2 e =>
      (Heap.get?_update_other _ _ (Ne.symm h1)).trans ((Heap.get?_update_other _ _ (Ne.symm h1)).trans (Heap.get?_push_of_some _ (k1 b o h2 e)))
    have hI2 : ∀ o, h'.get? I = some o → (((h'.push { cls := .type "list", data := .seq (acc ++ f i) }).update S (Obj.mapSeq fun _ => #[Value.ref h'.objs.size])).update S (Obj.mapSeq fun _ => #[Value.ref h'.objs.size])).get? I = some o := fun o e =>
      (Heap.get?_update_other _ _ hSI).trans ((Heap.get?_update_other _ _ hSI).trans (Heap.get?_push_of_some _ e))
    have ltS : S < h'.objs.size := Heap.lt_size hS1
    have ltI : I < h'.objs.size := by
      obtain ⟨o, e, _⟩ := hit'
      exact Heap.lt_size e
    have hTn : (((h'.push { cls := .type "list", data := .seq (acc ++ f i) }).update S (Obj.mapSeq fun _ => #[Value.ref h'.objs.size])).update S (Obj.mapSeq fun _ => #[Value.ref h'.objs.size])).get? h'.objs.size = some { cls := .type "list", data := .seq (acc ++ f i) } :=
      (Heap.get?_update_other _ _ (Nat.ne_of_lt ltS)).trans ((Heap.get?_update_other _ _ (Nat.ne_of_lt ltS)).trans (Heap.get?_push_size _ rfl))
    refine wpAny_pure ⟨plainId_quiet F.plain_sum_loop _, ih (i + 1) _ h'.objs.size (acc ++ f i) _ 0 (by omega) hlt (hit'.at hI2) (hL.at fun o e => kk L o (Ne.symm hSL) (Ne.symm hIL) e) (fun j h1 h2 => ?_) (Nat.ne_of_gt ltS) (Nat.ne_of_gt ltI) hTn hS4 ?_ fun s'' T'' n'' hk'' ht hor g1 g2 g3 => ?_⟩
    · obtain ⟨b', n', a1, a2, a3, a4⟩ := hls j (by omega) h2
      exact ⟨b', n', a1, a2, a3, kk b' _ a2 a3 a4⟩
    · rw [hfl] at hz
      rw [Array.append_assoc]
      exact hz
    · refine hR s'' T'' n'' (fun b o h1 h2 e => hk'' b o h1 h2 (kk b o h1 h2 e)) (by rw [hfl, ← Array.append_assoc]; exact ht) (.inr ?_) g1 g2 g3
      rcases hor with ⟨z, _⟩ | z
      · rw [z, T'eq]; exact Nat.le_refl _
      · have e : (((h'.push { cls := .type "list", data := .seq (acc ++ f i) }).update S (Obj.mapSeq fun _ => #[Value.ref h'.objs.size])).update S (Obj.mapSeq fun _ => #[Value.ref h'.objs.size])).objs.size = h'.objs.size + 1 := by
          rw [Heap.size_update, Heap.size_update, Heap.size_push]
        have z' : (((h'.push { cls := .type "list", data := .seq (acc ++ f i) }).update S (Obj.mapSeq fun _ => #[Value.ref h'.objs.size])).update S (Obj.mapSeq fun _ => #[Value.ref h'.objs.size])).objs.size ≤ T'' := z
        rw [e] at z'
        omega
end
section
variable {prog : Program} {w : World} {A : Around} {E : Value → Shared → Prop} {s : Shared} {L Z : Addr}
theorem call_sum_lists {its : Array Value} {f : Nat → Array Value} {nz : Nat} {Q : Value → Shared → Prop} (hh : A.handled = none) (hL : s.heap.IsList L its) (hne : 0 < its.size)
    (hls : ∀ j, j < its.size → ∃ b n, its[j]? = some (.ref b) ∧ s.heap.get? b = some { cls := .type "list", data := .seq (f j) n })
    (hZ : s.heap.get? Z = some { cls := .type "list", data := .seq #[] nz }) (hz : (flatA f 0 its.size).size ≤ sizeLine)
    (h : ∀ h' tk p n', (∀ b o, s.heap.get? b = some o → h'.get? b = some o) → s.heap.objs.size ≤ p → h'.get? p = some { cls := .type "list", data := .seq (flatA f 0 its.size) n' } → Q (.ref p) { s with heap := h', toks := tk }) :
    wpAny (model prog w) A (PySem.call (.builtin "sum") [.ref L, .ref Z]) Q E s := by
  refine call_function_tree F.kind_sum F.plain_sum F.entry_sum (args_sum2 _ _) ?_
  unfold Builtin.«sum»
  simp only [List.length_cons, List.length_nil]
  rw [if_neg (by decide)]
  refine wpAny_bind (wpAny_of_eq (show Builtin.Builtins.bindParams "sum" ["start"] 0 ⟨[.ref Z], []⟩ = pure [some (.ref Z)] from rfl) ?_)
  refine wpAny_bind (wpAny_pyIter_list hL ?_)
  have hi : (s.heap.push { cls := .type "list_iterator", data := .fields #[.ref L, .int 0 0] }).IsListIter s.heap.objs.size L 0 := ⟨_, Heap.get?_push_size _ rfl, rfl, rfl⟩
  have k1 : ∀ b o, s.heap.get? b = some o → (s.heap.push { cls := .type "list_iterator", data := .fields #[.ref L, .int 0 0] }).get? b = some o := fun b o e => Heap.get?_push_of_some _ e
  have z1 : (s.heap.push { cls := .type "list_iterator", data := .fields #[.ref L, .int 0 0] }).objs.size = s.heap.objs.size + 1 := Heap.size_push ..
  generalize s.heap.push { cls := .type "list_iterator", data := .fields #[.ref L, .int 0 0] } = h1 at hi k1 z1 ⊢
  have hZ1 := k1 Z _ hZ
  have tZ : Shared.TypeIs { s with heap := h1 } (.ref Z) "list" := ⟨_, hZ1, rfl⟩
  refine wpAny_bind (wpAny_pure ?_)
  simp only [List.forIn_cons, List.forIn_nil]
  refine wpAny_bind (wpAny_bind (wpAny_bind (wpAny_isInstance (T := "list") (b := false) tZ sub_list_str ?_)))
  simp only [Bool.false_eq_true, if_false]
  refine wpAny_pure (wpAny_bind (wpAny_bind (wpAny_isInstance (T := "list") (b := false) tZ sub_list_bytes ?_)))
  simp only [Bool.false_eq_true, if_false]
  refine wpAny_pure (wpAny_bind (wpAny_bind (wpAny_isInstance (T := "list") (b := false) tZ sub_list_bytearray ?_)))
  simp only [Bool.false_eq_true, if_false]
  refine wpAny_pure (wpAny_pure ?_)
  refine wpAny_bind (wpAny_newObj_type ?_)
  have k2 : ∀ b o, h1.get? b = some o → (h1.push { cls := .type "list", data := .seq #[.ref Z] }).get? b = some o := fun b o e => Heap.get?_push_of_some _ e
  have ltL : L < s.heap.objs.size := by obtain ⟨o, e, _⟩ := hL; exact Heap.lt_size e
  have ltZ := Heap.lt_size hZ
  have a1 : h1.objs.size ≠ s.heap.objs.size := by omega
  have a2 : h1.objs.size ≠ L := Nat.ne_of_gt (by rw [z1]; exact Nat.lt_succ_of_lt ltL)
  have a3 : s.heap.objs.size ≠ L := Nat.ne_of_gt ltL
  have a4 : Z ≠ h1.objs.size := Nat.ne_of_lt (by rw [z1]; exact Nat.lt_succ_of_lt ltZ)
  have a5 : Z ≠ s.heap.objs.size := Nat.ne_of_lt ltZ
  have a6 : ∀ b, b < s.heap.objs.size → b ≠ h1.objs.size := fun b hb => Nat.ne_of_lt (by rw [z1]; exact Nat.lt_succ_of_lt hb)
  have a7 : ∀ b, b < s.heap.objs.size → b ≠ s.heap.objs.size := fun b hb => Nat.ne_of_lt hb
  have a8 : ∀ T', h1.objs.size + 1 ≤ T' → s.heap.objs.size ≤ T' := fun b hb => by omega
  refine wpAny_pure ⟨plainId_quiet F.plain_sum_loop _, codeAny_sum_lists (I := s.heap.objs.size) (L := L) (S := h1.objs.size) hh its f a1 a2 a3 its.size 0 _ Z #[] 0 nz (Nat.sub_zero _) (Nat.zero_le _) (hi.at fun o e => k2 _ o e) (hL.at fun o e => k2 _ o (k1 _ o e))
    (fun j _ hj => ?_) a4 a5 (k2 _ _ hZ1) (Heap.get?_push_size _ rfl) (by simpa using hz) fun s' T' n' hk ht hor g1 g2 g3 => ?_⟩
  · obtain ⟨b, n, e1, e2⟩ := hls j hj
    have ltb := Heap.lt_size e2
    exact ⟨b, n, e1, a6 b ltb, a7 b ltb, k2 _ _ (k1 _ _ e2)⟩
  · have hge : s.heap.objs.size ≤ T' := by
      rcases hor with ⟨_, z⟩ | z
      · omega
      · have z' : (h1.push { cls := .type "list", data := .seq #[.ref Z] }).objs.size ≤ T' := z
        rw [Heap.size_push] at z'
        exact a8 T' z'
    obtain ⟨h', g', d', t', o'⟩ := s'
    cases g1
    cases g2
    cases g3
    refine h h' t' T' n' (fun b o e => hk b o ?_ ?_ (k2 _ _ (k1 _ _ e))) hge (by simpa using ht)
    · exact a6 b (Heap.lt_size e)
    · exact a7 b (Heap.lt_size e)
end
/-- each the items of a tracked list -/
inductive Lss (H : Hp) : List V → List (List V) → Prop
  | nil : Lss H [] []
  | cons {b : Addr} {xs : List V} {vs : List V} {xss : List (List V)} : H b = some (.lst xs) → Lss H vs xss → Lss H (.ref b :: vs) (xs :: xss)
theorem Lss.length {H : Hp} : ∀ {vs : List V} {xss : List (List V)}, Lss H vs xss → vs.length = xss.length
  | _, _, .nil => rfl
  | _, _, .cons _ t => by rw [List.length_cons, List.length_cons, Lss.length t]
theorem Lss.at {H : Hp} : ∀ {vs : List V} {xss : List (List V)}, Lss H vs xss → ∀ {j : Nat} {v : V}, vs[j]? = some v → ∃ b xs, v = .ref b ∧ H b = some (.lst xs) ∧ xss[j]? = some xs
  | _, _, .nil, _, _, h => by simp at h
  | _, _, .cons a t, 0, v, h => by simp at h; subst h; exact ⟨_, _, rfl, a, rfl⟩
  | _, _, .cons a t, j + 1, v, h => by
    obtain ⟨b, xs, e1, e2, e3⟩ := Lss.at t (j := j) (v := v) (by simpa using h)
    exact ⟨b, xs, e1, e2, by simpa using e3⟩
def rSumL : List V → Hp → VK → Prop := fun xs H Q => ∃ (a z : Addr) (vs : List V) (xss : List (List V)), xs = [.ref a, .ref z] ∧ H a = some (.lst vs) ∧ Lss H vs xss ∧ H z = some (.lst []) ∧ vs ≠ [] ∧ xss.flatten.length ≤ sizeLine ∧ ∀ p, H p = none → Q (.ref p) (upd H p (.lst xss.flatten))
theorem vals_flat {xss : List (List V)} {g : Nat → List Value} : ∀ {k i : Nat}, xss.length = i + k → (∀ j xs, i ≤ j → xss[j]? = some xs → Vals xs (g j)) → Vals (xss.drop i).flatten (flatA (fun j => (g j).toArray) i k).toList
  | 0, i, hl, h => by
    rw [List.drop_eq_nil_of_le (by omega)]
    exact .nil
  | k + 1, i, hl, h => by
    have hi : i < xss.length := by omega
    rw [List.drop_eq_getElem_cons hi, List.flatten_cons]
    have e : (flatA (fun j => (g j).toArray) i (k + 1)).toList = g i ++ (flatA (fun j => (g j).toArray) (i + 1) k).toList := by
      show ((g i).toArray ++ flatA (fun j => (g j).toArray) (i + 1) k).toList = _
      rw [Array.toList_append]
    rw [e]
    exact (h i _ (Nat.le_refl _) (List.getElem?_eq_getElem hi)).append (vals_flat (by omega) fun j xs hj => h j xs (by omega))
theorem call_sumL {X : Cx} (hc : X.calm = true) : CallR X (.builtin "sum") rSumL := by
  intro pins s σ H xs us Q I r h
  obtain ⟨a, z, vs, xss, rfl, ha, hx, hz, hne, hsz, q⟩ := h
  obtain ⟨u, v, rfl, ru, rv⟩ := r.two
  cases ru
  cases rv
  obtain ⟨_, its, n, ri, hl, e⟩ := I.lstM ha
  obtain ⟨_, its0, n0, ri0, _, e0⟩ := I.lstM hz
  cases ri0
  have hall : ∀ j : Nat, ∃ g : List Value, (∀ v, vs[j]? = some v → ∃ b xs n, v = V.ref b ∧ xss[j]? = some xs ∧ Vals xs g ∧ s.heap.get? b = some { cls := .type "list", data := .seq g.toArray n }) := fun j => by
    cases ev : vs[j]? with
    | none => exact ⟨[], fun v h => by cases h⟩
    | some v =>
      obtain ⟨b, xs, rfl, e1, e2⟩ := hx.at ev
      obtain ⟨_, g, n, rg, _, eg⟩ := I.lstM e1
      exact ⟨g, fun v h => by cases h; exact ⟨b, xs, n, rfl, e2, rg, eg⟩⟩
  obtain ⟨g, hg⟩ := Classical.axiomOfChoice hall
  have hsize : its.toArray.size = xss.length := by rw [List.size_toArray, ← hl, hx.length]
  have hv : Vals xss.flatten (flatA (fun j => (g j).toArray) 0 its.toArray.size).toList := by
    have z := vals_flat (xss := xss) (g := g) (k := its.toArray.size) (i := 0) (by omega) fun j xs _ hj => by
      have hjl : j < vs.length := by rw [hx.length]; exact (List.getElem?_eq_some_iff.mp hj).1
      obtain ⟨b, xs', n, _, e2, rg, _⟩ := hg j vs[j] (List.getElem?_eq_getElem hjl)
      rw [hj] at e2
      cases e2
      exact rg
    rw [List.drop_zero] at z
    exact z
  refine call_sum_lists (f := fun j => (g j).toArray) (I.ok.hd hc) ⟨_, e, rfl, _, rfl⟩ (by
    rw [List.size_toArray, ← hl]
    cases vs with
    | nil => exact absurd rfl hne
    | cons _ _ => simp) (fun j hj => ?_) e0 (by rw [← Array.length_toList, ← hv.length]; exact hsz) fun h' tk p n' hk hp hn => ?_
  · have hjl : j < vs.length := by rw [hl]; simpa using hj
    obtain ⟨b, xs, n, e1, _, _, e4⟩ := hg j vs[j] (List.getElem?_eq_getElem hjl)
    obtain ⟨u, hu, ru⟩ := ri.get (List.getElem?_eq_getElem hjl)
    rw [e1] at ru
    cases ru
    exact ⟨b, n, by simpa using hu, e4⟩
  · refine ⟨.ref p, _, I.laid (t' := tk) (a := p) (o := .lst xss.flatten) (fun b o e => hk b o e) hp ⟨hsz, _, n', hv, ?_⟩, rfl, q p (I.hok.fresh hp)⟩
    rw [Array.toArray_toList]
    exact hn
end PL
end
section
set_option Elab.async false
set_option maxRecDepth 100000
set_option linter.all false
set_option maxHeartbeats 1000000
/-! PL13: list(zip(a, b)) of lists. -/
namespace PL
open PySem PySem.Spec PyProof.Rows L2
theorem zip_no_len : typeLookup (.type "zip") "__len__" = pure none := am_miss_of_fast (by decide +kernel)
theorem zip_no_hint : typeLookup (.type "zip") "__length_hint__" = pure none := am_miss_of_fast (by decide +kernel)
section
variable {prog : Program} {w : World} {A : Around} {R : Result → Shared → Prop} {z TI TO i1 i2 l1 l2 S : Addr}
/-- the pairs that were given out -/
structure Gave (h : Heap) (base : Nat) (xs ys : Array Value) (Ts : List Addr) : Prop where
  inc : Ts.Pairwise (· < ·)
  lo : ∀ T ∈ Ts, base ≤ T ∧ T < h.objs.size
  at_ : ∀ (j : Nat) (T : Addr), Ts[j]? = some T → ∃ x y, xs[j]? = some x ∧ ys[j]? = some y ∧ IsPair h T x y
structure ZipSt (base : Nat) (h : Heap) (z TI TO i1 i2 l1 l2 : Addr) (xs ys : Array Value) (i : Nat) : Prop where
  hz : (IsZip h z TI TO .none ∧ ∃ a b, IsPair h TO a b) ∨ ∃ T f oT, IsZipHeld h z TI TO T f ∧ h.get? T = some oT ∧ base ≤ T
  hTI : IsPair h TI (.ref i1) (.ref i2)
  h1 : h.IsListIter i1 l1 i
  h2 : h.IsListIter i2 l2 i
  hl1 : h.IsList l1 xs
  hl2 : h.IsList l2 ys
theorem ne_lt {base : Nat} {x T : Addr} (a : x < base) (b : base ≤ T) : T ≠ x := fun q => Nat.lt_irrefl _ (Nat.lt_of_lt_of_le a (q ▸ b))
theorem ZipSt.next {base : Nat} {E : Value → Shared → Prop} {s : Shared} {xs ys : Array Value} {i : Nat} {x y : Value} {Q : Option Value → Shared → Prop} (D : ZipApart z TI TO i1 i2 l1 l2) (bz : z < base) (b1 : i1 < base) (b2 : i2 < base) (hb : base ≤ s.heap.objs.size) (st : ZipSt base s.heap z TI TO i1 i2 l1 l2 xs ys i) (hx : xs[i]? = some x) (hy : ys[i]? = some y)
    (hQ : ∀ h', ZipSt base h' z TI TO i1 i2 l1 l2 xs ys (i + 1) → IsPair h' s.heap.objs.size x y → h'.objs.size = s.heap.objs.size + 1 →
      (∀ c o, c ≠ z → c ≠ TO → c ≠ i1 → c ≠ i2 → s.heap.get? c = some o → h'.get? c = some o) → Q (some (.ref s.heap.objs.size)) { s with heap := h' }) : wpAny (model prog w) A (pyNext (.ref z)) Q E s := by
  rcases st.hz with ⟨h0, a, b, hp⟩ | ⟨T, f, oT, h0, hT, lT⟩
  · refine wpAny_pyNext_zip_item D h0 st.hTI hp st.h1 st.h2 st.hl1 st.hl2 hx hy fun h' a1 a2 a3 a4 a5 a6 a7 => hQ h' ⟨.inr ⟨_, false, _, a1, a5, hb⟩, a7 _ _ D.TIz D.TITO D.TIi1 D.TIi2 st.hTI, a3, a4, ?_, ?_⟩ a5 a6 a7
    · exact st.hl1.at fun o e => a7 _ _ D.l1z D.l1TO D.l1i1 D.l1i2 e
    · exact st.hl2.at fun o e => a7 _ _ D.l2z D.l2TO D.l2i1 D.l2i2 e
  · refine wpAny_pyNext_zip_item_held D h0 hT st.hTI st.h1 st.h2 st.hl1 st.hl2 hx hy fun h' a1 a3 a4 a5 a6 a7 => hQ h' ⟨.inr ⟨_, true, _, a1, a7 _ _ (ne_lt bz lT) (ne_lt b1 lT) (ne_lt b2 lT) hT, lT⟩, a7 _ _ D.TIz D.TIi1 D.TIi2 st.hTI, a3, a4, ?_, ?_⟩ a5 a6 fun c o c1 _ c2 c3 e => a7 c o c1 c2 c3 e
    · exact st.hl1.at fun o e => a7 _ _ D.l1z D.l1i1 D.l1i2 e
    · exact st.hl2.at fun o e => a7 _ _ D.l2z D.l2i1 D.l2i2 e
theorem ZipSt.stop {base : Nat} {E : Value → Shared → Prop} {s : Shared} {xs ys : Array Value} {i : Nat} {Q : Option Value → Shared → Prop} (hh : A.handled = none) (D : ZipApart z TI TO i1 i2 l1 l2) (st : ZipSt base s.heap z TI TO i1 i2 l1 l2 xs ys i) (hend : xs[i]? = none ∨ ys[i]? = none)
    (hQ : ∀ h', (∀ c o, c ≠ z → c ≠ TO → c ≠ i1 → c ≠ i2 → s.heap.get? c = some o → h'.get? c = some o) → Q none { s with heap := h' }) : wpAny (model prog w) A (pyNext (.ref z)) Q E s := by
  rcases st.hz with ⟨h0, a, b, hp⟩ | ⟨T, f, oT, h0, hT, lT⟩
  · exact wpAny_pyNext_zip_end hh D h0 st.hTI hp st.h1 st.h2 st.hl1 st.hl2 hend hQ
  · exact wpAny_pyNext_zip_end_held hh D h0 hT st.hTI st.h1 st.h2 st.hl1 st.hl2 hend fun h' k => hQ h' fun c o c1 _ c2 c3 e => k c o c1 c2 c3 e
theorem ZipSt.at {base : Nat} {h h' : Heap} {xs ys : Array Value} {i : Nat} (st : ZipSt base h z TI TO i1 i2 l1 l2 xs ys i) (bS : S < base) (k : ∀ c o, c ≠ S → h.get? c = some o → h'.get? c = some o) (nz : z ≠ S) (nTI : TI ≠ S) (nTO : TO ≠ S) (n1 : i1 ≠ S) (n2 : i2 ≠ S) (nl1 : l1 ≠ S) (nl2 : l2 ≠ S) : ZipSt base h' z TI TO i1 i2 l1 l2 xs ys i := by
  refine ⟨?_, k _ _ nTI st.hTI, st.h1.at fun o e => k _ _ n1 e, st.h2.at fun o e => k _ _ n2 e, st.hl1.at fun o e => k _ _ nl1 e, st.hl2.at fun o e => k _ _ nl2 e⟩
  rcases st.hz with ⟨h0, a, b, hp⟩ | ⟨T, f, oT, h0, hT, lT⟩
  · exact .inl ⟨k _ _ nz h0, a, b, k _ _ nTO hp⟩
  · exact .inr ⟨T, f, oT, k _ _ nz h0, k _ _ (ne_lt bS lT) hT, lT⟩
theorem codeAny_extend_zip (hh : A.handled = none) (D : ZipApart z TI TO i1 i2 l1 l2) (xs ys : Array Value) (n base : Nat) (hn : n = min xs.size ys.size) (hsz : n ≤ sizeLine) (res : Value) (nz : z ≠ S) (nTI : TI ≠ S) (nTO : TO ≠ S) (n1 : i1 ≠ S) (n2 : i2 ≠ S) (nl1 : l1 ≠ S) (nl2 : l2 ≠ S)
    (bz : z < base) (bTO : TO < base) (b1 : i1 < base) (b2 : i2 < base) (bS : S < base) :
    ∀ (k i : Nat) (s : Shared) (Ts : List Addr) (c : Nat), n - i = k → i ≤ n → ZipSt base s.heap z TI TO i1 i2 l1 l2 xs ys i → base ≤ s.heap.objs.size →
    Gave s.heap base xs ys Ts → Ts.length = i → s.heap.get? S = some { cls := .type "list", data := .seq (Ts.map Value.ref).toArray c } →
    (∀ s' Ts' c', (∀ b o, b ≠ S → b ≠ z → b ≠ TO → b ≠ i1 → b ≠ i2 → s.heap.get? b = some o → s'.heap.get? b = some o) → Gave s'.heap base xs ys Ts' → Ts'.length = n → s'.heap.get? S = some { cls := .type "list", data := .seq (Ts'.map Value.ref).toArray c' } → s'.gens = s.gens → s'.os = s.os → s'.drawn = s.drawn →
      R (.ok (.ret res)) s') → codeAny (model prog w) A (.builtin "list.extend.loop" ⟨[.ref S, .ref z, res], []⟩) R s := by
  intro k
  induction k with
  | zero =>
    intro i s Ts c hk hi st hb hg hl hS hR
    have hin : i = n := by omega
    subst hin
    refine codeAny_builtin F.entry_extend_loop ?_
    rw [Around.under_plainId F.plain_extend_loop _]
    show wpAny _ A.in1 (pyNext (.ref z) >>= _) _ _ s
    refine wpAny_bind (st.stop (show A.in1.handled = none from hh) D (by
      rw [Nat.min_def] at hn
      split at hn
      · exact .inl (by simp; omega)
      · exact .inr (by simp; omega)) fun h' kk => ?_)
    refine wpAny_pure (hR { s with heap := h' } Ts c (fun b o _ a b' d e => kk b o a b' d e) ⟨hg.inc, fun T hT => ?_, fun j T hj => ?_⟩ hl (kk S _ (Ne.symm nz) (Ne.symm nTO) (Ne.symm n1) (Ne.symm n2) hS) rfl rfl rfl)
    · obtain ⟨a, b⟩ := hg.lo T hT
      obtain ⟨j, hj⟩ := List.mem_iff_getElem?.mp hT
      obtain ⟨x, y, _, _, hp⟩ := hg.at_ j T hj
      exact ⟨a, Heap.lt_size (kk T _ (ne_lt bz a) (ne_lt bTO a) (ne_lt b1 a) (ne_lt b2 a) hp)⟩
    · obtain ⟨x, y, e1, e2, hp⟩ := hg.at_ j T hj
      have a := (hg.lo T (List.mem_of_getElem? hj)).1
      exact ⟨x, y, e1, e2, kk T _ (ne_lt bz a) (ne_lt bTO a) (ne_lt b1 a) (ne_lt b2 a) hp⟩
  | succ k ih =>
    intro i s Ts c hk hi st hb hg hl hS hR
    have hlt : i < n := by omega
    have hx : i < xs.size := by omega
    have hy : i < ys.size := by omega
    refine codeAny_builtin F.entry_extend_loop ?_
    rw [Around.under_plainId F.plain_extend_loop _]
    show wpAny _ A.in1 (pyNext (.ref z) >>= _) _ _ s
    refine wpAny_bind (st.next D bz b1 b2 hb (x := xs[i]) (y := ys[i]) (by simp [hx]) (by simp [hy]) fun h' st' hp hs kk => ?_)
    have hS' := kk S _ (Ne.symm nz) (Ne.symm nTO) (Ne.symm n1) (Ne.symm n2) hS
    show wpAny _ A.in1 (updateSeq S (·.push (.ref s.heap.objs.size)) >>= _) _ _ _
    refine wpAny_bind ?_
    have szT : (Ts.map Value.ref).toArray.size = i := by simp [hl]
    have oth : ∀ b o, b ≠ S → h'.get? b = some o → (h'.update S (Obj.mapSeq (·.push (.ref s.heap.objs.size)))).get? b = some o := fun b o nb e => (Heap.get?_update_other _ _ (Ne.symm nb)).trans e
    have hS2 := Heap.get?_update_self (Obj.mapSeq (·.push (Value.ref s.heap.objs.size))) hS' rfl
    have eS : (Ts.map Value.ref).toArray.push (.ref s.heap.objs.size) = ((Ts ++ [s.heap.objs.size]).map Value.ref).toArray := by simp
    obtain ⟨c2, hS3⟩ : ∃ c2, (h'.update S (Obj.mapSeq (·.push (Value.ref s.heap.objs.size)))).get? S = some { cls := .type "list", data := .seq ((Ts ++ [s.heap.objs.size]).map Value.ref).toArray c2 } := ⟨_, by rw [← eS]; exact hS2⟩
    have sz2 : (h'.update S (Obj.mapSeq (·.push (Value.ref s.heap.objs.size)))).objs.size = s.heap.objs.size + 1 := by rw [Heap.size_update, hs]
    have nSs : s.heap.objs.size ≠ S := Nat.ne_of_gt (Heap.lt_size hS)
    refine wpAny_updateSeq hS' rfl (wpAny_pure ⟨plainId_quiet F.plain_extend_loop _, ih (i + 1) _ (Ts ++ [s.heap.objs.size]) _ (by omega) hlt (st'.at (S := S) bS oth nz nTI nTO n1 n2 nl1 nl2) ?_ ⟨?_, fun T hT => ?_, fun j T hj => ?_⟩ (by simp [hl]) hS3 fun s'' Ts' c' hk'' hg'' hl'' hS'' g1 g2 g3 => ?_⟩)
      (by rw [szT]; omega) (by show ((Ts.map Value.ref).toArray.push _).size ≤ sizeLine + 1; rw [Array.size_push, szT]; omega)
    · show base ≤ (h'.update S _).objs.size
      rw [sz2]; omega
    · rw [List.pairwise_append]
      exact ⟨hg.inc, List.pairwise_singleton _ _, fun a ha b hb => by simp at hb; subst hb; exact (hg.lo a ha).2⟩
    · show base ≤ T ∧ T < (h'.update S _).objs.size
      rw [sz2]
      rcases List.mem_append.mp hT with h | h
      · obtain ⟨a, b⟩ := hg.lo T h
        exact ⟨a, Nat.lt_succ_of_lt b⟩
      · have e : T = s.heap.objs.size := by simpa using h
        subst e
        exact ⟨hb, Nat.lt_succ_self _⟩
    · by_cases hj2 : j < Ts.length
      · rw [List.getElem?_append_left hj2] at hj
        obtain ⟨x, y, e1, e2, hp'⟩ := hg.at_ j T hj
        have a := (hg.lo T (List.mem_of_getElem? hj)).1
        exact ⟨x, y, e1, e2, oth T _ (ne_lt bS a) (kk T _ (ne_lt bz a) (ne_lt bTO a) (ne_lt b1 a) (ne_lt b2 a) hp')⟩
      · have e : j = Ts.length ∧ T = s.heap.objs.size := by
          rw [List.getElem?_append_right (by omega)] at hj
          have z : j - Ts.length = 0 := by
            cases q : j - Ts.length with
            | zero => rfl
            | succ m => rw [q] at hj; simp at hj
          rw [z] at hj
          simp at hj
          exact ⟨by omega, hj.symm⟩
        obtain ⟨rfl, rfl⟩ := e
        rw [hl]
        exact ⟨xs[i], ys[i], by simp [hx], by simp [hy], oth _ _ nSs hp⟩
    · exact hR s'' Ts' c' (fun b o q0 q1 q2 q3 q4 e => hk'' b o q0 q1 q2 q3 q4 (oth b o q0 (kk b o q1 q2 q3 q4 e))) hg'' hl'' hS'' g1 g2 g3
theorem call_list_zipobj {E : Value → Shared → Prop} {s : Shared} {xs ys : Array Value} {Q : Value → Shared → Prop} (hh : A.handled = none) (D : ZipApart z TI TO i1 i2 l1 l2) (hsz : min xs.size ys.size ≤ sizeLine)
    (hz : IsZip s.heap z TI TO .none) (hTI : IsPair s.heap TI (.ref i1) (.ref i2)) (hTO : ∃ a b, IsPair s.heap TO a b) (h1 : s.heap.IsListIter i1 l1 0) (h2 : s.heap.IsListIter i2 l2 0) (hl1 : s.heap.IsList l1 xs) (hl2 : s.heap.IsList l2 ys)
    (hQ : ∀ h' tk Ts c, (∀ b o, b ≠ z → b ≠ TO → b ≠ i1 → b ≠ i2 → s.heap.get? b = some o → h'.get? b = some o) → Gave h' (s.heap.objs.size + 1) xs ys Ts → Ts.length = min xs.size ys.size → h'.get? s.heap.objs.size = some { cls := .type "list", data := .seq (Ts.map Value.ref).toArray c } → Q (.ref s.heap.objs.size) { s with heap := h', toks := tk }) :
    wpAny (model prog w) A (PySem.call (.type "list") [.ref z]) Q E s := by
  refine callType_codes (Q₁ := fun obj s₁ => obj = .ref s.heap.objs.size ∧ s₁ = { s with heap := s.heap.push { cls := .type "list", data := .seq #[] } }) F.called_list (F.typeCall_list_1 _) F.entry_list_init
    (code_list_new _ ⟨rfl, rfl⟩) fun obj s₁ h₁ => ?_
  obtain ⟨rfl, rfl⟩ := h₁
  have hS : (s.heap.push { cls := .type "list", data := .seq #[] }).get? s.heap.objs.size = some { cls := .type "list", data := .seq #[] } := Heap.get?_push_size _ rfl
  refine ⟨⟨_, hS, rfl⟩, F.args_list_init_2 _ _, ?_⟩
  have lz : z < s.heap.objs.size := Heap.lt_size hz
  have lTI : TI < s.heap.objs.size := Heap.lt_size hTI
  have lTO : TO < s.heap.objs.size := by obtain ⟨a, b, e⟩ := hTO; exact Heap.lt_size e
  have li1 : i1 < s.heap.objs.size := by obtain ⟨o, e, _⟩ := h1; exact Heap.lt_size e
  have li2 : i2 < s.heap.objs.size := by obtain ⟨o, e, _⟩ := h2; exact Heap.lt_size e
  have ll1 : l1 < s.heap.objs.size := by obtain ⟨o, e, _⟩ := hl1; exact Heap.lt_size e
  have ll2 : l2 < s.heap.objs.size := by obtain ⟨o, e, _⟩ := hl2; exact Heap.lt_size e
  have k0 : ∀ b o, s.heap.get? b = some o → (s.heap.push { cls := .type "list", data := .seq #[] }).get? b = some o := fun b o e => Heap.get?_push_of_some _ e
  have z0 : (s.heap.push { cls := .type "list", data := .seq #[] }).objs.size = s.heap.objs.size + 1 := Heap.size_push ..
  generalize hS0 : s.heap.objs.size = S0 at *
  generalize s.heap.push { cls := .type "list", data := .seq #[] } = hp0 at *
  show wpAny _ _ (do let old ← Builtin.List.listItems (.ref S0); Builtin.List.listUpdate (.ref S0) (fun _ => #[]); letGo old.toList.reverse; Builtin.List.listExtendWith (.ref S0) (.ref z) .none) _ _ _
  refine wpAny_bind ?_
  unfold Builtin.List.listItems
  refine wpAny_bind (wpAny_seqItems hS rfl (wpAny_pure ?_))
  show wpAny _ _ (updateSeq S0 (fun _ => #[]) >>= fun _ => letGo (#[] : Array Value).toList.reverse >>= fun _ => Builtin.List.listExtendWith (.ref S0) (.ref z) .none) _ _ _
  refine wpAny_bind (wpAny_updateSeq hS rfl ?_)
  have hS₂ := Heap.get?_update_self (Obj.mapSeq (fun _ => (#[] : Array Value))) hS rfl
  have oth : ∀ b o, b ≠ S0 → s.heap.get? b = some o → (hp0.update S0 (Obj.mapSeq (fun _ => (#[] : Array Value)))).get? b = some o :=
    fun b o hb e => (Heap.get?_update_other _ _ (Ne.symm hb)).trans (k0 b o e)
  have z1 : (hp0.update S0 (Obj.mapSeq (fun _ => (#[] : Array Value)))).objs.size = S0 + 1 := by rw [Heap.size_update, z0]
  refine wpAny_bind (wpAny_letGo ?_)
  generalize hp0.update S0 (Obj.mapSeq (fun _ => (#[] : Array Value))) = hp1 at *
  have nlt : ∀ b, b < S0 → b ≠ S0 := fun b hb => Nat.ne_of_lt hb
  have hz1 := oth z _ (nlt _ lz) hz
  have tz : ∀ tk : Nat, Shared.TypeIs { s with heap := hp1 } (.ref z) "zip" := fun _ => ⟨_, hz1, rfl⟩
  unfold Builtin.List.listExtendWith
  refine wpAny_bind (wpAny_typeOf (tz 0) ?_)
  have q1 : Builtin.List.listSameRef (.ref S0) (.ref z) = false := by
    have n : S0 ≠ z := Nat.ne_of_gt lz
    simp [Builtin.List.listSameRef, n]
  have q2 : (Value.type "zip" == Value.type "list") = false := by decide
  have q3 : (Value.type "zip" == Value.type "tuple") = false := by decide
  simp only [q1, q2, q3, Bool.or_false, Bool.false_eq_true, if_false]
  refine wpAny_bind (wpAny_pyIter_zip hz1 ?_)
  refine wpAny_bind (wpAny_holding ?_)
  unfold Builtin.List.listLengthHint
  refine wpAny_bind (wpAny_specialOf (tz 0) zip_no_len ?_)
  show wpAny _ _ (specialOf (Value.ref z) (Str.ofString "__length_hint__") >>= _) _ _ _
  refine wpAny_bind (wpAny_specialOf (tz 0) zip_no_hint ?_)
  refine wpAny_pure ?_
  show wpAny _ _ (rule "list.extend.makes-room" >>= fun _ => Builtin.List.listTouch (.ref S0) >>= fun _ =>
    again (.builtin "list.extend.loop" ⟨[.ref S0, .ref z, .none], []⟩)) _ _ _
  refine wpAny_bind (wpAny_rule ?_)
  refine wpAny_bind ?_
  show wpAny _ _ (updateSeq S0 (·.push .none) >>= fun _ => updateSeq S0 (·.pop)) _ _ _
  refine wpAny_bind (wpAny_updateSeq hS₂ rfl ?_)
  have hS3 := Heap.get?_update_self (Obj.mapSeq (·.push Value.none)) hS₂ rfl
  refine wpAny_updateSeq hS3 rfl ?_
  have hS4 := Heap.get?_update_self (Obj.mapSeq (·.pop)) hS3 rfl
  have oth2 : ∀ b o, b ≠ S0 → s.heap.get? b = some o → ((hp1.update S0 (Obj.mapSeq (·.push Value.none))).update S0 (Obj.mapSeq (·.pop))).get? b = some o :=
    fun b o hb e => (Heap.get?_update_other _ _ (Ne.symm hb)).trans ((Heap.get?_update_other _ _ (Ne.symm hb)).trans (oth b o hb e))
  have z2 : ((hp1.update S0 (Obj.mapSeq (·.push Value.none))).update S0 (Obj.mapSeq (·.pop))).objs.size = S0 + 1 := by rw [Heap.size_update, Heap.size_update, z1]
  obtain ⟨c0, hS5⟩ : ∃ c0, ((hp1.update S0 (Obj.mapSeq (·.push Value.none))).update S0 (Obj.mapSeq (·.pop))).get? S0 = some { cls := .type "list", data := .seq (([] : List Addr).map Value.ref).toArray c0 } := ⟨_, hS4⟩
  have up : ∀ b, b < S0 → b < S0 + 1 := fun b hb => Nat.lt_succ_of_lt hb
  refine wpAny_pure ⟨plainId_quiet F.plain_extend_loop _, codeAny_extend_zip (S := S0) (show A.in1.handled = none from hh) D xs ys (min xs.size ys.size) (S0 + 1) rfl hsz .none (nlt _ lz) (nlt _ lTI) (nlt _ lTO) (nlt _ li1) (nlt _ li2) (nlt _ ll1) (nlt _ ll2) (up _ lz) (up _ lTO) (up _ li1) (up _ li2) (Nat.lt_succ_self _)
    (min xs.size ys.size) 0 _ [] c0 (Nat.sub_zero _) (Nat.zero_le _) ⟨.inl ⟨oth2 _ _ (nlt _ lz) hz, ?_⟩, oth2 _ _ (nlt _ lTI) hTI, h1.at fun o e => oth2 _ _ (nlt _ li1) e, h2.at fun o e => oth2 _ _ (nlt _ li2) e, hl1.at fun o e => oth2 _ _ (nlt _ ll1) e, hl2.at fun o e => oth2 _ _ (nlt _ ll2) e⟩
    (by rw [z2]; exact Nat.le_refl _) ⟨.nil, fun T hT => by simp at hT, fun j T hj => by simp at hj⟩ rfl hS5 fun s' Ts' c' hk hg hl hS' g1 g2 g3 => ?_⟩
  · obtain ⟨a, b, e⟩ := hTO
    exact ⟨a, b, oth2 _ _ (nlt _ lTO) e⟩
  · obtain ⟨h', g', d', t', o'⟩ := s'
    cases g1
    cases g2
    cases g3
    exact ⟨rfl, hQ h' t' Ts' c' (fun b o a1 a2 a3 a4 e => hk b o (nlt _ (by rw [← hS0]; exact Heap.lt_size e)) a1 a2 a3 a4 (oth2 b o (nlt _ (by rw [← hS0]; exact Heap.lt_size e)) e)) hg hl hS'⟩
end
end PL
namespace PL
open PySem PySem.Spec PyProof.Rows L2
theorem vals_refs : ∀ Ts : List Addr, Vals (Ts.map V.ref) (Ts.map Value.ref)
  | [] => .nil
  | _ :: Ts => .cons rfl (vals_refs Ts)
/-- what list(zip(..)) adds -/
structure ZipOut (H : Hp) (xs ys : List V) (Ts : List Addr) (p : Addr) (H' : Hp) : Prop where
  len : Ts.length = min xs.length ys.length
  new : ∀ T ∈ Ts, H T = none
  at_ : ∀ (j : Nat) (T : Addr), Ts[j]? = some T → ∃ x y, xs[j]? = some x ∧ ys[j]? = some y ∧ H' T = some (.tup [x, y])
  pn : H p = none
  pT : p ∉ Ts
  lst : H' p = some (.lst (Ts.map V.ref))
  old : ∀ a, a ≠ p → a ∉ Ts → H' a = H a
def tListZip (K : PySem.W.Frag) (ta : TA) : TE := fun σ H Q => ta σ H fun vs H1 => ∃ a b xs ys, vs = [V.ref a, V.ref b] ∧ SqL K H1 a xs ∧ SqL K H1 b ys ∧ ∀ Ts p H', ZipOut H1 xs ys Ts p H' → Q (.ref p) H'
theorem inv_zip {X : Cx} {pins : List (Addr × Obj)} {σ : L2.St} {H : Hp} {s : Shared} {h' : Heap} {tk : Nat} {its its2 : Array Value} {xs ys : List V} {Ts : List Addr} {p c base : Nat} (I : L2.Inv X pins σ H s) (rx : Vals xs its.toList) (ry : Vals ys its2.toList) (hz : xs.length ≤ sizeLine)
    (k : ∀ b o, s.heap.get? b = some o → h'.get? b = some o) (hb : s.heap.objs.size ≤ base) (hp : s.heap.objs.size ≤ p) (hpb : p < base) (g : Gave h' base its its2 Ts) (hl : Ts.length = min its.size its2.size) (hs : h'.get? p = some { cls := .type "list", data := .seq (Ts.map Value.ref).toArray c }) :
    ∃ H', ZipOut H xs ys Ts p H' ∧ L2.Inv X pins σ H' { s with heap := h', toks := tk } := by
  have l1 : its.size = xs.length := by rw [← Array.length_toList]; exact rx.length.symm
  have l2 : its2.size = ys.length := by rw [← Array.length_toList]; exact ry.length.symm
  have Tn : ∀ T ∈ Ts, H T = none := fun T hT => I.hok.fresh (Nat.le_trans hb (g.lo T hT).1)
  have pn : H p = none := I.hok.fresh hp
  have pT : p ∉ Ts := fun z => Nat.lt_irrefl _ (Nat.lt_of_lt_of_le hpb (g.lo p z).1)
  have pair : ∀ T, T ∈ Ts → ∃ x y : V, ∃ u v : Value, (∃ j : Nat, Ts[j]? = some T ∧ xs[j]? = some x ∧ ys[j]? = some y) ∧ RelV x u ∧ RelV y v ∧ IsPair h' T u v := fun T hT => by
    obtain ⟨j, hj⟩ := List.mem_iff_getElem?.mp hT
    obtain ⟨u, v, e1, e2, e3⟩ := g.at_ j T hj
    have b1 : j < xs.length := by
      have := (Array.getElem?_eq_some_iff.mp e1).1
      omega
    have b2 : j < ys.length := by
      have := (Array.getElem?_eq_some_iff.mp e2).1
      omega
    obtain ⟨u', f1, f2⟩ := rx.get (List.getElem?_eq_getElem b1)
    obtain ⟨v', f3, f4⟩ := ry.get (List.getElem?_eq_getElem b2)
    rw [Array.getElem?_toList, e1] at f1
    rw [Array.getElem?_toList, e2] at f3
    cases f1
    cases f3
    exact ⟨_, _, u, v, ⟨j, hj, List.getElem?_eq_getElem b1, List.getElem?_eq_getElem b2⟩, f2, f4, e3⟩
  have inj : ∀ (i j : Nat) (T : Addr), Ts[i]? = some T → Ts[j]? = some T → i = j := fun i j T h1 h2 => by
    obtain ⟨a1, b1⟩ := List.getElem?_eq_some_iff.mp h1
    obtain ⟨a2, b2⟩ := List.getElem?_eq_some_iff.mp h2
    rcases Nat.lt_trichotomy i j with z | z | z
    · have q := List.pairwise_iff_getElem.mp g.inc i j a1 a2 z
      rw [b1, b2] at q
      exact absurd q (Nat.lt_irrefl _)
    · exact z
    · have q := List.pairwise_iff_getElem.mp g.inc j i a2 a1 z
      rw [b1, b2] at q
      exact absurd q (Nat.lt_irrefl _)
  have ch : ∀ T, ∃ o : Option HO, T ∈ Ts → ∃ x y, o = some (.tup [x, y]) ∧ (∃ j : Nat, Ts[j]? = some T ∧ xs[j]? = some x ∧ ys[j]? = some y) ∧ ∃ u v, RelV x u ∧ RelV y v ∧ IsPair h' T u v := fun T => by
    by_cases hT : T ∈ Ts
    · obtain ⟨x, y, u, v, a1, a2, a3, a4⟩ := pair T hT
      exact ⟨_, fun _ => ⟨x, y, rfl, a1, u, v, a2, a3, a4⟩⟩
    · exact ⟨none, fun z => absurd z hT⟩
  obtain ⟨f, hf⟩ := Classical.axiomOfChoice ch
  let H' : Hp := fun a => if a = p then some (.lst (Ts.map V.ref)) else if a ∈ Ts then f a else H a
  have Hp' : H' p = some (.lst (Ts.map V.ref)) := if_pos rfl
  have HT : ∀ T, T ∈ Ts → H' T = f T := fun T hT => (if_neg (show ¬ T = p from fun z => pT (by rw [← z]; exact hT))).trans (if_pos hT)
  have Ho : ∀ a, a ≠ p → a ∉ Ts → H' a = H a := fun a h1 h2 => (if_neg h1).trans (if_neg h2)
  have old : ∀ a o, s.heap.get? a = some o → H' a = H a := fun a o e => by
    have la := Heap.lt_size e
    exact Ho a (fun z => by subst z; exact Nat.lt_irrefl _ (Nat.lt_of_lt_of_le la hp)) fun z => Nat.lt_irrefl _ (Nat.lt_of_lt_of_le la (Nat.le_trans hb (g.lo a z).1))
  have tr : ∀ a o, H a = some o → H' a = H a := fun a o e => by
    refine Ho a (fun z => by rw [z, pn] at e; cases e) fun z => by rw [Tn a z] at e; cases e
  refine ⟨H', ⟨by rw [hl, l1, l2], Tn, fun j T hj => ?_, pn, pT, Hp', Ho⟩, I.step (ch := []) (g' := s.gens) (d' := s.drawn) (fun b hb => absurd hb (by simp)) (fun b o _ _ _ e _ => k b o e) (fun b o _ _ _ e _ => ⟨o.slots, k b o e⟩) (fun b o _ e n => (old b o e).trans n) (fun b o _ e => ⟨o, k b o e⟩)
    (fun b ws e => (tr b _ e).trans e) (fun b o u e => (tr b _ e).trans e) (fun b ps e => ⟨#[], by rw [tr b _ e, e]; simp⟩) (fun m hn => ?_) (fun b u e => ?_) I.bare⟩
  · obtain ⟨x, y, e1, ⟨j', e2, e3, e4⟩, _⟩ := hf T (List.mem_of_getElem? hj)
    have ej := inj j j' T hj e2
    subst ej
    exact ⟨x, y, e3, e4, by rw [HT T (List.mem_of_getElem? hj), e1]⟩
  · obtain ⟨ob, es, ep, ho, r⟩ := hn
    exact ⟨ob, es, ep, k _ _ ho, r⟩
  · by_cases h1 : b = p
    · subst h1
      rw [Hp'] at e
      cases e
      refine ⟨?_, Ts.map Value.ref, c, ?_, hs⟩
      · rw [List.length_map, hl, l1, l2]; omega
      · exact vals_refs Ts
    · by_cases h2 : b ∈ Ts
      · rw [HT b h2] at e
        obtain ⟨x, y, e1, _, u', v', r1, r2, r3⟩ := hf b h2
        rw [e1] at e
        cases e
        exact ⟨by show 2 ≤ sizeLine; decide, [u', v'], .cons r1 (.cons r2 .nil), ⟨_, r3, rfl, _, rfl⟩⟩
      · rw [Ho b h1 h2] at e
        exact (I.hok b u e).stay (fun d v _ q => k d v q) (fun d q => by rw [tr d _ q]; exact q) fun d ws q => by rw [tr d _ q]; exact q
theorem pe_listZip {X : Cx} {e e2 : Expr} {ta : TA} {p p2 q pos : Pos} (hgl : Gl X "list") (hml : X.mg "list" = none) (hg : Gl X "zip") (hm : X.mg "zip" = none) (ha : PA X [e, e2] ta) (hc : X.calm = true := by rfl)
    (hs : starEach [e, e2] X.env = (false, eval e X.env) :: starEach [e2] X.env := by rfl) (hpl : (backTo q (starEach [e2] X.env)).any (·.1) = false := by rfl) (na : starEach [Expr.Call (.Name "zip" p2) [e, e2] [] q] X.env = (false, eval (.Call (.Name "zip" p2) [e, e2] [] q) X.env) :: starEach [] X.env := by rfl) :
    PE X (.Call (.Name "list" p) [.Call (.Name "zip" p2) [e, e2] [] q] [] pos) (tListZip X.K ta) := by
  refine ⟨fun pins s σ H Q I h => ?_⟩
  refine Call_ (ld_blt I hgl hml boot_list ?_)
  refine PyProof.Rows.callWith_type1 (PyProof.Rows.args_cons ?_ na) na rfl
  refine Call_ (ld_blt I hg hm PyProof.Rows.boot_zip (PyProof.Rows.callWith_type1 (thn (ha.run q pins s σ H _ I h) fun us s1 ⟨vs, H1, I1, r1, q1⟩ => ?_) hs hpl))
  obtain ⟨a, b, xs, ys, ex, hqx, hqy, q1⟩ := q1
  subst ex
  cases r1 with
  | cons r rr =>
    cases rr with
    | cons r' rr =>
      cases rr
      cases r
      cases r'
      obtain ⟨its, rv, p1, z1⟩ := I1.list hqx
      obtain ⟨its2, rv2, p2, z2⟩ := I1.list hqy
      refine call_zip_2 p1.isList p2.isList fun h' hz hTI hTO h1 h2 hsz hk => PyProof.Rows.args_nil ?_
      have lx : xs.length ≤ sizeLine := z1
      refine call_list_zipobj (s := { s1 with heap := h' }) (I1.ok.hd hc) (PySem.W.ktu_apart s1.heap.objs.size a b p1.lt p2.lt) ?_ hz hTI ⟨_, _, hTO⟩ h1 h2 (p1.isList.at fun o e => hk _ o e) (p2.isList.at fun o e => hk _ o e) fun h'' tk Ts c kk g hl hS => ?_
      · have : its.toArray.size = xs.length := by simp [rv.length]
        omega
      · have ne : ∀ b o, s1.heap.get? b = some o → ∀ i, b ≠ s1.heap.objs.size + i := fun b o e i z => by
          have q : b < s1.heap.objs.size := Heap.lt_size e
          rw [z] at q
          exact absurd q (Nat.not_lt.mpr (Nat.le_add_right _ _))
        have z0 : h'.objs.size = s1.heap.objs.size + 5 := hsz
        obtain ⟨H', zo, I2⟩ := inv_zip (tk := tk) (h' := h'') (p := h'.objs.size) (base := h'.objs.size + 1) I1 (by simpa using rv) (by simpa using rv2) lx (fun b o e => kk b o (ne b o e 4) (ne b o e 3) (ne b o e 0) (ne b o e 1) (hk b o e)) (by omega) (by omega) (Nat.lt_succ_self _) g hl hS
        exact ⟨.ref h'.objs.size, H', I2, rfl, q1 Ts _ H' zo⟩
/-! ### in the words of PL -/
section
variable {Z : Zone} {X : Cx} {W : WX} {e e2 : Expr} {p p2 q pos : Pos}
def fListZip : List D → Option (List D)
  | [.lst xs, .lst ys] => some (zipD xs ys)
  | _ => none
def mListZip (m : M (List D)) : M O := m.bind fun ds Γ => optR ((fListZip ds).map O.ol) Γ
theorem zipOut_new {K : PySem.W.Frag} {H H' : Hp} {G : Addr → Prop} {xs ys : List V} {dx dy : List D} {Ts : List Addr} {p : Addr} (z : ZipOut H xs ys Ts p H') (gh : GH H G) (rx : Reps K H G dx xs) (ry : Reps K H G dy ys) : ∃ G', RelO K H' G' (.ol (zipD dx dy)) (.ref p) [p] ∧ New H G H' G' [p] := by
  have tT : ∀ T ∈ Ts, ∃ o, H' T = some o ∧ ∀ ps, o ≠ .tbl ps := fun T hT => by
    obtain ⟨j, hj⟩ := List.mem_iff_getElem?.mp hT
    obtain ⟨x, y, _, _, e⟩ := z.at_ j T hj
    exact ⟨_, e, fun ps z => by cases z⟩
  have gp : ¬ G p := fun h => by obtain ⟨o, e, _⟩ := gh p h; rw [z.pn] at e; cases e
  have grow : ∀ a o, H a = some o → H' a = some o := fun a o h => by
    rw [z.old a (fun q => by rw [q, z.pn] at h; cases h) fun q => by rw [z.new a q] at h; cases h]; exact h
  have n : New H G H' (fun a => G a ∨ a ∈ Ts) [p] := ⟨grow, fun _ h => .inl h, fun a h => h.imp id fun h => ⟨z.new a h, tT a h⟩, by simp, fun a ha => by
    have e : a = p := by simpa using ha
    subst e
    exact ⟨z.pn, fun h => h.elim gp z.pT, _, z.lst, fun ps q => by cases q⟩⟩
  refine ⟨_, ⟨p, _, rfl, z.lst, ?_, rfl⟩, n⟩
  have key : ∀ (Us : List Addr) (i : Nat), Ts.drop i = Us → Reps K H' (fun a => G a ∨ a ∈ Ts) ((zipD dx dy).drop i) (Us.map V.ref) := by
    intro Us
    induction Us with
    | nil =>
      intro i hi
      have hlen : Ts.length ≤ i := List.drop_eq_nil_iff.mp hi
      rw [List.drop_eq_nil_of_le (by rw [zipD_length, rx.length, ry.length, ← z.len]; exact hlen)]
      exact .nil
    | cons T Us ih =>
      intro i hi
      have hlt : i < Ts.length := by
        by_cases q : i < Ts.length
        · exact q
        · rw [List.drop_eq_nil_of_le (Nat.le_of_not_lt q)] at hi; cases hi
      have hj : Ts[i]? = some T := by
        rw [List.drop_eq_getElem_cons hlt] at hi
        cases hi
        exact List.getElem?_eq_getElem hlt
      have hi2 : Ts.drop (i + 1) = Us := by
        rw [List.drop_eq_getElem_cons hlt] at hi
        cases hi; rfl
      obtain ⟨x, y, e1, e2, e3⟩ := z.at_ i T hj
      obtain ⟨a, f1, f2⟩ := rx.getV e1
      obtain ⟨b, f3, f4⟩ := ry.getV e2
      have hz : i < (zipD dx dy).length := by rw [zipD_length, rx.length, ry.length, ← z.len]; exact hlt
      have ez : (zipD dx dy)[i] = .tup [a, b] := by
        have q : (zipD dx dy)[i]? = some (.tup [a, b]) := by
          unfold zipD
          rw [List.getElem?_zipWith, f1, f3]
        rw [List.getElem?_eq_getElem hz] at q
        exact Option.some.inj q
      rw [List.drop_eq_getElem_cons hz, ez]
      exact .cons (.tup (.inr (List.mem_of_getElem? hj)) (.inl e3) (.cons (Rep.ext n.keeps _ _ f2) (.cons (Rep.ext n.keeps _ _ f4) .nil))) (ih (i + 1) hi2)
  exact key Ts 0 rfl
theorem ex_listZip {m : M (List D)} (ha : AD Z X [e, e2] m) (hml : X.mg "list" = none) (hm : X.mg "zip" = none) (hgl : Gl X "list" := by rfl) (hg : Gl X "zip" := by rfl) (hc : X.calm = true := by rfl)
    (hs : starEach [e, e2] X.env = (false, eval e X.env) :: starEach [e2] X.env := by rfl) (hpl : (backTo q (starEach [e2] X.env)).any (·.1) = false := by rfl) (na : starEach [Expr.Call (.Name "zip" p2) [e, e2] [] q] X.env = (false, eval (.Call (.Name "zip" p2) [e, e2] [] q) X.env) :: starEach [] X.env := by rfl) :
    EX Z X (.Call (.Name "list" p) [.Call (.Name "zip" p2) [e, e2] [] q] [] pos) (mListZip m) := by
  intro W tk
  obtain ⟨t, ht, hd⟩ := ha W tk
  refine ⟨_, pe_listZip hgl hml hg hm ht hc hs hpl na, hd.bind (RR' := RO X) (tk := fun vs (_ : Sl) H1 (Q : VK) => ∃ a b xs ys, vs = [V.ref a, V.ref b] ∧ SqL X.K H1 a xs ∧ SqL X.K H1 b ys ∧ ∀ Ts p H', ZipOut H1 xs ys Ts p H' → Q (.ref p) H') (k := fun ds Γ => optR ((fListZip ds).map O.ol) Γ) fun ds vs Γ σ H G Fo F hr hf hgd => ?_⟩
  obtain ⟨hr, rfl⟩ := hr
  dsimp only
  cases ei : fListZip ds with
  | none => trivial
  | some zs =>
    unfold fListZip at ei
    split at ei
    · cases ei
      cases hr with
      | cons r1 rr =>
        cases rr with
        | cons r2 rr =>
          cases rr
          obtain ⟨b, ws, rfl, s1, st1⟩ := seqL_stays (H' := H) (G' := G) r1
          obtain ⟨c, us, rfl, s2, st2⟩ := seqL_stays (H' := H) (G' := G) r2
          refine EG.new (o := .ol _) (t := fun _ H1 (Q : VK) => ∃ a b' xs ys, [V.ref b, V.ref c] = [V.ref a, V.ref b'] ∧ SqL X.K H1 a xs ∧ SqL X.K H1 b' ys ∧ ∀ Ts p H', ZipOut H1 xs ys Ts p H' → Q (.ref p) H') (fun Q hq => ⟨b, c, ws, us, rfl, st1 _ _ Keeps.refl, st2 _ _ Keeps.refl, fun Ts p H' zo => ?_⟩) hf hgd
          obtain ⟨G', a1, a2⟩ := zipOut_new zo hgd.gh s1 s2
          exact hq _ H' G' [p] a1 a2
    · cases ei
end
end PL
end
section
set_option Elab.async false
set_option maxRecDepth 100000
set_option linter.all false
set_option maxHeartbeats 2000000
/-! PL14: own errors over Exception, with one field. -/
namespace PL
namespace Er
open PySem PySem.W PySem.Calls PyProof.Rows PySem.HandSPX Builtin Builtin.ObjectAttr
abbrev tail : List Value := [.type "Exception", .type "BaseException", .type "object"]
/-- own classes, then Exception's -/
def over : List Value → Bool
  | .ref _ :: r => over r
  | l => l == tail
theorem over_cases : ∀ l : List Value, over l = true → (∃ c r, l = .ref c :: r ∧ over r = true) ∨ l = tail := by
  intro l h
  cases l with
  | nil => exact .inr (beq_iff_eq.mp h)
  | cons a r => cases a with
    | ref c => exact .inl ⟨c, r, rfl, h⟩
    | _ => exact .inr (beq_iff_eq.mp h)
theorem over_ind {P : List Value → Prop} (h0 : P tail) (h1 : ∀ c r, P r → P (.ref c :: r)) : ∀ l, over l = true → P l
  | [], h => absurd h (by decide)
  | a :: r, h => by
    rcases over_cases _ h with ⟨c, r', e, h'⟩ | e
    · cases e; exact h1 _ _ (over_ind h0 h1 _ h')
    · rw [e]; exact h0
theorem over_pass (self : Value) (l : List Value) (h : over l = true) : refuseLoop self "__setattr__" l = pure () :=
  over_ind (P := fun l => refuseLoop self "__setattr__" l = pure ()) (F.store_Exception.passes self) (fun c r ih => by rw [refuseLoop_ref]; exact ih) l h
theorem over_has (x : String) (l : List Value) (h : over l = true) : l.contains (.type x) = tail.contains (.type x) :=
  over_ind (P := fun l => l.contains (.type x) = tail.contains (.type x)) rfl (fun c r ih => by rw [List.contains_cons, ih]; rfl) l h
theorem over_ne (l : List Value) (h : over l = true) : l.isEmpty = false := over_ind (P := fun l => l.isEmpty = false) rfl (fun c r ih => rfl) l h
section
variable {prog : Program} {w : World} {A : Around} {E : Value → Shared → Prop} {R : Result → Shared → Prop} {hp : Heap} {g : Array GenState} {d : Drawn} {t : Nat} {os : OsState}
/-- the first field of a fresh error -/
theorem put {K : Frag} {name : Str} {tk : Tok} {v : Value} {x C : Addr} {fv : Array Value} {cd : ClassData} (X : K.In hp) (hx : hp.get? x = some { cls := .ref C, data := .fields fv }) (hcd : clsIn K C = some cd) (hm : over cd.mro = true) (hh : cd.hasDict = true) (ha : findIn K (.ref C) name = some none)
    (hq : ∀ h' tk' dx, (∀ b o, b ≠ x → hp.get? b = some o → h'.get? b = some o) → hp.objs.size ≤ dx → dx ≠ x → h'.get? x = some { cls := .ref C, dict := some dx, data := .fields fv } → h'.Ns1 dx (fun y => if y = name then some v else none) → R (.ok (.ret .none)) ⟨h', g, d, tk', os⟩) :
    codeAny (model prog w) A (.call (.builtin "object.__setattr__") ⟨[.ref x, .str name tk, v], []⟩) R ⟨hp, g, d, t, os⟩ := by
  have ia : InstAt hp x { cls := .ref C, data := .fields fv } C none := ⟨hx, rfl, rfl, trivial⟩
  have so := F.store_object
  have lo : cd.mro.contains (.type "object") = true := (over_has "object" _ hm).trans (by decide +kernel)
  have nx : x ≠ hp.objs.size := Nat.ne_of_lt (Heap.lt_size hx)
  have im : mroIn K C (.type "object") = some true := by
    unfold mroIn
    rw [hcd, Option.bind_some, if_neg (by rw [over_ne _ hm]; decide), lo]
  refine codeAny_call_builtin so.slot.plain so.entry (@check_slot (model prog w) _ _ ⟨hp, g, d, t, os⟩ "object.__setattr__" "object" "__setattr__" (.ref x) [.str name tk, v] [] _ so.kind so.split (ia.type.andThen (looks_mroIn X im)) (so.args (.ref x) (.str name tk) v) ?_)
  have m1 : Looks (model prog w) hp (mroOf (.ref C)) cd.mro := (looks_clsIn X hcd).andThen .now
  have m2 : Looks (model prog w) hp (storeTaker? none) none := .now
  have m3 : Looks (model prog w) hp (classData C) cd := looks_clsIn X hcd
  rw [osa_eq, refuse_eq]
  refine wpAny_bind (wpAny_bind (ia.type.at (wpAny_bind (m1.at ?_))))
  rw [over_pass _ _ hm]
  refine wpAny_pure (wpAny_bind (ia.type.at (wpAny_bind ((looks_findIn X ha).at (wpAny_bind (m2.at ?_))))))
  obtain ⟨nm, bs, mro, ns, qn, hd, sn, sb, ab, col, del⟩ := cd
  cases (show hd = true from hh)
  show wpAny _ _ (storeInOwnDict (.ref x) (.ref C) (.str name tk) name v false) _ _ _
  unfold storeInOwnDict ownDictForStores
  repeat (first | with_reducible refine store_in_new ?_ ?_ | with_reducible refine wpAny_loadPart_at hx ?_ | with_reducible refine m3.at ?_ | wp_step)
  · exact ⟨_, #[], _, (Heap.get?_update_ne _ _ _ _ nx.symm).trans (Heap.get?_push_at rfl rfl), rfl, fun e he => absurd he (by simp), fun _ => rfl⟩
  · exact fun h' tk' hn hs => hq h' tk' hp.objs.size (fun b o hb ho => (hs.2 b (Nat.ne_of_lt (Heap.lt_size ho))).trans ((Heap.get?_update_ne _ _ _ _ hb).trans (Heap.get?_push_of_some _ ho))) (Nat.le_refl _) nx.symm
      ((hs.2 x nx).trans (Heap.get?_update_self _ (Heap.get?_push_of_some _ hx) rfl)) hn
end
/-! ### the text of __init__ -/
def iA (p1 p2 : Pos) : Arguments := { posonlyargs := [], args := [{ arg := "self", annotation := none, pos := p1 }, { arg := "thing", annotation := none, pos := p2 }], vararg := none, kwonlyargs := [], kw_defaults := [], kwarg := none, defaults := [] }
def iB (q1 q2 q3 q4 : Pos) : List Stmt := [.Assign [.Attribute (.Name "self" q1) "thing" q2] (.Name "thing" q3) q4]
def iS : Scope := { kind := .function, names := [(PySem.Str.ofString "self", .local), (PySem.Str.ofString "thing", .local)], isGenerator := false, isCoroutine := false, more := [] }
/-- an error class c (its __init__'s qualified name qn) at C -/
structure Txt (K : Frag) (mg : Str → Option Value) (c qn : Str) (C fI : Addr) : Prop where
  gC : mg c = some (.ref C)
  cls : ∃ nm q N bs bm sn sub ab col dd k0 k1 k2 k3 k5, K.lookup C = some (excClassObj nm q C N bs bm true sn sub ab col dd k0 k1 k2 k3 k5 "Exception.__new__") ∧ over bm = true
  sa : findIn K (.ref C) "__setattr__" = some (some (.builtin "object.__setattr__"))
  ga : findIn K (.ref C) "__getattribute__" = some (some (.builtin "BaseException.__getattribute__"))
  gg : findIn K (.ref C) "__getattr__" = some none
  noN : findIn K (.ref C) "thing" = some none
  iC : findIn K (.ref C) "__init__" = some (some (.ref fI))
  tC : typeIn K (.ref fI) = some (.type "function")
  kC : keepIn K (.ref C) = true
  exC : subIn K (.ref C) (.type "BaseException") = some true
  tyC : typeIn K (.ref C) = some (.type "type")
  hdC : hasDictIn K C = true
  fn : ∃ (oc : Value) (od : Option Addr) (doc pm : Value) (an : Option Addr) (cdv ct : Value) (osl : Array (Option Value)) (p1 p2 q1 q2 q3 q4 : Pos),
    K.lookup fI = some ⟨oc, od, .func (fnOf "__init__" qn (iA p1 p2) (iB q1 q2 q3 q4) iS .none .none doc pm an cdv ct), osl⟩ ∧ codeIn K cdv qn = true
theorem ldC {M : Model} {s : Shared} {name : Str} {scope : Scope} {L a : Addr} {cd : Value} {m : Str → Option Value} {x : Str} {pos : Pos} {v : Value} {Q : Value → Shared → Prop} {A : Around} {E : Value → Shared → Prop} (hn : s.heap.Ns L m) (hv : m x = some v) (h : Q v s)
    (hk : scope.kind = .function := by rfl) (hl : (envOfC name scope L a cd).kindOf x = some .local := by rfl) (hd : (x == ("__debug__" : Str)) = false := by decide) :
    wpAny M A (eval (.Name x pos) (envOfC name scope L a cd)) Q E s := wpAny_Name (wpAny_loadName_local hk hl hn hv h) hd
/-- a made error -/
structure Made (h h' : Heap) (e C d : Addr) (v : Value) : Prop where
  keep : ∀ b o, h.get? b = some o → h'.get? b = some o
  new : h.objs.size ≤ e
  obj : ∃ oe vs, h'.get? e = some oe ∧ oe.cls = .ref C ∧ oe.dict = some d ∧ oe.data = .fields vs ∧ vs[1]? = some .none
  dbig : h.objs.size ≤ d
  dne : d ≠ e
  ns : h'.Ns1 d (fun y => if y = "thing" then some v else none)
section
variable {prog : Program} {w : World} {A : Around} {E : Value → Shared → Prop} {R : Result → Shared → Prop} {s : Shared} {K : Frag} {mg : Str → Option Value} {c qn : Str} {C fI : Addr}
theorem init_run (T : Txt K mg c qn C fI) {x t0 : Addr} {v : Value} (X : K.In s.heap) (hlim : s.heap.NoLimit) (hx : s.heap.get? x = some (excO C t0)) (hroom : A.depth < recursionLimit)
    (hq : ∀ h' tk dx, (∀ b o, b ≠ x → s.heap.get? b = some o → h'.get? b = some o) → h'.get? x = some { cls := .ref C, dict := some dx, data := .fields #[.ref t0, .none, .none, .none, .bool false, .none] } → s.heap.objs.size ≤ dx → dx ≠ x → h'.Ns1 dx (fun y => if y = "thing" then some v else none) →
      R (.ok (.ret .none)) { s with heap := h', toks := tk }) :
    codeAny (model prog w) A (.call (.ref fI) ⟨[.ref x, v], []⟩) R s := by
  obtain ⟨oc, od, doc, pm, an, cdv, ct, osl, p1, p2, q1, q2, q3, q4, ho, hcd⟩ := T.fn
  obtain ⟨nm, q, N, bs, bm, sn, sub, ab, col, dd, k0, k1, k2, k3, k5, hC, hbm⟩ := T.cls
  have hcl : clsIn K C = some { name := nm, bases := bs, mro := .ref C :: bm, ns := N, qualname := q, hasDict := true, slotNames := sn, subclasses := sub, abstract := ab, collection := col, hasDel := false } := by unfold clsIn; rw [hC] <;> rfl
  refine Att.call_fn (binds := [("self", .ref x), ("thing", v)]) X hlim ho hcd hroom (BindsTo.of_eq (by first | rfl | with_unfolding_all rfl)) (by first | rfl | decide | with_unfolding_all rfl) (fun s₁ IC => ?_) rfl rfl rfl
  obtain ⟨h₁, tk₁, rfl⟩ := IC.toInCall.same
  have k : ∀ b o, s.heap.get? b = some o → h₁.get? b = some o := IC.toInCall.keep
  have hn := IC.toInCall.ns
  have X₁ : K.In h₁ := X.keeps k
  have hx₁ := k _ _ hx
  show wpAny _ _ (execs _ _) _ _ _
  refine wpAny_execs_cons (plainObj_wpAny_Assign_Attribute ?_)
  refine ldC (v := v) hn (by first | rfl | with_unfolding_all rfl | kernel_rfl) (ldC (v := .ref x) hn (by first | rfl | with_unfolding_all rfl | kernel_rfl) ?_)
  refine set_plain X₁ (ox := excO C t0) (od := none) ⟨hx₁, rfl, rfl, trivial⟩ T.sa ?_
  refine put X₁ hx₁ hcl (show over (.ref C :: bm) = true from hbm) rfl T.noN (fun h₃ tk₃ dx k₃ dn dne hx₃ hn₃ => ?_)
  show wpAny _ _ (execs _ _) _ _ _
  have z : s.heap.objs.size < h₁.objs.size := hn.lt
  exact wpAny_execs_nil (hq h₃ tk₃ dx (fun b o hb e => k₃ b o hb (k b o e)) hx₃ (Nat.le_of_lt (Nat.lt_of_lt_of_le z dn)) dne hn₃)
theorem make (T : Txt K mg c qn C fI) {v : Value} (X : K.In s.heap) (hlim : s.heap.NoLimit) (hroom : A.depth + 1 < recursionLimit) (hq : ∀ h' tk e d, Made s.heap h' e C d v → R (.ok (.ret (.ref e))) { s with heap := h', toks := tk }) :
    codeAny (model prog w) A (.call (.ref C) ⟨[v], []⟩) R s := by
  obtain ⟨nm, q, N, bs, bm, sn, sub, ab, col, dd, k0, k1, k2, k3, k5, hC, hbm⟩ := T.cls
  obtain ⟨hp, g, dr, tk, os⟩ := s
  have k : ∀ b o, hp.get? b = some o → ((hp.push (kdv_tup [v])).push (excO C hp.objs.size)).get? b = some o := fun b o e => Heap.get?_push_of_some _ (Heap.get?_push_of_some _ e)
  have hget : ((hp.push (kdv_tup [v])).push (excO C hp.objs.size)).get? (hp.objs.size + 1) = some (excO C hp.objs.size) := by heap_get
  have sz : [v].length ≤ sizeLine := by rw [sizeLine_eq]; exact (by decide : 1 ≤ 16777216)
  refine call_own F.excBase_Exception (fun X => over_has X bm hbm) (X _ _ hC) (looks_findIn X T.iC) (fun self => bind_fn X self T.tC) sz ?_
  refine init_run (s := ⟨(hp.push (kdv_tup [v])).push (excO C hp.objs.size), g, dr, tk, os⟩) T (X.keeps k) (hlim.keeps k) hget (show A.depth + 1 < recursionLimit from hroom) fun h' tk' dx k' hx dn dne hns => ?_
  have old : ∀ b o, hp.get? b = some o → h'.get? b = some o := fun b o e => k' b o (Nat.ne_of_lt (Nat.lt_succ_of_lt (Heap.lt_size e))) (k b o e)
  have z : hp.objs.size ≤ dx := by
    have q := dn
    rw [Heap.size_push, Heap.size_push] at q
    exact Nat.le_trans (Nat.le_trans (Nat.le_succ _) (Nat.le_succ _)) q
  exact ⟨rfl, hq h' tk' (hp.objs.size + 1) dx ⟨old, Nat.le_succ _, ⟨_, _, hx, rfl, rfl, rfl, rfl⟩, z, dne, hns⟩⟩
end
end Er
end PL
namespace PL
open PySem PySem.Spec PyProof.Rows L2
theorem relO_thing {v : V} {v' : Value} (r : RelV v v') (f : Str) : L2.RelO (List.lookup f [(Str.ofString "thing", v)]) (if f = "thing" then some v' else none) := by
  by_cases hw : f = "thing"
  · subst hw
    rw [if_pos rfl]
    have q : List.lookup ("thing" : Str) [(Str.ofString "thing", v)] = some v := by simp [List.lookup]
    rw [q]
    exact r
  · rw [if_neg hw]
    have qw : (f == Str.ofString "thing") = false := by simpa using hw
    have q2 : List.lookup f [(Str.ofString "thing", v)] = none := by simp [List.lookup, qw]
    rw [q2]
    trivial
section
variable {Z : Zone} {X : Cx} {W : WX} {c qn : Str} {C fI : Addr} {k : Nat} {a : Expr} {p pos pos2 : Pos}
def tMkE (C : Addr) (ta : TA) : L2.St → Hp → XK → Prop := fun σ H Q => ta σ H fun vs H1 => ∃ v, vs = [v] ∧ ∀ d, H1 d = none → Q (.ref C) (some d) (upd H1 d (.xd [(Str.ofString "thing", v)]))
theorem pmk_own {ta : TA} (T : Er.Txt X.K X.mg c qn C fI) (hr : Room k X.A) (ha : PA X [a] ta) (hg : Gl X c) (hdb : (c == ("__debug__" : Str)) = false) (he : starEach [a] X.env = (false, eval a X.env) :: starEach [] X.env := by rfl) (hpl : (backTo pos (starEach [] X.env)).any (·.1) = false := by rfl) :
    PMk X (.Call (.Name c p) [a] [] pos) (tMkE C ta) := by
  intro pins s σ H Q I h
  refine wpAny_Call_Name_kw (ld_glob I hg T.gC ?_ hdb)
  refine PySem.W.callWith_K (h₀ := X.base) I.ok.mod.kin T.kC (thn (ha.run pos pins s σ H _ I h) fun us s1 ⟨vs, H1, I1, r1, v, ev, q1⟩ => ?_) he hpl
  subst ev
  refine ⟨I1.kIn, ?_⟩
  obtain ⟨u, rfl, rv⟩ := r1.one
  show wpAny _ _ (PySem.call (.ref C) [u]) _ _ _
  have hlim := I1.nolimit
  obtain ⟨hp, g, dr, tk, os⟩ := s1
  refine wpAny_call (Er.make T I1.kIn hlim (by have := hr.dp; omega) fun h' tk' e d M => ?_)
  show MkP X pins σ Q (.ref e) ⟨h', g, dr, tk', os⟩
  obtain ⟨oe, fv, hoe, hc, hd, hdat, h1⟩ := M.obj
  have hns := M.ns
  obtain ⟨Gr, g1, g2⟩ := restrict h' fun b => decide (b ≠ e)
  have gk : ∀ b, b ≠ e → Gr.get? b = h'.get? b := fun b hb => g1 b (decide_eq_true hb)
  have ge : Gr.get? e = none := g2 e (by simp)
  have old : ∀ b o, hp.get? b = some o → Gr.get? b = some o := fun b o q => (gk b (Nat.ne_of_lt (Nat.lt_of_lt_of_le (Heap.lt_size q) M.new))).trans (M.keep b o q)
  have ob : ObjOk X.prog X.w (upd H1 d (.xd [(Str.ofString "thing", v)])) Gr d (.xd [(Str.ofString "thing", v)]) :=
    ⟨_, hns.at (fun o q => (gk d M.dne).trans q), fun f => relO_thing rv f⟩
  have J : L2.Inv X pins σ (upd H1 d (.xd [(Str.ofString "thing", v)])) ⟨Gr, g, dr, tk', os⟩ := I1.laid (t' := tk') old M.dbig ob
  refine ⟨e, oe, fv, ⟨Gr, g, dr, tk', os⟩, _, .ref C, some d, rfl, J, fun b o q => ?_, ge, hoe, ⟨hc, hd⟩, hdat, h1, ?_, rfl, I1.bare, raises_own T.exC T.tyC, q1 d (I1.hok.fresh M.dbig)⟩
  · by_cases hb : b = e
    · have q' : Gr.get? b = some o := q
      rw [hb, ge] at q'; cases q'
    · exact (gk b hb).symm.trans q
  · rw [upd_ne (Ne.symm M.dne)]
    exact I1.hok.fresh M.new
def mRaise (c : Str) (m : M D) : M Fl := m.bind fun x Γ => .err c x Γ
theorem sx_raise {K : PySem.W.Frag} {mg : Str → Option Value} {A0 : Around} {m : M D} (T : ∃ qn C fI, Er.Txt K mg c qn C fI) (hr : Room k A0) (h : ED Z X a m) (hK : X.K = K := by rfl) (hM : X.mg = mg := by rfl) (hA : X.A = A0 := by rfl) (hg : Gl X c := by rfl) (hdb : (c == ("__debug__" : Str)) = false := by decide) (hc : X.calm = true := by rfl) (he : starEach [a] X.env = (false, eval a X.env) :: starEach [] X.env := by rfl) (hpl : (backTo pos (starEach [] X.env)).any (·.1) = false := by rfl) :
    SX Z X (.Raise (some (.Call (.Name c p) [a] [] pos)) none pos2) (mRaise c m) := by
  subst hK hM hA
  obtain ⟨qn, C, fI, T⟩ := T
  intro W tk
  obtain ⟨t, ht, hd⟩ := h W tk
  refine ⟨_, ps_raise hc tk (pmk_own T hr (pa_cons ht pa_nil he) hg hdb he hpl), fun Γ σ H G F hf hgd => ?_⟩
  have z := hd Γ σ H G F hf hgd
  show SG Z X σ H G F W _ ((m Γ).bind fun x Γ => .err c x Γ)
  cases em : m Γ with
  | stuck => trivial
  | err x d Γ1 => rw [em] at z; exact fun hW D => z (fun cls dd H' G' F' ex a => hW cls dd σ H' G' F' ex a.s) _
  | ok x Γ1 =>
    rw [em] at z
    intro hW D
    refine z _ fun v H1 G1 Fo F1 r b => ?_
    obtain ⟨r, rfl⟩ := r
    refine ⟨v, rfl, fun dd hdd => ?_⟩
    have n : New H1 G1 (upd H1 dd (.xd [(Str.ofString "thing", v)])) (fun a => G1 a ∨ a = dd) [] := New.frozen hdd (fun ps z => by cases z)
    exact hW (.ref C) (some dd) σ _ _ F1 ⟨C, dd, v, T.gC, rfl, rfl, upd_same, .inr rfl, Rep.ext n.keeps _ _ r⟩ (b.s.new n)
end
end PL
end
section
set_option Elab.async false
set_option maxRecDepth 100000
set_option linter.all false
set_option maxHeartbeats 1000000
/-! PL15: odds and ends: type names, sum of lists, chains as tests, empty dict. -/
namespace PL
open PySem PySem.Spec PyProof.Rows L2
section
variable {Z : Zone} {X : Cx} {W : WX} {e : Expr} {pos p : Pos} {x : Str}
theorem ed_ty {n : Ty} (hm : X.mg x = none) (hv : bootBuiltins x = some (.type n.name)) (hg : Gl X x := by rfl) (hn : x ≠ "__name__" := by decide) (hd : (x == ("__debug__" : Str)) = false := by decide) : ED Z X (.Name x pos) (M.pure (.ty n)) :=
  ed_const (v := .ty n.name) (pe_bltn hg hm hv (show RelV (.ty n.name) (.type n.name) from rfl) hn hd) fun _ _ => .ty n
/-- a constant of the top -/
structure TopC (Z : Zone) (K : PySem.W.Frag) (mg : Str → Option Value) (x : Str) (d : D) : Prop where
  ex : ∃ (v : V) (u : Value), mg x = some u ∧ RelV v u ∧ ∀ H G, Z.st H G → Rep K H G d v
theorem ed_top {K : PySem.W.Frag} {mg : Str → Option Value} {d : D} (h : TopC Z K mg x d) (hK : X.K = K := by rfl) (hM : X.mg = mg := by rfl) (hg : Gl X x := by rfl) (hd : (x == ("__debug__" : Str)) = false := by decide) : ED Z X (.Name x pos) (M.pure d) := fun W tk => by
  subst hK hM
  obtain ⟨v, u, hm, r, hz⟩ := h.ex
  exact ⟨_, pe_glob hg hm r hd, fun Γ σ H G F hf hgd Q hq => hq v H G [] F ⟨hz H G hgd.st, rfl⟩ (Aft.same hf hgd)⟩
def lstsD : List D → Option (List (List D))
  | [] => some []
  | .lst xs :: r => (lstsD r).bind fun ys => some (xs :: ys)
  | _ => none
theorem lstsD_lss {K : PySem.W.Frag} {H : Hp} {G : Addr → Prop} : ∀ {ds : List D} {vs : List V} {xss : List (List D)}, Reps K H G ds vs → lstsD ds = some xss → ∃ vss, Lss H vs vss ∧ Reps K H G xss.flatten vss.flatten
  | _, _, _, .nil, h => by cases h; exact ⟨[], .nil, .nil⟩
  | d :: ds, v :: vs, xss, .cons r t, h => by
    cases d with
    | lst xs =>
      obtain ⟨yss, e1, e2⟩ := Option.bind_eq_some_iff.mp (show (lstsD ds).bind (fun ys => some (xs :: ys)) = some xss from h)
      cases e2
      obtain ⟨vss, a, b⟩ := lstsD_lss t e1
      cases r with
      | lst g h1 r1 => exact ⟨_, .cons h1 a, r1.append b⟩
    | _ => cases h
def fSumL : List D → Option O
  | [.lst ds, .lst []] => (lstsD ds).bind fun xss => if ds.isEmpty = false ∧ xss.flatten.length ≤ SZ then some (.ol xss.flatten) else none
  | _ => none
theorem cs_sumL (hc : X.calm = true) : CaS X (.builtin "sum") fSumL := by
  refine ⟨_, call_sumL hc, fun H G xs ds o Q g hx e hq => ?_⟩
  unfold fSumL at e
  split at e
  · rename_i ds
    obtain ⟨xss, e1, e2⟩ := Option.bind_eq_some_iff.mp e
    split at e2
    · rename_i hc2
      cases e2
      obtain ⟨v, w, rfl, h, h'⟩ := vws2 hx
      obtain ⟨a, vs, rfl, h1, r⟩ := h.lst'
      obtain ⟨z, ws, rfl, h2, r2⟩ := h'.lst'
      cases r2
      obtain ⟨vss, a1, a2⟩ := lstsD_lss r e1
      have ne : vs ≠ [] := fun q => by
        subst q
        cases r
        exact absurd hc2.1 (by decide)
      exact ⟨a, z, vs, vss, rfl, h1, a1, h2, ne, by rw [← a2.length, sz_eq]; exact hc2.2, fun p hp => out_lst g hq a2 hp⟩
    · cases e2
  · cases e
theorem ex_dict0 : EX Z X (.Dict [] [] pos) (M.pure (.od [] [])) := by
  intro W tk
  refine ⟨_, pe_dnewK, fun Γ σ H G F hf hgd Q hq p hp => ?_⟩
  have n : New H G (upd H p (.dK [])) G [p] := New.owned hgd.gh hp (fun ps z => by cases z)
  refine hq (.ref p) _ G [p] F ⟨p, [], rfl, upd_same, rfl, .nil, rfl⟩ ⟨hf.ext (n.ext (F := [])) (by simp) (by simp), n.good hgd, n.ext, fun a ha => ?_⟩
  rcases List.mem_append.mp ha with z | z
  · exact .inr (.of (n.fo a z).1)
  · exact .inl z
end
end PL
end
section
set_option Elab.async false
set_option maxRecDepth 100000
set_option linter.all false
set_option maxHeartbeats 1000000
/-! PL16: the deck. -/
namespace PL
open PySem PySem.Spec PyProof.Rows L2
section
variable {Z : Zone} {X : Cx} {W : WX} {σ : Sl} {H : Hp} {G : Addr → Prop} {F : List Addr} {Γ : Fr}
abbrev dkO (s : Deck) : HO := .dK [(kLeft, .ref s.lf), (kMixed, .int s.mixed), (kDraws, .int s.draws)]
theorem deck_at {i : Nat} {s : Deck} (hf : RelF X.K H G Γ σ F) (g : Good Z H G F) (ei : Γ[i]? = some (some (.dk s))) : σ[i]? = some (some (.ref s.at_)) ∧ H s.at_ = some (dkO s) ∧ H s.lf = some (.lst (s.left.map V.int)) ∧ s.at_ ≠ s.lf ∧ s.at_ ∈ F ∧ s.lf ∈ F ∧
    ∀ H' s', Ext H G [s.at_, s.lf] H' G → RelO X.K H' G (.dk s') (.ref s.at_) [s.at_, s.lf] → RelF X.K H' G (Γ.set i (some (.dk s'))) σ F := by
  obtain ⟨A, Fi, B, e, a1, a2, a3, a4⟩ := hf.slot (List.getElem?_eq_some_iff.mp ei).1 g.nd g.ng
  obtain ⟨v, b1, rfl, b2, b3, rfl⟩ := a1 _ ei
  subst e
  have es : σ.set i (some (.ref s.at_)) = σ := by
    obtain ⟨hl, e⟩ := List.getElem?_eq_some_iff.mp b1
    rw [← e]; exact List.set_getElem_self hl
  have ne : s.at_ ≠ s.lf := fun z => by rw [← z, b2] at b3; cases b3
  refine ⟨b1, b2, b3, ne, by simp, by simp, fun H' s' ex r => ?_⟩
  have z := a3 H' G (.dk s') (.ref s.at_) [s.at_, s.lf] ex r
  rw [es] at z
  exact z
/-- an int of the deck -/
def mDkGet (f : Deck → Int) (i : Nat) : M D := fun Γ => match Γ[i]? with
  | some (some (.dk s)) => .ok (.int (f s)) Γ
  | _ => .stuck
theorem ed_dkget {x : Str} {y : Str} {f : Deck → Int} {kk : Nat} {p p2 pos : Pos} (i : Nat) (hy : ∀ s b, valV [(kLeft, V.ref b), (kMixed, .int s.mixed), (kDraws, .int s.draws)] (.inr y) = some (.int (f s))) (hu : X.A.units + 64 < cLine) (hN : X.N[i]? = some x := by rfl) (hv : Vis X.env.scope x := by first | exact Or.inl rfl | exact Or.inr (Or.inl rfl) | exact Or.inr (Or.inr rfl)) (hd : (x == ("__debug__" : Str)) = false := by decide)
    (hcd : (x == ("__classdict__" : Str)) = false := by decide) : ED Z X (.Subscript (.Name x p) (.Constant (.str y) kk p2) pos) (mDkGet f i) := by
  intro W tk
  refine ⟨_, pe_dget (by omega) (pe_var hN hv hd hcd) pe_str (fun _ _ => rfl), fun Γ σ H G F hf hg => ?_⟩
  unfold mDkGet
  split
  · rename_i s ei
    intro Q hq
    obtain ⟨b1, b2, b3, _⟩ := deck_at hf hg ei
    have g := DGet.k (k := .inr y) b2
    rw [hy s s.lf] at g
    exact ⟨_, b1, s.at_, .int (f s), rfl, g, hq _ H G [] F ⟨.int _, rfl⟩ (Aft.same hf hg)⟩
  · trivial
theorem dk_mixed (s : Deck) (b : Addr) : valV [(kLeft, V.ref b), (kMixed, .int s.mixed), (kDraws, .int s.draws)] (.inr "mixed") = some (.int s.mixed) := rfl
theorem dk_draws (s : Deck) (b : Addr) : valV [(kLeft, V.ref b), (kMixed, .int s.mixed), (kDraws, .int s.draws)] (.inr "draws") = some (.int s.draws) := rfl
theorem dk_left (s : Deck) (b : Addr) : valV [(kLeft, V.ref b), (kMixed, .int s.mixed), (kDraws, .int s.draws)] (.inr "left") = some (.ref b) := rfl
/-- deck['left'] != [] -/
def mDkNe (i : Nat) : M Bool := fun Γ => match Γ[i]? with
  | some (some (.dk s)) => optR ((opNe (.lst (s.left.map D.int)) (.lst [])).bind O.tr) Γ
  | _ => .stuck
theorem tx_dkne {x : Str} {kk k2 : Nat} {p p2 p3 p4 pos : Pos} (i : Nat) (hu : X.A.units + 64 < cLine) (hN : X.N[i]? = some x := by rfl) (hv : Vis X.env.scope x := by first | exact Or.inl rfl | exact Or.inr (Or.inl rfl) | exact Or.inr (Or.inr rfl)) (hd : (x == ("__debug__" : Str)) = false := by decide)
    (hcd : (x == ("__classdict__" : Str)) = false := by decide) : TX Z X (.Compare (.Subscript (.Name x p) (.Constant (.str "left") kk p2) pos) [.NotEq] [.List [] p3] p4) (mDkNe i) := by
  intro W tk
  obtain ⟨r, h1, h2⟩ := os_ne (X := X) hu
  refine ⟨_, pt_cmpR h1 (pe_dget (by omega) (pe_var hN hv hd hcd) pe_str (fun _ _ => rfl)) (pe_lst pa_nil) (nomark _), fun Γ σ H G F hf hg => ?_⟩
  unfold mDkNe
  split
  · rename_i s ei
    cases eo : (opNe (.lst (s.left.map D.int)) (.lst [])).bind O.tr with
    | none => trivial
    | some c =>
      intro Q hq
      obtain ⟨o, e1, e2⟩ := Option.bind_eq_some_iff.mp eo
      have e3 := tr_some e2
      subst e3
      obtain ⟨b1, b2, b3, _⟩ := deck_at hf hg ei
      have g := DGet.k (k := .inr "left") b2
      rw [dk_left s s.lf] at g
      refine ⟨_, b1, s.at_, .ref s.lf, rfl, g, Nat.zero_le _, fun p hp => ?_⟩
      have n : New H G (upd H p (.lst [])) G [p] := New.owned hg.gh hp (fun ps z => by cases z)
      have nb : s.lf ≠ p := fun z => by rw [z, hp] at b3; cases b3
      refine h2 _ G _ _ (.lst (s.left.map D.int)) (.lst []) (.d (.bl c)) _ ?_ (.lst (by rw [upd_ne nb]; exact b3) (Reps.ofInts _)) (.lst upd_same .nil) e1 fun v H' G' Fo rr nn => ?_
      · intro a ha
        obtain ⟨o, e, t⟩ := hg.gh a ha
        exact ⟨o, n.grow a o e, t⟩
      · obtain ⟨rr, rfl⟩ := rr
        cases rr
        have hf1 := hf.ext (n.ext (F := [])) (by simp) (by simp)
        have ap : Ext H G F H' G' := (n.ext (F := F)).trans (fun a h => .inl h) (nn.ext (F := F))
        refine ⟨c, rfl, hq c H' G' [] F ⟨rfl, rfl⟩ ⟨hf1.ext (nn.ext (F := [])) (by simp) (by simp), ?_, ap, fun a h => .inl h⟩⟩
        have z := nn.good (n.good hg).right
        exact z
  · trivial
/-- deck['left'].pop() -/
def mDkPop (i : Nat) : M D := fun Γ => match Γ[i]? with
  | some (some (.dk s)) => (match s.left[s.left.length - 1]? with
    | some c => .ok (.int c) (Γ.set i (some (.dk { s with left := s.left.dropLast })))
    | none => .stuck)
  | _ => .stuck
theorem ext2 {a b : Addr} (e : Ext H G [b] H' G) : Ext H G [a, b] H' G := e.mono fun x h => .inl (by simp at h; subst h; simp)
theorem ext2' {a b : Addr} (e : Ext H G [a] H' G) : Ext H G [a, b] H' G := e.mono fun x h => .inl (by simp at h; subst h; simp)
theorem map_dropLast {ns : List Int} : (ns.map V.int).dropLast = (ns.dropLast).map V.int := by
  rw [List.dropLast_eq_take, List.dropLast_eq_take, List.length_map, List.map_take]
theorem ed_dkpop {x : Str} {kk : Nat} {p p2 pos apos cpos : Pos} (i : Nat) (hu : X.A.units + 64 < cLine) (hN : X.N[i]? = some x := by rfl) (hv : Vis X.env.scope x := by first | exact Or.inl rfl | exact Or.inr (Or.inl rfl) | exact Or.inr (Or.inr rfl)) (hd : (x == ("__debug__" : Str)) = false := by decide)
    (hcd : (x == ("__classdict__" : Str)) = false := by decide) (hbase : attributeBase (.Subscript (.Name x p) (.Constant (.str "left") kk p2) pos) "pop" X.env (eval (.Subscript (.Name x p) (.Constant (.str "left") kk p2) pos) X.env) = eval (.Subscript (.Name x p) (.Constant (.str "left") kk p2) pos) X.env := by rfl) (hline : (apos.endLine == cpos.line) = true := by rfl) :
    ED Z X (.Call (.Attribute (.Subscript (.Name x p) (.Constant (.str "left") kk p2) pos) "pop" apos) [] [] cpos) (mDkPop i) := by
  intro W tk
  refine ⟨_, pe_bm0 PySem.F.plainAttrs_list PySem.F.slot_list_pop PySem.F.type_list_pop mt_pop (pe_dget (by omega) (pe_var hN hv hd hcd) pe_str (fun _ _ => rfl)) hbase hline, fun Γ σ H G F hf hg => ?_⟩
  unfold mDkPop
  split
  · rename_i s ei
    split
    · rename_i c ec
      intro Q hq
      obtain ⟨b1, b2, b3, ne, m1, m2, st⟩ := deck_at hf hg ei
      have g := DGet.k (k := .inr "left") b2
      rw [dk_left s s.lf] at g
      have ev : (s.left.map V.int)[(s.left.map V.int).length - 1]? = some (.int c) := by rw [List.length_map, List.getElem?_map, ec]; rfl
      refine ⟨_, b1, s.at_, .ref s.lf, rfl, g, .inl ⟨rfl, _, .of b3⟩, s.lf, _, _, rfl, rfl, b3, ev, ?_⟩
      have ex : Ext H G [s.lf] (upd H s.lf (.lst (s.left.map V.int).dropLast)) G := ext_upd (fun ps z => by cases z)
      refine hq _ _ G [] F ⟨.int c, rfl⟩ ⟨st _ _ (ext2 ex) ⟨rfl, by rw [upd_ne ne]; exact b2, by rw [upd_same, map_dropLast], rfl⟩, hg.upd m2 b3 (fun ps z => by cases z) (fun φ z => by cases z) (fun ps z => by cases z), ex.mono fun a h => .inl (by simp at h; subst h; exact m2), fun a h => .inl h⟩
    · trivial
  · trivial
/-- deck['left'].append(e) -/
def kDkApp (l : Addr) (i : Nat) (x : D) : M O := fun Γ => match x, Γ[i]? with
  | .int c, some (some (.dk s)) => if s.lf = l ∧ s.left.length < SZ then .ok (.d .non) (Γ.set i (some (.dk { s with left := s.left ++ [c] }))) else .stuck
  | _, _ => .stuck
def mDkApp (i : Nat) (m : M D) : M O := fun Γ0 => match Γ0[i]? with
  | some (some (.dk s0)) => (m Γ0).bind (kDkApp s0.lf i)
  | _ => .stuck
theorem ex_dkapp {x : Str} {e : Expr} {m : M D} {kk : Nat} {p p2 pos apos cpos : Pos} (i : Nat) (hu : X.A.units + 64 < cLine) (he : ED Z X e m) (hN : X.N[i]? = some x := by rfl) (hv : Vis X.env.scope x := by first | exact Or.inl rfl | exact Or.inr (Or.inl rfl) | exact Or.inr (Or.inr rfl)) (hd : (x == ("__debug__" : Str)) = false := by decide)
    (hcd : (x == ("__classdict__" : Str)) = false := by decide) (hbase : attributeBase (.Subscript (.Name x p) (.Constant (.str "left") kk p2) pos) "append" X.env (eval (.Subscript (.Name x p) (.Constant (.str "left") kk p2) pos) X.env) = eval (.Subscript (.Name x p) (.Constant (.str "left") kk p2) pos) X.env := by rfl)
    (hfew : ((backTo cpos (starEach [e] X.env)).all (fun x => !x.1) && (backToKw cpos (keywordEach [] X.env)).all (fun x => x.1.isSome)
      && decide (([e] : List Expr).length + ([] : List Keyword).length + (if ([] : List Keyword).isEmpty then 0 else 1) < 30)) = true := by rfl)
    (hline : (apos.endLine == cpos.line) = true := by rfl) (hs : starEach [e] X.env = (false, eval e X.env) :: starEach [] X.env := by rfl) (hplain : (backTo cpos (starEach [] X.env)).any (·.1) = false := by rfl) :
    EX Z X (.Call (.Attribute (.Subscript (.Name x p) (.Constant (.str "left") kk p2) pos) "append" apos) [e] [] cpos) (mDkApp i m) := by
  intro W tk
  obtain ⟨t, ht, hd'⟩ := he W tk
  refine ⟨_, pe_bm PySem.F.plainAttrs_list PySem.F.slot_list_append PySem.F.type_list_append mt_append (pe_dget (by omega) (pe_var hN hv hd hcd) pe_str (fun _ _ => rfl)) (pa_cons ht pa_nil hs) hbase hfew hline hs hplain, fun Γ σ H G F hf hg => ?_⟩
  unfold mDkApp
  split
  · rename_i s0 ei0
    obtain ⟨c1, c2, c3, _⟩ := deck_at hf hg ei0
    have g0 := DGet.k (k := .inr "left") c2
    rw [dk_left s0 s0.lf] at g0
    have z := hd' Γ σ H G F hf hg
    cases em : m Γ with
    | stuck => trivial
    | err y d Γ1 => rw [em] at z; exact fun hW Q => ⟨_, c1, s0.at_, .ref s0.lf, rfl, g0, .inl ⟨rfl, _, .of c3⟩, z hW _⟩
    | ok y Γ1 =>
      rw [em] at z
      show EG Z X σ H G F W (RO X) _ (kDkApp s0.lf i y Γ1)
      unfold kDkApp
      split
      · rename_i c s ei
        split
        · rename_i hc
          intro Q hq
          refine ⟨_, c1, s0.at_, .ref s0.lf, rfl, g0, .inl ⟨rfl, _, .of c3⟩, z _ fun v H1 G1 Fo F1 r a => ?_⟩
          obtain ⟨r, rfl⟩ := r
          cases r
          obtain ⟨b1, b2, b3, ne, m1, m2, st⟩ := deck_at a.rel a.good ei
          rw [← hc.1]
          refine ⟨s.lf, _, _, rfl, rfl, b3, by rw [List.length_map, sz_eq]; exact hc.2, ?_⟩
          have ex : Ext H1 G1 [s.lf] (upd H1 s.lf (.lst (s.left.map V.int ++ [.int c]))) G1 := ext_upd (fun ps z => by cases z)
          refine hq _ _ G1 [] F1 ⟨.non, rfl⟩ ⟨st _ _ (ext2 ex) ⟨rfl, by rw [upd_ne ne]; exact b2, by rw [upd_same, List.map_append]; rfl, rfl⟩, a.good.upd m2 b3 (fun ps z => by cases z) (fun φ z => by cases z) (fun ps z => by cases z), a.ext.trans a.sub (ex.mono fun b h => .inl (by simp at h; subst h; exact m2)), fun b h => a.sub b h⟩
        · trivial
      · trivial
  · trivial
/-- deck['draws'] = e -/
def kDkPut (i : Nat) (x : D) : M Fl := fun Γ => match x, Γ[i]? with
  | .int c, some (some (.dk s)) => .ok .nx (Γ.set i (some (.dk { s with draws := c })))
  | _, _ => .stuck
def mDkPut (i : Nat) (m : M D) : M Fl := m.bind (kDkPut i)
theorem sx_dkput {x : Str} {e : Expr} {m : M D} {kk : Nat} {p p2 tpos pos : Pos} (i : Nat) (hu : X.A.units + 64 < cLine) (he : ED Z X e m) (hN : X.N[i]? = some x := by rfl) (hv : Vis X.env.scope x := by first | exact Or.inl rfl | exact Or.inr (Or.inl rfl) | exact Or.inr (Or.inr rfl)) (hd : (x == ("__debug__" : Str)) = false := by decide)
    (hcd : (x == ("__classdict__" : Str)) = false := by decide) (hs : swapsWith e (some (.Subscript (.Name x p) (.Constant (.str "draws") kk p2) tpos)) pos.line X.env = pure false := by rfl) :
    SX Z X (.Assign [.Subscript (.Name x p) (.Constant (.str "draws") kk p2) tpos] e pos) (mDkPut i m) := by
  intro W tk
  obtain ⟨t, ht, hd'⟩ := he W tk
  refine ⟨_, ps_dput (by omega) (pe_var hN hv hd hcd) pe_str ht hs, fun Γ σ H G F hf hg => ?_⟩
  have z := hd' Γ σ H G F hf hg
  show SG Z X σ H G F W _ ((m Γ).bind (kDkPut i))
  cases em : m Γ with
  | stuck => trivial
  | err y d Γ1 => rw [em] at z; exact fun hW D => z (fun cls dd H' G' F' ex a => hW cls dd σ H' G' F' ex a.s) _
  | ok y Γ1 =>
    rw [em] at z
    show SG Z X σ H G F W _ (kDkPut i y Γ1)
    unfold kDkPut
    split
    · rename_i c s ei
      intro D hq
      refine z _ fun v H1 G1 Fo F1 r a => ?_
      obtain ⟨r, rfl⟩ := r
      cases r
      obtain ⟨b1, b2, b3, ne, m1, m2, st⟩ := deck_at a.rel a.good ei
      have pt := DPut.k (k := .inr "draws") (v := .int c) b2 (by show 3 < sizeLine; decide)
      refine ⟨_, b1, s.at_, _, rfl, pt, ?_⟩
      have ep : putK [(kLeft, V.ref s.lf), (kMixed, .int s.mixed), (kDraws, .int s.draws)] (.inr "draws") (.int c) = [(kLeft, V.ref s.lf), (kMixed, .int s.mixed), (kDraws, .int c)] := rfl
      rw [ep]
      have ex : Ext H1 G1 [s.at_] (upd H1 s.at_ (.dK [(kLeft, V.ref s.lf), (kMixed, .int s.mixed), (kDraws, .int c)])) G1 := ext_upd (fun ps z => by cases z)
      exact hq σ _ G1 F1 ⟨st _ _ (ext2' ex) ⟨rfl, upd_same, by rw [upd_ne (Ne.symm ne)]; exact b3, rfl⟩, a.good.upd m1 b2 (fun ps z => by cases z) (fun φ z => by cases z) (fun ps z => by cases z), a.ext.trans a.sub (ex.mono fun b h => .inl (by simp at h; subst h; exact m1)), fun b h => a.sub b h, rfl⟩
    · trivial
end
end PL
end
section
set_option Elab.async false
set_option maxRecDepth 100000
set_option linter.all false
set_option maxHeartbeats 1000000
/-! PL17: families: what depends on where the new deck lies. -/
namespace PL
open PySem PySem.Spec PyProof.Rows L2
abbrev Fam (α : Type) := Addr → Addr → M α
section
variable {Z : Zone} {X : Cx} {W : WX}
def FinE (Z : Zone) (X : Cx) (σ : Sl) (H : Hp) (G : Addr → Prop) (F : List Addr) (W : WX) (Q : VK) : Res O → Prop
  | .ok o Γ' => ∀ v H' G' Fo F', RelO X.K H' G' o v Fo → Aft Z X σ H G F Γ' H' G' Fo F' → Q v H'
  | .err x d Γ' => ∀ cls dd H' G' F', ExR X H' G' x d cls dd → Aft Z X σ H G F Γ' H' G' [] F' → W cls dd σ H'
  | .stuck => False
def DoesFE (Z : Zone) (X : Cx) (W : WX) (t : TE) (m : Fam O) : Prop := ∀ Γ σ H G F, RelF X.K H G Γ σ F → Good Z H G F → ∀ Q, (∀ p b, FinE Z X σ H G F W Q (m p b Γ)) → t σ H Q
def DoesF (Z : Zone) (X : Cx) (W : WX) (t : TS) (m : Fam Fl) : Prop := ∀ Γ σ H G F, RelF X.K H G Γ σ F → Good Z H G F → ∀ D, (∀ p b, FinS Z X σ H G F W D (m p b Γ)) → t D σ H
def EXF (Z : Zone) (X : Cx) (e : Expr) (m : Fam O) : Prop := ∀ W, Takes X W → ∃ t, PE X e t ∧ DoesFE Z X W t m
def SXF (Z : Zone) (X : Cx) (st : Stmt) (m : Fam Fl) : Prop := ∀ W, Takes X W → ∃ t, PS X st t ∧ DoesF Z X W t m
def BXF (Z : Zone) (X : Cx) (ss : List Stmt) (m : Fam Fl) : Prop := ∀ W, Takes X W → ∃ t, PSs X ss t ∧ DoesF Z X W t m
/-! ### the deck is laid -/
def intsD : List D → Option (List Int)
  | [] => some []
  | .int i :: r => (intsD r).bind fun ns => some (i :: ns)
  | _ => none
theorem intsD_map : ∀ {xs : List D} {ns : List Int}, intsD xs = some ns → xs = ns.map D.int
  | [], ns, h => by cases h; rfl
  | x :: xs, ns, h => by
    cases x with
    | int i =>
      obtain ⟨ms, e1, e2⟩ := Option.bind_eq_some_iff.mp (show (intsD xs).bind (fun ns => some (i :: ns)) = some ns from h)
      cases e2
      rw [intsD_map e1]; rfl
    | _ => cases h
def RRA : RRel Unit Addr := fun _ p _ H _ Fo => H p = some (.dK []) ∧ Fo = [p]
theorem RRA.stable : Stable RRA := ⟨fun {a v σ H G Fo H' G' F} h e n dj => ⟨e.keep _ _ h.1 (dj _ (by rw [h.2]; simp)) (fun ps z => by cases z), h.2⟩⟩
def tAlloc : TR Addr := fun _ H Q => ∀ p, H p = none → Q p (upd H p (.dK []))
theorem does_alloc : Does Z X W RRA tAlloc (M.pure ()) := fun Γ σ H G F hf hg Q hq p hp => by
  have n : New H G (upd H p (.dK [])) G [p] := New.owned hg.gh hp (fun ps z => by cases z)
  refine hq p _ G [p] F ⟨upd_same, rfl⟩ ⟨hf.ext (n.ext (F := [])) (by simp) (by simp), n.good hg, n.ext, fun a ha => ?_⟩
  rcases List.mem_append.mp ha with z | z
  · exact .inr (.of (n.fo a z).1)
  · exact .inl z
def deckOf (p b : Addr) : O → D → D → Option Deck
  | .ol xs, .int i, .int j => (intsD xs).bind fun ns => some ⟨p, b, ns, i, j⟩
  | _, _, _ => none
def mDeck (m1 : M O) (m2 m3 : M D) : Fam O := fun p b => (M.pair m1 (M.pair m2 m3)).bind fun u Γ => optR ((deckOf p b u.1 u.2.1 u.2.2).map O.dk) Γ
theorem exf_deck {e1 e2 e3 : Expr} {k1 k2 k3 : Nat} {p1 p2 p3 pos : Pos} {m1 : M O} {m2 m3 : M D} (h1 : EX Z X e1 m1) (h2 : ED Z X e2 m2) (h3 : ED Z X e3 m3) :
    EXF Z X (.Dict [some (.Constant (.str "left") k1 p1), some (.Constant (.str "mixed") k2 p2), some (.Constant (.str "draws") k3 p3)] [e1, e2, e3] pos) (mDeck m1 m2 m3) := by
  intro W tk
  obtain ⟨t1, a1, d1⟩ := h1 W tk
  obtain ⟨t2, a2, d2⟩ := h2 W tk
  obtain ⟨t3, a3, d3⟩ := h3 W tk
  refine ⟨_, pe_disp (pps_cons pe_str a1 (pps_cons pe_str a2 (pps_cons pe_str a3 pps_nil))) rfl rfl (by simp) (by show 3 ≤ 15; decide), fun Γ σ H G F hf hg Q hQ => ?_⟩
  have z := Does.pair RRA.stable (does_alloc (Z := Z) (X := X) (W := W)) (Does.pair RO.stable d1 (Does.pair RD.stable d2 d3)) Γ σ H G F hf hg
  show tPair tAlloc (tPair t1 (tPair t2 t3)) σ H fun u H3 => H3 u.1 = some (.dK []) ∧ ∃ kvs : List (Key × V), [(V.str "left", u.2.1), (V.str "mixed", u.2.2.1), (V.str "draws", u.2.2.2)] = kvs.map (fun kv => (kV kv.1, kv.2)) ∧ kvs.length ≤ 15 ∧ Q (.ref u.1) (upd H3 u.1 (.dK (mergeK [] kvs)))
  have em : ∀ p b, mDeck m1 m2 m3 p b Γ = ((M.pair m1 (M.pair m2 m3)) Γ).bind fun u Γ => optR ((deckOf p b u.1 u.2.1 u.2.2).map O.dk) Γ := fun p b => rfl
  have ez : M.pair (M.pure ()) (M.pair m1 (M.pair m2 m3)) Γ = ((M.pair m1 (M.pair m2 m3)) Γ).bind fun u Γ1 => .ok ((), u) Γ1 := rfl
  rw [ez] at z
  cases er : (M.pair m1 (M.pair m2 m3)) Γ with
  | stuck => exact (show False by have := hQ 0 0; rw [em, er] at this; exact this).elim
  | err x d Γ1 =>
    rw [er] at z
    have q := hQ 0 0
    rw [em, er] at q
    exact z (fun cls dd H' G' F' ex a => q cls dd H' G' F' ex a) _
  | ok u Γ1 =>
    rw [er] at z
    refine z _ fun v H' G' Fo F' r a => ?_
    obtain ⟨F1, F2, ⟨r1, rfl⟩, ⟨F3, F4, r2, ⟨F5, F6, ⟨r3, rfl⟩, ⟨r4, rfl⟩, rfl⟩, rfl⟩, rfl⟩ := r
    obtain ⟨o, x, y⟩ := u
    obtain ⟨p, v1, v2, v3⟩ := v
    dsimp only at r1 r2 r3 r4 ⊢
    have q0 := hQ 0 0
    rw [em, er] at q0
    cases o with
    | ol xs =>
      obtain ⟨b, vs, rfl, hb, rv, rfl⟩ := r2
      cases x with
      | int i =>
        cases y with
        | int j =>
          cases r3
          cases r4
          cases ei : intsD xs with
          | none => exact (show False by simp only [Res.bind, deckOf, ei] at q0; exact q0).elim
          | some ns =>
            have exs := intsD_map ei
            subst exs
            have evs := Reps.ints rv
            subst evs
            have q := hQ p b
            rw [em, er] at q
            have q' : FinE Z X σ H G F W Q (.ok (.dk ⟨p, b, ns, i, j⟩) Γ1) := by
              have e : (Res.ok (O.ol (ns.map D.int), D.int i, D.int j) Γ1).bind (fun u Γ => optR ((deckOf p b u.1 u.2.1 u.2.2).map O.dk) Γ) = .ok (.dk ⟨p, b, ns, i, j⟩) Γ1 := by
                simp only [Res.bind, deckOf, ei, Option.bind_some, Option.map_some, optR]
              rw [e] at q
              exact q
            refine ⟨r1, [(kLeft, .ref b), (kMixed, .int i), (kDraws, .int j)], rfl, (by show 3 ≤ 15; decide), ?_⟩
            have emg : mergeK [] [(kLeft, V.ref b), (kMixed, .int i), (kDraws, .int j)] = [(kLeft, V.ref b), (kMixed, .int i), (kDraws, .int j)] := rfl
            rw [emg]
            have ne : p ≠ b := fun z => by rw [z, hb] at r1; cases r1
            have gd : Good Z H' G' ([p, b] ++ F') := a.good
            have hpF : p ∈ [p, b] ++ F' := by simp
            have ex : Ext H' G' [p] (upd H' p (.dK [(kLeft, V.ref b), (kMixed, .int i), (kDraws, .int j)])) G' := ext_upd (fun ps z => by cases z)
            refine q' (.ref p) _ G' [p, b] F' ⟨rfl, upd_same, by rw [upd_ne (Ne.symm ne)]; exact hb, rfl⟩ ⟨a.rel.ext ex (fun c hc => ?_) (fun c hc => ?_), gd.upd hpF r1 (fun ps z => by cases z) (fun φ z => by cases z) (fun ps z => by cases z), a.ext.trans a.sub (ex.mono fun c hc => .inl (by simp at hc; subst hc; simp)), fun c hc => a.sub c hc⟩
            · have e : c = p := by simpa using hc
              subst e
              exact gd.ng _ hpF
            · intro h
              have e : c = p := by simpa using h
              subst e
              exact gd.apart c (by simp) hc
        | _ => exact (show False from q0).elim
      | _ => exact (show False from q0).elim
    | _ => exact (show False from q0).elim
/-! ### blocks of families -/
theorem bxf_ret {e : Expr} {pos : Pos} {m : Fam O} (h : EXF Z X e m) : BXF Z X [.Return (some e) pos] (fun p b => M.map Fl.rt (m p b)) := by
  intro W tk
  obtain ⟨t, ht, hd⟩ := h W tk
  refine ⟨_, pss_one (ps_ret ht), fun Γ σ H G F hf hg D hD => hd Γ σ H G F hf hg _ fun p b => ?_⟩
  have q : FinS Z X σ H G F W D ((m p b Γ).bind fun o Γ1 => .ok (.rt o) Γ1) := hD p b
  cases em : m p b Γ with
  | stuck => rw [em] at q; exact q
  | err x d Γ1 => rw [em] at q; exact fun cls dd H' G' F' ex a => q cls dd σ H' G' F' ex a.s
  | ok o Γ1 => rw [em] at q; exact fun v H' G' Fo F' r a => q v σ H' G' Fo F' r a.s
theorem bxf_cons {st : Stmt} {rest : List Stmt} {m : M Fl} {r : Fam Fl} (h : SX Z X st m) (hr : BXF Z X rest r) : BXF Z X (st :: rest) (fun p b => mSeq m (r p b)) := by
  intro W tk
  obtain ⟨t, ht, hd⟩ := h W tk
  obtain ⟨u, hu, hd'⟩ := hr W tk
  refine ⟨_, pss_cons ht hu, fun Γ σ H G F hf hg D hD => ?_⟩
  have z := hd Γ σ H G F hf hg
  replace hD : ∀ p b, FinS Z X σ H G F W D ((m Γ).bind fun fl Γ1 => match fl with
    | .nx => r p b Γ1
    | f => .ok f Γ1) := hD
  cases e : m Γ with
  | stuck => exact (show False by have := hD 0 0; rw [e] at this; exact this).elim
  | err x d Γ1 =>
    have q := hD 0 0
    rw [e] at q
    rw [e] at z
    exact z q _
  | ok fl Γ1 =>
    rw [e] at z
    cases fl with
    | nx =>
      refine z _ fun σ' H' G' F' a => hd' Γ1 σ' H' G' F' a.rel a.good D fun p b => ?_
      have q := hD p b
      rw [e] at q
      exact FinS.from a q
    | bk => have q := hD 0 0; rw [e] at q; exact z _ q
    | ct => have q := hD 0 0; rw [e] at q; exact z _ q
    | rt o => have q := hD 0 0; rw [e] at q; exact z _ q
/-- name = (what makes the deck); then the rest -/
theorem bxf_set (i : Nat) {x : Str} {e : Expr} {pos pos' : Pos} {rest : List Stmt} {m : Fam O} {r : M Fl} (h : EXF Z X e m) (hr : BX Z X rest r) (hN : X.N.Nodup) (hi : X.N[i]? = some x := by rfl) (hx : Loc X.env.scope x := by first | exact Or.inl rfl | exact Or.inr rfl) (hs : swapsWith e (some (.Name x pos')) pos.line X.env = pure false := by rfl) (hf : X.fn x = true ∨ X.env.scope.names.lookup x = some .local := by first | exact .inl rfl | exact .inr rfl) :
    BXF Z X (.Assign [.Name x pos'] e pos :: rest) (fun p b => mSeq (mSet i (m p b)) r) := by
  intro W tk
  obtain ⟨t, ht, hd⟩ := h W tk
  obtain ⟨u, hu, hd'⟩ := hr W tk
  refine ⟨_, pss_cons (ps_set hN hi hx ht hs hf) hu, fun Γ σ H G F hfr hg D hD => hd Γ σ H G F hfr hg _ fun p b => ?_⟩
  have q : FinS Z X σ H G F W D (((m p b Γ).bind fun o Γ1 => setFr i o Γ1).bind fun fl Γ1 => match fl with
    | .nx => r Γ1
    | f => .ok f Γ1) := hD p b
  cases em : m p b Γ with
  | stuck => rw [em] at q; exact q
  | err y d Γ1 => rw [em] at q; exact fun cls dd H' G' F' ex a => q cls dd σ H' G' F' ex a.s
  | ok o Γ1 =>
    rw [em] at q
    intro v H' G' Fo F' rv a
    cases es : setFr i o Γ1 with
    | stuck => simp only [Res.bind, es] at q; exact False.elim q
    | err y d Γ2 => unfold setFr at es; split at es <;> cases es
    | ok fl Γ2 =>
      obtain ⟨rfl, F2, b2, _⟩ := setFr_ok rv a.s es
      simp only [Res.bind, es] at q
      exact (hd' Γ2 _ H' G' F2 b2.rel b2.good).use (FinS.from b2 q)
/-! ### defs of families -/
def spFF (Z : Zone) (K : PySem.W.Frag) (mg : Str → Option Value) (f : Addr → Addr → FSem) (n : Nat) : Sp := fun vs H Q E => ∃ G F k ds vk us, vs = vk ++ us ∧ vs.length = n ∧ RelK K H k vk F ∧ Reps K H G ds us ∧ Good Z H G F ∧ ∀ p b, FEnd Z K mg H G F vk Q E (f p b k ds)
end
section
variable {P : Program} {w : World} {K : PySem.W.Frag} {mg : Str → Option Value} {base : Heap} {Z : Zone}
theorem fEnd_fin {X : Cx} {σ : Sl} {H : Hp} {G : Addr → Prop} {F : List Addr} {vk : List V} {Q : VK} {E : XK} {k : Option Deck} {n : Nat} {m : M Fl} {ds : List D} {D : Ends} (hk : RelK X.K H k vk F) (hn : ∀ σ' H', Q .non H' → D.nx σ' H') (hr : D.rt = Q)
    (h : FEnd Z X.K X.mg H G F vk Q E (fnSem n m k ds)) : FinS Z X σ H G F (fun cls d _ H => E cls d H) D (m ((argO k ds).map some ++ List.replicate (n - (argO k ds).length) none)) := by
  unfold fnSem at h
  cases em : m ((argO k ds).map some ++ List.replicate (n - (argO k ds).length) none) with
  | stuck => simp only [em] at h; exact h
  | err x d Γ =>
    simp only [em] at h
    cases ek : finK k Γ with
    | none => simp only [ek] at h; exact False.elim h
    | some k' =>
      simp only [ek] at h
      intro cls dd σ' H' G' F' hx a
      obtain ⟨F2, h1, h2, h3⟩ := finK_ok ek hk a.rel a.good
      exact h cls dd H' G' F2 hx ⟨h1, h2, a.ext, fun b hb => a.sub b (h3 b hb)⟩
  | ok fl Γ =>
    cases fl with
    | nx =>
      simp only [em] at h
      cases ek : finK k Γ with
      | none => simp only [ek] at h; exact False.elim h
      | some k' =>
        simp only [ek] at h
        intro σ' H' G' F' a
        obtain ⟨F2, h1, h2, h3⟩ := finK_ok ek hk a.rel a.good
        exact hn _ _ (h .non H' G' [] F2 ⟨.non, rfl⟩ ⟨h1, h2, a.ext, fun b hb => a.sub b (h3 b hb)⟩)
    | rt o =>
      simp only [em] at h
      cases ek : finK k Γ with
      | none => simp only [ek] at h; exact False.elim h
      | some k' =>
        simp only [ek] at h
        intro v σ' H' G' Fo F' r a
        obtain ⟨F2, h1, h2, h3⟩ := finK_ok ek hk a.rel a.good
        rw [hr]
        refine h v H' G' Fo F2 r ⟨h1, h2, a.ext, fun b hb => ?_⟩
        exact (List.mem_append.mp hb).elim (fun z => a.sub b (List.mem_append_left _ z)) fun z => a.sub b (List.mem_append_right _ (h3 b z))
    | bk => simp only [em] at h; exact False.elim h
    | ct => simp only [em] at h; exact False.elim h
theorem fnF_ok {x qual : Str} {st : Stmt} {f : Addr} {fd : FuncData} {N ps : List Str} {k : Nat} {m : Fam Fl} (F : Fun K x qual st f fd) (S : FnScope N ps (defScope st))
    (hb : ∀ (cdv : Value) (A : Around) (outer : List Env) (s : Shared) (H : Hp) (E : XK), Room k (A.deeper (envOfC qual (defScope st) s.heap.objs.size f cdv)) → BXF Z (cxOf (L2.CX P w) P w K mg base N qual (defScope st) f cdv A outer s H E) (defBody st) m) :
    FnOk P w K mg base (L2.CX P w) (k + 1) f fd ps (spFF Z K mg (fun p b => fnSem N.length (m p b)) ps.length) := by
  refine Fun.okX F S (fun vs H Q E h => ?_) fun cdv A outer s H vs Q E hr h => ?_
  · obtain ⟨_, _, _, _, _, _, _, hl, _⟩ := h
    exact hl
  · obtain ⟨G, F, k, ds, vk, us, rfl, hl, hk, hr', hg, h⟩ := h
    obtain ⟨t, ht, hd⟩ := hb cdv A outer s H E hr (fun cls d _ H => E cls d H) (takes_of rfl rfl rfl rfl)
    exact ⟨t, ht, hd _ _ H G F (relF_start (N := N) hk hr') hg _ fun p b => fEnd_fin (n := N.length) hk (fun _ _ q => q) rfl (h p b)⟩
structure FCF (P : Program) (w : World) (K : PySem.W.Frag) (mg : Str → Option Value) (base : Heap) (Z : Zone) (k : Nat) (x : Str) (st : Stmt) (ps : List Str) (f : Addr → Addr → FSem) : Prop where
  ex : ∃ (a : Addr) (fd : FuncData), FnOk P w K mg base (L2.CX P w) k a fd ps (spFF Z K mg f ps.length) ∧ mg x = some (.ref a) ∧ PySem.W.keepIn K (.ref a) = true ∧ Binds K fd ps [] ∧ Fun K x x st a fd
theorem FCF.mono {j k : Nat} {x : Str} {st : Stmt} {ps : List Str} {f : Addr → Addr → FSem} (h : FCF P w K mg base Z j x st ps f) (l : j ≤ k) : FCF P w K mg base Z k x st ps f := let ⟨a, fd, h1, h2⟩ := h.ex; ⟨a, fd, h1.mono l, h2⟩
theorem fcF_ok {x : Str} {st : Stmt} {N ps : List Str} {k : Nat} {m : Fam Fl} {f : Addr → Addr → FSem} (ex : ∃ (a : Addr) (fd : FuncData), Fun K x x st a fd ∧ mg x = some (.ref a)) (S : FnScope N ps (defScope st))
    (hbind : ∀ (kV doc pm : Value) (an : Option Addr) (cdv ct : Value) (us : List Value), us.length = ps.length → bindArgs (PySem.W.fnOf x x (defArgs st) (defBody st) (defScope st) .none kV doc pm an cdv ct) ⟨us, []⟩ = pure (ps.zip us))
    (hb : ∀ (a : Addr) (cdv : Value) (A : Around) (outer : List Env) (s : Shared) (H : Hp) (E : XK), Room k (A.deeper (envOfC x (defScope st) s.heap.objs.size a cdv)) → BXF Z (cxOf (L2.CX P w) P w K mg base N x (defScope st) a cdv A outer s H E) (defBody st) m)
    (he : (fun p b => fnSem N.length (m p b)) = f) : FCF P w K mg base Z (k + 1) x st ps f := by
  obtain ⟨a, fd, F, hm⟩ := ex
  subst he
  exact ⟨a, fd, fnF_ok F S (hb a), hm, F.kp, F.binds hbind, F⟩
end
def mCallPF (n : Nat) (f : Addr → Addr → FSem) (m : M (List D)) : Fam O := fun p b => mCallP n (f p b) m
section
variable {Z : Zone} {X : Cx} {W : WX} {k : Nat} {x : Str} {st : Stmt} {ps : List Str} {f : Addr → Addr → FSem} {p pos : Pos} {e : Expr} {es : List Expr}
theorem doesF_call {t : TA} {m : M (List D)} (hd : Does Z X W (RDs X) t m) : DoesFE Z X W (tCallS (spFF Z X.K X.mg f ps.length) (WE W) t) (mCallPF ps.length f m) := by
  intro Γ σ H G F hf hgd Q hQ
  have z := hd Γ σ H G F hf hgd
  have em : ∀ p b, mCallPF ps.length f m p b Γ = (m Γ).bind fun ds Γ => if ds.length = ps.length then (match f p b none ds with
    | .ok o none => .ok o Γ
    | .err x d none => .err x d Γ
    | _ => .stuck) else .stuck := fun p b => rfl
  cases er : m Γ with
  | stuck => exact (show False by have := hQ 0 0; rw [em, er] at this; exact this).elim
  | err y d Γ1 =>
    rw [er] at z
    have q := hQ 0 0
    rw [em, er] at q
    exact z (fun cls dd H' G' F' ex a => q cls dd H' G' F' ex a) _
  | ok ds Γ1 =>
    rw [er] at z
    refine z _ fun vs H1 G1 Fo F1 r a => ?_
    obtain ⟨r, rfl⟩ := r
    have g1 : Good Z H1 G1 F1 := a.good
    have g0 : Good Z H1 G1 [] := by
      have z : Good Z H1 G1 (F1 ++ []) := by rw [List.append_nil]; exact g1
      exact z.right
    have q00 := hQ 0 0
    rw [em, er] at q00
    by_cases hl : ds.length = ps.length
    · have back : ∀ {H' G' R}, Ext H1 G1 [] H' G' → Good Z H' G' R → (∀ a ∈ R, a ∈ ([] : List Addr) ∨ Nw H1 a) → Good Z H' G' (R ++ F1) := fun {H' G' R} e g s =>
        (Good.frame (Fo := F1) (F := []) (by rw [List.append_nil]; exact g1) e g s).perm List.perm_append_comm
      refine ⟨G1, [], none, ds, [], vs, rfl, by rw [← r.length]; exact hl, ⟨rfl, rfl⟩, r, g0, fun p b => ?_⟩
      have q := hQ p b
      rw [em, er] at q
      simp only [Res.bind, if_pos hl] at q
      cases ef : f p b none ds with
      | stuck => rw [ef] at q; exact q
      | ok o k' =>
        rw [ef] at q
        cases k' with
        | some s => exact False.elim q
        | none =>
          intro v H' G' Fo F' rv c
          obtain ⟨_, rfl⟩ := c.rel
          have sub := c.sub
          have gd := c.good
          rw [List.append_nil] at sub gd
          refine q v H' G' Fo F1 rv ⟨a.rel.ext (c.ext.mono (F' := []) (fun _ h => .inl h)) (by simp) (by simp), back c.ext gd sub, a.ext.trans a.sub (c.ext.mono (fun _ h => by simp at h)), fun y hy => ?_⟩
          rcases List.mem_append.mp hy with z | z
          · exact .inr (a.ext.there y ((sub y z).resolve_left (by simp)))
          · exact a.sub y z
      | err y d k' =>
        rw [ef] at q
        cases k' with
        | some s => exact False.elim q
        | none =>
          intro cls dd H' G' F' hx c
          obtain ⟨_, rfl⟩ := c.rel
          exact q cls dd H' G' F1 hx ⟨a.rel.ext c.ext (by simp) (by simp), back c.ext c.good (fun b hb => by simp at hb), a.ext.trans a.sub (c.ext.mono (fun _ h => by simp at h)), fun y hy => a.sub y hy⟩
    · simp only [Res.bind, if_neg hl] at q00
      exact False.elim q00
/-- f(e, ..) whose answer may be a new deck -/
theorem exf_call {P : Program} {w : World} {K : PySem.W.Frag} {mg : Str → Option Value} {base : Heap} {A0 : Around} {n : Nat} {m : M (List D)} (F : FCF P w K mg base Z k x st ps f) (hr : Room k A0) (ha : AD Z X (e :: es) m) (h5 : Same5 X P w K mg base := by exact ⟨rfl, rfl, rfl, rfl, rfl⟩) (hA : X.A = A0 := by rfl) (hn : ps.length = n := by rfl) (hg : Gl X x := by rfl) (hdb : (x == ("__debug__" : Str)) = false := by decide) (he : starEach (e :: es) X.env = (false, eval e X.env) :: starEach es X.env := by rfl)
    (hpl : (backTo pos (starEach es X.env)).any (·.1) = false := by rfl) : EXF Z X (.Call (.Name x p) (e :: es) [] pos) (mCallPF n f m) := by
  intro W tk
  obtain ⟨rfl, rfl, rfl, rfl, rfl⟩ := h5
  subst hA hn
  obtain ⟨a, fd, h1, h2, h3, h4, _⟩ := F.ex
  obtain ⟨t, ht, hd⟩ := ha W tk
  exact ⟨_, pe_callS (E := WE W) h1 hr hg h2 h3 h4 (fun σ => passAt tk σ) ht hdb he hpl, doesF_call hd⟩
end
end PL
end
section
set_option Elab.async false
set_option maxRecDepth 100000
set_option linter.all false
set_option maxHeartbeats 1000000
/-! PL18: recursion, try, a lambda handed to a def that tells what it raised. -/
namespace PL
open PySem PySem.Spec PyProof.Rows L2
def cB (X : Cx) (ss : List Stmt) : TS := fun D σ H => ∀ pins s, Inv X pins σ H s → wpAny (model X.prog X.w) X.A (execs ss X.env) (SP X pins D) X.xe s
theorem pss_c {X : Cx} {ss : List Stmt} : PSs X ss (cB X ss) := ⟨fun pins s σ H D I h => h pins s I⟩
section
variable {Z : Zone} {X : Cx} {W : WX}
theorem bx_stuck {ss : List Stmt} : BX Z X ss (fun _ => .stuck) := fun W tk => ⟨_, pss_c, fun Γ σ H G F hf hg => trivial⟩
theorem AftS.tr {pn : List (Addr × Obj)} {xe : Value → Shared → Prop} {σ σ' : Sl} {H H' : Hp} {G G' : Addr → Prop} {F F' Fo : List Addr} {Γ : Fr} (a : AftS Z (X.tr pn xe) σ H G F Γ σ' H' G' Fo F') : AftS Z X σ H G F Γ σ' H' G' Fo F' := ⟨a.rel, a.good, a.ext, a.sub, a.len⟩
theorem SQ.tr {pn : List (Addr × Obj)} {xe : Value → Shared → Prop} {σ : Sl} {H : Hp} {G : Addr → Prop} {F : List Addr} {Γ : Fr} {D : Ends} {fl : Fl} (h : SQ Z X σ H G F Γ D fl) : SQ Z (X.tr pn xe) σ H G F Γ D fl := by
  cases fl with
  | nx => exact fun σ' H' G' F' a => h σ' H' G' F' a.tr
  | bk => exact fun σ' H' G' F' a => h σ' H' G' F' a.tr
  | ct => exact fun σ' H' G' F' a => h σ' H' G' F' a.tr
  | rt o => exact fun v σ' H' G' Fo F' r a => h v σ' H' G' Fo F' r a.tr
theorem FinS.suite {a : Addr} {pn : List (Addr × Obj)} {σ : Sl} {H : Hp} {G : Addr → Prop} {F : List Addr} {Γ : Fr} {D : Ends} {fl : Fl} {W' : WX} (h : FinS Z X σ H G F W D (.ok fl Γ)) : FinS Z (X.suite a pn) σ H G F W' D (.ok fl Γ) := by
  cases fl with
  | nx => exact fun σ' H' G' F' a => h σ' H' G' F' ⟨a.rel, a.good, a.ext, a.sub, a.len⟩
  | bk => exact fun σ' H' G' F' a => h σ' H' G' F' ⟨a.rel, a.good, a.ext, a.sub, a.len⟩
  | ct => exact fun σ' H' G' F' a => h σ' H' G' F' ⟨a.rel, a.good, a.ext, a.sub, a.len⟩
  | rt o => exact fun v σ' H' G' Fo F' r a => h v σ' H' G' Fo F' r ⟨a.rel, a.good, a.ext, a.sub, a.len⟩
/-! ### try: body; except c: suite -/
def mOnly (sub : Str → Option Bool) (mb : Fam Fl) (ms : M Fl) : Fam Fl := fun p b Γ => match mb p b Γ with
  | .ok fl Γ' => .ok fl Γ'
  | .err x d Γ' => (match sub x with
    | some true => (match ms Γ' with
      | .ok fl Γ2 => .ok fl Γ2
      | _ => .stuck)
    | some false => .err x d Γ'
    | none => .stuck)
  | .stuck => .stuck
/-- what is known of the classes: does the clause of c catch x -/
def SubOk (K : PySem.W.Frag) (mg : Str → Option Value) (c : Value) (sub : Str → Option Bool) : Prop := ∀ x C b, mg x = some (.ref C) → sub x = some b → PySem.W.exmOne K (.ref C) c = some b
theorem sxf_only {y : Str} {c : Value} {body suite : List Stmt} {b₀ : Stmt} {np pos pos' : Pos} {sub : Str → Option Bool} {mb : Fam Fl} {ms : M Fl} (hm : X.mg y = some c) (hsub : SubOk X.K X.mg c sub) (hb : ∀ pn xe, PassesOwn (model X.prog X.w) X.A X.env xe → BXF Z (X.tr pn xe) body mb)
    (hsu : ∀ a oe pn, BX Z (X.suite a ((a, oe) :: pn)) (b₀ :: suite) ms) (hs : X.stack = X.env :: X.outer := by rfl) (hf : X.env.frame = some X.env.locals := by rfl) (hg : Gl X y := by rfl) (hd : (y == ("__debug__" : Str)) = false := by decide) :
    SXF Z X (.Try body [.ExceptHandler (some (.Name y np)) none (b₀ :: suite) pos'] [] [] pos) (mOnly sub mb ms) := by
  intro W tk
  refine ⟨_, ps_try_only (c := c) (tb := fun W' D σ H => ∀ pn xe, Takes (X.tr pn xe) W' → PassesOwn (model X.prog X.w) X.A X.env xe → cB (X.tr pn xe) body D σ H) (ts := fun a cls d D σ H => ∀ oe pn, cB (X.suite a ((a, oe) :: pn)) (b₀ :: suite) D σ H)
    hs hf ⟨hg, hd, .inl hm⟩ tk (fun W' pn xe tk' hp => ⟨fun pins s σ H D I h => h pn xe tk' hp pins s I⟩) (fun a oe cls d pn hz hfl => ⟨fun pins s σ H D I h => h oe pn pins s I⟩), fun Γ σ H G F hfr hgd D hD => ?_⟩
  intro pn xe tk' hp
  obtain ⟨t, ht, hd'⟩ := hb pn xe hp _ tk'
  intro pins s I
  refine ht.run pins s σ H D I (hd' Γ σ H G F hfr hgd D fun p b => ?_)
  have q := hD p b
  unfold mOnly at q
  cases em : mb p b Γ with
  | stuck => rw [em] at q; exact q
  | ok fl Γ1 => rw [em] at q; exact SQ.tr q
  | err x d Γ1 =>
    rw [em] at q
    simp only at q
    cases ex : sub x with
    | none => rw [ex] at q; exact False.elim q
    | some k =>
      rw [ex] at q
      intro cls dd σ' H' G' F' hx a
      obtain ⟨C, e, v, h1, h2, h3, h4, h5, h6⟩ := id hx
      have hb1 := hsub x C k h1 ex
      subst h2
      refine ⟨k, hb1, fun hk a0 _ => ?_, fun hk => ?_⟩
      · subst hk
        intro oe pn' pins' s' I'
        obtain ⟨t2, ht2, hd2⟩ := hsu a0 oe pn' (fun _ _ _ _ => False) takes0
        refine ht2.run pins' s' σ' H' D I' ((hd2 Γ1 σ' H' G' F' a.rel a.good).use ?_)
        simp only at q
        cases es : ms Γ1 with
        | stuck => rw [es] at q; exact q
        | err _ _ _ => rw [es] at q; exact False.elim q
        | ok fl Γ2 => rw [es] at q; exact FinS.suite (FinS.from (X := X) a.tr q)
      · subst hk
        exact q (.ref C) dd σ' H' G' F' hx a.tr
theorem bxf_one {st : Stmt} {m : Fam Fl} (h : SXF Z X st m) : BXF Z X [st] m := fun W tk => let ⟨t, a, b⟩ := h W tk; ⟨t, pss_one a, b⟩
end
/-! ### e.thing in the suite -/
section
variable {X : Cx}
def tThing (C : Addr) (a : Addr) (cls : Value) (d : Option Addr) (te : TE) : TE := fun σ H Q => te σ H fun x H1 => x = .ref a ∧ cls = .ref C ∧ ∃ (dd : Addr) (v : V), d = some dd ∧ H1 dd = some (.xd [(Str.ofString "thing", v)]) ∧ Q v H1
theorem pe_thing {c qn : Str} {C fI : Addr} {a : Addr} {oe : Obj} {cls : Value} {d : Option Addr} {pn : List (Addr × Obj)} {e : Expr} {te : TE} {pos : Pos} (T : Er.Txt X.K X.mg c qn C fI) (hz : Zc cls d oe) (hf : ∃ vs, oe.data = .fields vs) (he : PE (X.suite a ((a, oe) :: pn)) e te)
    (hb : attributeBase e "thing" X.env (eval e X.env) = eval e X.env := by rfl) : PE (X.suite a ((a, oe) :: pn)) (.Attribute e "thing" pos) (tThing C a cls d te) := by
  refine ⟨fun pins s σ H Q I h => ?_⟩
  refine attr_of hb (thn (he.run pins s σ H _ I h) fun u s1 hh => ?_)
  obtain ⟨x, H1, I1, rx, ex, ec, dd, v, ed, ea, q⟩ := hh
  subst ex
  obtain rfl : u = Value.ref a := rx
  subst ec
  subst ed
  obtain ⟨ha, _⟩ := I1.pin (a, oe) (List.mem_append_left _ List.mem_cons_self)
  obtain ⟨vs, hd⟩ := hf
  have hx : ObjOk X.prog X.w H1 s1.heap dd (.xd [(Str.ofString "thing", v)]) := I1.hok dd _ ea
  obtain ⟨mA, hns, hr⟩ := hx
  obtain ⟨od, ho, hl⟩ := lookIn_ns hns
  have l : List.lookup ("thing" : Str) [(Str.ofString "thing", v)] = some v := by simp [List.lookup]
  obtain ⟨u, hu, ru⟩ := L2.RelO.some_of (v := v) (o := mA "thing") (by rw [← l]; exact hr "thing")
  have J : PySem.W.InstAt s1.heap a oe C (some od) := ⟨ha, hz.1, by unfold PySem.W.notCls; rw [hd] <;> rfl, by rw [hz.2]; exact ho⟩
  exact HandSPX.exc_get I1.kIn J T.ga T.gg T.exC (PySem.W.findObj_own T.hdC T.noN rfl (by rw [hl, hu])) (handed_of ru) ⟨v, H1, I1.tok _, ru, q⟩
/-! ### heard(lambda: e) -/
def TTh (K : PySem.W.Frag) (CS : Addr) (S0 S1 : Str) : (XK → Hp → VK → Prop) → Hp → VK → Prop := fun tl H Q =>
  tl (fun cls d H' => cls = .ref CS ∧ ∃ dd v, d = some dd ∧ H' dd = some (.xd [(Str.ofString "thing", v)]) ∧ ∀ p, H' p = none → Q (.ref p) (upd H' p (.tup [.str S1, v]))) H fun v H' => [V.str S0, v].length ≤ sizeLine ∧ ∀ p, H' p = none → Q (.ref p) (upd H' p (.tup [.str S0, v]))
theorem takes_len {W : WX} (tk : Takes X W) : Takes X (fun cls d σ H => σ.length = X.N.length → W cls d σ H) := fun u s' ⟨a, B, sI, pins, σ, H, cls, d, e, I, nb, up, sky, na, os, ag, w⟩ =>
  tk u s' ⟨a, B, sI, pins, σ, H, cls, d, e, I, nb, up, sky, na, os, ag, w I.len⟩
theorem heard_gives {Ng : List Str} {x a e n q S0 S1 qn : Str} {sg : Scope} {g CS fI : Addr} {cdg : Value} {j j1 kt k2 : Nat} {p0 p1 p2 p3 p4 p5 p6 p7 p8 p9 p10 p11 p12 : Pos} (T : Er.Txt X.K X.mg e qn CS fI) (he1 : PySem.W.exmOne X.K (.ref CS) (.ref CS) = some true) (hge : sg.names.lookup e = some .globalImplicit) (hde : (e == ("__debug__" : Str)) = false)
    (hN : Ng.Nodup) (hi : Ng[1]? = some n) (hln : sg.names.lookup n = some .local) (hdn : (n == ("__debug__" : Str)) = false) (hcdn : (n == ("__classdict__" : Str)) = false) (hl2 : Ng.length = 2) :
    LamX.GivesTo X Ng x sg g cdg [.Try [.Return (some (.Tuple [.Constant (.str S0) j p0, .Call (.Name a p1) [] [] p2] kt p9)) p3] [.ExceptHandler (some (.Name e p4)) (some n) [.Return (some (.Tuple [.Constant (.str S1) j1 p5, .Attribute (.Name n p10) "thing" p11] k2 p12)) p6] p7] [] [] p8] a q (TTh X.K CS S0 S1) := by
  intro f c' s H Q tl act hc h
  have hgl : Gl (cxOf C8.CX0 X.prog X.w X.K X.mg X.base Ng x sg g cdg X.A X.stack s H C8.E0).nox e := hge
  have h0 : (L2.start Ng [V.ref f])[0]? = some (some (V.ref f)) := rfl
  refine ⟨_, pss_one (ps_try_as (X := (cxOf C8.CX0 X.prog X.w X.K X.mg X.base Ng x sg g cdg X.A X.stack s H C8.E0).nox) (c := .ref CS) (i := 1)
      (tb := fun W D σ H => ∃ Ech : XK, (∀ cls d (σ' : L2.St) H', σ'.length = Ng.length → Ech cls d H' → W cls d σ' H') ∧ σ[0]? = some (some (.ref f)) ∧ H c' = some (LamX.CodeO c' q) ∧ tl Ech H fun v H' => [V.str S0, v].length ≤ sizeLine ∧ ∀ p, H' p = none → D.rt (.ref p) (upd H' p (.tup [.str S0, v])))
      rfl rfl hN hi hln ⟨hgl, hde, .inl T.gC⟩ takes0 (fun W pn xe tk _ => ?_) (fun a0 oe cls d pn hz hf => pss_one (ps_ret (pe_tup (pa_cons pe_str (pa_cons (pe_thing T hz hf (pe_var (i := 1) hi (Or.inl hln) hdn hcdn)) pa_nil)))))), ?_⟩
  · refine ⟨fun pins s' σ H' D I h' => ?_⟩
    obtain ⟨Ech, hW, h1, h2, h3⟩ := h'
    have hp := act _ pn xe Ech p1 p2 (takes_len tk) fun cls d σ' H' q hl => hW cls d σ' H' hl q
    have hq := pss_one (ps_ret (pos := p3) (pe_tup (x1 := kt) (pos := p9) (pa_cons (pe_str (x := S0) (j := j) (pos := p0)) (pa_cons hp pa_nil))))
    exact hq.run pins s' σ H' D I ⟨h1, h2, h3⟩
  · refine ⟨_, fun cls d σ' H' hl q => ?_, h0, hc, h⟩
    obtain ⟨rfl, dd, v, rfl, hdd, hq⟩ := q
    refine ⟨true, he1, fun _ a0 _ => ?_, fun z => nomatch z⟩
    refine ⟨.ref a0, ?_, rfl, rfl, dd, v, rfl, hdd, (by show 2 ≤ sizeLine; decide), hq⟩
    rw [List.getElem?_set_self (by rw [hl, hl2]; decide)]
end
end PL
end
section
set_option Elab.async false
set_option maxRecDepth 100000
set_option linter.all false
set_option maxHeartbeats 1000000
/-! PL19: heard(lambda: e). -/
namespace PL
open PySem PySem.Spec PyProof.Rows L2
def mHeard (S0 S1 e : Str) (mb : M O) : M O := fun Γ => match mb Γ with
  | .ok o Γ' => optR (o.view.map fun x => .d (.tup [.str S0, x])) Γ'
  | .err x d Γ' => if x = e then .ok (.d (.tup [.str S1, d])) Γ' else .stuck
  | .stuck => .stuck
structure HeardT (K : PySem.W.Frag) (mg : Str → Option Value) (x : Str) (st : Stmt) (e : Str) : Prop where
  ex : ∃ (g : Addr) (fd : FuncData) (qn : Str) (CS fI : Addr), Fun K x x st g fd ∧ mg x = some (.ref g) ∧ Er.Txt K mg e qn CS fI ∧ PySem.W.exmOne K (.ref CS) (.ref CS) = some true
section
variable {Z : Zone} {X : Cx} {W : WX} {k : Nat}
theorem ext_N {H H1 : Hp} {G : Addr → Prop} (e : LamX.ExtN H H1) : Ext H G [] H1 G := ⟨fun _ h => h, fun a o h _ t => e a o h t, fun _ h => .inl h, fun a h o q => Classical.byContradiction fun z => by
  have t : ∀ ps, o ≠ .tbl ps := fun ps hz => z ⟨ps, hz⟩
  obtain ⟨ps, hp⟩ := h o (e a o q t)
  exact t ps hp⟩
theorem good_N {H H1 : Hp} {G : Addr → Prop} {F : List Addr} (g : Good Z H G F) (e : LamX.ExtN H H1) (t : LamX.Tabs Z.tb H1) : Good Z H1 G F :=
  ⟨g.nd, g.ng, fun a h => let ⟨o, q, t⟩ := g.gh a h; ⟨o, e a o q t, t⟩, fun a h => let ⟨o, q, t⟩ := g.fh a h; ⟨o, e a o q t, t⟩, Z.stab _ _ _ _ g.st ((ext_N e).keeps (by simp)), t⟩
theorem ex_heard {K : PySem.W.Frag} {mg : Str → Option Value} {A0 : Around} {x a e n S0 S1 : Str} {st : Stmt} {Ng : List Str} {c P : Addr} {q : Str} {mb : M O} {params : Arguments} {body : Expr} {scope : Scope} {j j1 kt k2 : Nat} {p0 p1 p2 p3 p4 p5 p6 p7 p8 p9 p10 p11 p12 p lpos pos : Pos}
    (T : HeardT K mg x st e) (Sg : FnScope Ng [a] (defScope st)) (hbd : defBody st = [.Try [.Return (some (.Tuple [.Constant (.str S0) j p0, .Call (.Name a p1) [] [] p2] kt p9)) p3] [.ExceptHandler (some (.Name e p4)) (some n) [.Return (some (.Tuple [.Constant (.str S1) j1 p5, .Attribute (.Name n p10) "thing" p11] k2 p12)) p6] p7] [] [] p8])
    (hbind : ∀ (kV doc pm : Value) (an : Option Addr) (cdv ct : Value) (us : List Value), us.length = [a].length → bindArgs (PySem.W.fnOf x x (defArgs st) (defBody st) (defScope st) .none kV doc pm an cdv ct) ⟨us, []⟩ = pure ([a].zip us))
    (TB : LamX.TabB X.base mg c P) (hcode : X.env.code = .ref c) (hmT : (P, q) ∈ Z.tb) (hu : ∀ r ∈ Z.tb, r.1 = P → r.2 = q) (hr : Room (k + 2) A0) (L : LamX.LamS X.env.scope scope)
    (hb : ∀ (A : Around) (outer : List Env) (s : Shared) (H : Hp) (E : XK) (f c' : Addr), Room k (A.deeper (LamX.lamEnv X scope s.heap.objs.size f c')) → EX Z (LamX.lamCx X A outer s H E scope f c') body mb)
    (hK : X.K = K := by rfl) (hM : X.mg = mg := by rfl) (hA : X.A = A0 := by rfl) (hq : q = X.env.qual ++ "<lambda>" := by rfl) (hNn : Ng[1]? = some n := by rfl) (hNa : Ng[0]? = some a := by rfl) (hva : Vis (defScope st) a := by exact Or.inl rfl) (hln : (defScope st).names.lookup n = some .local := by rfl) (hge : (defScope st).names.lookup e = some .globalImplicit := by rfl) (hl2 : Ng.length = 2 := by rfl) (hdef : defaultsOf params X.env = ([], []) := by rfl)
    (hbl : ∀ (q : Str) (cl : List (Str × Addr)) (pm cv ctv : Value), bindArgs (PySem.W.kla_fn "<lambda>" q params body scope cl pm cv ctv) ⟨[], []⟩ = pure [] := by intro _ _ _ _ _; rfl) (hg : Gl X x := by rfl) (hdb : (x == ("__debug__" : Str)) = false := by decide) (hda : (a == ("__debug__" : Str)) = false := by decide) (hcda : (a == ("__classdict__" : Str)) = false := by decide)
    (hde : (e == ("__debug__" : Str)) = false := by decide) (hdn : (n == ("__debug__" : Str)) = false := by decide) (hcdn : (n == ("__classdict__" : Str)) = false := by decide) :
    EX Z X (.Call (.Name x p) [.Lambda params body scope lpos] [] pos) (mHeard S0 S1 e mb) := by
  subst hK hM hA hq
  obtain ⟨g, fd, qn, CS, fI, F, hm, T, he1⟩ := T.ex
  obtain ⟨⟨oc, od, kV, doc, pm, an, cdv, ct, osl, rfl, lk, hcg⟩, kp⟩ := F
  intro W tk
  have hG : LamX.GivesTo X Ng x (defScope st) g cdv (defBody st) a (X.env.qual ++ "<lambda>") (TTh X.K CS S0 S1) := by
    rw [hbd]
    exact heard_gives T he1 hge hde Sg.nd hNn hln hdn hcdn hl2
  refine ⟨_, LamX.pe_lamcall (T := Z.tb) (t := fun E σ H Q => ∀ A outer s H0 f c', Room k (A.deeper (LamX.lamEnv X scope s.heap.objs.size f c')) → cE (LamX.lamCx X A outer s H0 E scope f c') body σ H Q) hg hm kp lk hcg (.all (hbind kV doc pm an cdv ct)) Sg hNa hva hG TB hcode hmT hu hr L hdef hbl
    (fun A outer s H E f c' hr2 => ⟨fun pins s' σ H' Q I h => h A outer s H f c' hr2 pins s' I⟩) hdb hda hcda, fun Γ σ H G F hf hgd => ?_⟩
  have key : ∀ H1, LamX.ExtN H H1 → LamX.Tabs Z.tb H1 → ∀ A outer s H0 E f c', Room k (A.deeper (LamX.lamEnv X scope s.heap.objs.size f c')) → EG Z X σ H1 G F (fun cls d _ H => E cls d H) (RO X) (cE (LamX.lamCx X A outer s H0 E scope f c') body) (mb Γ) := fun H1 eN T1 A outer s H0 E f c' hr2 => by
    have z := (hb A outer s H0 E f c' hr2).c (W := fun cls d _ H => E cls d H) (takes_of rfl rfl rfl rfl) Γ σ H1 G F (hf.ext (ext_N eN) (by simp) (by simp)) (good_N hgd eN T1)
    cases em : mb Γ with
    | stuck => trivial
    | ok o Γ1 => rw [em] at z; exact fun Q hq => z Q fun v H' G' Fo F' r a => hq v H' G' Fo F' r ⟨a.rel, a.good, a.ext, a.sub⟩
    | err y d Γ1 => rw [em] at z; exact fun hW Q => z (fun cls dd H' G' F' ex a => hW cls dd H' G' F' ex ⟨a.rel, a.good, a.ext, a.sub⟩) Q
  have tup2 : ∀ {H1 H' : Hp} {G' : Addr → Prop} {F' : List Addr} {Γ1 : Fr} {v : V} {d : D} {S : Str} {p : Addr} {Q : VK}, LamX.ExtN H H1 → Aft Z X σ H1 G F Γ1 H' G' [] F' → Rep X.K H' G' d v → H' p = none →
      (∀ v H' G' Fo F', RO X (.d (.tup [.str S, d])) v σ H' G' Fo → Aft Z X σ H G F Γ1 H' G' Fo F' → Q v H') → Q (.ref p) (upd H' p (.tup [.str S, v])) := fun {H1 H' G' F' Γ1 v d S p Q} eN a r hp hq => by
    have n : New H' G' (upd H' p (.tup [.str S, v])) (fun b => G' b ∨ b = p) [] := New.frozen hp (fun ps z => by cases z)
    have b := a.s.new n
    refine hq _ _ _ [] F' ⟨.tup (.inr rfl) (.inl upd_same) (.cons (.str S) (.cons (Rep.ext n.keeps _ _ r) .nil)), rfl⟩ ⟨b.rel, b.good, ((ext_N eN).mono (by simp)).trans (fun c h => .inl h) b.ext, fun c h => (b.sub c h).imp id fun z => (ext_N (G := G) eN).there c z⟩
  unfold mHeard
  cases em : mb Γ with
  | stuck => trivial
  | ok o Γ1 =>
    dsimp only
    cases ev : o.view with
    | none => trivial
    | some d =>
      intro Q hq
      refine ⟨hgd.tb, fun H1 eN T1 A outer s H0 f c' hr2 => ?_⟩
      have z := key H1 eN T1 A outer s H0 (fun cls d H' => cls = .ref CS ∧ ∃ dd v, d = some dd ∧ H' dd = some (.xd [(Str.ofString "thing", v)]) ∧ ∀ p, H' p = none → Q (.ref p) (upd H' p (.tup [.str S1, v]))) f c' hr2
      rw [em] at z
      refine z _ fun v H' G' Fo F' r a => ⟨(by show 2 ≤ sizeLine; decide), fun p hp => ?_⟩
      have ng : ∀ b ∈ Fo, ¬ G' b := fun b h => a.good.ng b (List.mem_append_left _ h)
      have rep := RelO.frz r ng ev
      have a' : Aft Z X σ H1 G F Γ1 H' (fun b => G' b ∨ b ∈ Fo) [] F' := ⟨RelF.ext Ext.frz ng (fun b hb hc => a.good.apart b hc hb) a.rel, a.good.frz, ⟨fun b h => .inl (a.ext.gg b h), a.ext.keep, fun b h => h.elim (a.ext.new b) fun z => .inr (a.sub b (List.mem_append_left _ z)), a.ext.there⟩, fun b h => a.sub b (List.mem_append_right _ h)⟩
      exact tup2 eN a' rep hp hq
  | err y d Γ1 =>
    dsimp only
    by_cases hy : y = e
    · rw [if_pos hy]
      subst hy
      intro Q hq
      refine ⟨hgd.tb, fun H1 eN T1 A outer s H0 f c' hr2 => ?_⟩
      have z := key H1 eN T1 A outer s H0 (fun cls d H' => cls = .ref CS ∧ ∃ dd v, d = some dd ∧ H' dd = some (.xd [(Str.ofString "thing", v)]) ∧ ∀ p, H' p = none → Q (.ref p) (upd H' p (.tup [.str S1, v]))) f c' hr2
      rw [em] at z
      refine z (fun cls dd H' G' F' hx a => ?_) _
      obtain ⟨C, b, v, h1, h2, h3, h4, h5, h6⟩ := hx
      rw [T.gC] at h1
      cases h1
      exact ⟨h2, b, v, h3, h4, fun p hp => tup2 eN a h6 hp hq⟩
    · rw [if_neg hy]
      trivial
end
end PL
end
section
set_option Elab.async false
set_option maxRecDepth 100000
set_option linter.all false
set_option maxHeartbeats 1000000
/-! PL20: dicts whose keys are tuples. -/
namespace PL
open PySem PySem.Spec PyProof.Rows L2
section
variable {P : Program} {w : World} {K : PySem.W.Frag} {H : Hp} {G : Addr → Prop} {h : Heap}
mutual
theorem rep_key (hok : HOk P w H h) (KX : K.In h) : ∀ (d : D) (v : V) (k : NestedKey) (u : Value), Rep K H G d v → nkey d = some k → RelV v u → NestedIs h k u
  | .non, _, _, _, r, e, q => by cases r; cases e; cases q; exact .none
  | .bl b, _, _, _, r, e, q => by cases r; cases e; cases q; exact .bool rfl
  | .int i, _, _, _, r, e, q => by cases r; cases e; obtain ⟨t, rfl⟩ := q; exact .int _ _
  | .str x, _, _, _, r, e, q => by cases r; cases e; obtain ⟨t, rfl⟩ := q; exact .text _ _
  | .tup xs, v, k, u, r, e, q => by
    obtain ⟨ks, e1, e2⟩ := Option.map_eq_some_iff.mp e
    subst e2
    have go : ∀ {a : Addr} {vs : List V}, v = .ref a → SqT K H a vs → Reps K H G xs vs → NestedIs h (.tup ks) u := fun {a vs} ev st rs => by
      subst ev
      cases q
      obtain ⟨its, o, n, hv, ho, hc, hd⟩ := sqT_at hok KX st
      exact .tup ho hc hd (reps_key hok KX xs vs ks its rs e1 hv)
    cases r with
    | tup g e s => exact go rfl (.inl e) s
    | tupW w s => exact go rfl w.sq s
  | .ty _, _, _, _, _, e, _ => by cases e
  | .ob _, _, _, _, _, e, _ => by cases e
  | .lst _, _, _, _, _, e, _ => by cases e
  | .dic _ _, _, _, _, _, e, _ => by cases e
  | .scr _, _, _, _, _, e, _ => by cases e
theorem reps_key (hok : HOk P w H h) (KX : K.In h) : ∀ (ds : List D) (vs : List V) (ks : List NestedKey) (us : List Value), Reps K H G ds vs → nkeys ds = some ks → Vals vs us → NestedAll h ks us
  | [], _, _, _, r, e, q => by cases r; cases e; cases q; exact .nil
  | d :: ds, _, _, _, r, e, q => by
    cases r with
    | cons r1 r2 =>
      cases q with
      | cons q1 q2 =>
        obtain ⟨k, e1, e2⟩ := Option.bind_eq_some_iff.mp e
        obtain ⟨ks, e3, e4⟩ := Option.map_eq_some_iff.mp e2
        subst e4
        exact .cons (rep_key hok KX d _ k _ r1 e1 q1) (reps_key hok KX ds _ ks _ r2 e3 q2)
end
end
abbrev PN (xs : List (NestedKey × Addr × V)) (ys : List (NestedKey × Addr × Value)) : Prop := Paired (fun p q => p.1 = q.1 ∧ p.2.1 = q.2.1 ∧ RelV p.2.2 q.2.2) xs ys
theorem pn_keys : ∀ {xs : List (NestedKey × Addr × V)} {ys : List (NestedKey × Addr × Value)}, PN xs ys → ys.map (·.1) = xs.map (·.1)
  | _, _, .nil => rfl
  | _, _, .cons r t => by rw [List.map_cons, List.map_cons, pn_keys t, r.1]
theorem pn_append {x : NestedKey × Addr × V} {y : NestedKey × Addr × Value} (r : x.1 = y.1 ∧ x.2.1 = y.2.1 ∧ RelV x.2.2 y.2.2) : ∀ {xs : List (NestedKey × Addr × V)} {ys : List (NestedKey × Addr × Value)}, PN xs ys → PN (xs ++ [x]) (ys ++ [y])
  | _, _, .nil => .cons r .nil
  | _, _, .cons q t => .cons q (pn_append r t)
theorem pn_mem : ∀ {xs : List (NestedKey × Addr × V)} {ys : List (NestedKey × Addr × Value)}, PN xs ys → ∀ y ∈ ys, ∃ x ∈ xs, x.1 = y.1 ∧ x.2.1 = y.2.1
  | _, _, .nil, _, h => by simp at h
  | _, _, .cons r t, y, h => by
    rcases List.mem_cons.mp h with rfl | h
    · exact ⟨_, List.mem_cons_self, r.1, r.2.1⟩
    · obtain ⟨x, h1, h2⟩ := pn_mem t y h
      exact ⟨x, List.mem_cons_of_mem _ h1, h2⟩
/-- the value at a key -/
def atN (xs : List (NestedKey × Addr × V)) (k : NestedKey) : Option V := (xs.find? fun x => decide (x.1 = k)).map (·.2.2)
theorem pn_find (k : NestedKey) : ∀ {xs : List (NestedKey × Addr × V)} {ys : List (NestedKey × Addr × Value)}, PN xs ys → match atKey ys k with
    | some p => ∃ v, atN xs k = some v ∧ RelV v p.2
    | none => atN xs k = none
  | _, _, .nil => rfl
  | _, _, .cons (a := x) (b := y) (l₁ := xs) (l₂ := ys) r t => by
    have ih := pn_find k t
    unfold atKey atN at ih ⊢
    by_cases e : y.1 = k
    · have e' : x.1 = k := r.1.trans e
      simp only [List.find?_cons, decide_eq_true e, decide_eq_true e', Option.map_some]
      exact ⟨_, rfl, r.2.2⟩
    · have e' : ¬ x.1 = k := fun z => e (r.1.symm.trans z)
      simp only [List.find?_cons, decide_eq_false e, decide_eq_false e']
      exact ih
/-- b is the key k, in whatever heap H tells -/
def NKey (X : Cx) (H : Hp) (k : NestedKey) (b : Addr) : Prop := k.depth ≤ 8 ∧ ∀ h, HOk X.prog X.w H h → X.K.In h → NestedIs h k (.ref b)
theorem nkey_of {X : Cx} {H : Hp} {G : Addr → Prop} {d : D} {b : Addr} {k : NestedKey} (r : Rep X.K H G d (.ref b)) (e : nkey d = some k) (hd : k.depth ≤ 8) : NKey X H k b := ⟨hd, fun h hok KX => rep_key hok KX d _ k _ r e rfl⟩
section
variable {X : Cx} {pins : List (Addr × Obj)} {σ : L2.St} {H : Hp} {s : Shared} {a : Addr} {xs : List (NestedKey × Addr × V)}
theorem nd_get (I : Inv X pins σ H s) (ha : H a = some (NDict X.prog X.w a xs)) (hk : ∀ x ∈ xs, NKey X H x.1 x.2.1) : xs.length ≤ sizeLine ∧ (a == sysModules) = false ∧ ∃ ys, PN xs ys ∧ s.heap.DictOfH (nestedKind X.prog X.w) a ys := by
  obtain ⟨⟨z, hs, nd, ys, hp, o, es, ep, h1, h2, h3, h4⟩, _⟩ := (show ObjOk X.prog X.w H s.heap a (NDict X.prog X.w a xs) from I.hok a _ ha)
  refine ⟨z, hs, ys, hp, o, es, ep, h1, h2, h3, h4, fun y hy => ?_, by rw [pn_keys hp]; exact nd⟩
  obtain ⟨x, hx, e1, e2⟩ := pn_mem hp y hy
  obtain ⟨k1, k2⟩ := hk x hx
  rw [← e1, ← e2]
  exact ⟨k2 s.heap I.hok I.kIn, k1⟩
theorem nd_new {P : Program} {w : World} {H : Hp} {h : Heap} {ys : List (NestedKey × Addr × Value)} (z : xs.length ≤ sizeLine) (hs : (a == sysModules) = false) (hp : PN xs ys) (hd : h.DictOfH (nestedKind P w) a ys) : ObjOk P w H h a (NDict P w a xs) := by
  obtain ⟨o, es, ep, h1, h2, h3, h4, _, nd⟩ := hd
  refine ⟨⟨z, hs, by rw [← pn_keys hp]; exact nd, ys, hp, o, es, ep, h1, h2, h3, h4⟩, ⟨o, h1⟩, fun g g' ⟨a1, a2, a3, ys', a4, o', es', ep', b1, b2⟩ k => ⟨a1, a2, a3, ys', a4, o', es', ep', k _ b1, b2⟩⟩
/-- len(d) -/
theorem call_lenN : CallR X (.builtin "len") (fun xs H Q => ∃ a kvs, xs = [V.ref a] ∧ H a = some (NDict X.prog X.w a kvs) ∧ (∀ x ∈ kvs, NKey X H x.1 x.2.1) ∧ Q (.int kvs.length) H) := by
  intro pins s σ H xs us Q I r h
  obtain ⟨a, kvs, rfl, ha, hk, q⟩ := h
  obtain ⟨u, rfl, ru⟩ := r.one
  cases ru
  obtain ⟨z, hs, ys, hp, hd⟩ := nd_get I ha hk
  have hT := hd.typeIs
  obtain ⟨o, es, ep, h1, h2, h3, h4, _⟩ := hd
  have hz : es.size = kvs.length := by rw [← Array.length_toList, h4, List.length_map, ← Paired.length hp]
  have lz : kvs.length < 2 ^ 63 := by rw [sizeLine_eq] at z; exact Nat.lt_of_le_of_lt z (by decide)
  refine Calls.call_function_entry kind_len plain_len entry_len (args_len1 _) ?_
  unfold Builtin.«len»
  refine wpAny_bind (m := oneArg "len" _) (wpAny_pure ?_)
  refine wpAny_bind (m := callSpecial? (.ref a) (Str.ofString "__len__")) (wpAny_callSpecial?_slot (name := Str.ofString "__len__") hT F.slot_dict_len (call_len_raw hs ⟨o, h1, h2, h3⟩ ?_))
  show wpAny _ _ _ _ _ { s with toks := s.toks + 1 }
  rw [hz]
  refine wpAny_bind (wpAny_holding (wpAny_pure ?_))
  refine wpAny_bind (wpAny_letGo ?_)
  show wpAny _ _ (if ((kvs.length : Nat) : Int) < 0 then _ else _) _ _ _
  rw [if_neg (by omega)]
  show wpAny _ _ (if ((kvs.length : Nat) : Int) ≥ 2 ^ 63 then _ else _) _ _ _
  rw [if_neg (by omega)]
  exact wpAny_bind (wpAny_mkInt (wpAny_pure ⟨_, rfl, ⟨.int kvs.length, H, I.tok _, ⟨_, rfl⟩, q⟩⟩))
end
end PL
end
section
set_option Elab.async false
set_option maxRecDepth 100000
set_option linter.all false
set_option maxHeartbeats 1000000
/-! PL21: d.setdefault(k, v), {}, len(dict(pairs)): keys that are tuples. -/
namespace PL
open PySem PySem.Spec PyProof.Rows L2
theorem RepN.length {K : PySem.W.Frag} {H : Hp} {G : Addr → Prop} : ∀ {kvs : List (D × D)} {xs : List (NestedKey × Addr × V)}, RepN K H G kvs xs → xs.length = kvs.length
  | _, _, .nil => rfl
  | _, _, .cons _ _ _ _ t => by rw [List.length_cons, List.length_cons, RepN.length t]
theorem RepN.keys {X : Cx} {H : Hp} {G : Addr → Prop} : ∀ {kvs : List (D × D)} {xs : List (NestedKey × Addr × V)}, RepN X.K H G kvs xs → ∀ x ∈ xs, NKey X H x.1 x.2.1
  | _, _, .nil, _, h => by simp at h
  | _, _, .cons e d r _ t, x, h => by
    rcases List.mem_cons.mp h with rfl | h
    · exact nkey_of r e d
    · exact RepN.keys t x h
def fndN (kvs : List (D × D)) (k : NestedKey) : Option D := (kvs.find? fun p => decide (nkey p.1 = some k)).map (·.2)
theorem RepN.find {K : PySem.W.Frag} {H : Hp} {G : Addr → Prop} (k : NestedKey) : ∀ {kvs : List (D × D)} {xs : List (NestedKey × Addr × V)}, RepN K H G kvs xs → match fndN kvs k with
    | some d => ∃ v, atN xs k = some v ∧ Rep K H G d v
    | none => atN xs k = none
  | _, _, .nil => rfl
  | _, _, .cons (kd := kd) (vd := vd) (k := k0) (b := b) (v := v) (xs := kvs) (ys := xs) e d r q t => by
    have ih := RepN.find k t
    unfold fndN atN at ih ⊢
    by_cases h : k0 = k
    · have h' : nkey kd = some k := by rw [e, h]
      simp only [List.find?_cons, decide_eq_true h, decide_eq_true h', Option.map_some]
      exact ⟨_, rfl, q⟩
    · have h' : ¬ nkey kd = some k := fun z => h (by rw [e] at z; exact Option.some.inj z)
      simp only [List.find?_cons, decide_eq_false h, decide_eq_false h']
      exact ih
theorem RepN.snoc {K : PySem.W.Frag} {H : Hp} {G : Addr → Prop} {kd vd : D} {k : NestedKey} {b : Addr} {v : V} (e : nkey kd = some k) (d : k.depth ≤ 8) (r : Rep K H G kd (.ref b)) (q : Rep K H G vd v) : ∀ {kvs : List (D × D)} {xs : List (NestedKey × Addr × V)}, RepN K H G kvs xs → RepN K H G (kvs ++ [(kd, vd)]) (xs ++ [(k, b, v)])
  | _, _, .nil => .cons e d r q .nil
  | _, _, .cons e' d' r' q' t => .cons e' d' r' q' (RepN.snoc e d r q t)
def rSetdN (X : Cx) : V → List V → Hp → VK → Prop := fun x vs H Q => ∃ (a : Addr) (xs : List (NestedKey × Addr × V)) (b : Addr) (k : NestedKey) (z : V), x = .ref a ∧ vs = [.ref b, z] ∧ H a = some (NDict X.prog X.w a xs) ∧ (∀ x ∈ xs, NKey X H x.1 x.2.1) ∧ NKey X H k b ∧ xs.length < sizeLine ∧
  (∀ v, atN xs k = some v → Q v H) ∧ (atN xs k = none → Q z (upd H a (NDict X.prog X.w a (xs ++ [(k, b, z)]))))
theorem mt_setdN {X : Cx} (hu : X.A.units + 64 < cLine) : MtR X "dict.setdefault" (rSetdN X) := by
  intro pins s σ H x xs v us Q I rx r h
  obtain ⟨a, ns, b, k, z, rfl, rfl, ha, hk, hkb, hl, h1, h2⟩ := h
  cases rx
  obtain ⟨u1, u2, rfl, ru1, ru2⟩ := r.two
  cases ru1
  obtain ⟨zl, hs, ys, hp, hd⟩ := nd_get I ha hk
  have hkey : (nestedKind X.prog X.w).is s.heap k b := ⟨hkb.2 s.heap I.hok I.kIn, hkb.1⟩
  refine call_setdefault_heap (show X.A.in1.units + 8 < cLine by rw [Around.in1_units]; omega) hkey hs hd (fun p hp2 => ?_) (fun hn h' hd' sb => ?_) (by rw [← Paired.length hp]; exact zl)
  · have z := pn_find k hp
    rw [hp2] at z
    obtain ⟨v, e1, e2⟩ := z
    exact (⟨v, H, I.tok _, e2, h1 v e1⟩ : L2.EP X pins σ Q p.2 _)
  · have y := pn_find k hp
    rw [hn] at y
    rw [storedH_new hn] at hd'
    refine (⟨z, _, d_write (t' := s.toks + _) I (by rw [ha]; exact True.intro) sb (let ⟨q, _, _, hq, _⟩ := hd'; ⟨q, hq⟩) (nd_new (by rw [List.length_append]; exact hl) hs (pn_append (x := (k, b, z)) (y := (k, b, u2)) ⟨rfl, rfl, ru2⟩ hp) hd'), ru2, h2 y⟩ : L2.EP X pins σ Q u2 _)
def tBMN (X : Cx) (r : V → List V → Hp → VK → Prop) (to : TE) (t : TA) : TE := fun σ H Q => to σ H fun x H1 => (∃ (a : Addr) (xs : List (NestedKey × Addr × V)), x = .ref a ∧ H1 a = some (NDict X.prog X.w a xs)) ∧ t σ H1 fun vs H2 => r x vs H2 Q
theorem pe_bmN {X : Cx} {name : Str} {id : String} {r : V → List V → Hp → VK → Prop} {o e : Expr} {es : List Expr} {to : TE} {t : TA} {apos cpos : Pos} (slot : PySem.Slot "dict" name id) (hty : typeOf (.builtin id) = pure (.type "method_descriptor")) (hm : MtR X id r) (ho : PE X o to) (ha : PA X (e :: es) t)
    (hbase : attributeBase o name X.env (eval o X.env) = eval o X.env := by rfl)
    (hfew : ((backTo cpos (starEach (e :: es) X.env)).all (fun x => !x.1) && (backToKw cpos (keywordEach [] X.env)).all (fun x => x.1.isSome)
      && decide ((e :: es).length + ([] : List Keyword).length + (if ([] : List Keyword).isEmpty then 0 else 1) < 30)) = true := by rfl)
    (hline : (apos.endLine == cpos.line) = true := by rfl) (hs : starEach (e :: es) X.env = (false, eval e X.env) :: starEach es X.env := by rfl) (hplain : (backTo cpos (starEach es X.env)).any (·.1) = false := by rfl) :
    PE X (.Call (.Attribute o name apos) (e :: es) [] cpos) (tBMN X r to t) := by
  refine ⟨fun pins s σ H Q I h => ?_⟩
  refine wpAny_Call_method_late hbase hfew hline rfl (thn (ho.run pins s σ H _ I h) fun v s1 ⟨x, H1, I1, r1, ⟨a, xs, ex, hx⟩, q1⟩ => ?_)
  subst ex
  cases r1
  obtain ⟨⟨_, _, _, ys, _, ob, es', ep, o1, o2, _⟩, _⟩ := (show ObjOk X.prog X.w H1 s1.heap a (NDict X.prog X.w a xs) from I1.hok a _ hx)
  refine ⟨"dict", id, PySem.F.plainAttrs_dict, slot, hty, ⟨ob, o1, o2.1⟩, fun b q => ?_, ?_⟩
  · cases q
    exact ⟨ob, o1, o2.2.1⟩
  have hA := ha.run cpos pins s1 σ H1 _ I1 q1
  rw [hs] at hA ⊢
  refine Calls.callWith_builtin (by show (false || (backTo cpos (starEach es X.env)).any (·.1)) = false; rw [hplain] <;> rfl) (Calls.evalArgs_plain ?_)
  exact thn hA fun us s2 ⟨vs, H2, I2, r2, q2⟩ => hm pins s2 σ H2 (.ref a) vs (.ref a) us Q I2 rfl r2 q2
def fSetd (kvs : List (D × D)) : List D → Option (List (D × D) × D)
  | [.tup ks, vd] => (nkey (.tup ks)).bind fun k => if k.depth ≤ 8 ∧ kvs.length < SZ then (match fndN kvs k with
    | some d => some (kvs, d)
    | none => some (kvs ++ [(.tup ks, vd)], vd)) else none
  | _ => none
open Classical in
noncomputable def mOwnN (P : Program) (w : World) (i : Nat) : M Opd := fun Γ => match Γ[i]? with
  | some (some (.on P' w' _)) => if P' = P ∧ w' = w then .ok (.bor i) Γ else .stuck
  | _ => .stuck
open Classical in
noncomputable def kSetd (P : Program) (w : World) (q : Opd × List D) : M O := fun Γ => match q.1 with
  | .bor i => (match Γ[i]? with
    | some (some (.on P' w' kvs)) => if P' = P ∧ w' = w then (match fSetd kvs q.2 with
      | some (ys, y) => .ok (.d y) (Γ.set i (some (.on P w ys)))
      | none => .stuck) else .stuck
    | _ => .stuck)
  | _ => .stuck
noncomputable def mSetd (P : Program) (w : World) (i : Nat) (m : M (List D)) : M O := (M.pair (mOwnN P w i) m).bind (kSetd P w)
section
variable {Z : Zone} {X : Cx} {W : WX} {x : Str} {e f : Expr} {es : List Expr} {p apos cpos pos : Pos}
theorem does_ownN {i : Nat} (hN : X.N[i]? = some x) : Does Z X W (RP X) (fun σ H Q => tVar i σ H fun x H1 => (∃ (a : Addr) (xs : List (NestedKey × Addr × V)), x = .ref a ∧ H1 a = some (NDict X.prog X.w a xs)) ∧ Q x H1) (mOwnN X.prog X.w i) := by
  intro Γ σ H G F hf hg
  unfold mOwnN
  split
  · rename_i P w xs eo
    split
    · rename_i pw
      obtain ⟨rfl, rfl⟩ := pw
      intro Q hq
      obtain ⟨v, Fi, b1, b2, _⟩ := hf.at eo hg.nd hg.ng
      obtain ⟨a, vs, rfl, h1, h2, _⟩ := b2
      exact ⟨_, b1, ⟨a, vs, rfl, h1⟩, hq _ H G [] F ⟨b1, rfl⟩ (Aft.same hf hg)⟩
    · trivial
  · trivial
theorem nd_ne {P : Program} {w : World} {l c : Addr} {xs : List (NestedKey × Addr × V)} {q : Str} (e : c = l) : NDict P w l xs ≠ LamX.CodeO c q := by
  subst e
  intro z
  unfold NDict LamX.CodeO at z
  injection z with z
  let ob : Obj := { cls := .none, data := .fields #[.none, .str q 0] }
  let h : Heap := { objs := Array.replicate (c + 1) ob }
  have hg : h.get? c = some ob := by
    show (match (Array.replicate (c + 1) ob)[c]? with
      | some ⟨_, _, .freed, _⟩ => none
      | o => o) = some ob
    rw [Array.getElem?_replicate, if_pos (Nat.lt_succ_self c)]
  have t : (fun h : Heap => ∃ (oc : Obj) (vs : Array Value) (t : Tok), h.get? c = some oc ∧ oc.data = .fields vs ∧ vs[1]? = some (.str q t)) h := ⟨ob, _, 0, hg, rfl, rfl⟩
  rw [← z] at t
  obtain ⟨_, _, _, ys, _, o, es, ep, h1, _, h3, _⟩ := t
  rw [hg] at h1
  cases h1
  cases h3
theorem Good.updN {P P' : Program} {w w' : World} {H : Hp} {G : Addr → Prop} {F : List Addr} {l : Addr} {xs ys : List (NestedKey × Addr × V)} (g : Good Z H G F) (h1 : l ∈ F) (hl : H l = some (NDict P w l xs)) : Good Z (L2.upd H l (NDict P' w' l ys)) G F := by
  have n1 : ∀ a ∈ [l], ¬ G a := fun a ha => by simp at ha; subst ha; exact g.ng _ h1
  have ex : PL.Ext H G [l] (L2.upd H l (NDict P' w' l ys)) G := ext_upd (fun ps z => by cases z)
  refine ⟨g.nd, g.ng, fun a ha => ?_, fun a ha => ?_, Z.stab _ _ _ _ g.st (ex.keeps n1), ?_⟩
  · obtain ⟨o, e, tb⟩ := g.gh a ha
    exact ⟨o, ex.keep a o e (fun z => n1 a z ha) tb, tb⟩
  · by_cases e : a = l
    · subst e; exact ⟨_, upd_same, fun ps z => by cases z⟩
    · rw [upd_ne e]; exact g.fh a ha
  · intro p hp
    obtain ⟨ps, q1, q2, q3⟩ := g.tb p hp
    refine ⟨ps, ?_, q2, fun pos cv hcv => ?_⟩
    · rw [upd_ne (fun z => by rw [z, hl] at q1; cases q1)]; exact q1
    · obtain ⟨c, e1, e2⟩ := q3 pos cv hcv
      refine ⟨c, e1, ?_⟩
      rw [upd_ne (fun z => by
        have e3 : some (NDict P w l xs) = some (LamX.CodeO c p.2) := by rw [← hl, ← e2, z]
        exact nd_ne z (Option.some.inj e3))]
      exact e2
theorem fSetd_inv {kvs ys : List (D × D)} {ds : List D} {y : D} (e : fSetd kvs ds = some (ys, y)) : ∃ ks vd k, ds = [.tup ks, vd] ∧ nkey (.tup ks) = some k ∧ k.depth ≤ 8 ∧ kvs.length < SZ ∧ ((∃ d, fndN kvs k = some d ∧ ys = kvs ∧ y = d) ∨ (fndN kvs k = none ∧ ys = kvs ++ [(.tup ks, vd)] ∧ y = vd)) := by
  unfold fSetd at e
  split at e
  · rename_i ks vd
    obtain ⟨k, e1, e2⟩ := Option.bind_eq_some_iff.mp e
    split at e2
    · rename_i hc
      split at e2
      · rename_i d ed
        cases e2
        exact ⟨ks, vd, k, rfl, e1, hc.1, hc.2, .inl ⟨_, ed, rfl, rfl⟩⟩
      · rename_i ed
        cases e2
        exact ⟨ks, _, k, rfl, e1, hc.1, hc.2, .inr ⟨ed, rfl, rfl⟩⟩
    · cases e2
  · cases e
theorem doesK_setd {q : Opd × List D} : DoesK Z X W (RRp (RP X) (RDs X)) (RO X) q (fun vs _ H Q => rSetdN X vs.1 vs.2 H Q) (kSetd X.prog X.w q) := by
  rintro ⟨v, vs⟩ Γ σ H G Fo F ⟨F1, F2, h1, ⟨h2, rfl⟩, rfl⟩ hf hg
  obtain ⟨q1, ds⟩ := q
  cases q1 with
  | sol o => trivial
  | bor i =>
  obtain ⟨hv, rfl⟩ := h1
  unfold kSetd
  dsimp only
  split
  · rename_i P' w' xs ei
    split
    · rename_i pw
      obtain ⟨rfl, rfl⟩ := pw
      split
      · rename_i ys y ef
        obtain ⟨A, Fi, B, e, a1, a2, a3, a4⟩ := hf.slot (List.getElem?_eq_some_iff.mp ei).1 hg.right.nd hg.right.ng
        obtain ⟨v', b1, b2⟩ := a1 _ ei
        rw [show σ[i]? = some (some v) from hv] at b1
        cases b1
        have es : σ.set i (some v) = σ := by
          obtain ⟨hl, e⟩ := List.getElem?_eq_some_iff.mp (show σ[i]? = some (some v) from hv)
          rw [← e]; exact List.set_getElem_self hl
        subst e
        obtain ⟨l, ns, rfl, c1, c2, rfl⟩ := b2
        have gF := hg.right
        have hlF : l ∈ A ++ ([l] ++ B) := by simp
        have ng : ¬ G l := gF.ng l hlF
        obtain ⟨ks, vd, k, rfl, ek, hd, hz, hor⟩ := fSetd_inv ef
        cases h2 with
        | cons r1 h2 => cases h2 with
          | cons r2 h2 => cases h2; exact (by
            rename_i v1 v2
            obtain ⟨b, rfl⟩ : ∃ b, v1 = .ref b := by cases r1 <;> exact ⟨_, rfl⟩
            intro Q hQ
            have fd := RepN.find k c2
            refine ⟨l, ns, b, k, v2, rfl, rfl, c1, c2.keys, nkey_of r1 ek hd, by rw [c2.length, sizeLine_eq]; exact hz, fun u hu => ?_, fun hn => ?_⟩
            · rcases hor with ⟨d, e1, e2, e3⟩ | ⟨e1, e2, e3⟩
              · rw [e1] at fd
                obtain ⟨v, f1, f2⟩ := fd
                rw [hu] at f1
                cases f1
                subst e2 e3
                have rel := a3 H G (.on X.prog X.w ys) (.ref l) [l] Ext.refl ⟨l, ns, rfl, c1, c2, rfl⟩
                rw [es] at rel
                exact hQ _ H G [] (A ++ ([l] ++ B)) ⟨f2, rfl⟩ ⟨rel, gF, Ext.refl, fun a ha => .inl ha⟩
              · rw [e1] at fd
                rw [hu] at fd
                cases fd
            · rcases hor with ⟨d, e1, e2, e3⟩ | ⟨e1, e2, e3⟩
              · rw [e1] at fd
                obtain ⟨v, f1, f2⟩ := fd
                rw [hn] at f1
                cases f1
              · subst e2 e3
                have ex : PL.Ext H G [l] (upd H l (NDict X.prog X.w l (ns ++ [(k, b, v2)]))) G := ext_upd (fun ps z => by cases z)
                have n1 : ∀ a ∈ [l], ¬ G a := fun a ha => by simp at ha; subst ha; exact ng
                have kk := ex.keeps n1
                have rel := a3 (upd H l (NDict X.prog X.w l (ns ++ [(k, b, v2)]))) G (.on X.prog X.w (xs ++ [(.tup ks, y)])) (.ref l) [l] ex ⟨l, _, rfl, upd_same, RepN.snoc ek hd (Rep.ext kk _ _ r1) (Rep.ext kk _ _ r2) (RepN.ext kk c2), rfl⟩
                rw [es] at rel
                exact hQ _ _ G [] (A ++ ([l] ++ B)) ⟨Rep.ext kk _ _ r2, rfl⟩ ⟨rel, gF.updN hlF c1, ex.mono (fun a ha => .inl (by simp at ha; subst ha; simp)), fun a ha => .inl ha⟩)
      · trivial
    · trivial
  · trivial
/-- name.setdefault(k, v) -/
theorem ex_setd (i : Nat) {m : M (List D)} (hu : X.A.units + 64 < cLine) (ha : AD Z X (e :: es) m) (hN : X.N[i]? = some x := by rfl) (hv : Vis X.env.scope x := by first | exact Or.inl rfl | exact Or.inr (Or.inl rfl) | exact Or.inr (Or.inr rfl)) (hd : (x == ("__debug__" : Str)) = false := by decide)
    (hcd : (x == ("__classdict__" : Str)) = false := by decide) (hbase : attributeBase (.Name x p) "setdefault" X.env (eval (.Name x p) X.env) = eval (.Name x p) X.env := by rfl)
    (hfew : ((backTo cpos (starEach (e :: es) X.env)).all (fun x => !x.1) && (backToKw cpos (keywordEach [] X.env)).all (fun x => x.1.isSome)
      && decide ((e :: es).length + ([] : List Keyword).length + (if ([] : List Keyword).isEmpty then 0 else 1) < 30)) = true := by rfl)
    (hline : (apos.endLine == cpos.line) = true := by rfl) (hs : starEach (e :: es) X.env = (false, eval e X.env) :: starEach es X.env := by rfl) (hplain : (backTo cpos (starEach es X.env)).any (·.1) = false := by rfl) {P : Program} {w : World} (hP : X.prog = P := by rfl) (hw : X.w = w := by rfl) :
    EX Z X (.Call (.Attribute (.Name x p) "setdefault" apos) (e :: es) [] cpos) (mSetd P w i m) := by
  subst hP hw
  intro W tk
  obtain ⟨t, ht, hd'⟩ := ha W tk
  exact ⟨_, pe_bmN PySem.F.slot_dict_setdefault PySem.F.type_dict_setdefault (mt_setdN hu) (pe_var hN hv hd hcd) ht hbase hfew hline hs hplain, (Does.pair RP.stable (does_ownN (Z := Z) hN) hd').bind (tk := fun vs _ H Q => rSetdN X vs.1 vs.2 H Q) fun q => doesK_setd⟩
end
end PL
end
section
set_option Elab.async false
set_option maxRecDepth 100000
set_option linter.all false
set_option maxHeartbeats 1000000
/-! PL22: {} and len(dict(pairs)): keys that are tuples. -/
namespace PL
open PySem PySem.Spec PyProof.Rows L2
/-- the pairs of dict(..) -/
inductive PsN (X : Cx) (H : Hp) : List V → List (NestedKey × Addr × V) → Prop
  | nil : PsN X H [] []
  | cons {t b : Addr} {v : V} {k : NestedKey} {vs : List V} {ns : List (NestedKey × Addr × V)} : SqT X.K H t [.ref b, v] → NKey X H k b → PsN X H vs ns → PsN X H (.ref t :: vs) ((k, b, v) :: ns)
theorem PsN.keys {X : Cx} {H : Hp} : ∀ {vs : List V} {ns : List (NestedKey × Addr × V)}, PsN X H vs ns → ∀ x ∈ ns, NKey X H x.1 x.2.1
  | _, _, .nil, _, h => by simp at h
  | _, _, .cons _ q t, x, h => by
    rcases List.mem_cons.mp h with rfl | h
    · exact q
    · exact PsN.keys t x h
theorem psN_vals {X : Cx} {H : Hp} {h : Heap} (hok : HOk X.prog X.w H h) (KX : X.K.In h) : ∀ {vs : List V} {ns : List (NestedKey × Addr × V)} {its : List Value}, PsN X H vs ns → Vals vs its → ∃ (Ts : List Addr) (ys : List (NestedKey × Addr × Value)), its = Ts.map Value.ref ∧ PN ns ys ∧ Paired (fun T (y : NestedKey × Addr × Value) => PairAt h T (.ref y.2.1) y.2.2) Ts ys
  | _, _, _, .nil, .nil => ⟨[], [], rfl, .nil, .nil⟩
  | _, _, _, .cons st q t, .cons r rs => by
    obtain ⟨Ts, ys, e1, e2, e3⟩ := psN_vals hok KX t rs
    obtain ⟨is, o, n, hv, ho, hc, hd⟩ := sqT_at hok KX st
    rename_i T b v k _ _ _ _
    obtain ⟨u1, u2, rfl, ru1, ru2⟩ := hv.two
    cases ru1
    cases r
    exact ⟨T :: Ts, (k, b, u2) :: ys, by rw [e1]; rfl, .cons ⟨rfl, rfl, ru2⟩ e2, .cons (.inl ⟨o, ho, hc, n, hd⟩) e3⟩
theorem paired_at {α β : Type} {F : α → β → Prop} : ∀ {xs : List α} {ys : List β}, Paired F xs ys → ∀ {j : Nat} {y : β}, ys[j]? = some y → ∃ x, xs[j]? = some x ∧ F x y
  | _, _, .nil, _, _, h => by simp at h
  | _, _, .cons r t, 0, _, h => by simp at h; subst h; exact ⟨_, rfl, r⟩
  | _, _, .cons r t, j + 1, _, h => by
    obtain ⟨x, h1, h2⟩ := paired_at t (j := j) (by simpa using h)
    exact ⟨x, by simpa using h1, h2⟩
theorem storedAllH_nodup {K : Type} [DecidableEq K] : ∀ (ys acc : List (K × Addr × Value)), ((acc ++ ys).map (·.1)).Nodup → storedAllH acc ys = acc ++ ys
  | [], acc, _ => by rw [List.append_nil]; rfl
  | y :: ys, acc, h => by
    have e : atKey acc y.1 = none := by
      unfold atKey
      rw [List.find?_eq_none.mpr (fun x hx => ?_)]
      · rfl
      · intro z
        have z' : x.1 = y.1 := of_decide_eq_true z
        rw [List.map_append, List.nodup_append] at h
        exact h.2.2 x.1 (List.mem_map.mpr ⟨x, hx, rfl⟩) y.1 (by simp) z'
    show storedAllH (storedH acc y.1 y.2.1 y.2.2) ys = _
    rw [storedH_new e]
    have e2 : acc ++ [(y.1, y.2.1, y.2.2)] ++ ys = acc ++ y :: ys := by rw [List.append_assoc]; rfl
    rw [storedAllH_nodup ys _ (by rw [e2]; exact h), e2]
def rDictN (X : Cx) : List V → Hp → VK → Prop := fun xs H Q => ∃ (a : Addr) (vs : List V) (ns : List (NestedKey × Addr × V)), xs = [.ref a] ∧ H a = some (.lst vs) ∧ PsN X H vs ns ∧ (ns.map (·.1)).Nodup ∧ ∀ p, H p = none → Q (.ref p) (upd H p (NDict X.prog X.w p ns))
theorem call_dictN {X : Cx} (hc : X.calm = true) (hu : X.A.units + 64 < cLine) : CallR X (.type "dict") (rDictN X) := by
  intro pins s σ H xs us Q I r h
  obtain ⟨a, vs, ns, rfl, ha, hp, nd, q⟩ := h
  obtain ⟨u, rfl, ru⟩ := r.one
  cases ru
  obtain ⟨zl, its, n, rv, hl, e⟩ := I.lstM ha
  obtain ⟨Ts, ys, e1, e2, e3⟩ := psN_vals I.hok I.kIn hp rv
  have ly : ys.length = ns.length := (Paired.length e2).symm
  have lT : Ts.length = ys.length := Paired.length e3
  have lv : its.length = Ts.length := by rw [e1, List.length_map]
  have ndy : (ys.map (·.1)).Nodup := by rw [pn_keys e2]; exact nd
  have items : PairItems s.heap its.toArray (fun j => Ts.getD j 0) (ys.map fun y => (Value.ref y.2.1, y.2.2)) := by
    refine ⟨by rw [List.size_toArray, List.length_map, lv, lT], fun j k v hj => ?_⟩
    rw [List.getElem?_map] at hj
    obtain ⟨y, hy, ey⟩ := Option.map_eq_some_iff.mp hj
    cases ey
    obtain ⟨T, hT, hpa⟩ := paired_at e3 hy
    have eT : Ts.getD j 0 = T := by rw [List.getD_eq_getElem?_getD, hT]; rfl
    refine ⟨?_, by show PairAt s.heap (Ts.getD j 0) _ _; rw [eT]; exact hpa⟩
    show _ = some (Value.ref (Ts.getD j 0))
    rw [List.getElem?_toArray, e1, List.getElem?_map, hT, eT]
    rfl
  refine call_dict_pairsH (knd := nestedKind X.prog X.w) (ps := ys) (PairArg.list a its.toArray (fun j => Ts.getD j 0) (ys.map fun y => (Value.ref y.2.1, y.2.2))) (I.ok.hd hc) (show X.A.in1.in1.units + 8 < cLine by rw [Around.in1_units, Around.in1_units]; omega) ⟨⟨_, n, e, rfl, rfl, rfl⟩, items⟩ ⟨by rw [List.length_map], fun i key v hr => ?_⟩ (fun h' hk y hy => ?_) ?_ fun h' tk hd' hk => ?_
  · have hr' : (ys.map fun y => (Value.ref y.2.1, y.2.2))[i]? = some (key, v) := hr
    rw [List.getElem?_map] at hr'
    obtain ⟨y, hy, ey⟩ := Option.map_eq_some_iff.mp hr'
    cases ey
    exact ⟨y.1, y.2.1, hy, rfl⟩
  · obtain ⟨x, hx, f1, f2⟩ := pn_mem e2 y hy
    obtain ⟨k1, k2⟩ := hp.keys x hx
    rw [← f1, ← f2]
    exact ⟨NestedIs.at (fun b o _ _ hb _ => hk b o (Nat.ne_of_lt (Heap.lt_size hb)) (fun z => nomatch z) hb) _ _ (k2 s.heap I.hok I.kIn), k1⟩
  · rw [List.length_map, ← lT, ← lv, ← Vals.length rv]
    exact zl
  · rw [storedAllH_nodup ys [] (by simpa using ndy), List.nil_append] at hd'
    have lz : ns.length ≤ sizeLine := by rw [← ly, ← lT, ← lv, ← Vals.length rv]; exact zl
    have hbig : (s.heap.objs.size == sysModules) = false := by
      have := (dk_empty (P := X.prog) (w := X.w) (H := H) s.heap I.big).2.1
      exact this
    exact (⟨.ref s.heap.objs.size, _, I.laid (t' := tk) (a := s.heap.objs.size) (o := NDict X.prog X.w s.heap.objs.size ns) (fun b o e => hk b o (fun z => nomatch z) e) (Nat.le_refl _) (nd_new lz hbig e2 hd'), rfl, q _ (I.hok.fresh (Nat.le_refl _))⟩ : L2.EP X pins σ Q _ _)
/-- {} -/
def tDNewN (X : Cx) : TE := fun _ H Q => ∀ p, H p = none → Q (.ref p) (upd H p (NDict X.prog X.w p []))
theorem pe_dnewN {X : Cx} {pos : Pos} : PE X (.Dict [] [] pos) (tDNewN X) := ⟨fun pins s σ H Q I h =>
  wpAny_Dict_empty ⟨.ref s.heap.objs.size, _, I.laid (a := s.heap.objs.size) (o := NDict X.prog X.w s.heap.objs.size []) (t' := s.toks) (fun _ _ q => Heap.get?_push_of_some _ q) (Nat.le_refl _) (nd_new (Nat.zero_le _) (dk_empty (P := X.prog) (w := X.w) (H := H) s.heap I.big).2.1 .nil (Heap.DictOfH.new s.heap)), rfl, h _ (I.hok.fresh (Nat.le_refl _))⟩⟩
section
variable {Z : Zone} {X : Cx} {W : WX} {e : Expr} {p p2 pos pos2 : Pos}
theorem ex_dictN {P : Program} {w : World} (hP : X.prog = P := by rfl) (hw : X.w = w := by rfl) : EX Z X (.Dict [] [] pos) (M.pure (.on P w [])) := by
  subst hP hw
  intro W tk
  refine ⟨_, pe_dnewN, fun Γ σ H G F hf hgd Q hq p hp => ?_⟩
  have n : New H G (upd H p (NDict X.prog X.w p [])) G [p] := New.owned hgd.gh hp (fun ps z => by cases z)
  refine hq (.ref p) _ G [p] F ⟨p, [], rfl, upd_same, .nil, rfl⟩ ⟨hf.ext (n.ext (F := [])) (by simp) (by simp), n.good hgd, n.ext, fun a ha => ?_⟩
  rcases List.mem_append.mp ha with z | z
  · exact .inr (.of (n.fo a z).1)
  · exact .inl z
def pairsN : List D → Option (List NestedKey)
  | [] => some []
  | .tup [.tup ks, _] :: r => (nkey (.tup ks)).bind fun k => if k.depth ≤ 8 then (pairsN r).map fun t => k :: t else none
  | _ => none
def nodupB : List NestedKey → Bool
  | [] => true
  | k :: ks => ks.all (fun j => !NestedKey.beq j k) && nodupB ks
theorem nodupB_ok : ∀ {ks : List NestedKey}, nodupB ks = true → ks.Nodup
  | [], _ => List.nodup_nil
  | k :: ks, h => by
    unfold nodupB at h
    rw [Bool.and_eq_true] at h
    refine List.nodup_cons.mpr ⟨fun m => ?_, nodupB_ok h.2⟩
    have z := List.all_eq_true.mp h.1 k m
    rw [NestedKey.beq_self] at z
    cases z
def fLenDict : List D → Option O
  | [.lst ds] => (pairsN ds).bind fun ks => if nodupB ks then some (.d (.int ds.length)) else none
  | _ => none
theorem pairsN_ps {H : Hp} {G : Addr → Prop} : ∀ {ds : List D} {vs : List V} {ks : List NestedKey}, Reps X.K H G ds vs → pairsN ds = some ks → ∃ ns, PsN X H vs ns ∧ ns.map (·.1) = ks ∧ ns.length = ds.length
  | [], _, _, .nil, e => by cases e; exact ⟨[], .nil, rfl, rfl⟩
  | d :: ds, _, ks, .cons r t, e => by
    unfold pairsN at e
    split at e
    · rename_i he; cases he
    · rename_i kt vd rr he
      cases he
      obtain ⟨k, e1, e2⟩ := Option.bind_eq_some_iff.mp e
      split at e2
      · rename_i hd
        obtain ⟨kt', e3, e4⟩ := Option.map_eq_some_iff.mp e2
        subst e4
        obtain ⟨ns, a1, a2, a3⟩ := pairsN_ps t e3
        obtain ⟨a, ws, rfl, st, rs⟩ := (VW.of r).tup
        cases rs with
        | cons r1 rs => cases rs with
          | cons r2 rs => cases rs; exact (by
              rename_i v1 v2
              obtain ⟨b, rfl⟩ : ∃ b, v1 = .ref b := by cases r1 <;> exact ⟨_, rfl⟩
              exact ⟨(k, b, v2) :: ns, .cons st (nkey_of r1 e1 hd) a1, by rw [List.map_cons, a2], by rw [List.length_cons, List.length_cons, a3]⟩)
      · cases e2
    · cases e
def rLenN (X : Cx) : List V → Hp → VK → Prop := fun xs H Q => ∃ (a : Addr) (kvs : List (NestedKey × Addr × V)), xs = [V.ref a] ∧ H a = some (NDict X.prog X.w a kvs) ∧ (∀ x ∈ kvs, NKey X H x.1 x.2.1) ∧ Q (.int kvs.length) H
theorem hok_drop {P : Program} {w : World} {H : Hp} {h : Heap} {q : Addr} {ns : List (NestedKey × Addr × V)} (hp : H q = none) (k : HOk P w (upd H q (NDict P w q ns)) h) : HOk P w H h := fun a u e => by
  have z := k a u (by rw [upd_ne (ne_of_none e hp)]; exact e)
  refine z.stay (fun _ _ _ e => e) (fun b hb => ?_) fun b xs hb => ?_
  · by_cases f : b = q
    · subst f; rw [upd_same] at hb; cases hb
    · rw [upd_ne f] at hb; exact hb
  · by_cases f : b = q
    · subst f; rw [upd_same] at hb; cases hb
    · rw [upd_ne f] at hb; exact hb
theorem ex_lenDict {m : M (List Opd)} {x y : Str} (hc : X.calm = true) (hu : X.A.units + 64 < cLine) (hm : X.mg x = none) (hm2 : X.mg y = none) (hv : bootBuiltins x = some (.builtin "len")) (hv2 : bootBuiltins y = some (.type "dict")) (ha : AP Z X [e] m) (hg : Gl X x := by rfl) (hg2 : Gl X y := by rfl) (hn : x ≠ "__name__" := by decide) (hn2 : y ≠ "__name__" := by decide) (hdb : (x == ("__debug__" : Str)) = false := by decide) (hdb2 : (y == ("__debug__" : Str)) = false := by decide)
    (he : starEach [e] X.env = (false, eval e X.env) :: starEach [] X.env := by rfl) (hpl : (backTo pos2 (starEach [] X.env)).any (·.1) = false := by rfl)
    (he2 : starEach [.Call (.Name y p2) [e] [] pos2] X.env = (false, eval (.Call (.Name y p2) [e] [] pos2) X.env) :: starEach [] X.env := by rfl) (hpl2 : (backTo pos (starEach [] X.env)).any (·.1) = false := by rfl) :
    EX Z X (.Call (.Name x p) [.Call (.Name y p2) [e] [] pos2] [] pos) (mCall fLenDict m) := by
  intro W tk
  obtain ⟨ta, pa, da⟩ := ha W tk
  refine ⟨_, pe_callB (r := rLenN X) call_lenN hg hm hv (pa_cons (pe_callTy (call_dictN hc hu) hg2 hm2 hv2 pa hn2 hdb2 he hpl) pa_nil he2) hn hdb he2 hpl2,
    (show Does Z X W (RO X) (fun σ H Q => ta σ H fun us H1 => rDictN X us H1 fun v H2 => rLenN X [v] H2 Q) (mCall fLenDict m) from da.bind (tk := fun us _ H Q => rDictN X us H fun v H2 => rLenN X [v] H2 Q) fun p => doesK_opn (r := fun us H Q => rDictN X us H fun v H2 => rLenN X [v] H2 Q) (fun H G xs ds o Q g hx ef hq => ?_) p)⟩
  unfold fLenDict at ef
  split at ef
  · rename_i ds
    obtain ⟨ks, e1, e2⟩ := Option.bind_eq_some_iff.mp ef
    split at e2
    · rename_i hnd
      cases e2
      cases hx with
      | cons h1 h2 =>
        cases h2
        obtain ⟨a, vs, rfl, a1, a2⟩ := h1.lst'
        obtain ⟨ns, b1, b2, b3⟩ := pairsN_ps a2 e1
        refine ⟨a, vs, ns, rfl, a1, b1, by rw [b2]; exact nodupB_ok hnd, fun q hp => ?_⟩
        have n : New H G (upd H q (NDict X.prog X.w q ns)) G [] := ⟨fun c u h => by rw [upd_ne (ne_of_none h hp)]; exact h, fun _ h => h, fun _ h => .inl h, List.nodup_nil, fun _ h => by simp at h⟩
        have := hq (.int ns.length) (upd H q (NDict X.prog X.w q ns)) G [] ⟨by rw [b3]; exact .int _, rfl⟩ n
        exact ⟨q, ns, rfl, upd_same, fun x hx => ⟨(b1.keys x hx).1, fun h hok KX => (b1.keys x hx).2 h (hok_drop hp hok) KX⟩, this⟩
    · cases e2
  · cases ef
end
end PL
end
section
set_option Elab.async false
set_option maxRecDepth 100000
set_option linter.all false
set_option maxHeartbeats 1000000
/-! PL23: a family's def whose code object is known (it makes lambdas). -/
namespace PL
open PySem PySem.Spec PyProof.Rows L2
def FunAt (K : PySem.W.Frag) (mg : Str → Option Value) (x : Str) (st : Stmt) (c : Addr) : Prop :=
  ∃ (a : Addr) (oc : Value) (od : Option Addr) (kV doc pm : Value) (an : Option Addr) (ct : Value) (osl : Array (Option Value)),
    K.lookup a = some ⟨oc, od, .func (PySem.W.fnOf x x (defArgs st) (defBody st) (defScope st) .none kV doc pm an (.ref c) ct), osl⟩ ∧ PySem.W.codeIn K (.ref c) x = true ∧ PySem.W.keepIn K (.ref a) = true ∧ mg x = some (.ref a)
section
variable {P : Program} {w : World} {K : PySem.W.Frag} {mg : Str → Option Value} {base : Heap} {Z : Zone}
theorem fcF_okC {x : Str} {st : Stmt} {c : Addr} {N ps : List Str} {k : Nat} {m : Fam Fl} {f : Addr → Addr → FSem} (ex : FunAt K mg x st c) (S : FnScope N ps (defScope st))
    (hbind : ∀ (kV doc pm : Value) (an : Option Addr) (cdv ct : Value) (us : List Value), us.length = ps.length → bindArgs (PySem.W.fnOf x x (defArgs st) (defBody st) (defScope st) .none kV doc pm an cdv ct) ⟨us, []⟩ = pure (ps.zip us))
    (hb : ∀ (a : Addr) (A : Around) (outer : List Env) (s : Shared) (H : Hp) (E : XK), Room k (A.deeper (envOfC x (defScope st) s.heap.objs.size a (.ref c))) → BXF Z (cxOf (L2.CX P w) P w K mg base N x (defScope st) a (.ref c) A outer s H E) (defBody st) m)
    (he : (fun p b => fnSem N.length (m p b)) = f) : FCF P w K mg base Z (k + 1) x st ps f := by
  obtain ⟨a, oc, od, kV, doc, pm, an, ct, osl, lk, hcd, hk, hm⟩ := ex
  subst he
  have F : Fun K x x st a (PySem.W.fnOf x x (defArgs st) (defBody st) (defScope st) .none kV doc pm an (.ref c) ct) := ⟨⟨oc, od, kV, doc, pm, an, .ref c, ct, osl, rfl, lk, hcd⟩, hk⟩
  refine ⟨a, _, fn_of lk hcd S (fun vs H Q E h => ?_) (fun A outer s H vs Q E hr h => ?_), hm, F.kp, F.binds hbind, F⟩
  · obtain ⟨_, _, _, _, _, _, _, hl, _⟩ := h
    exact hl
  · obtain ⟨G, F, k, ds, vk, us, rfl, hl, hk, hr', hg, h⟩ := h
    obtain ⟨t, ht, hd⟩ := hb a A outer s H E hr (fun cls d _ H => E cls d H) (takes_of rfl rfl rfl rfl)
    exact ⟨t, ht, hd _ _ H G F (relF_start (N := N) hk hr') hg _ fun p b => fEnd_fin (n := N.length) hk (fun _ _ q => q) rfl (h p b)⟩
end
end PL
end
section
set_option Elab.async false
set_option linter.all false
set_option maxRecDepth 100000
set_option maxHeartbeats 4000000
namespace K27
open PySem PySem.Spec PyProof.Rows L2 PL
def top (i : Nat) : Stmt := PySem.Challenge.pw_everypageset_k27_whole_folded_sheets.main.body.getD i (.Pass ⟨0, 0, 0, 0⟩)
def c_ASIDE : D := (.tup [(.str "left"), (.str "right")])
def c_LEFT : D := (.str "left")
def c_MOST_FOLDS : D := (.int 4)
def c_POWERS : D := (.tup [(.int 1), (.int 2), (.int 4), (.int 8), (.int 16), (.int 32), (.int 64)])
def c_UP : D := (.str "up")
def c_WORDS : D := (.tup [(.str "down"), (.str "left"), (.str "right"), (.str "up")])
structure Top (K : PySem.W.Frag) (mg : Str → Option Value) (Z : Zone) : Prop where
  b_abs : mg "abs" = none
  b_all : mg "all" = none
  b_bool : mg "bool" = none
  b_dict : mg "dict" = none
  b_enumerate : mg "enumerate" = none
  b_int : mg "int" = none
  b_isinstance : mg "isinstance" = none
  b_len : mg "len" = none
  b_list : mg "list" = none
  b_max : mg "max" = none
  b_range : mg "range" = none
  b_str : mg "str" = none
  b_sum : mg "sum" = none
  b_tuple : mg "tuple" = none
  b_zip : mg "zip" = none
  c_ASIDE : TopC Z K mg "ASIDE" c_ASIDE
  c_LEFT : TopC Z K mg "LEFT" c_LEFT
  c_MOST_FOLDS : TopC Z K mg "MOST_FOLDS" c_MOST_FOLDS
  c_POWERS : TopC Z K mg "POWERS" c_POWERS
  c_UP : TopC Z K mg "UP" c_UP
  c_WORDS : TopC Z K mg "WORDS" c_WORDS
  x_BadFolds : ∃ qn C fI, Er.Txt K mg "BadFolds" qn C fI
section
variable {P : Program} {w : World} {K : PySem.W.Frag} {mg : Str → Option Value} {base : Heap} {Z : Zone}
def sub_PageError (x : Str) : Option Bool := if x = "BadFolds" then some true else none
theorem SG__law_heard : FnScope ["call", "e"] ["call"] (defScope (top 36)) := ⟨rfl, rfl, rfl, by decide +kernel, rfl, by decide +kernel, by decide +kernel⟩
theorem HB__law_heard (kV doc pm : Value) (an : Option Addr) (cdv ct : Value) (us : List Value) (hl : us.length = (["call"] : List Str).length) : bindArgs (PySem.W.fnOf "_law_heard" "_law_heard" (defArgs (top 36)) (defBody (top 36)) (defScope (top 36)) .none kV doc pm an cdv ct) ⟨us, []⟩ = pure ((["call"] : List Str).zip us) := match us, hl with | [_], _ => rfl
def m_is_one_word : M Fl := (mSeq (M.map Fl.rt (mSel true (mCall fIsi (M.map (fun p => p.1 :: p.2) (M.pair (mBor 0) (M.map (fun p => p.1 :: p.2) (M.pair (M.map (fun x => .sol (.d x)) (M.pure (.ty .str))) (M.pure [])))))) (mBin opIn (mBor 0) (mBor 1))))
  (M.pure .nx))
def f_is_one_word : FSem := fnSem 2 m_is_one_word
theorem sc_is_one_word : FnScope ["thing", "words"] ["thing", "words"] (defScope (top 4)) := ⟨rfl, rfl, rfl, by decide +kernel, rfl, by decide +kernel, by decide +kernel⟩
theorem fc_is_one_word (T : Top K mg Z) (ex : ∃ (a : Addr) (fd : FuncData), Fun K "is_one_word" "is_one_word" (top 4) a fd ∧ mg "is_one_word" = some (.ref a)) : FC P w K mg base Z 1 "is_one_word" (top 4) ["thing", "words"] f_is_one_word := by
  refine fc_ok (m := m_is_one_word) (N := ["thing", "words"]) ex sc_is_one_word (fun _ _ _ _ _ _ us hl => match us, hl with | [_, _], _ => rfl) (fun a cdv A outer s H E hr => ?_) rfl
  have hu := hr.units
  have hr1 := hr
  have nd := sc_is_one_word.nd
  exact (bx_cons (sx_ret (ex_and (ex_callB cs_isi T.b_isinstance (by decide +kernel) (ap_cons (ep_name 0) (ap_cons (ED.ep (ed_ty T.b_str (by decide +kernel))) ap_nil))) (ex_one (ex_cmp os_in (ep_name 0) (ep_name 1) (by (first | rfl | exact nomark _ | with_unfolding_all rfl))))))
  bx_nil)
def m_is_folds_value : M Fl := (mSeq (mIf (mIf (M.map (!·) (mTruth (M.map Opd.sol (mCall fIsi (M.map (fun p => p.1 :: p.2) (M.pair (mBor 0) (M.map (fun p => p.1 :: p.2) (M.pair (M.map (fun x => .sol (.d x)) (M.pure (.ty .tup))) (M.pure []))))))))) (M.pure true) (M.map (!·) (mB (mChain opLe opLe (M.map (fun x => .sol (.d x)) (M.pure (.int 1))) (M.map Opd.sol (mCall fLen (M.map (fun p => p.1 :: p.2) (M.pair (mBor 0) (M.pure []))))) (M.map (fun x => .sol (.d x)) (M.pure c_MOST_FOLDS)))))) (mSeq (M.map Fl.rt (M.map O.d (M.pure (.bl false))))
  (M.pure .nx)) (M.pure .nx))
  (mSeq (M.map Fl.rt (mSel true (mCall fAll (M.map (fun p => p.1 :: p.2) (M.pair (M.map Opd.sol (mComp [1] (mItems (mName 0)) (gN 1) (M.pure true) (M.frz (mCallP 2 f_is_one_word (M.map (fun p => p.1 :: p.2) (M.pair (mName 1) (M.map (fun p => p.1 :: p.2) (M.pair (M.pure c_WORDS) (M.pure []))))))))) (M.pure [])))) (mBin opIn (M.map Opd.sol (mBin opIx (mBor 0) (M.map Opd.sol (mUn opNeg (M.map (fun x => .sol (.d x)) (M.pure (.int 1))))))) (M.map (fun x => .sol (.d x)) (M.pure c_ASIDE)))))
  (M.pure .nx)))
def f_is_folds_value : FSem := fnSem 2 m_is_folds_value
theorem sc_is_folds_value : FnScope ["thing", "word"] ["thing"] (defScope (top 14)) := ⟨rfl, rfl, rfl, by decide +kernel, rfl, by decide +kernel, by decide +kernel⟩
theorem fc_is_folds_value (T : Top K mg Z) (F_is_one_word : FC P w K mg base Z 1 "is_one_word" (top 4) ["thing", "words"] f_is_one_word) (ex : ∃ (a : Addr) (fd : FuncData), Fun K "is_folds_value" "is_folds_value" (top 14) a fd ∧ mg "is_folds_value" = some (.ref a)) : FC P w K mg base Z 2 "is_folds_value" (top 14) ["thing"] f_is_folds_value := by
  refine fc_ok (m := m_is_folds_value) (N := ["thing", "word"]) ex sc_is_folds_value (fun _ _ _ _ _ _ us hl => match us, hl with | [_], _ => rfl) (fun a cdv A outer s H E hr => ?_) rfl
  have hu := hr.units
  have hr1 := hr
  have nd := sc_is_folds_value.nd
  exact (bx_cons (sx_if (tx_pw (pw_orX (tx_not (tx_truth (EX.ep (ex_callB cs_isi T.b_isinstance (by decide +kernel) (ap_cons (ep_name 0) (ap_cons (ED.ep (ed_ty T.b_tuple (by decide +kernel))) ap_nil)))))) (pw_or1X (tx_not (tx_chain os_le os_le (ED.ep ed_int) (EX.ep (ex_callB cs_len T.b_len (by decide +kernel) (ap_cons (ep_name 0) ap_nil))) (ED.ep (ed_top T.c_MOST_FOLDS))))))) (bx_cons (sx_ret (ED.ex ed_bl))
  bx_nil) bx_nil)
  (bx_cons (sx_ret (ex_and (ex_callB (cs_all rfl) T.b_all (by decide +kernel) (ap_cons (EX.ep (ex_lc (own := [("word", 1)]) (ix_seq (ed_name 0)) (blkOk_by (by kernel_rfl)) nd (by intros; exact (tg_name 1 nd)) (by intros; exact ts_nil) (by intros; exact (EX.frz (ex_call (F_is_one_word.mono (by decide)) hr (ad_cons (ed_name 1) (ad_cons (ed_top T.c_WORDS) ad_nil))))) (by decide))) ap_nil)) (ex_one (ex_cmp os_in (EX.ep (ex_ix is_ix (ep_name 0) (EX.ep (ex_un us_neg (ED.ep ed_int))))) (ED.ep (ed_top T.c_ASIDE)) (by (first | rfl | exact nomark _ | with_unfolding_all rfl))))))
  bx_nil))
def m_need_folds : M Fl := (mSeq (mIf (M.map (!·) (mTruth (M.map Opd.sol (mCallP 1 f_is_folds_value (M.map (fun p => p.1 :: p.2) (M.pair (mName 0) (M.pure []))))))) (mSeq (mRaise "BadFolds" (mName 0))
  (M.pure .nx)) (M.pure .nx))
  (M.pure .nx))
def f_need_folds : FSem := fnSem 1 m_need_folds
theorem sc_need_folds : FnScope ["folds"] ["folds"] (defScope (top 15)) := ⟨rfl, rfl, rfl, by decide +kernel, rfl, by decide +kernel, by decide +kernel⟩
theorem fc_need_folds (T : Top K mg Z) (F_is_folds_value : FC P w K mg base Z 2 "is_folds_value" (top 14) ["thing"] f_is_folds_value) (ex : ∃ (a : Addr) (fd : FuncData), Fun K "need_folds" "need_folds" (top 15) a fd ∧ mg "need_folds" = some (.ref a)) : FC P w K mg base Z 3 "need_folds" (top 15) ["folds"] f_need_folds := by
  refine fc_ok (m := m_need_folds) (N := ["folds"]) ex sc_need_folds (fun _ _ _ _ _ _ us hl => match us, hl with | [_], _ => rfl) (fun a cdv A outer s H E hr => ?_) rfl
  have hu := hr.units
  have hr1 := hr
  have nd := sc_need_folds.nd
  exact (bx_cons (sx_if (tx_not (tx_truth (EX.ep (ex_call (F_is_folds_value.mono (by decide)) hr (ad_cons (ed_name 0) ad_nil))))) (bx_cons (sx_raise T.x_BadFolds hr1 (ed_name 0))
  bx_nil) bx_nil)
  bx_nil)
def m_sheet_size : M Fl := (mSeq (mSet 1 (mCall fLen (M.map (fun p => p.1 :: p.2) (M.pair (M.map Opd.sol (mComp [2] (mItems (mName 0)) (gN 2) (mB (mBin opIn (mBor 2) (M.map (fun x => .sol (.d x)) (M.pure c_ASIDE)))) (mName 2))) (M.pure [])))))
  (mSeq (M.map Fl.rt (M.map O.d (mTup (M.map (fun p => p.1 :: p.2) (M.pair (M.frz (mBin opIx (M.map (fun x => .sol (.d x)) (M.pure c_POWERS)) (M.map Opd.sol (mBin opSub (M.map Opd.sol (mCall fLen (M.map (fun p => p.1 :: p.2) (M.pair (mBor 0) (M.pure []))))) (mBor 1))))) (M.map (fun p => p.1 :: p.2) (M.pair (M.frz (mBin opIx (M.map (fun x => .sol (.d x)) (M.pure c_POWERS)) (mBor 1))) (M.pure []))))))))
  (M.pure .nx)))
def f_sheet_size : FSem := fnSem 3 m_sheet_size
theorem sc_sheet_size : FnScope ["folds", "aside", "word"] ["folds"] (defScope (top 16)) := ⟨rfl, rfl, rfl, by decide +kernel, rfl, by decide +kernel, by decide +kernel⟩
theorem fc_sheet_size (T : Top K mg Z) (ex : ∃ (a : Addr) (fd : FuncData), Fun K "sheet_size" "sheet_size" (top 16) a fd ∧ mg "sheet_size" = some (.ref a)) : FC P w K mg base Z 1 "sheet_size" (top 16) ["folds"] f_sheet_size := by
  refine fc_ok (m := m_sheet_size) (N := ["folds", "aside", "word"]) ex sc_sheet_size (fun _ _ _ _ _ _ us hl => match us, hl with | [_], _ => rfl) (fun a cdv A outer s H E hr => ?_) rfl
  have hu := hr.units
  have hr1 := hr
  have nd := sc_sheet_size.nd
  exact (bx_cons (sx_set 1 (ex_callB cs_len T.b_len (by decide +kernel) (ap_cons (EX.ep (ex_lc (own := [("word", 2)]) (ix_seq (ed_name 0)) (blkOk_by (by kernel_rfl)) nd (by intros; exact (tg_name 2 nd)) (by intros; exact (ts_one (tx_cmp os_in (ep_name 2) (ED.ep (ed_top T.c_ASIDE)) (by (first | rfl | exact nomark _ | with_unfolding_all rfl))))) (by intros; exact (ed_name 2)) (by decide))) ap_nil)) nd)
  (bx_cons (sx_ret (ED.ex (ed_tup (ad_cons (EX.frz (ex_ix is_ix (ED.ep (ed_top T.c_POWERS)) (EX.ep (ex_bin os_sub (EX.ep (ex_callB cs_len T.b_len (by decide +kernel) (ap_cons (ep_name 0) ap_nil))) (ep_name 1))))) (ad_cons (EX.frz (ex_ix is_ix (ED.ep (ed_top T.c_POWERS)) (ep_name 1))) ad_nil)))))
  bx_nil))
def m_turned_over : M Fl := (mSeq (M.map Fl.rt (mComp [2, 3, 4, 5] (mItems (M.frz (mUn opRev (mBor 0)))) (gT 4 (gC (gN 2) (gC (gN 3) (gC (gN 4) (gC (gN 5) g0))))) (M.pure true) (mTup (M.map (fun p => p.1 :: p.2) (M.pair (mName 2) (M.map (fun p => p.1 :: p.2) (M.pair (mName 3) (M.map (fun p => p.1 :: p.2) (M.pair (M.frz (mBin opSub (M.map (fun x => .sol (.d x)) (M.pure (.int 1))) (mBor 4))) (M.map (fun p => p.1 :: p.2) (M.pair (M.frz (mBin opNe (mBor 5) (mBor 1))) (M.pure []))))))))))))
  (M.pure .nx))
def f_turned_over : FSem := fnSem 6 m_turned_over
theorem sc_turned_over : FnScope ["stack", "is_head_turned", "row", "column", "face", "turned"] ["stack", "is_head_turned"] (defScope (top 17)) := ⟨rfl, rfl, rfl, by decide +kernel, rfl, by decide +kernel, by decide +kernel⟩
theorem fc_turned_over (T : Top K mg Z) (ex : ∃ (a : Addr) (fd : FuncData), Fun K "turned_over" "turned_over" (top 17) a fd ∧ mg "turned_over" = some (.ref a)) : FC P w K mg base Z 1 "turned_over" (top 17) ["stack", "is_head_turned"] f_turned_over := by
  refine fc_ok (m := m_turned_over) (N := ["stack", "is_head_turned", "row", "column", "face", "turned"]) ex sc_turned_over (fun _ _ _ _ _ _ us hl => match us, hl with | [_, _], _ => rfl) (fun a cdv A outer s H E hr => ?_) rfl
  have hu := hr.units
  have hr1 := hr
  have nd := sc_turned_over.nd
  exact (bx_cons (sx_ret (ex_lc (own := [("row", 2), ("column", 3), ("face", 4), ("turned", 5)]) (ix_seq (EX.frz (ex_rev (ep_name 0)))) (blkOk_by (by kernel_rfl)) nd (by intros; exact (tg_tup (tgs_cons (tg_name 2 nd) (tgs_cons (tg_name 3 nd) (tgs_cons (tg_name 4 nd) (tgs_cons (tg_name 5 nd) tgs_nil)))))) (by intros; exact ts_nil) (by intros; exact (ed_tup (ad_cons (ed_name 2) (ad_cons (ed_name 3) (ad_cons (EX.frz (ex_bin os_sub (ED.ep ed_int) (ep_name 4))) (ad_cons (EX.frz (ex_cmp (os_ne hu) (ep_name 5) (ep_name 1) (by (first | rfl | exact nomark _ | with_unfolding_all rfl)))) ad_nil)))))) (by decide)))
  bx_nil)
def m_folded : M Fl := (mSeq (mSet 4 (mLst (M.pure [])))
  (mSeq (mIf (mB (mBin opIn (mBor 3) (M.map (fun x => .sol (.d x)) (M.pure c_ASIDE)))) (mSeq (mSet 5 (mBin opFdiv (mBor 2) (M.map (fun x => .sol (.d x)) (M.pure (.int 2)))))
  (mSeq (mFor (mRange fRange1 (M.map (fun p => p.1 :: p.2) (M.pair (mBor 1) (M.pure [])))) (gN 6) (mSeq (mSet 7 (mLst (M.pure [])))
  (mSeq (mFor (mRange fRange1 (M.map (fun p => p.1 :: p.2) (M.pair (mBor 5) (M.pure [])))) (gN 8) (mSeq (mSet 9 (mIf (mB (mBin opEq (mBor 3) (M.map (fun x => .sol (.d x)) (M.pure c_LEFT)))) (mBin opSub (M.map Opd.sol (mBin opSub (mBor 5) (M.map (fun x => .sol (.d x)) (M.pure (.int 1))))) (mBor 8)) (mBin opSub (M.map Opd.sol (mBin opSub (mBor 2) (M.map (fun x => .sol (.d x)) (M.pure (.int 1))))) (mBor 8))))
  (mSeq (mSet 10 (mIf (mB (mBin opEq (mBor 3) (M.map (fun x => .sol (.d x)) (M.pure c_LEFT)))) (mBin opAdd (mBor 5) (mBor 8)) (M.map O.d (mName 8))))
  (mSeq (M.map (fun _ => Fl.nx) (mMeth fAppend 7 (M.map (fun p => p.1 :: p.2) (M.pair (M.frz (mBin opAdd (M.map Opd.sol (mCallP 2 f_turned_over (M.map (fun p => p.1 :: p.2) (M.pair (M.frz (mBin opIx (M.map Opd.sol (mBin opIx (mBor 0) (mBor 6))) (mBor 9))) (M.map (fun p => p.1 :: p.2) (M.pair (M.pure (.bl false)) (M.pure []))))))) (M.map Opd.sol (mBin opIx (M.map Opd.sol (mBin opIx (mBor 0) (mBor 6))) (mBor 10))))) (M.pure [])))))
  (M.pure .nx)))))
  (mSeq (M.map (fun _ => Fl.nx) (mMeth fAppend 4 (M.map (fun p => p.1 :: p.2) (M.pair (mName 7) (M.pure [])))))
  (M.pure .nx)))))
  (mSeq (M.map Fl.rt (M.map O.d (mName 4)))
  (M.pure .nx)))) (M.pure .nx))
  (mSeq (mSet 5 (mBin opFdiv (mBor 1) (M.map (fun x => .sol (.d x)) (M.pure (.int 2)))))
  (mSeq (mFor (mRange fRange1 (M.map (fun p => p.1 :: p.2) (M.pair (mBor 5) (M.pure [])))) (gN 8) (mSeq (mSet 9 (mIf (mB (mBin opEq (mBor 3) (M.map (fun x => .sol (.d x)) (M.pure c_UP)))) (mBin opSub (M.map Opd.sol (mBin opSub (mBor 5) (M.map (fun x => .sol (.d x)) (M.pure (.int 1))))) (mBor 8)) (mBin opSub (M.map Opd.sol (mBin opSub (mBor 1) (M.map (fun x => .sol (.d x)) (M.pure (.int 1))))) (mBor 8))))
  (mSeq (mSet 10 (mIf (mB (mBin opEq (mBor 3) (M.map (fun x => .sol (.d x)) (M.pure c_UP)))) (mBin opAdd (mBor 5) (mBor 8)) (M.map O.d (mName 8))))
  (mSeq (mSet 7 (mComp [11] (mRange fRange1 (M.map (fun p => p.1 :: p.2) (M.pair (mBor 2) (M.pure [])))) (gN 11) (M.pure true) (M.frz (mBin opAdd (M.map Opd.sol (mCallP 2 f_turned_over (M.map (fun p => p.1 :: p.2) (M.pair (M.frz (mBin opIx (M.map Opd.sol (mBin opIx (mBor 0) (mBor 9))) (mBor 11))) (M.map (fun p => p.1 :: p.2) (M.pair (M.pure (.bl true)) (M.pure []))))))) (M.map Opd.sol (mBin opIx (M.map Opd.sol (mBin opIx (mBor 0) (mBor 10))) (mBor 11)))))))
  (mSeq (M.map (fun _ => Fl.nx) (mMeth fAppend 4 (M.map (fun p => p.1 :: p.2) (M.pair (mName 7) (M.pure [])))))
  (M.pure .nx))))))
  (mSeq (M.map Fl.rt (M.map O.d (mName 4)))
  (M.pure .nx))))))
def f_folded : FSem := fnSem 12 m_folded
theorem sc_folded : FnScope ["places", "rows", "columns", "word", "found", "half", "row", "line", "place", "turned", "stays", "column"] ["places", "rows", "columns", "word"] (defScope (top 18)) := ⟨rfl, rfl, rfl, by decide +kernel, rfl, by decide +kernel, by decide +kernel⟩
theorem fc_folded (T : Top K mg Z) (F_turned_over : FC P w K mg base Z 1 "turned_over" (top 17) ["stack", "is_head_turned"] f_turned_over) (ex : ∃ (a : Addr) (fd : FuncData), Fun K "folded" "folded" (top 18) a fd ∧ mg "folded" = some (.ref a)) : FC P w K mg base Z 2 "folded" (top 18) ["places", "rows", "columns", "word"] f_folded := by
  refine fc_ok (m := m_folded) (N := ["places", "rows", "columns", "word", "found", "half", "row", "line", "place", "turned", "stays", "column"]) ex sc_folded (fun _ _ _ _ _ _ us hl => match us, hl with | [_, _, _, _], _ => rfl) (fun a cdv A outer s H E hr => ?_) rfl
  have hu := hr.units
  have hr1 := hr
  have nd := sc_folded.nd
  exact (bx_cons (sx_set 4 (ex_lst ad_nil) nd)
  (bx_cons (sx_if (tx_cmp os_in (ep_name 3) (ED.ep (ed_top T.c_ASIDE)) (by (first | rfl | exact nomark _ | with_unfolding_all rfl))) (bx_cons (sx_set 5 (ex_bin os_fdiv (ep_name 2) (ED.ep ed_int)) nd)
  (bx_cons (sx_for (ix_range1 (ap_cons (ep_name 1) ap_nil) T.b_range) (tg_name 6 nd) (bx_cons (sx_set 7 (ex_lst ad_nil) nd)
  (bx_cons (sx_for (ix_range1 (ap_cons (ep_name 5) ap_nil) T.b_range) (tg_name 8 nd) (bx_cons (sx_set 9 (ex_if (tx_cmp (os_eq hu) (ep_name 3) (ED.ep (ed_top T.c_LEFT)) (by (first | rfl | exact nomark _ | with_unfolding_all rfl))) (ex_bin os_sub (EX.ep (ex_bin os_sub (ep_name 5) (ED.ep ed_int))) (ep_name 8)) (ex_bin os_sub (EX.ep (ex_bin os_sub (ep_name 2) (ED.ep ed_int))) (ep_name 8))) nd)
  (bx_cons (sx_set 10 (ex_if (tx_cmp (os_eq hu) (ep_name 3) (ED.ep (ed_top T.c_LEFT)) (by (first | rfl | exact nomark _ | with_unfolding_all rfl))) (ex_bin os_add (ep_name 5) (ep_name 8)) (ED.ex (ed_name 8))) nd)
  (bx_cons (sx_expr (ex_append 7 (ad_cons (EX.frz (ex_bin os_add (EX.ep (ex_call (F_turned_over.mono (by decide)) hr (ad_cons (EX.frz (ex_ix is_ix (EX.ep (ex_ix is_ix (ep_name 0) (ep_name 6))) (ep_name 9))) (ad_cons ed_bl ad_nil)))) (EX.ep (ex_ix is_ix (EX.ep (ex_ix is_ix (ep_name 0) (ep_name 6))) (ep_name 10))))) ad_nil)))
  bx_nil))) (passes_of rfl))
  (bx_cons (sx_expr (ex_append 4 (ad_cons (ed_name 7) ad_nil)))
  bx_nil))) (passes_of rfl))
  (bx_cons (sx_ret (ED.ex (ed_name 4)))
  bx_nil))) bx_nil)
  (bx_cons (sx_set 5 (ex_bin os_fdiv (ep_name 1) (ED.ep ed_int)) nd)
  (bx_cons (sx_for (ix_range1 (ap_cons (ep_name 5) ap_nil) T.b_range) (tg_name 8 nd) (bx_cons (sx_set 9 (ex_if (tx_cmp (os_eq hu) (ep_name 3) (ED.ep (ed_top T.c_UP)) (by (first | rfl | exact nomark _ | with_unfolding_all rfl))) (ex_bin os_sub (EX.ep (ex_bin os_sub (ep_name 5) (ED.ep ed_int))) (ep_name 8)) (ex_bin os_sub (EX.ep (ex_bin os_sub (ep_name 1) (ED.ep ed_int))) (ep_name 8))) nd)
  (bx_cons (sx_set 10 (ex_if (tx_cmp (os_eq hu) (ep_name 3) (ED.ep (ed_top T.c_UP)) (by (first | rfl | exact nomark _ | with_unfolding_all rfl))) (ex_bin os_add (ep_name 5) (ep_name 8)) (ED.ex (ed_name 8))) nd)
  (bx_cons (sx_setLc 7 (own := [("column", 11)]) (ix_range1 (ap_cons (ep_name 2) ap_nil) T.b_range) (blkOk_by (by kernel_rfl)) nd (by intros; exact (tg_name 11 nd)) (by intros; exact ts_nil) (by intros; exact (EX.frz (ex_bin os_add (EX.ep (ex_call (F_turned_over.mono (by decide)) hr (ad_cons (EX.frz (ex_ix is_ix (EX.ep (ex_ix is_ix (ep_name 0) (ep_name 9))) (ep_name 11))) (ad_cons ed_bl ad_nil)))) (EX.ep (ex_ix is_ix (EX.ep (ex_ix is_ix (ep_name 0) (ep_name 10))) (ep_name 11)))))) (by decide))
  (bx_cons (sx_expr (ex_append 4 (ad_cons (ed_name 7) ad_nil)))
  bx_nil)))) (passes_of rfl))
  (bx_cons (sx_ret (ED.ex (ed_name 4)))
  bx_nil)))))
def m_bundle_of : M Fl := (mSeq (mAsg (gT 2 (gC (gN 1) (gC (gN 2) g0))) (M.frz (mCallP 1 f_sheet_size (M.map (fun p => p.1 :: p.2) (M.pair (mName 0) (M.pure []))))))
  (mSeq (mSet 3 (mComp [5] (mRange fRange1 (M.map (fun p => p.1 :: p.2) (M.pair (mBor 1) (M.pure [])))) (gN 5) (M.pure true) (M.frz (mComp [4] (mRange fRange1 (M.map (fun p => p.1 :: p.2) (M.pair (mBor 2) (M.pure [])))) (gN 4) (M.pure true) (M.frz (mLst (M.map (fun p => p.1 :: p.2) (M.pair (mTup (M.map (fun p => p.1 :: p.2) (M.pair (mName 5) (M.map (fun p => p.1 :: p.2) (M.pair (mName 4) (M.map (fun p => p.1 :: p.2) (M.pair (M.pure (.int 0)) (M.map (fun p => p.1 :: p.2) (M.pair (M.pure (.bl false)) (M.pure [])))))))))) (M.pure [])))))))))
  (mSeq (mFor (mItems (mName 0)) (gN 6) (mSeq (mSet 3 (mCallP 4 f_folded (M.map (fun p => p.1 :: p.2) (M.pair (mName 3) (M.map (fun p => p.1 :: p.2) (M.pair (mName 1) (M.map (fun p => p.1 :: p.2) (M.pair (mName 2) (M.map (fun p => p.1 :: p.2) (M.pair (mName 6) (M.pure [])))))))))))
  (mSeq (mAsg (gT 2 (gC (gN 1) (gC (gN 2) g0))) (mTup (M.map (fun p => p.1 :: p.2) (M.pair (M.frz (mCall fLen (M.map (fun p => p.1 :: p.2) (M.pair (mBor 3) (M.pure []))))) (M.map (fun p => p.1 :: p.2) (M.pair (M.frz (mCall fLen (M.map (fun p => p.1 :: p.2) (M.pair (M.map Opd.sol (mBin opIx (mBor 3) (M.map (fun x => .sol (.d x)) (M.pure (.int 0))))) (M.pure []))))) (M.pure [])))))))
  (M.pure .nx))))
  (mSeq (M.map Fl.rt (mBin opIx (M.map Opd.sol (mBin opIx (mBor 3) (M.map (fun x => .sol (.d x)) (M.pure (.int 0))))) (M.map (fun x => .sol (.d x)) (M.pure (.int 0)))))
  (M.pure .nx)))))
def f_bundle_of : FSem := fnSem 7 m_bundle_of
theorem sc_bundle_of : FnScope ["folds", "rows", "columns", "places", "column", "row", "word"] ["folds"] (defScope (top 19)) := ⟨rfl, rfl, rfl, by decide +kernel, rfl, by decide +kernel, by decide +kernel⟩
theorem fc_bundle_of (T : Top K mg Z) (F_sheet_size : FC P w K mg base Z 1 "sheet_size" (top 16) ["folds"] f_sheet_size) (F_folded : FC P w K mg base Z 2 "folded" (top 18) ["places", "rows", "columns", "word"] f_folded) (ex : ∃ (a : Addr) (fd : FuncData), Fun K "bundle_of" "bundle_of" (top 19) a fd ∧ mg "bundle_of" = some (.ref a)) : FC P w K mg base Z 3 "bundle_of" (top 19) ["folds"] f_bundle_of := by
  refine fc_ok (m := m_bundle_of) (N := ["folds", "rows", "columns", "places", "column", "row", "word"]) ex sc_bundle_of (fun _ _ _ _ _ _ us hl => match us, hl with | [_], _ => rfl) (fun a cdv A outer s H E hr => ?_) rfl
  have hu := hr.units
  have hr1 := hr
  have nd := sc_bundle_of.nd
  exact (bx_cons (sx_asg (EX.frz (ex_call (F_sheet_size.mono (by decide)) hr (ad_cons (ed_name 0) ad_nil))) (tg_tup (tgs_cons (tg_name 1 nd) (tgs_cons (tg_name 2 nd) tgs_nil))))
  (bx_cons (sx_setLc 3 (own := [("row", 5)]) (ix_range1 (ap_cons (ep_name 1) ap_nil) T.b_range) (blkOk_by (by kernel_rfl)) nd (by intros; exact (tg_name 5 nd)) (by intros; exact ts_nil) (by intros; exact (EX.frz (ex_lc (own := [("column", 4)]) (ix_range1 (ap_cons (ep_name 2) ap_nil) T.b_range) (blkOk_by (by kernel_rfl)) nd (by intros; exact (tg_name 4 nd)) (by intros; exact ts_nil) (by intros; exact (EX.frz (ex_lst (ad_cons (ed_tup (ad_cons (ed_name 5) (ad_cons (ed_name 4) (ad_cons ed_int (ad_cons ed_bl ad_nil))))) ad_nil)))) (by decide)))) (by decide))
  (bx_cons (sx_for (ix_seq (ed_name 0)) (tg_name 6 nd) (bx_cons (sx_set 3 (ex_call (F_folded.mono (by decide)) hr (ad_cons (ed_name 3) (ad_cons (ed_name 1) (ad_cons (ed_name 2) (ad_cons (ed_name 6) ad_nil))))) nd)
  (bx_cons (sx_asg (ed_tup (ad_cons (EX.frz (ex_callB cs_len T.b_len (by decide +kernel) (ap_cons (ep_name 3) ap_nil))) (ad_cons (EX.frz (ex_callB cs_len T.b_len (by decide +kernel) (ap_cons (EX.ep (ex_ix is_ix (ep_name 3) (ED.ep ed_int))) ap_nil))) ad_nil))) (tg_tup (tgs_cons (tg_name 1 nd) (tgs_cons (tg_name 2 nd) tgs_nil))))
  bx_nil)) (passes_of rfl))
  (bx_cons (sx_ret (ex_ix is_ix (EX.ep (ex_ix is_ix (ep_name 3) (ED.ep ed_int))) (ED.ep ed_int)))
  bx_nil))))
def m_layout_of : M Fl := (mSeq (mSet 1 (mLst (M.pure [])))
  (mSeq (mFor (mWalk fEnum (M.map (fun p => p.1 :: p.2) (M.pair (M.frz (mCallP 1 f_bundle_of (M.map (fun p => p.1 :: p.2) (M.pair (mName 0) (M.pure []))))) (M.pure [])))) (gT 2 (gC (gN 2) (gC (gT 4 (gC (gN 3) (gC (gN 4) (gC (gN 5) (gC (gN 6) g0))))) g0))) (mSeq (M.map (fun _ => Fl.nx) (mMeth fAppend 1 (M.map (fun p => p.1 :: p.2) (M.pair (mTup (M.map (fun p => p.1 :: p.2) (M.pair (M.frz (mBin opAdd (M.map Opd.sol (mBin opMul (M.map (fun x => .sol (.d x)) (M.pure (.int 2))) (mBor 2))) (M.map (fun x => .sol (.d x)) (M.pure (.int 1))))) (M.map (fun p => p.1 :: p.2) (M.pair (mName 5) (M.map (fun p => p.1 :: p.2) (M.pair (mName 3) (M.map (fun p => p.1 :: p.2) (M.pair (mName 4) (M.map (fun p => p.1 :: p.2) (M.pair (mName 6) (M.pure [])))))))))))) (M.pure [])))))
  (mSeq (M.map (fun _ => Fl.nx) (mMeth fAppend 1 (M.map (fun p => p.1 :: p.2) (M.pair (mTup (M.map (fun p => p.1 :: p.2) (M.pair (M.frz (mBin opAdd (M.map Opd.sol (mBin opMul (M.map (fun x => .sol (.d x)) (M.pure (.int 2))) (mBor 2))) (M.map (fun x => .sol (.d x)) (M.pure (.int 2))))) (M.map (fun p => p.1 :: p.2) (M.pair (M.frz (mBin opSub (M.map (fun x => .sol (.d x)) (M.pure (.int 1))) (mBor 5))) (M.map (fun p => p.1 :: p.2) (M.pair (mName 3) (M.map (fun p => p.1 :: p.2) (M.pair (mName 4) (M.map (fun p => p.1 :: p.2) (M.pair (mName 6) (M.pure [])))))))))))) (M.pure [])))))
  (M.pure .nx))))
  (mSeq (M.map Fl.rt (M.map O.d (mName 1)))
  (M.pure .nx))))
def f_layout_of : FSem := fnSem 7 m_layout_of
theorem sc_layout_of : FnScope ["folds", "found", "leaf", "row", "column", "face", "turned"] ["folds"] (defScope (top 20)) := ⟨rfl, rfl, rfl, by decide +kernel, rfl, by decide +kernel, by decide +kernel⟩
theorem fc_layout_of (T : Top K mg Z) (F_bundle_of : FC P w K mg base Z 3 "bundle_of" (top 19) ["folds"] f_bundle_of) (ex : ∃ (a : Addr) (fd : FuncData), Fun K "layout_of" "layout_of" (top 20) a fd ∧ mg "layout_of" = some (.ref a)) : FC P w K mg base Z 4 "layout_of" (top 20) ["folds"] f_layout_of := by
  refine fc_ok (m := m_layout_of) (N := ["folds", "found", "leaf", "row", "column", "face", "turned"]) ex sc_layout_of (fun _ _ _ _ _ _ us hl => match us, hl with | [_], _ => rfl) (fun a cdv A outer s H E hr => ?_) rfl
  have hu := hr.units
  have hr1 := hr
  have nd := sc_layout_of.nd
  exact (bx_cons (sx_set 1 (ex_lst ad_nil) nd)
  (bx_cons (sx_for (ix_enum (ad_cons (EX.frz (ex_call (F_bundle_of.mono (by decide)) hr (ad_cons (ed_name 0) ad_nil))) ad_nil) T.b_enumerate) (tg_tup (tgs_cons (tg_name 2 nd) (tgs_cons (tg_tup (tgs_cons (tg_name 3 nd) (tgs_cons (tg_name 4 nd) (tgs_cons (tg_name 5 nd) (tgs_cons (tg_name 6 nd) tgs_nil))))) tgs_nil))) (bx_cons (sx_expr (ex_append 1 (ad_cons (ed_tup (ad_cons (EX.frz (ex_bin os_add (EX.ep (ex_bin os_mul (ED.ep ed_int) (ep_name 2))) (ED.ep ed_int))) (ad_cons (ed_name 5) (ad_cons (ed_name 3) (ad_cons (ed_name 4) (ad_cons (ed_name 6) ad_nil)))))) ad_nil)))
  (bx_cons (sx_expr (ex_append 1 (ad_cons (ed_tup (ad_cons (EX.frz (ex_bin os_add (EX.ep (ex_bin os_mul (ED.ep ed_int) (ep_name 2))) (ED.ep ed_int))) (ad_cons (EX.frz (ex_bin os_sub (ED.ep ed_int) (ep_name 5))) (ad_cons (ed_name 3) (ad_cons (ed_name 4) (ad_cons (ed_name 6) ad_nil)))))) ad_nil)))
  bx_nil)) (passes_of rfl))
  (bx_cons (sx_ret (ED.ex (ed_name 1)))
  bx_nil)))
def m_bundle : M Fl := (mSeq (M.map (fun _ => Fl.nx) (mCallP 1 f_need_folds (M.map (fun p => p.1 :: p.2) (M.pair (mName 0) (M.pure [])))))
  (mSeq (M.map Fl.rt (mCall fTuple (M.map (fun p => p.1 :: p.2) (M.pair (M.map Opd.sol (mCallP 1 f_bundle_of (M.map (fun p => p.1 :: p.2) (M.pair (mName 0) (M.pure []))))) (M.pure [])))))
  (M.pure .nx)))
def f_bundle : FSem := fnSem 1 m_bundle
theorem sc_bundle : FnScope ["folds"] ["folds"] (defScope (top 21)) := ⟨rfl, rfl, rfl, by decide +kernel, rfl, by decide +kernel, by decide +kernel⟩
theorem fc_bundle (T : Top K mg Z) (F_need_folds : FC P w K mg base Z 3 "need_folds" (top 15) ["folds"] f_need_folds) (F_bundle_of : FC P w K mg base Z 3 "bundle_of" (top 19) ["folds"] f_bundle_of) (ex : ∃ (a : Addr) (fd : FuncData), Fun K "bundle" "bundle" (top 21) a fd ∧ mg "bundle" = some (.ref a)) : FC P w K mg base Z 4 "bundle" (top 21) ["folds"] f_bundle := by
  refine fc_ok (m := m_bundle) (N := ["folds"]) ex sc_bundle (fun _ _ _ _ _ _ us hl => match us, hl with | [_], _ => rfl) (fun a cdv A outer s H E hr => ?_) rfl
  have hu := hr.units
  have hr1 := hr
  have nd := sc_bundle.nd
  exact (bx_cons (sx_expr (ex_call (F_need_folds.mono (by decide)) hr (ad_cons (ed_name 0) ad_nil)))
  (bx_cons (sx_ret (ex_callTy cs_tuple T.b_tuple (by decide +kernel) (ap_cons (EX.ep (ex_call (F_bundle_of.mono (by decide)) hr (ad_cons (ed_name 0) ad_nil))) ap_nil)))
  bx_nil))
def m_layout : M Fl := (mSeq (M.map (fun _ => Fl.nx) (mCallP 1 f_need_folds (M.map (fun p => p.1 :: p.2) (M.pair (mName 0) (M.pure [])))))
  (mSeq (M.map Fl.rt (mCall fTuple (M.map (fun p => p.1 :: p.2) (M.pair (M.map Opd.sol (mCallP 1 f_layout_of (M.map (fun p => p.1 :: p.2) (M.pair (mName 0) (M.pure []))))) (M.pure [])))))
  (M.pure .nx)))
def f_layout : FSem := fnSem 1 m_layout
theorem sc_layout : FnScope ["folds"] ["folds"] (defScope (top 22)) := ⟨rfl, rfl, rfl, by decide +kernel, rfl, by decide +kernel, by decide +kernel⟩
theorem fc_layout (T : Top K mg Z) (F_need_folds : FC P w K mg base Z 3 "need_folds" (top 15) ["folds"] f_need_folds) (F_layout_of : FC P w K mg base Z 4 "layout_of" (top 20) ["folds"] f_layout_of) (ex : ∃ (a : Addr) (fd : FuncData), Fun K "layout" "layout" (top 22) a fd ∧ mg "layout" = some (.ref a)) : FC P w K mg base Z 5 "layout" (top 22) ["folds"] f_layout := by
  refine fc_ok (m := m_layout) (N := ["folds"]) ex sc_layout (fun _ _ _ _ _ _ us hl => match us, hl with | [_], _ => rfl) (fun a cdv A outer s H E hr => ?_) rfl
  have hu := hr.units
  have hr1 := hr
  have nd := sc_layout.nd
  exact (bx_cons (sx_expr (ex_call (F_need_folds.mono (by decide)) hr (ad_cons (ed_name 0) ad_nil)))
  (bx_cons (sx_ret (ex_callTy cs_tuple T.b_tuple (by decide +kernel) (ap_cons (EX.ep (ex_call (F_layout_of.mono (by decide)) hr (ad_cons (ed_name 0) ad_nil))) ap_nil)))
  bx_nil))
def m_spine : M Fl := (mSeq (M.map (fun _ => Fl.nx) (mCallP 1 f_need_folds (M.map (fun p => p.1 :: p.2) (M.pair (mName 0) (M.pure [])))))
  (mSeq (M.map Fl.rt (mBin opIx (mBor 0) (M.map Opd.sol (mUn opNeg (M.map (fun x => .sol (.d x)) (M.pure (.int 1)))))))
  (M.pure .nx)))
def f_spine : FSem := fnSem 1 m_spine
theorem sc_spine : FnScope ["folds"] ["folds"] (defScope (top 23)) := ⟨rfl, rfl, rfl, by decide +kernel, rfl, by decide +kernel, by decide +kernel⟩
theorem fc_spine (T : Top K mg Z) (F_need_folds : FC P w K mg base Z 3 "need_folds" (top 15) ["folds"] f_need_folds) (ex : ∃ (a : Addr) (fd : FuncData), Fun K "spine" "spine" (top 23) a fd ∧ mg "spine" = some (.ref a)) : FC P w K mg base Z 4 "spine" (top 23) ["folds"] f_spine := by
  refine fc_ok (m := m_spine) (N := ["folds"]) ex sc_spine (fun _ _ _ _ _ _ us hl => match us, hl with | [_], _ => rfl) (fun a cdv A outer s H E hr => ?_) rfl
  have hu := hr.units
  have hr1 := hr
  have nd := sc_spine.nd
  exact (bx_cons (sx_expr (ex_call (F_need_folds.mono (by decide)) hr (ad_cons (ed_name 0) ad_nil)))
  (bx_cons (sx_ret (ex_ix is_ix (ep_name 0) (EX.ep (ex_un us_neg (ED.ep ed_int)))))
  bx_nil))
def m_twins : M Fl := (mSeq (M.map (fun _ => Fl.nx) (mCallP 1 f_need_folds (M.map (fun p => p.1 :: p.2) (M.pair (mName 0) (M.pure [])))))
  (mSeq (mSet 1 (mBin opIx (M.map (fun x => .sol (.d x)) (M.pure c_POWERS)) (M.map Opd.sol (mCall fLen (M.map (fun p => p.1 :: p.2) (M.pair (mBor 0) (M.pure [])))))))
  (mSeq (M.map Fl.rt (mCall fTuple (M.map (fun p => p.1 :: p.2) (M.pair (M.map Opd.sol (mComp [2] (mRange fRange1 (M.map (fun p => p.1 :: p.2) (M.pair (M.map Opd.sol (mBin opFdiv (mBor 1) (M.map (fun x => .sol (.d x)) (M.pure (.int 2))))) (M.pure [])))) (gN 2) (M.pure true) (mTup (M.map (fun p => p.1 :: p.2) (M.pair (mName 2) (M.map (fun p => p.1 :: p.2) (M.pair (M.frz (mBin opSub (M.map Opd.sol (mBin opSub (mBor 1) (M.map (fun x => .sol (.d x)) (M.pure (.int 1))))) (mBor 2))) (M.pure [])))))))) (M.pure [])))))
  (M.pure .nx))))
def f_twins : FSem := fnSem 3 m_twins
theorem sc_twins : FnScope ["folds", "many", "leaf"] ["folds"] (defScope (top 24)) := ⟨rfl, rfl, rfl, by decide +kernel, rfl, by decide +kernel, by decide +kernel⟩
theorem fc_twins (T : Top K mg Z) (F_need_folds : FC P w K mg base Z 3 "need_folds" (top 15) ["folds"] f_need_folds) (ex : ∃ (a : Addr) (fd : FuncData), Fun K "twins" "twins" (top 24) a fd ∧ mg "twins" = some (.ref a)) : FC P w K mg base Z 4 "twins" (top 24) ["folds"] f_twins := by
  refine fc_ok (m := m_twins) (N := ["folds", "many", "leaf"]) ex sc_twins (fun _ _ _ _ _ _ us hl => match us, hl with | [_], _ => rfl) (fun a cdv A outer s H E hr => ?_) rfl
  have hu := hr.units
  have hr1 := hr
  have nd := sc_twins.nd
  exact (bx_cons (sx_expr (ex_call (F_need_folds.mono (by decide)) hr (ad_cons (ed_name 0) ad_nil)))
  (bx_cons (sx_set 1 (ex_ix is_ix (ED.ep (ed_top T.c_POWERS)) (EX.ep (ex_callB cs_len T.b_len (by decide +kernel) (ap_cons (ep_name 0) ap_nil)))) nd)
  (bx_cons (sx_ret (ex_callTy cs_tuple T.b_tuple (by decide +kernel) (ap_cons (EX.ep (ex_lc (own := [("leaf", 2)]) (ix_range1 (ap_cons (EX.ep (ex_bin os_fdiv (ep_name 1) (ED.ep ed_int))) ap_nil) T.b_range) (blkOk_by (by kernel_rfl)) nd (by intros; exact (tg_name 2 nd)) (by intros; exact ts_nil) (by intros; exact (ed_tup (ad_cons (ed_name 2) (ad_cons (EX.frz (ex_bin os_sub (EX.ep (ex_bin os_sub (ep_name 1) (ED.ep ed_int))) (ep_name 2))) ad_nil)))) (by decide))) ap_nil)))
  bx_nil)))
def m__law_deck : Fam Fl := (fun p b => mSeq (mSet 2 (M.map O.d (mName 1)))
  ((fun p b => mSeq (mFor (mItems (M.frz (mSlice opSl (mBor 0) (M.pure none) (mInt (M.map (fun x => .sol (.d x)) (M.pure (.int 63))))))) (gN 3) (mSeq (mSet 2 (mBin opMod (M.map Opd.sol (mCall fInt (M.map (fun p => p.1 :: p.2) (M.pair (M.map Opd.sol (mBin opAdd (M.map Opd.sol (mBin opAdd (M.map Opd.sol (mBin opMul (mBor 2) (M.map (fun x => .sol (.d x)) (M.pure (.int 48271))))) (M.map Opd.sol (mBin opMod (M.map Opd.sol (mCall fInt (M.map (fun p => p.1 :: p.2) (M.pair (mBor 3) (M.pure []))))) (M.map (fun x => .sol (.d x)) (M.pure (.int 2147483629))))))) (M.map (fun x => .sol (.d x)) (M.pure (.int 211))))) (M.pure []))))) (M.map (fun x => .sol (.d x)) (M.pure (.int 2147483587)))))
  (M.pure .nx)))
  ((fun p b => M.map Fl.rt ((mDeck (mUn opRev (M.map Opd.sol (mComp [3] (mItems (M.frz (mSlice opSl (mBor 0) (M.pure none) (mInt (M.map (fun x => .sol (.d x)) (M.pure (.int 63))))))) (gN 3) (M.pure true) (M.frz (mCall fInt (M.map (fun p => p.1 :: p.2) (M.pair (mBor 3) (M.pure [])))))))) (mName 2) (M.pure (.int 0))) p b)) p b)) p b))
def f__law_deck : Addr → Addr → FSem := fun p b => fnSem 4 (m__law_deck p b)
theorem sc__law_deck : FnScope ["script", "mark", "blend", "cell"] ["script", "mark"] (defScope (top 26)) := ⟨rfl, rfl, rfl, by decide +kernel, rfl, by decide +kernel, by decide +kernel⟩
theorem fc__law_deck (T : Top K mg Z) (ex : ∃ (a : Addr) (fd : FuncData), Fun K "_law_deck" "_law_deck" (top 26) a fd ∧ mg "_law_deck" = some (.ref a)) : FCF P w K mg base Z 1 "_law_deck" (top 26) ["script", "mark"] f__law_deck := by
  refine fcF_ok (m := m__law_deck) (N := ["script", "mark", "blend", "cell"]) ex sc__law_deck (fun _ _ _ _ _ _ us hl => match us, hl with | [_, _], _ => rfl) (fun a cdv A outer s H E hr => ?_) rfl
  have hu := hr.units
  have hr1 := hr
  have nd := sc__law_deck.nd
  exact (bxf_cons (sx_set 2 (ED.ex (ed_name 1)) nd)
  (bxf_cons (sx_for (ix_seq (EX.frz (ex_slice ss_sl (ep_name 0) p0_none (p0_some (ED.ep ed_int))))) (tg_name 3 nd) (bx_cons (sx_set 2 (ex_bin os_mod (EX.ep (ex_callTy cs_int T.b_int (by decide +kernel) (ap_cons (EX.ep (ex_bin os_add (EX.ep (ex_bin os_add (EX.ep (ex_bin os_mul (ep_name 2) (ED.ep ed_int))) (EX.ep (ex_bin os_mod (EX.ep (ex_callTy cs_int T.b_int (by decide +kernel) (ap_cons (ep_name 3) ap_nil))) (ED.ep ed_int))))) (ED.ep ed_int))) ap_nil))) (ED.ep ed_int)) nd)
  bx_nil) (passes_of rfl))
  (bxf_ret (exf_deck (ex_rev (EX.ep (ex_lc (own := [("cell", 3)]) (ix_seq (EX.frz (ex_slice ss_sl (ep_name 0) p0_none (p0_some (ED.ep ed_int))))) (blkOk_by (by kernel_rfl)) nd (by intros; exact (tg_name 3 nd)) (by intros; exact ts_nil) (by intros; exact (EX.frz (ex_callTy cs_int T.b_int (by decide +kernel) (ap_cons (ep_name 3) ap_nil)))) (by decide)))) (ed_name 2) ed_int))))
def m__law_draw : M Fl := (mSeq (mDkPut 0 (M.frz (mBin opAdd (M.map (fun x => .sol (.d x)) (mDkGet (fun s => s.draws) 0)) (M.map (fun x => .sol (.d x)) (M.pure (.int 1))))))
  (mSeq (mSet 2 (mBin opAdd (M.map (fun x => .sol (.d x)) (mDkGet (fun s => s.mixed) 0)) (M.map Opd.sol (mBin opMul (M.map (fun x => .sol (.d x)) (M.pure (.int 61483))) (M.map (fun x => .sol (.d x)) (mDkGet (fun s => s.draws) 0))))))
  (mSeq (mIf (mDkNe 0) (mSeq (mSet 3 (M.map O.d (mDkPop 0)))
  (mSeq (mIf (mB (mBin opGe (mBor 3) (M.map Opd.sol (mBin opPow (M.map (fun x => .sol (.d x)) (M.pure (.int 10))) (M.map (fun x => .sol (.d x)) (M.pure (.int 18))))))) (mSeq (M.map (fun _ => Fl.nx) (mDkApp 0 (M.frz (mBin opFdiv (mBor 3) (M.map Opd.sol (mCall fMax (M.map (fun p => p.1 :: p.2) (M.pair (M.map (fun x => .sol (.d x)) (M.pure (.int 2))) (M.map (fun p => p.1 :: p.2) (M.pair (mBor 1) (M.pure [])))))))))))
  (mSeq (M.map Fl.rt (mBin opMod (M.map Opd.sol (mCall fInt (M.map (fun p => p.1 :: p.2) (M.pair (mBor 3) (M.pure []))))) (mBor 1)))
  (M.pure .nx))) (M.pure .nx))
  (mSeq (mSet 2 (mBin opAdd (mBor 2) (M.map Opd.sol (mBin opMod (M.map Opd.sol (mCall fInt (M.map (fun p => p.1 :: p.2) (M.pair (mBor 3) (M.pure []))))) (M.map (fun x => .sol (.d x)) (M.pure (.int 2147483629)))))))
  (M.pure .nx)))) (M.pure .nx))
  (mSeq (mSet 2 (mBin opMod (M.map Opd.sol (mCall fInt (M.map (fun p => p.1 :: p.2) (M.pair (M.map Opd.sol (mBin opAdd (M.map Opd.sol (mBin opMul (mBor 2) (M.map (fun x => .sol (.d x)) (M.pure (.int 40692))))) (M.map (fun x => .sol (.d x)) (M.pure (.int 21501))))) (M.pure []))))) (M.map (fun x => .sol (.d x)) (M.pure (.int 2147483563)))))
  (mSeq (mSet 2 (mBin opMod (M.map Opd.sol (mCall fInt (M.map (fun p => p.1 :: p.2) (M.pair (M.map Opd.sol (mBin opAdd (M.map Opd.sol (mBin opAdd (M.map Opd.sol (mBin opMul (mBor 2) (mBor 2))) (M.map Opd.sol (mBin opMul (M.map (fun x => .sol (.d x)) (M.pure (.int 52774))) (M.map (fun x => .sol (.d x)) (mDkGet (fun s => s.draws) 0)))))) (M.map (fun x => .sol (.d x)) (M.pure (.int 5))))) (M.pure []))))) (M.map (fun x => .sol (.d x)) (M.pure (.int 2147483399)))))
  (mSeq (M.map Fl.rt (mBin opMod (M.map Opd.sol (mCall fInt (M.map (fun p => p.1 :: p.2) (M.pair (M.map Opd.sol (mBin opFdiv (M.map Opd.sol (mBin opMod (M.map Opd.sol (mCall fInt (M.map (fun p => p.1 :: p.2) (M.pair (M.map Opd.sol (mBin opMul (mBor 2) (M.map (fun x => .sol (.d x)) (M.pure (.int 40014))))) (M.pure []))))) (M.map (fun x => .sol (.d x)) (M.pure (.int 2147483563))))) (M.map (fun x => .sol (.d x)) (M.pure (.int 64))))) (M.pure []))))) (mBor 1)))
  (M.pure .nx)))))))
def f__law_draw : FSem := fnSem 4 m__law_draw
theorem sc__law_draw : FnScope ["deck", "many", "number", "cell"] ["deck", "many"] (defScope (top 27)) := ⟨rfl, rfl, rfl, by decide +kernel, rfl, by decide +kernel, by decide +kernel⟩
theorem fc__law_draw (T : Top K mg Z) (ex : ∃ (a : Addr) (fd : FuncData), Fun K "_law_draw" "_law_draw" (top 27) a fd ∧ mg "_law_draw" = some (.ref a)) : FC P w K mg base Z 1 "_law_draw" (top 27) ["deck", "many"] f__law_draw := by
  refine fc_ok (m := m__law_draw) (N := ["deck", "many", "number", "cell"]) ex sc__law_draw (fun _ _ _ _ _ _ us hl => match us, hl with | [_, _], _ => rfl) (fun a cdv A outer s H E hr => ?_) rfl
  have hu := hr.units
  have hr1 := hr
  have nd := sc__law_draw.nd
  exact (bx_cons (sx_dkput 0 hu (EX.frz (ex_bin os_add (ED.ep (ed_dkget (f := fun s => s.draws) 0 dk_draws hu)) (ED.ep ed_int))))
  (bx_cons (sx_set 2 (ex_bin os_add (ED.ep (ed_dkget (f := fun s => s.mixed) 0 dk_mixed hu)) (EX.ep (ex_bin os_mul (ED.ep ed_int) (ED.ep (ed_dkget (f := fun s => s.draws) 0 dk_draws hu))))) nd)
  (bx_cons (sx_if (tx_dkne (k2 := 0) 0 hu) (bx_cons (sx_set 3 (ED.ex (ed_dkpop 0 hu)) nd)
  (bx_cons (sx_if (tx_cmp os_ge (ep_name 3) (EX.ep (ex_bin os_pow (ED.ep ed_int) (ED.ep ed_int))) (by (first | rfl | exact nomark _ | with_unfolding_all rfl))) (bx_cons (sx_expr (ex_dkapp 0 hu (EX.frz (ex_bin os_fdiv (ep_name 3) (EX.ep (ex_callB (cs_max rfl) T.b_max (by decide +kernel) (ap_cons (ED.ep ed_int) (ap_cons (ep_name 1) ap_nil))))))))
  (bx_cons (sx_ret (ex_bin os_mod (EX.ep (ex_callTy cs_int T.b_int (by decide +kernel) (ap_cons (ep_name 3) ap_nil))) (ep_name 1)))
  bx_nil)) bx_nil)
  (bx_cons (sx_set 2 (ex_bin os_add (ep_name 2) (EX.ep (ex_bin os_mod (EX.ep (ex_callTy cs_int T.b_int (by decide +kernel) (ap_cons (ep_name 3) ap_nil))) (ED.ep ed_int)))) nd)
  bx_nil))) bx_nil)
  (bx_cons (sx_set 2 (ex_bin os_mod (EX.ep (ex_callTy cs_int T.b_int (by decide +kernel) (ap_cons (EX.ep (ex_bin os_add (EX.ep (ex_bin os_mul (ep_name 2) (ED.ep ed_int))) (ED.ep ed_int))) ap_nil))) (ED.ep ed_int)) nd)
  (bx_cons (sx_set 2 (ex_bin os_mod (EX.ep (ex_callTy cs_int T.b_int (by decide +kernel) (ap_cons (EX.ep (ex_bin os_add (EX.ep (ex_bin os_add (EX.ep (ex_bin os_mul (ep_name 2) (ep_name 2))) (EX.ep (ex_bin os_mul (ED.ep ed_int) (ED.ep (ed_dkget (f := fun s => s.draws) 0 dk_draws hu)))))) (ED.ep ed_int))) ap_nil))) (ED.ep ed_int)) nd)
  (bx_cons (sx_ret (ex_bin os_mod (EX.ep (ex_callTy cs_int T.b_int (by decide +kernel) (ap_cons (EX.ep (ex_bin os_fdiv (EX.ep (ex_bin os_mod (EX.ep (ex_callTy cs_int T.b_int (by decide +kernel) (ap_cons (EX.ep (ex_bin os_mul (ep_name 2) (ED.ep ed_int))) ap_nil))) (ED.ep ed_int))) (ED.ep ed_int))) ap_nil))) (ep_name 1)))
  bx_nil))))))
def m__law_pick : M Fl := (mSeq (M.map Fl.rt (mBin opIx (mBor 1) (M.map Opd.sol (mCallD 2 f__law_draw 0 (M.map (fun p => p.1 :: p.2) (M.pair (M.frz (mCall fLen (M.map (fun p => p.1 :: p.2) (M.pair (mBor 1) (M.pure []))))) (M.pure [])))))))
  (M.pure .nx))
def f__law_pick : FSem := fnSem 2 m__law_pick
theorem sc__law_pick : FnScope ["deck", "some"] ["deck", "some"] (defScope (top 28)) := ⟨rfl, rfl, rfl, by decide +kernel, rfl, by decide +kernel, by decide +kernel⟩
theorem fc__law_pick (T : Top K mg Z) (F__law_draw : FC P w K mg base Z 1 "_law_draw" (top 27) ["deck", "many"] f__law_draw) (ex : ∃ (a : Addr) (fd : FuncData), Fun K "_law_pick" "_law_pick" (top 28) a fd ∧ mg "_law_pick" = some (.ref a)) : FC P w K mg base Z 2 "_law_pick" (top 28) ["deck", "some"] f__law_pick := by
  refine fc_ok (m := m__law_pick) (N := ["deck", "some"]) ex sc__law_pick (fun _ _ _ _ _ _ us hl => match us, hl with | [_, _], _ => rfl) (fun a cdv A outer s H E hr => ?_) rfl
  have hu := hr.units
  have hr1 := hr
  have nd := sc__law_pick.nd
  exact (bx_cons (sx_ret (ex_ix is_ix (ep_name 1) (EX.ep (ex_callD 0 (F__law_draw.mono (by decide)) hr (ad_cons (EX.frz (ex_callB cs_len T.b_len (by decide +kernel) (ap_cons (ep_name 1) ap_nil))) ad_nil)))))
  bx_nil)
def m__law_mixed : M Fl := (mSeq (mPar 2 3 (mCall fList (M.map (fun p => p.1 :: p.2) (M.pair (mBor 1) (M.pure [])))) (mLst (M.pure [])))
  (mSeq (whileL (mB (mBin opNe (mBor 2) (M.map Opd.sol (mLst (M.pure []))))) (mSeq (M.map (fun _ => Fl.nx) (mMeth fAppend 3 (M.map (fun p => p.1 :: p.2) (M.pair (M.frz (mMeth fPopAt 2 (M.map (fun p => p.1 :: p.2) (M.pair (M.frz (mCallD 2 f__law_draw 0 (M.map (fun p => p.1 :: p.2) (M.pair (M.frz (mCall fLen (M.map (fun p => p.1 :: p.2) (M.pair (mBor 2) (M.pure []))))) (M.pure []))))) (M.pure []))))) (M.pure [])))))
  (M.pure .nx)) 100)
  (mSeq (M.map Fl.rt (M.map O.d (mName 3)))
  (M.pure .nx))))
def f__law_mixed : FSem := fnSem 4 m__law_mixed
theorem sc__law_mixed : FnScope ["deck", "some", "rest", "found"] ["deck", "some"] (defScope (top 29)) := ⟨rfl, rfl, rfl, by decide +kernel, rfl, by decide +kernel, by decide +kernel⟩
theorem fc__law_mixed (T : Top K mg Z) (F__law_draw : FC P w K mg base Z 1 "_law_draw" (top 27) ["deck", "many"] f__law_draw) (ex : ∃ (a : Addr) (fd : FuncData), Fun K "_law_mixed" "_law_mixed" (top 29) a fd ∧ mg "_law_mixed" = some (.ref a)) : FC P w K mg base Z 2 "_law_mixed" (top 29) ["deck", "some"] f__law_mixed := by
  refine fc_ok (m := m__law_mixed) (N := ["deck", "some", "rest", "found"]) ex sc__law_mixed (fun _ _ _ _ _ _ us hl => match us, hl with | [_, _], _ => rfl) (fun a cdv A outer s H E hr => ?_) rfl
  have hu := hr.units
  have hr1 := hr
  have nd := sc__law_mixed.nd
  exact (bx_cons (sx_par 2 3 (ex_callTy cs_list T.b_list (by decide +kernel) (ap_cons (ep_name 1) ap_nil)) (ex_lst ad_nil) nd)
  (bx_cons (sx_while 100 (tx_cmp (os_ne hu) (ep_name 2) (EX.ep (ex_lst ad_nil)) (by (first | rfl | exact nomark _ | with_unfolding_all rfl))) (bx_cons (sx_expr (ex_append 3 (ad_cons (EX.frz (ex_popAt 2 (ad_cons (EX.frz (ex_callD 0 (F__law_draw.mono (by decide)) hr (ad_cons (EX.frz (ex_callB cs_len T.b_len (by decide +kernel) (ap_cons (ep_name 2) ap_nil))) ad_nil))) ad_nil))) ad_nil)))
  bx_nil) (passes_of rfl))
  (bx_cons (sx_ret (ED.ex (ed_name 3)))
  bx_nil)))
def m__law_same (rec : FSem) : M Fl := (mSeq (mIf (mTruth (M.map Opd.sol (mCall fIsi (M.map (fun p => p.1 :: p.2) (M.pair (mBor 1) (M.map (fun p => p.1 :: p.2) (M.pair (M.map (fun x => .sol (.d x)) (mTup (M.map (fun p => p.1 :: p.2) (M.pair (M.pure (.ty .tup)) (M.map (fun p => p.1 :: p.2) (M.pair (M.pure (.ty .lst)) (M.pure []))))))) (M.pure [])))))))) (mSeq (mIf (mIf (mB (mBin opNe (M.map Opd.sol (mCall fIsi (M.map (fun p => p.1 :: p.2) (M.pair (mBor 0) (M.map (fun p => p.1 :: p.2) (M.pair (M.map (fun x => .sol (.d x)) (M.pure (.ty .tup))) (M.pure []))))))) (M.map Opd.sol (mCall fIsi (M.map (fun p => p.1 :: p.2) (M.pair (mBor 1) (M.map (fun p => p.1 :: p.2) (M.pair (M.map (fun x => .sol (.d x)) (M.pure (.ty .tup))) (M.pure []))))))))) (M.pure true) (mB (mBin opNe (M.map Opd.sol (mCall fIsi (M.map (fun p => p.1 :: p.2) (M.pair (mBor 0) (M.map (fun p => p.1 :: p.2) (M.pair (M.map (fun x => .sol (.d x)) (M.pure (.ty .lst))) (M.pure []))))))) (M.map Opd.sol (mCall fIsi (M.map (fun p => p.1 :: p.2) (M.pair (mBor 1) (M.map (fun p => p.1 :: p.2) (M.pair (M.map (fun x => .sol (.d x)) (M.pure (.ty .lst))) (M.pure [])))))))))) (mSeq (M.map Fl.rt (M.map O.d (M.pure (.bl false))))
  (M.pure .nx)) (M.pure .nx))
  (mSeq (M.map Fl.rt (mSel true (mBin opEq (M.map Opd.sol (mCall fLen (M.map (fun p => p.1 :: p.2) (M.pair (mBor 0) (M.pure []))))) (M.map Opd.sol (mCall fLen (M.map (fun p => p.1 :: p.2) (M.pair (mBor 1) (M.pure [])))))) (mBin opEq (M.map Opd.sol (mComp [2, 3] (mWalk fZip (M.map (fun p => p.1 :: p.2) (M.pair (mName 0) (M.map (fun p => p.1 :: p.2) (M.pair (mName 1) (M.pure [])))))) (gT 2 (gC (gN 2) (gC (gN 3) g0))) (M.map (!·) (mTruth (M.map Opd.sol (mCallP 2 rec (M.map (fun p => p.1 :: p.2) (M.pair (mName 2) (M.map (fun p => p.1 :: p.2) (M.pair (mName 3) (M.pure []))))))))) (M.pure (.int 1)))) (M.map Opd.sol (mLst (M.pure []))))))
  (M.pure .nx))) (M.pure .nx))
  (mSeq (mIf (mIf (mB (mBin opIs (mBor 1) (M.map (fun x => .sol (.d x)) (M.pure .non)))) (M.pure true) (mTruth (M.map Opd.sol (mCall fIsi (M.map (fun p => p.1 :: p.2) (M.pair (mBor 1) (M.map (fun p => p.1 :: p.2) (M.pair (M.map (fun x => .sol (.d x)) (M.pure (.ty .bl))) (M.pure []))))))))) (mSeq (M.map Fl.rt (mIf (mB (mBin opIs (mBor 1) (M.map (fun x => .sol (.d x)) (M.pure .non)))) (mBin opIs (mBor 0) (M.map (fun x => .sol (.d x)) (M.pure .non))) (mSel true (mCall fIsi (M.map (fun p => p.1 :: p.2) (M.pair (mBor 0) (M.map (fun p => p.1 :: p.2) (M.pair (M.map (fun x => .sol (.d x)) (M.pure (.ty .bl))) (M.pure [])))))) (mBin opEq (mBor 0) (mBor 1)))))
  (M.pure .nx)) (M.pure .nx))
  (mSeq (mIf (mTruth (M.map Opd.sol (mCall fIsi (M.map (fun p => p.1 :: p.2) (M.pair (mBor 1) (M.map (fun p => p.1 :: p.2) (M.pair (M.map (fun x => .sol (.d x)) (M.pure (.ty .int))) (M.pure [])))))))) (mSeq (M.map Fl.rt (mSel true (mCall fIsi (M.map (fun p => p.1 :: p.2) (M.pair (mBor 0) (M.map (fun p => p.1 :: p.2) (M.pair (M.map (fun x => .sol (.d x)) (M.pure (.ty .int))) (M.pure [])))))) (mSel true (M.map (fun c => .d (.bl (!c))) (mTruth (M.map Opd.sol (mCall fIsi (M.map (fun p => p.1 :: p.2) (M.pair (mBor 0) (M.map (fun p => p.1 :: p.2) (M.pair (M.map (fun x => .sol (.d x)) (M.pure (.ty .bl))) (M.pure []))))))))) (mBin opEq (mBor 0) (mBor 1)))))
  (M.pure .nx)) (M.pure .nx))
  (mSeq (M.map Fl.rt (mSel true (mCall fIsi (M.map (fun p => p.1 :: p.2) (M.pair (mBor 0) (M.map (fun p => p.1 :: p.2) (M.pair (M.map (fun x => .sol (.d x)) (M.pure (.ty .str))) (M.pure [])))))) (mSel true (mCall fIsi (M.map (fun p => p.1 :: p.2) (M.pair (mBor 1) (M.map (fun p => p.1 :: p.2) (M.pair (M.map (fun x => .sol (.d x)) (M.pure (.ty .str))) (M.pure [])))))) (mBin opEq (mBor 0) (mBor 1)))))
  (M.pure .nx)))))
def f__law_same : Nat → FSem
  | 0 => fnSem 4 (fun _ => .stuck)
  | n + 1 => fnSem 4 (m__law_same (f__law_same n))
theorem sc__law_same : FnScope ["got", "due", "one", "other"] ["got", "due"] (defScope (top 30)) := ⟨rfl, rfl, rfl, by decide +kernel, rfl, by decide +kernel, by decide +kernel⟩
theorem fc__law_same (T : Top K mg Z) (ex : ∃ (a : Addr) (fd : FuncData), Fun K "_law_same" "_law_same" (top 30) a fd ∧ mg "_law_same" = some (.ref a)) : ∀ n, FC P w K mg base Z (1 + n) "_law_same" (top 30) ["got", "due"] (f__law_same n)
  | 0 => fc_ok (m := fun _ => .stuck) (N := ["got", "due", "one", "other"]) ex sc__law_same (fun _ _ _ _ _ _ us hl => match us, hl with | [_, _], _ => rfl) (k := 0) (fun a cdv A outer s H E hr => bx_stuck) rfl
  | n + 1 => by
    have ih := fc__law_same T ex n
    refine fc_ok (m := m__law_same (f__law_same n)) (N := ["got", "due", "one", "other"]) ex sc__law_same (fun _ _ _ _ _ _ us hl => match us, hl with | [_, _], _ => rfl) (k := 1 + n) (fun a cdv A outer s H E hr => ?_) rfl
    have hu := hr.units
    have hr1 := hr
    have nd := sc__law_same.nd
    exact (bx_cons (sx_if (tx_truth (EX.ep (ex_callB cs_isi T.b_isinstance (by decide +kernel) (ap_cons (ep_name 1) (ap_cons (ED.ep (ed_tup (ad_cons (ed_ty T.b_tuple (by decide +kernel)) (ad_cons (ed_ty T.b_list (by decide +kernel)) ad_nil)))) ap_nil))))) (bx_cons (sx_if (tx_pw (pw_orX (tx_cmp (os_ne hu) (EX.ep (ex_callB cs_isi T.b_isinstance (by decide +kernel) (ap_cons (ep_name 0) (ap_cons (ED.ep (ed_ty T.b_tuple (by decide +kernel))) ap_nil)))) (EX.ep (ex_callB cs_isi T.b_isinstance (by decide +kernel) (ap_cons (ep_name 1) (ap_cons (ED.ep (ed_ty T.b_tuple (by decide +kernel))) ap_nil)))) (by (first | rfl | exact nomark _ | with_unfolding_all rfl))) (pw_or1X (tx_cmp (os_ne hu) (EX.ep (ex_callB cs_isi T.b_isinstance (by decide +kernel) (ap_cons (ep_name 0) (ap_cons (ED.ep (ed_ty T.b_list (by decide +kernel))) ap_nil)))) (EX.ep (ex_callB cs_isi T.b_isinstance (by decide +kernel) (ap_cons (ep_name 1) (ap_cons (ED.ep (ed_ty T.b_list (by decide +kernel))) ap_nil)))) (by (first | rfl | exact nomark _ | with_unfolding_all rfl)))))) (bx_cons (sx_ret (ED.ex ed_bl))
  bx_nil) bx_nil)
  (bx_cons (sx_ret (ex_and (ex_cmp (os_eq hu) (EX.ep (ex_callB cs_len T.b_len (by decide +kernel) (ap_cons (ep_name 0) ap_nil))) (EX.ep (ex_callB cs_len T.b_len (by decide +kernel) (ap_cons (ep_name 1) ap_nil))) (by (first | rfl | exact nomark _ | with_unfolding_all rfl))) (ex_one (ex_cmp (os_eq hu) (EX.ep (ex_lc (own := [("one", 2), ("other", 3)]) (ix_zip (ad_cons (ed_name 0) (ad_cons (ed_name 1) ad_nil)) T.b_zip) (blkOk_by (by kernel_rfl)) nd (by intros; exact (tg_tup (tgs_cons (tg_name 2 nd) (tgs_cons (tg_name 3 nd) tgs_nil)))) (by intros; exact (ts_one (tx_not (tx_truth (EX.ep (ex_call ih hr (ad_cons (ed_name 2) (ad_cons (ed_name 3) ad_nil)))))))) (by intros; exact ed_int) (by decide))) (EX.ep (ex_lst ad_nil)) (by (first | rfl | exact nomark _ | with_unfolding_all rfl))))))
  bx_nil)) bx_nil)
  (bx_cons (sx_if (tx_pw (pw_orX (tx_cmp os_is (ep_name 1) (ED.ep ed_non) (by (first | rfl | exact nomark _ | with_unfolding_all rfl))) (pw_or1X (tx_truth (EX.ep (ex_callB cs_isi T.b_isinstance (by decide +kernel) (ap_cons (ep_name 1) (ap_cons (ED.ep (ed_ty T.b_bool (by decide +kernel))) ap_nil)))))))) (bx_cons (sx_ret (ex_if (tx_cmp os_is (ep_name 1) (ED.ep ed_non) (by (first | rfl | exact nomark _ | with_unfolding_all rfl))) (ex_cmp os_is (ep_name 0) (ED.ep ed_non) (by (first | rfl | exact nomark _ | with_unfolding_all rfl))) (ex_and (ex_callB cs_isi T.b_isinstance (by decide +kernel) (ap_cons (ep_name 0) (ap_cons (ED.ep (ed_ty T.b_bool (by decide +kernel))) ap_nil))) (ex_one (ex_cmp (os_eq hu) (ep_name 0) (ep_name 1) (by (first | rfl | exact nomark _ | with_unfolding_all rfl)))))))
  bx_nil) bx_nil)
  (bx_cons (sx_if (tx_truth (EX.ep (ex_callB cs_isi T.b_isinstance (by decide +kernel) (ap_cons (ep_name 1) (ap_cons (ED.ep (ed_ty T.b_int (by decide +kernel))) ap_nil))))) (bx_cons (sx_ret (ex_and (ex_callB cs_isi T.b_isinstance (by decide +kernel) (ap_cons (ep_name 0) (ap_cons (ED.ep (ed_ty T.b_int (by decide +kernel))) ap_nil))) (ex_and (ex_not (EX.ep (ex_callB cs_isi T.b_isinstance (by decide +kernel) (ap_cons (ep_name 0) (ap_cons (ED.ep (ed_ty T.b_bool (by decide +kernel))) ap_nil))))) (ex_one (ex_cmp (os_eq hu) (ep_name 0) (ep_name 1) (by (first | rfl | exact nomark _ | with_unfolding_all rfl)))))))
  bx_nil) bx_nil)
  (bx_cons (sx_ret (ex_and (ex_callB cs_isi T.b_isinstance (by decide +kernel) (ap_cons (ep_name 0) (ap_cons (ED.ep (ed_ty T.b_str (by decide +kernel))) ap_nil))) (ex_and (ex_callB cs_isi T.b_isinstance (by decide +kernel) (ap_cons (ep_name 1) (ap_cons (ED.ep (ed_ty T.b_str (by decide +kernel))) ap_nil))) (ex_one (ex_cmp (os_eq hu) (ep_name 0) (ep_name 1) (by (first | rfl | exact nomark _ | with_unfolding_all rfl)))))))
  bx_nil))))
def m__law_turned_over : M Fl := (mSeq (M.map Fl.rt (mComp [2, 3, 4, 5] (mItems (M.frz (mUn opRev (mBor 0)))) (gT 4 (gC (gN 2) (gC (gN 3) (gC (gN 4) (gC (gN 5) g0))))) (M.pure true) (mTup (M.map (fun p => p.1 :: p.2) (M.pair (mName 2) (M.map (fun p => p.1 :: p.2) (M.pair (mName 3) (M.map (fun p => p.1 :: p.2) (M.pair (M.frz (mBin opSub (M.map (fun x => .sol (.d x)) (M.pure (.int 1))) (mBor 4))) (M.map (fun p => p.1 :: p.2) (M.pair (M.frz (mBin opNe (mBor 5) (mBor 1))) (M.pure []))))))))))))
  (M.pure .nx))
def f__law_turned_over : FSem := fnSem 6 m__law_turned_over
theorem sc__law_turned_over : FnScope ["stack", "is_round", "row", "column", "face", "turned"] ["stack", "is_round"] (defScope (top 31)) := ⟨rfl, rfl, rfl, by decide +kernel, rfl, by decide +kernel, by decide +kernel⟩
theorem fc__law_turned_over (T : Top K mg Z) (ex : ∃ (a : Addr) (fd : FuncData), Fun K "_law_turned_over" "_law_turned_over" (top 31) a fd ∧ mg "_law_turned_over" = some (.ref a)) : FC P w K mg base Z 1 "_law_turned_over" (top 31) ["stack", "is_round"] f__law_turned_over := by
  refine fc_ok (m := m__law_turned_over) (N := ["stack", "is_round", "row", "column", "face", "turned"]) ex sc__law_turned_over (fun _ _ _ _ _ _ us hl => match us, hl with | [_, _], _ => rfl) (fun a cdv A outer s H E hr => ?_) rfl
  have hu := hr.units
  have hr1 := hr
  have nd := sc__law_turned_over.nd
  exact (bx_cons (sx_ret (ex_lc (own := [("row", 2), ("column", 3), ("face", 4), ("turned", 5)]) (ix_seq (EX.frz (ex_rev (ep_name 0)))) (blkOk_by (by kernel_rfl)) nd (by intros; exact (tg_tup (tgs_cons (tg_name 2 nd) (tgs_cons (tg_name 3 nd) (tgs_cons (tg_name 4 nd) (tgs_cons (tg_name 5 nd) tgs_nil)))))) (by intros; exact ts_nil) (by intros; exact (ed_tup (ad_cons (ed_name 2) (ad_cons (ed_name 3) (ad_cons (EX.frz (ex_bin os_sub (ED.ep ed_int) (ep_name 4))) (ad_cons (EX.frz (ex_cmp (os_ne hu) (ep_name 5) (ep_name 1) (by (first | rfl | exact nomark _ | with_unfolding_all rfl)))) ad_nil)))))) (by decide)))
  bx_nil)
def m__law_bundle : M Fl := (mSeq (mAsg (gT 2 (gC (gN 1) (gC (gN 2) g0))) (mTup (M.map (fun p => p.1 :: p.2) (M.pair (M.pure (.int 1)) (M.map (fun p => p.1 :: p.2) (M.pair (M.pure (.int 1)) (M.pure [])))))))
  (mSeq (mFor (mItems (mName 0)) (gN 3) (mSeq (mAsg (gT 2 (gC (gN 1) (gC (gN 2) g0))) (mTup (M.map (fun p => p.1 :: p.2) (M.pair (M.frz (mBin opMul (mBor 1) (M.map Opd.sol (mBin opAdd (M.map (fun x => .sol (.d x)) (M.pure (.int 1))) (M.map Opd.sol (mCall fInt (M.map (fun p => p.1 :: p.2) (M.pair (M.map Opd.sol (mBin opIn (mBor 3) (M.map (fun x => .sol (.d x)) (mTup (M.map (fun p => p.1 :: p.2) (M.pair (M.pure (.str "left")) (M.map (fun p => p.1 :: p.2) (M.pair (M.pure (.str "right")) (M.pure []))))))))) (M.pure []))))))))) (M.map (fun p => p.1 :: p.2) (M.pair (M.frz (mBin opMul (mBor 2) (M.map Opd.sol (mBin opAdd (M.map (fun x => .sol (.d x)) (M.pure (.int 1))) (M.map Opd.sol (mCall fInt (M.map (fun p => p.1 :: p.2) (M.pair (M.map Opd.sol (mBin opIn (mBor 3) (M.map (fun x => .sol (.d x)) (mTup (M.map (fun p => p.1 :: p.2) (M.pair (M.pure (.str "up")) (M.map (fun p => p.1 :: p.2) (M.pair (M.pure (.str "down")) (M.pure []))))))))) (M.pure []))))))))) (M.pure [])))))))
  (M.pure .nx)))
  (mSeq (mSet 4 (mComp [6] (mRange fRange1 (M.map (fun p => p.1 :: p.2) (M.pair (mBor 2) (M.pure [])))) (gN 6) (M.pure true) (M.frz (mComp [5] (mRange fRange1 (M.map (fun p => p.1 :: p.2) (M.pair (mBor 1) (M.pure [])))) (gN 5) (M.pure true) (M.frz (mLst (M.map (fun p => p.1 :: p.2) (M.pair (mTup (M.map (fun p => p.1 :: p.2) (M.pair (mName 6) (M.map (fun p => p.1 :: p.2) (M.pair (mName 5) (M.map (fun p => p.1 :: p.2) (M.pair (M.pure (.int 0)) (M.map (fun p => p.1 :: p.2) (M.pair (M.pure (.bl false)) (M.pure [])))))))))) (M.pure [])))))))))
  (mSeq (mFor (mItems (mName 0)) (gN 3) (mSeq (mIf (mB (mBin opIn (mBor 3) (M.map (fun x => .sol (.d x)) (mTup (M.map (fun p => p.1 :: p.2) (M.pair (M.pure (.str "left")) (M.map (fun p => p.1 :: p.2) (M.pair (M.pure (.str "right")) (M.pure []))))))))) (mSeq (mPar 7 8 (mBin opFdiv (M.map Opd.sol (mCall fLen (M.map (fun p => p.1 :: p.2) (M.pair (M.map Opd.sol (mBin opIx (mBor 4) (M.map (fun x => .sol (.d x)) (M.pure (.int 0))))) (M.pure []))))) (M.map (fun x => .sol (.d x)) (M.pure (.int 2)))) (mLst (M.pure [])))
  (mSeq (mFor (mItems (M.frz (mCall fList (M.map (fun p => p.1 :: p.2) (M.pair (mBor 4) (M.pure [])))))) (gN 9) (mSeq (mAsg (gT 2 (gC (gN 10) (gC (gN 11) g0))) (M.frz (mIf (mB (mBin opEq (mBor 3) (M.map (fun x => .sol (.d x)) (M.pure (.str "left"))))) (M.map O.d (mTup (M.map (fun p => p.1 :: p.2) (M.pair (M.frz (mSlice opSl (mBor 9) (mInt (mBor 7)) (M.pure none))) (M.map (fun p => p.1 :: p.2) (M.pair (M.frz (mUn opRev (M.map Opd.sol (mSlice opSl (mBor 9) (M.pure none) (mInt (mBor 7)))))) (M.pure []))))))) (M.map O.d (mTup (M.map (fun p => p.1 :: p.2) (M.pair (M.frz (mSlice opSl (mBor 9) (M.pure none) (mInt (mBor 7)))) (M.map (fun p => p.1 :: p.2) (M.pair (M.frz (mUn opRev (M.map Opd.sol (mSlice opSl (mBor 9) (mInt (mBor 7)) (M.pure none))))) (M.pure []))))))))))
  (mSeq (M.map (fun _ => Fl.nx) (mMeth fAppend 8 (M.map (fun p => p.1 :: p.2) (M.pair (M.frz (mComp [12, 13] (mWalk fZip (M.map (fun p => p.1 :: p.2) (M.pair (mName 10) (M.map (fun p => p.1 :: p.2) (M.pair (mName 11) (M.pure [])))))) (gT 2 (gC (gN 12) (gC (gN 13) g0))) (M.pure true) (M.frz (mBin opAdd (M.map Opd.sol (mCallP 2 f__law_turned_over (M.map (fun p => p.1 :: p.2) (M.pair (mName 13) (M.map (fun p => p.1 :: p.2) (M.pair (M.pure (.bl false)) (M.pure []))))))) (mBor 12))))) (M.pure [])))))
  (M.pure .nx))))
  (M.pure .nx))) (mSeq (mPar 7 8 (mBin opFdiv (M.map Opd.sol (mCall fLen (M.map (fun p => p.1 :: p.2) (M.pair (mBor 4) (M.pure []))))) (M.map (fun x => .sol (.d x)) (M.pure (.int 2)))) (mLst (M.pure [])))
  (mSeq (mAsg (gT 2 (gC (gN 10) (gC (gN 11) g0))) (M.frz (mIf (mB (mBin opEq (mBor 3) (M.map (fun x => .sol (.d x)) (M.pure (.str "up"))))) (M.map O.d (mTup (M.map (fun p => p.1 :: p.2) (M.pair (M.frz (mSlice opSl (mBor 4) (mInt (mBor 7)) (M.pure none))) (M.map (fun p => p.1 :: p.2) (M.pair (M.frz (mUn opRev (M.map Opd.sol (mSlice opSl (mBor 4) (M.pure none) (mInt (mBor 7)))))) (M.pure []))))))) (M.map O.d (mTup (M.map (fun p => p.1 :: p.2) (M.pair (M.frz (mSlice opSl (mBor 4) (M.pure none) (mInt (mBor 7)))) (M.map (fun p => p.1 :: p.2) (M.pair (M.frz (mUn opRev (M.map Opd.sol (mSlice opSl (mBor 4) (mInt (mBor 7)) (M.pure none))))) (M.pure []))))))))))
  (mSeq (mFor (mItems (M.frz (mListZip (M.map (fun p => p.1 :: p.2) (M.pair (mName 10) (M.map (fun p => p.1 :: p.2) (M.pair (mName 11) (M.pure [])))))))) (gT 2 (gC (gN 9) (gC (gN 14) g0))) (mSeq (M.map (fun _ => Fl.nx) (mMeth fAppend 8 (M.map (fun p => p.1 :: p.2) (M.pair (M.frz (mComp [12, 13] (mWalk fZip (M.map (fun p => p.1 :: p.2) (M.pair (mName 9) (M.map (fun p => p.1 :: p.2) (M.pair (mName 14) (M.pure [])))))) (gT 2 (gC (gN 12) (gC (gN 13) g0))) (M.pure true) (M.frz (mBin opAdd (M.map Opd.sol (mCallP 2 f__law_turned_over (M.map (fun p => p.1 :: p.2) (M.pair (mName 13) (M.map (fun p => p.1 :: p.2) (M.pair (M.pure (.bl true)) (M.pure []))))))) (mBor 12))))) (M.pure [])))))
  (M.pure .nx)))
  (M.pure .nx)))))
  (mSeq (mSet 4 (M.map O.d (mName 8)))
  (M.pure .nx))))
  (mSeq (M.map Fl.rt (mCall fTuple (M.map (fun p => p.1 :: p.2) (M.pair (M.map Opd.sol (mBin opIx (M.map Opd.sol (mBin opIx (mBor 4) (M.map (fun x => .sol (.d x)) (M.pure (.int 0))))) (M.map (fun x => .sol (.d x)) (M.pure (.int 0))))) (M.pure [])))))
  (M.pure .nx))))))
def f__law_bundle : FSem := fnSem 15 m__law_bundle
theorem sc__law_bundle : FnScope ["folds", "wide", "tall", "fold", "paper", "column", "row", "half", "rows", "line", "near", "far", "one", "other", "other_line"] ["folds"] (defScope (top 32)) := ⟨rfl, rfl, rfl, by decide +kernel, rfl, by decide +kernel, by decide +kernel⟩
theorem fc__law_bundle (T : Top K mg Z) (F__law_turned_over : FC P w K mg base Z 1 "_law_turned_over" (top 31) ["stack", "is_round"] f__law_turned_over) (ex : ∃ (a : Addr) (fd : FuncData), Fun K "_law_bundle" "_law_bundle" (top 32) a fd ∧ mg "_law_bundle" = some (.ref a)) : FC P w K mg base Z 2 "_law_bundle" (top 32) ["folds"] f__law_bundle := by
  refine fc_ok (m := m__law_bundle) (N := ["folds", "wide", "tall", "fold", "paper", "column", "row", "half", "rows", "line", "near", "far", "one", "other", "other_line"]) ex sc__law_bundle (fun _ _ _ _ _ _ us hl => match us, hl with | [_], _ => rfl) (fun a cdv A outer s H E hr => ?_) rfl
  have hu := hr.units
  have hr1 := hr
  have nd := sc__law_bundle.nd
  exact (bx_cons (sx_asg (ed_tup (ad_cons ed_int (ad_cons ed_int ad_nil))) (tg_tup (tgs_cons (tg_name 1 nd) (tgs_cons (tg_name 2 nd) tgs_nil))))
  (bx_cons (sx_for (ix_seq (ed_name 0)) (tg_name 3 nd) (bx_cons (sx_asg (ed_tup (ad_cons (EX.frz (ex_bin os_mul (ep_name 1) (EX.ep (ex_bin os_add (ED.ep ed_int) (EX.ep (ex_callTy cs_int T.b_int (by decide +kernel) (ap_cons (EX.ep (ex_cmp os_in (ep_name 3) (ED.ep (ed_tup (ad_cons ed_str (ad_cons ed_str ad_nil)))) (by (first | rfl | exact nomark _ | with_unfolding_all rfl)))) ap_nil))))))) (ad_cons (EX.frz (ex_bin os_mul (ep_name 2) (EX.ep (ex_bin os_add (ED.ep ed_int) (EX.ep (ex_callTy cs_int T.b_int (by decide +kernel) (ap_cons (EX.ep (ex_cmp os_in (ep_name 3) (ED.ep (ed_tup (ad_cons ed_str (ad_cons ed_str ad_nil)))) (by (first | rfl | exact nomark _ | with_unfolding_all rfl)))) ap_nil))))))) ad_nil))) (tg_tup (tgs_cons (tg_name 1 nd) (tgs_cons (tg_name 2 nd) tgs_nil))))
  bx_nil) (passes_of rfl))
  (bx_cons (sx_setLc 4 (own := [("row", 6)]) (ix_range1 (ap_cons (ep_name 2) ap_nil) T.b_range) (blkOk_by (by kernel_rfl)) nd (by intros; exact (tg_name 6 nd)) (by intros; exact ts_nil) (by intros; exact (EX.frz (ex_lc (own := [("column", 5)]) (ix_range1 (ap_cons (ep_name 1) ap_nil) T.b_range) (blkOk_by (by kernel_rfl)) nd (by intros; exact (tg_name 5 nd)) (by intros; exact ts_nil) (by intros; exact (EX.frz (ex_lst (ad_cons (ed_tup (ad_cons (ed_name 6) (ad_cons (ed_name 5) (ad_cons ed_int (ad_cons ed_bl ad_nil))))) ad_nil)))) (by decide)))) (by decide))
  (bx_cons (sx_for (ix_seq (ed_name 0)) (tg_name 3 nd) (bx_cons (sx_if (tx_cmp os_in (ep_name 3) (ED.ep (ed_tup (ad_cons ed_str (ad_cons ed_str ad_nil)))) (by (first | rfl | exact nomark _ | with_unfolding_all rfl))) (bx_cons (sx_par 7 8 (ex_bin os_fdiv (EX.ep (ex_callB cs_len T.b_len (by decide +kernel) (ap_cons (EX.ep (ex_ix is_ix (ep_name 4) (ED.ep ed_int))) ap_nil))) (ED.ep ed_int)) (ex_lst ad_nil) nd)
  (bx_cons (sx_for (ix_seq (EX.frz (ex_callTy cs_list T.b_list (by decide +kernel) (ap_cons (ep_name 4) ap_nil)))) (tg_name 9 nd) (bx_cons (sx_asg (EX.frz (ex_if (tx_cmp (os_eq hu) (ep_name 3) (ED.ep ed_str) (by (first | rfl | exact nomark _ | with_unfolding_all rfl))) (ED.ex (ed_tup (ad_cons (EX.frz (ex_slice ss_sl (ep_name 9) (p0_some (ep_name 7)) p0_none)) (ad_cons (EX.frz (ex_rev (EX.ep (ex_slice ss_sl (ep_name 9) p0_none (p0_some (ep_name 7)))))) ad_nil)))) (ED.ex (ed_tup (ad_cons (EX.frz (ex_slice ss_sl (ep_name 9) p0_none (p0_some (ep_name 7)))) (ad_cons (EX.frz (ex_rev (EX.ep (ex_slice ss_sl (ep_name 9) (p0_some (ep_name 7)) p0_none)))) ad_nil)))))) (tg_tup (tgs_cons (tg_name 10 nd) (tgs_cons (tg_name 11 nd) tgs_nil))))
  (bx_cons (sx_expr (ex_append 8 (ad_cons (EX.frz (ex_lc (own := [("one", 12), ("other", 13)]) (ix_zip (ad_cons (ed_name 10) (ad_cons (ed_name 11) ad_nil)) T.b_zip) (blkOk_by (by kernel_rfl)) nd (by intros; exact (tg_tup (tgs_cons (tg_name 12 nd) (tgs_cons (tg_name 13 nd) tgs_nil)))) (by intros; exact ts_nil) (by intros; exact (EX.frz (ex_bin os_add (EX.ep (ex_call (F__law_turned_over.mono (by decide)) hr (ad_cons (ed_name 13) (ad_cons ed_bl ad_nil)))) (ep_name 12)))) (by decide))) ad_nil)))
  bx_nil)) (passes_of rfl))
  bx_nil)) (bx_cons (sx_par 7 8 (ex_bin os_fdiv (EX.ep (ex_callB cs_len T.b_len (by decide +kernel) (ap_cons (ep_name 4) ap_nil))) (ED.ep ed_int)) (ex_lst ad_nil) nd)
  (bx_cons (sx_asg (EX.frz (ex_if (tx_cmp (os_eq hu) (ep_name 3) (ED.ep ed_str) (by (first | rfl | exact nomark _ | with_unfolding_all rfl))) (ED.ex (ed_tup (ad_cons (EX.frz (ex_slice ss_sl (ep_name 4) (p0_some (ep_name 7)) p0_none)) (ad_cons (EX.frz (ex_rev (EX.ep (ex_slice ss_sl (ep_name 4) p0_none (p0_some (ep_name 7)))))) ad_nil)))) (ED.ex (ed_tup (ad_cons (EX.frz (ex_slice ss_sl (ep_name 4) p0_none (p0_some (ep_name 7)))) (ad_cons (EX.frz (ex_rev (EX.ep (ex_slice ss_sl (ep_name 4) (p0_some (ep_name 7)) p0_none)))) ad_nil)))))) (tg_tup (tgs_cons (tg_name 10 nd) (tgs_cons (tg_name 11 nd) tgs_nil))))
  (bx_cons (sx_for (ix_seq (EX.frz (ex_listZip (ad_cons (ed_name 10) (ad_cons (ed_name 11) ad_nil)) T.b_list T.b_zip))) (tg_tup (tgs_cons (tg_name 9 nd) (tgs_cons (tg_name 14 nd) tgs_nil))) (bx_cons (sx_expr (ex_append 8 (ad_cons (EX.frz (ex_lc (own := [("one", 12), ("other", 13)]) (ix_zip (ad_cons (ed_name 9) (ad_cons (ed_name 14) ad_nil)) T.b_zip) (blkOk_by (by kernel_rfl)) nd (by intros; exact (tg_tup (tgs_cons (tg_name 12 nd) (tgs_cons (tg_name 13 nd) tgs_nil)))) (by intros; exact ts_nil) (by intros; exact (EX.frz (ex_bin os_add (EX.ep (ex_call (F__law_turned_over.mono (by decide)) hr (ad_cons (ed_name 13) (ad_cons ed_bl ad_nil)))) (ep_name 12)))) (by decide))) ad_nil)))
  bx_nil) (passes_of rfl))
  bx_nil))))
  (bx_cons (sx_set 4 (ED.ex (ed_name 8)) nd)
  bx_nil)) (passes_of rfl))
  (bx_cons (sx_ret (ex_callTy cs_tuple T.b_tuple (by decide +kernel) (ap_cons (EX.ep (ex_ix is_ix (EX.ep (ex_ix is_ix (ep_name 4) (ED.ep ed_int))) (ED.ep ed_int))) ap_nil)))
  bx_nil)))))
def m__law_layout : M Fl := (mSeq (mSet 1 (mLst (M.pure [])))
  (mSeq (mFor (mWalk fEnum (M.map (fun p => p.1 :: p.2) (M.pair (M.frz (mCallP 1 f__law_bundle (M.map (fun p => p.1 :: p.2) (M.pair (mName 0) (M.pure []))))) (M.pure [])))) (gT 2 (gC (gN 2) (gC (gT 4 (gC (gN 3) (gC (gN 4) (gC (gN 5) (gC (gN 6) g0))))) g0))) (mSeq (M.map (fun _ => Fl.nx) (mMeth fExtend 1 (M.map (fun p => p.1 :: p.2) (M.pair (M.frz (mLst (M.map (fun p => p.1 :: p.2) (M.pair (mTup (M.map (fun p => p.1 :: p.2) (M.pair (M.frz (mBin opAdd (M.map Opd.sol (mBin opMul (M.map (fun x => .sol (.d x)) (M.pure (.int 2))) (mBor 2))) (M.map (fun x => .sol (.d x)) (M.pure (.int 1))))) (M.map (fun p => p.1 :: p.2) (M.pair (mName 5) (M.map (fun p => p.1 :: p.2) (M.pair (mName 3) (M.map (fun p => p.1 :: p.2) (M.pair (mName 4) (M.map (fun p => p.1 :: p.2) (M.pair (mName 6) (M.pure [])))))))))))) (M.map (fun p => p.1 :: p.2) (M.pair (mTup (M.map (fun p => p.1 :: p.2) (M.pair (M.frz (mBin opAdd (M.map Opd.sol (mBin opMul (M.map (fun x => .sol (.d x)) (M.pure (.int 2))) (mBor 2))) (M.map (fun x => .sol (.d x)) (M.pure (.int 2))))) (M.map (fun p => p.1 :: p.2) (M.pair (M.frz (mBin opSub (M.map (fun x => .sol (.d x)) (M.pure (.int 1))) (mBor 5))) (M.map (fun p => p.1 :: p.2) (M.pair (mName 3) (M.map (fun p => p.1 :: p.2) (M.pair (mName 4) (M.map (fun p => p.1 :: p.2) (M.pair (mName 6) (M.pure [])))))))))))) (M.pure []))))))) (M.pure [])))))
  (M.pure .nx)))
  (mSeq (M.map Fl.rt (mCall fTuple (M.map (fun p => p.1 :: p.2) (M.pair (mBor 1) (M.pure [])))))
  (M.pure .nx))))
def f__law_layout : FSem := fnSem 7 m__law_layout
theorem sc__law_layout : FnScope ["folds", "found", "leaf", "row", "column", "face", "turned"] ["folds"] (defScope (top 33)) := ⟨rfl, rfl, rfl, by decide +kernel, rfl, by decide +kernel, by decide +kernel⟩
theorem fc__law_layout (T : Top K mg Z) (F__law_bundle : FC P w K mg base Z 2 "_law_bundle" (top 32) ["folds"] f__law_bundle) (ex : ∃ (a : Addr) (fd : FuncData), Fun K "_law_layout" "_law_layout" (top 33) a fd ∧ mg "_law_layout" = some (.ref a)) : FC P w K mg base Z 3 "_law_layout" (top 33) ["folds"] f__law_layout := by
  refine fc_ok (m := m__law_layout) (N := ["folds", "found", "leaf", "row", "column", "face", "turned"]) ex sc__law_layout (fun _ _ _ _ _ _ us hl => match us, hl with | [_], _ => rfl) (fun a cdv A outer s H E hr => ?_) rfl
  have hu := hr.units
  have hr1 := hr
  have nd := sc__law_layout.nd
  exact (bx_cons (sx_set 1 (ex_lst ad_nil) nd)
  (bx_cons (sx_for (ix_enum (ad_cons (EX.frz (ex_call (F__law_bundle.mono (by decide)) hr (ad_cons (ed_name 0) ad_nil))) ad_nil) T.b_enumerate) (tg_tup (tgs_cons (tg_name 2 nd) (tgs_cons (tg_tup (tgs_cons (tg_name 3 nd) (tgs_cons (tg_name 4 nd) (tgs_cons (tg_name 5 nd) (tgs_cons (tg_name 6 nd) tgs_nil))))) tgs_nil))) (bx_cons (sx_expr (ex_extend 1 (ad_cons (EX.frz (ex_lst (ad_cons (ed_tup (ad_cons (EX.frz (ex_bin os_add (EX.ep (ex_bin os_mul (ED.ep ed_int) (ep_name 2))) (ED.ep ed_int))) (ad_cons (ed_name 5) (ad_cons (ed_name 3) (ad_cons (ed_name 4) (ad_cons (ed_name 6) ad_nil)))))) (ad_cons (ed_tup (ad_cons (EX.frz (ex_bin os_add (EX.ep (ex_bin os_mul (ED.ep ed_int) (ep_name 2))) (ED.ep ed_int))) (ad_cons (EX.frz (ex_bin os_sub (ED.ep ed_int) (ep_name 5))) (ad_cons (ed_name 3) (ad_cons (ed_name 4) (ad_cons (ed_name 6) ad_nil)))))) ad_nil)))) ad_nil)))
  bx_nil) (passes_of rfl))
  (bx_cons (sx_ret (ex_callTy cs_tuple T.b_tuple (by decide +kernel) (ap_cons (ep_name 1) ap_nil)))
  bx_nil)))
def m__law_all_folds : M Fl := (mSeq (mSet 1 (mLst (M.map (fun p => p.1 :: p.2) (M.pair (mTup (M.map (fun p => p.1 :: p.2) (M.pair (M.pure (.str "left")) (M.pure [])))) (M.map (fun p => p.1 :: p.2) (M.pair (mTup (M.map (fun p => p.1 :: p.2) (M.pair (M.pure (.str "right")) (M.pure [])))) (M.pure [])))))))
  (mSeq (mFor (mRange fRange1 (M.map (fun p => p.1 :: p.2) (M.pair (M.map Opd.sol (mBin opSub (mBor 0) (M.map (fun x => .sol (.d x)) (M.pure (.int 1))))) (M.pure [])))) (gN 2) (mSeq (mSet 1 (mCall fSumL (M.map (fun p => p.1 :: p.2) (M.pair (M.map Opd.sol (mComp [4] (mItems (mName 1)) (gN 4) (M.pure true) (M.frz (mComp [3] (mItems (mTup (M.map (fun p => p.1 :: p.2) (M.pair (M.pure (.str "down")) (M.map (fun p => p.1 :: p.2) (M.pair (M.pure (.str "left")) (M.map (fun p => p.1 :: p.2) (M.pair (M.pure (.str "right")) (M.map (fun p => p.1 :: p.2) (M.pair (M.pure (.str "up")) (M.pure []))))))))))) (gN 3) (M.pure true) (M.frz (mBin opAdd (M.map (fun x => .sol (.d x)) (mTup (M.map (fun p => p.1 :: p.2) (M.pair (mName 3) (M.pure []))))) (mBor 4))))))) (M.map (fun p => p.1 :: p.2) (M.pair (M.map Opd.sol (mLst (M.pure []))) (M.pure [])))))))
  (M.pure .nx)))
  (mSeq (M.map Fl.rt (M.map O.d (mName 1)))
  (M.pure .nx))))
def f__law_all_folds : FSem := fnSem 5 m__law_all_folds
theorem sc__law_all_folds : FnScope ["many", "found", "go", "it", "some"] ["many"] (defScope (top 34)) := ⟨rfl, rfl, rfl, by decide +kernel, rfl, by decide +kernel, by decide +kernel⟩
theorem fc__law_all_folds (T : Top K mg Z) (ex : ∃ (a : Addr) (fd : FuncData), Fun K "_law_all_folds" "_law_all_folds" (top 34) a fd ∧ mg "_law_all_folds" = some (.ref a)) : FC P w K mg base Z 1 "_law_all_folds" (top 34) ["many"] f__law_all_folds := by
  refine fc_ok (m := m__law_all_folds) (N := ["many", "found", "go", "it", "some"]) ex sc__law_all_folds (fun _ _ _ _ _ _ us hl => match us, hl with | [_], _ => rfl) (fun a cdv A outer s H E hr => ?_) rfl
  have hu := hr.units
  have hr1 := hr
  have nd := sc__law_all_folds.nd
  exact (bx_cons (sx_set 1 (ex_lst (ad_cons (ed_tup (ad_cons ed_str ad_nil)) (ad_cons (ed_tup (ad_cons ed_str ad_nil)) ad_nil))) nd)
  (bx_cons (sx_for (ix_range1 (ap_cons (EX.ep (ex_bin os_sub (ep_name 0) (ED.ep ed_int))) ap_nil) T.b_range) (tg_name 2 nd) (bx_cons (sx_set 1 (ex_callB (cs_sumL rfl) T.b_sum (by decide +kernel) (ap_cons (EX.ep (ex_lc (own := [("some", 4)]) (ix_seq (ed_name 1)) (blkOk_by (by kernel_rfl)) nd (by intros; exact (tg_name 4 nd)) (by intros; exact ts_nil) (by intros; exact (EX.frz (ex_lc (own := [("it", 3)]) (ix_seq (ed_tup (ad_cons ed_str (ad_cons ed_str (ad_cons ed_str (ad_cons ed_str ad_nil)))))) (blkOk_by (by kernel_rfl)) nd (by intros; exact (tg_name 3 nd)) (by intros; exact ts_nil) (by intros; exact (EX.frz (ex_bin os_add (ED.ep (ed_tup (ad_cons (ed_name 3) ad_nil))) (ep_name 4)))) (by decide)))) (by decide))) (ap_cons (EX.ep (ex_lst ad_nil)) ap_nil))) nd)
  bx_nil) (passes_of rfl))
  (bx_cons (sx_ret (ED.ex (ed_name 1)))
  bx_nil)))
def m__law_no_folds : M Fl := (mSeq (mSet 1 (mLst (M.map (fun p => p.1 :: p.2) (M.pair (M.pure .non) (M.map (fun p => p.1 :: p.2) (M.pair (mTup (M.pure [])) (M.map (fun p => p.1 :: p.2) (M.pair (mTup (M.map (fun p => p.1 :: p.2) (M.pair (M.pure (.str "up")) (M.pure [])))) (M.map (fun p => p.1 :: p.2) (M.pair (mTup (M.map (fun p => p.1 :: p.2) (M.pair (M.pure (.str "left")) (M.map (fun p => p.1 :: p.2) (M.pair (M.pure (.str "down")) (M.pure [])))))) (M.map (fun p => p.1 :: p.2) (M.pair (M.frz (mBin opMul (M.map (fun x => .sol (.d x)) (mTup (M.map (fun p => p.1 :: p.2) (M.pair (M.pure (.str "left")) (M.pure []))))) (M.map (fun x => .sol (.d x)) (M.pure (.int 5))))) (M.map (fun p => p.1 :: p.2) (M.pair (M.frz (mLst (M.map (fun p => p.1 :: p.2) (M.pair (M.pure (.str "left")) (M.pure []))))) (M.map (fun p => p.1 :: p.2) (M.pair (mTup (M.map (fun p => p.1 :: p.2) (M.pair (M.pure (.str "Left")) (M.pure [])))) (M.map (fun p => p.1 :: p.2) (M.pair (M.pure (.str "left")) (M.map (fun p => p.1 :: p.2) (M.pair (mTup (M.map (fun p => p.1 :: p.2) (M.pair (M.pure (.bl true)) (M.pure [])))) (M.map (fun p => p.1 :: p.2) (M.pair (M.pure (.int 1)) (M.pure [])))))))))))))))))))))))
  (mSeq (M.map Fl.rt (mCallD 2 f__law_pick 0 (M.map (fun p => p.1 :: p.2) (M.pair (M.frz (mBin opAdd (mBor 1) (M.map Opd.sol (mLst (M.map (fun p => p.1 :: p.2) (M.pair (mTup (M.map (fun p => p.1 :: p.2) (M.pair (M.pure (.str "left")) (M.map (fun p => p.1 :: p.2) (M.pair (M.pure .non) (M.pure [])))))) (M.map (fun p => p.1 :: p.2) (M.pair (mTup (M.map (fun p => p.1 :: p.2) (M.pair (mTup (M.map (fun p => p.1 :: p.2) (M.pair (M.pure (.str "left")) (M.pure [])))) (M.pure [])))) (M.map (fun p => p.1 :: p.2) (M.pair (mTup (M.map (fun p => p.1 :: p.2) (M.pair (M.pure (.str "up")) (M.map (fun p => p.1 :: p.2) (M.pair (M.pure (.str "right")) (M.map (fun p => p.1 :: p.2) (M.pair (M.pure (.str "up")) (M.pure [])))))))) (M.pure []))))))))))) (M.pure [])))))
  (M.pure .nx)))
def f__law_no_folds : FSem := fnSem 2 m__law_no_folds
theorem sc__law_no_folds : FnScope ["deck", "some"] ["deck"] (defScope (top 35)) := ⟨rfl, rfl, rfl, by decide +kernel, rfl, by decide +kernel, by decide +kernel⟩
theorem fc__law_no_folds (T : Top K mg Z) (F__law_pick : FC P w K mg base Z 2 "_law_pick" (top 28) ["deck", "some"] f__law_pick) (ex : ∃ (a : Addr) (fd : FuncData), Fun K "_law_no_folds" "_law_no_folds" (top 35) a fd ∧ mg "_law_no_folds" = some (.ref a)) : FC P w K mg base Z 3 "_law_no_folds" (top 35) ["deck"] f__law_no_folds := by
  refine fc_ok (m := m__law_no_folds) (N := ["deck", "some"]) ex sc__law_no_folds (fun _ _ _ _ _ _ us hl => match us, hl with | [_], _ => rfl) (fun a cdv A outer s H E hr => ?_) rfl
  have hu := hr.units
  have hr1 := hr
  have nd := sc__law_no_folds.nd
  exact (bx_cons (sx_set 1 (ex_lst (ad_cons ed_non (ad_cons (ed_tup ad_nil) (ad_cons (ed_tup (ad_cons ed_str ad_nil)) (ad_cons (ed_tup (ad_cons ed_str (ad_cons ed_str ad_nil))) (ad_cons (EX.frz (ex_bin os_mul (ED.ep (ed_tup (ad_cons ed_str ad_nil))) (ED.ep ed_int))) (ad_cons (EX.frz (ex_lst (ad_cons ed_str ad_nil))) (ad_cons (ed_tup (ad_cons ed_str ad_nil)) (ad_cons ed_str (ad_cons (ed_tup (ad_cons ed_bl ad_nil)) (ad_cons ed_int ad_nil))))))))))) nd)
  (bx_cons (sx_ret (ex_callD 0 (F__law_pick.mono (by decide)) hr (ad_cons (EX.frz (ex_bin os_add (ep_name 1) (EX.ep (ex_lst (ad_cons (ed_tup (ad_cons ed_str (ad_cons ed_non ad_nil))) (ad_cons (ed_tup (ad_cons (ed_tup (ad_cons ed_str ad_nil)) ad_nil)) (ad_cons (ed_tup (ad_cons ed_str (ad_cons ed_str (ad_cons ed_str ad_nil)))) ad_nil))))))) ad_nil)))
  bx_nil))
def m__law_is_folded_right : M Fl := (mSeq (mPar 2 3 (mCallP 1 f__law_bundle (M.map (fun p => p.1 :: p.2) (M.pair (mName 0) (M.pure [])))) (mCallP 1 f__law_layout (M.map (fun p => p.1 :: p.2) (M.pair (mName 0) (M.pure [])))))
  (mSeq (mSet 4 (mIf (mTruth (mBor 1)) (mLst (M.map (fun p => p.1 :: p.2) (M.pair (M.frz (mCallK0 1 1 [0] f_bundle (M.map (fun p => p.1 :: p.2) (M.pair (mName 0) (M.pure []))))) (M.map (fun p => p.1 :: p.2) (M.pair (M.frz (mCallP 1 f_layout (M.map (fun p => p.1 :: p.2) (M.pair (mName 0) (M.pure []))))) (M.pure [])))))) (mLst (M.map (fun p => p.1 :: p.2) (M.pair (M.frz (mCallP 1 f_bundle (M.map (fun p => p.1 :: p.2) (M.pair (mName 0) (M.pure []))))) (M.map (fun p => p.1 :: p.2) (M.pair (M.frz (mCallK0 1 1 [0] f_layout (M.map (fun p => p.1 :: p.2) (M.pair (mName 0) (M.pure []))))) (M.pure []))))))))
  (mSeq (mSet 5 (mIf (mTruth (mBor 1)) (mCallP 1 f_spine (M.map (fun p => p.1 :: p.2) (M.pair (mName 0) (M.pure [])))) (mCallK0 1 1 [0] f_spine (M.map (fun p => p.1 :: p.2) (M.pair (mName 0) (M.pure []))))))
  (mSeq (mSet 6 (mCall fLen (M.map (fun p => p.1 :: p.2) (M.pair (mBor 2) (M.pure [])))))
  (mSeq (mSet 7 (mCall fTuple (M.map (fun p => p.1 :: p.2) (M.pair (M.map Opd.sol (mComp [8] (mRange fRange1 (M.map (fun p => p.1 :: p.2) (M.pair (M.map Opd.sol (mBin opFdiv (mBor 6) (M.map (fun x => .sol (.d x)) (M.pure (.int 2))))) (M.pure [])))) (gN 8) (M.pure true) (mTup (M.map (fun p => p.1 :: p.2) (M.pair (mName 8) (M.map (fun p => p.1 :: p.2) (M.pair (M.frz (mBin opSub (M.map Opd.sol (mBin opSub (mBor 6) (M.map (fun x => .sol (.d x)) (M.pure (.int 1))))) (mBor 8))) (M.pure [])))))))) (M.pure [])))))
  (mSeq (M.map Fl.rt (mCallP 2 (f__law_same 12) (M.map (fun p => p.1 :: p.2) (M.pair (M.frz (mBin opAdd (mBor 4) (M.map Opd.sol (mLst (M.map (fun p => p.1 :: p.2) (M.pair (mName 5) (M.map (fun p => p.1 :: p.2) (M.pair (M.frz (mCallP 1 f_twins (M.map (fun p => p.1 :: p.2) (M.pair (mName 0) (M.pure []))))) (M.pure []))))))))) (M.map (fun p => p.1 :: p.2) (M.pair (M.frz (mLst (M.map (fun p => p.1 :: p.2) (M.pair (mName 2) (M.map (fun p => p.1 :: p.2) (M.pair (mName 3) (M.map (fun p => p.1 :: p.2) (M.pair (M.frz (mBin opIx (mBor 0) (M.map Opd.sol (mUn opNeg (M.map (fun x => .sol (.d x)) (M.pure (.int 1))))))) (M.map (fun p => p.1 :: p.2) (M.pair (mName 7) (M.pure []))))))))))) (M.pure [])))))))
  (M.pure .nx)))))))
def f__law_is_folded_right : FSem := fnSem 9 m__law_is_folded_right
theorem sc__law_is_folded_right : FnScope ["folds", "is_named", "due", "sides", "got", "side", "many", "pairs_of", "k"] ["folds", "is_named"] (defScope (top 37)) := ⟨rfl, rfl, rfl, by decide +kernel, rfl, by decide +kernel, by decide +kernel⟩
theorem fc__law_is_folded_right (T : Top K mg Z) (F__law_same : FC P w K mg base Z 13 "_law_same" (top 30) ["got", "due"] (f__law_same 12)) (F__law_bundle : FC P w K mg base Z 2 "_law_bundle" (top 32) ["folds"] f__law_bundle) (F__law_layout : FC P w K mg base Z 3 "_law_layout" (top 33) ["folds"] f__law_layout) (F_spine : FC P w K mg base Z 4 "spine" (top 23) ["folds"] f_spine) (F_bundle : FC P w K mg base Z 4 "bundle" (top 21) ["folds"] f_bundle) (F_layout : FC P w K mg base Z 5 "layout" (top 22) ["folds"] f_layout) (F_twins : FC P w K mg base Z 4 "twins" (top 24) ["folds"] f_twins) (ex : ∃ (a : Addr) (fd : FuncData), Fun K "_law_is_folded_right" "_law_is_folded_right" (top 37) a fd ∧ mg "_law_is_folded_right" = some (.ref a)) : FC P w K mg base Z 14 "_law_is_folded_right" (top 37) ["folds", "is_named"] f__law_is_folded_right := by
  refine fc_ok (m := m__law_is_folded_right) (N := ["folds", "is_named", "due", "sides", "got", "side", "many", "pairs_of", "k"]) ex sc__law_is_folded_right (fun _ _ _ _ _ _ us hl => match us, hl with | [_, _], _ => rfl) (fun a cdv A outer s H E hr => ?_) rfl
  have hu := hr.units
  have hr1 := hr
  have nd := sc__law_is_folded_right.nd
  exact (bx_cons (sx_par 2 3 (ex_call (F__law_bundle.mono (by decide)) hr (ad_cons (ed_name 0) ad_nil)) (ex_call (F__law_layout.mono (by decide)) hr (ad_cons (ed_name 0) ad_nil)) nd)
  (bx_cons (sx_set 4 (ex_if (tx_truth (ep_name 1)) (ex_lst (ad_cons (EX.frz (ex_callK0 (ks := ["folds"]) [0] (F_bundle.mono (by decide)) hr (kd_cons (ed_name 0) kd_nil) (fun _ _ _ _ _ _ us ws h1 h2 => match ws, h2 with | [_], _ => match us, h1 with | [], _ => rfl))) (ad_cons (EX.frz (ex_call (F_layout.mono (by decide)) hr (ad_cons (ed_name 0) ad_nil))) ad_nil))) (ex_lst (ad_cons (EX.frz (ex_call (F_bundle.mono (by decide)) hr (ad_cons (ed_name 0) ad_nil))) (ad_cons (EX.frz (ex_callK0 (ks := ["folds"]) [0] (F_layout.mono (by decide)) hr (kd_cons (ed_name 0) kd_nil) (fun _ _ _ _ _ _ us ws h1 h2 => match ws, h2 with | [_], _ => match us, h1 with | [], _ => rfl))) ad_nil)))) nd)
  (bx_cons (sx_set 5 (ex_if (tx_truth (ep_name 1)) (ex_call (F_spine.mono (by decide)) hr (ad_cons (ed_name 0) ad_nil)) (ex_callK0 (ks := ["folds"]) [0] (F_spine.mono (by decide)) hr (kd_cons (ed_name 0) kd_nil) (fun _ _ _ _ _ _ us ws h1 h2 => match ws, h2 with | [_], _ => match us, h1 with | [], _ => rfl))) nd)
  (bx_cons (sx_set 6 (ex_callB cs_len T.b_len (by decide +kernel) (ap_cons (ep_name 2) ap_nil)) nd)
  (bx_cons (sx_set 7 (ex_callTy cs_tuple T.b_tuple (by decide +kernel) (ap_cons (EX.ep (ex_lc (own := [("k", 8)]) (ix_range1 (ap_cons (EX.ep (ex_bin os_fdiv (ep_name 6) (ED.ep ed_int))) ap_nil) T.b_range) (blkOk_by (by kernel_rfl)) nd (by intros; exact (tg_name 8 nd)) (by intros; exact ts_nil) (by intros; exact (ed_tup (ad_cons (ed_name 8) (ad_cons (EX.frz (ex_bin os_sub (EX.ep (ex_bin os_sub (ep_name 6) (ED.ep ed_int))) (ep_name 8))) ad_nil)))) (by decide))) ap_nil)) nd)
  (bx_cons (sx_ret (ex_call (F__law_same.mono (by decide)) hr (ad_cons (EX.frz (ex_bin os_add (ep_name 4) (EX.ep (ex_lst (ad_cons (ed_name 5) (ad_cons (EX.frz (ex_call (F_twins.mono (by decide)) hr (ad_cons (ed_name 0) ad_nil))) ad_nil)))))) (ad_cons (EX.frz (ex_lst (ad_cons (ed_name 2) (ad_cons (ed_name 3) (ad_cons (EX.frz (ex_ix is_ix (ep_name 0) (EX.ep (ex_un us_neg (ED.ep ed_int))))) (ad_cons (ed_name 7) ad_nil)))))) ad_nil))))
  bx_nil))))))
def m__law_are_twins_right : M Fl := (mSeq (mPar 1 2 (mCallP 1 f_bundle (M.map (fun p => p.1 :: p.2) (M.pair (mName 0) (M.pure [])))) (mCallP 1 f_layout (M.map (fun p => p.1 :: p.2) (M.pair (mName 0) (M.pure [])))))
  (mSeq (mSet 3 (mCall fLen (M.map (fun p => p.1 :: p.2) (M.pair (mBor 1) (M.pure [])))))
  (mSeq (mIf (mIf (mB (mBin opNe (M.map Opd.sol (mCall fLenDict (M.map (fun p => p.1 :: p.2) (M.pair (M.map Opd.sol (mComp [4] (mItems (mName 2)) (gN 4) (M.pure true) (mTup (M.map (fun p => p.1 :: p.2) (M.pair (M.frz (mSlice opSl (mBor 4) (mInt (M.map (fun x => .sol (.d x)) (M.pure (.int 1)))) (mInt (M.map (fun x => .sol (.d x)) (M.pure (.int 4)))))) (M.map (fun p => p.1 :: p.2) (M.pair (M.frz (mBin opIx (mBor 4) (M.map (fun x => .sol (.d x)) (M.pure (.int 0))))) (M.pure [])))))))) (M.pure []))))) (M.map Opd.sol (mBin opMul (M.map (fun x => .sol (.d x)) (M.pure (.int 2))) (mBor 3))))) (M.pure true) (mB (mBin opNe (M.map Opd.sol (mCall fLen (M.map (fun p => p.1 :: p.2) (M.pair (mBor 2) (M.pure []))))) (M.map Opd.sol (mBin opMul (M.map (fun x => .sol (.d x)) (M.pure (.int 2))) (mBor 3)))))) (mSeq (M.map Fl.rt (M.map O.d (M.pure (.bl false))))
  (M.pure .nx)) (M.pure .nx))
  (mSeq (mFor (mRange fRange1 (M.map (fun p => p.1 :: p.2) (M.pair (M.map Opd.sol (mBin opFdiv (mBor 3) (M.map (fun x => .sol (.d x)) (M.pure (.int 2))))) (M.pure [])))) (gN 5) (mSeq (mPar 6 7 (mBin opIx (mBor 1) (mBor 5)) (mBin opIx (mBor 1) (M.map Opd.sol (mBin opSub (M.map Opd.sol (mBin opSub (mBor 3) (M.map (fun x => .sol (.d x)) (M.pure (.int 1))))) (mBor 5)))))
  (mSeq (mIf (mIf (mB (mBin opNe (M.map Opd.sol (mBin opIx (mBor 6) (M.map (fun x => .sol (.d x)) (M.pure (.int 0))))) (M.map Opd.sol (mBin opIx (mBor 7) (M.map (fun x => .sol (.d x)) (M.pure (.int 0))))))) (M.pure true) (mIf (mB (mBin opNe (M.map Opd.sol (mCall fAbs (M.map (fun p => p.1 :: p.2) (M.pair (M.map Opd.sol (mBin opSub (M.map Opd.sol (mBin opIx (mBor 6) (M.map (fun x => .sol (.d x)) (M.pure (.int 1))))) (M.map Opd.sol (mBin opIx (mBor 7) (M.map (fun x => .sol (.d x)) (M.pure (.int 1))))))) (M.pure []))))) (M.map (fun x => .sol (.d x)) (M.pure (.int 1))))) (M.pure true) (mIf (mB (mBin opEq (M.map Opd.sol (mBin opIx (mBor 6) (M.map (fun x => .sol (.d x)) (M.pure (.int 2))))) (M.map Opd.sol (mBin opIx (mBor 7) (M.map (fun x => .sol (.d x)) (M.pure (.int 2))))))) (M.pure true) (mB (mBin opNe (M.map Opd.sol (mBin opIx (mBor 6) (M.map (fun x => .sol (.d x)) (M.pure (.int 3))))) (M.map Opd.sol (mBin opIx (mBor 7) (M.map (fun x => .sol (.d x)) (M.pure (.int 3)))))))))) (mSeq (M.map Fl.rt (M.map O.d (M.pure (.bl false))))
  (M.pure .nx)) (M.pure .nx))
  (M.pure .nx))))
  (mSeq (mPar 8 9 (mBin opIx (mBor 1) (M.map (fun x => .sol (.d x)) (M.pure (.int 0)))) (mBin opIx (mBor 1) (M.map Opd.sol (mBin opSub (mBor 3) (M.map (fun x => .sol (.d x)) (M.pure (.int 1)))))))
  (mSeq (mSet 10 (mIf (M.map (!·) (mTruth (M.map Opd.sol (mBin opIx (mBor 8) (M.map (fun x => .sol (.d x)) (M.pure (.int 3))))))) (mBin opNe (M.map Opd.sol (mBin opLt (M.map Opd.sol (mBin opIx (mBor 9) (M.map (fun x => .sol (.d x)) (M.pure (.int 1))))) (M.map Opd.sol (mBin opIx (mBor 8) (M.map (fun x => .sol (.d x)) (M.pure (.int 1))))))) (M.map Opd.sol (mBin opEq (M.map Opd.sol (mBin opIx (mBor 8) (M.map (fun x => .sol (.d x)) (M.pure (.int 2))))) (M.map (fun x => .sol (.d x)) (M.pure (.int 1)))))) (mBin opNe (M.map Opd.sol (mBin opGt (M.map Opd.sol (mBin opIx (mBor 9) (M.map (fun x => .sol (.d x)) (M.pure (.int 1))))) (M.map Opd.sol (mBin opIx (mBor 8) (M.map (fun x => .sol (.d x)) (M.pure (.int 1))))))) (M.map Opd.sol (mBin opEq (M.map Opd.sol (mBin opIx (mBor 8) (M.map (fun x => .sol (.d x)) (M.pure (.int 2))))) (M.map (fun x => .sol (.d x)) (M.pure (.int 1))))))))
  (mSeq (M.map Fl.rt (mBin opEq (mBor 10) (M.map Opd.sol (mBin opEq (M.map Opd.sol (mBin opIx (mBor 0) (M.map Opd.sol (mUn opNeg (M.map (fun x => .sol (.d x)) (M.pure (.int 1))))))) (M.map (fun x => .sol (.d x)) (M.pure (.str "left")))))))
  (M.pure .nx))))))))
def f__law_are_twins_right : FSem := fnSem 11 m__law_are_twins_right
theorem sc__law_are_twins_right : FnScope ["folds", "some", "sides", "many", "it", "k", "one", "other", "first", "last", "is_left"] ["folds"] (defScope (top 38)) := ⟨rfl, rfl, rfl, by decide +kernel, rfl, by decide +kernel, by decide +kernel⟩
theorem fc__law_are_twins_right (T : Top K mg Z) (F_bundle : FC P w K mg base Z 4 "bundle" (top 21) ["folds"] f_bundle) (F_layout : FC P w K mg base Z 5 "layout" (top 22) ["folds"] f_layout) (ex : ∃ (a : Addr) (fd : FuncData), Fun K "_law_are_twins_right" "_law_are_twins_right" (top 38) a fd ∧ mg "_law_are_twins_right" = some (.ref a)) : FC P w K mg base Z 6 "_law_are_twins_right" (top 38) ["folds"] f__law_are_twins_right := by
  refine fc_ok (m := m__law_are_twins_right) (N := ["folds", "some", "sides", "many", "it", "k", "one", "other", "first", "last", "is_left"]) ex sc__law_are_twins_right (fun _ _ _ _ _ _ us hl => match us, hl with | [_], _ => rfl) (fun a cdv A outer s H E hr => ?_) rfl
  have hu := hr.units
  have hr1 := hr
  have nd := sc__law_are_twins_right.nd
  exact (bx_cons (sx_par 1 2 (ex_call (F_bundle.mono (by decide)) hr (ad_cons (ed_name 0) ad_nil)) (ex_call (F_layout.mono (by decide)) hr (ad_cons (ed_name 0) ad_nil)) nd)
  (bx_cons (sx_set 3 (ex_callB cs_len T.b_len (by decide +kernel) (ap_cons (ep_name 1) ap_nil)) nd)
  (bx_cons (sx_if (tx_pw (pw_orX (tx_cmp (os_ne hu) (EX.ep (ex_lenDict rfl hu T.b_len T.b_dict (by decide +kernel) (by decide +kernel) (ap_cons (EX.ep (ex_lc (own := [("it", 4)]) (ix_seq (ed_name 2)) (blkOk_by (by kernel_rfl)) nd (by intros; exact (tg_name 4 nd)) (by intros; exact ts_nil) (by intros; exact (ed_tup (ad_cons (EX.frz (ex_slice ss_sl (ep_name 4) (p0_some (ED.ep ed_int)) (p0_some (ED.ep ed_int)))) (ad_cons (EX.frz (ex_ix is_ix (ep_name 4) (ED.ep ed_int))) ad_nil)))) (by decide))) ap_nil))) (EX.ep (ex_bin os_mul (ED.ep ed_int) (ep_name 3))) (by (first | rfl | exact nomark _ | with_unfolding_all rfl))) (pw_or1X (tx_cmp (os_ne hu) (EX.ep (ex_callB cs_len T.b_len (by decide +kernel) (ap_cons (ep_name 2) ap_nil))) (EX.ep (ex_bin os_mul (ED.ep ed_int) (ep_name 3))) (by (first | rfl | exact nomark _ | with_unfolding_all rfl)))))) (bx_cons (sx_ret (ED.ex ed_bl))
  bx_nil) bx_nil)
  (bx_cons (sx_for (ix_range1 (ap_cons (EX.ep (ex_bin os_fdiv (ep_name 3) (ED.ep ed_int))) ap_nil) T.b_range) (tg_name 5 nd) (bx_cons (sx_par 6 7 (ex_ix is_ix (ep_name 1) (ep_name 5)) (ex_ix is_ix (ep_name 1) (EX.ep (ex_bin os_sub (EX.ep (ex_bin os_sub (ep_name 3) (ED.ep ed_int))) (ep_name 5)))) nd)
  (bx_cons (sx_if (tx_pw (pw_orX (tx_cmp (os_ne hu) (EX.ep (ex_ix is_ix (ep_name 6) (ED.ep ed_int))) (EX.ep (ex_ix is_ix (ep_name 7) (ED.ep ed_int))) (by (first | rfl | exact nomark _ | with_unfolding_all rfl))) (pw_orX (tx_cmp (os_ne hu) (EX.ep (ex_callB cs_abs T.b_abs (by decide +kernel) (ap_cons (EX.ep (ex_bin os_sub (EX.ep (ex_ix is_ix (ep_name 6) (ED.ep ed_int))) (EX.ep (ex_ix is_ix (ep_name 7) (ED.ep ed_int))))) ap_nil))) (ED.ep ed_int) (by (first | rfl | exact nomark _ | with_unfolding_all rfl))) (pw_orX (tx_cmp (os_eq hu) (EX.ep (ex_ix is_ix (ep_name 6) (ED.ep ed_int))) (EX.ep (ex_ix is_ix (ep_name 7) (ED.ep ed_int))) (by (first | rfl | exact nomark _ | with_unfolding_all rfl))) (pw_or1X (tx_cmp (os_ne hu) (EX.ep (ex_ix is_ix (ep_name 6) (ED.ep ed_int))) (EX.ep (ex_ix is_ix (ep_name 7) (ED.ep ed_int))) (by (first | rfl | exact nomark _ | with_unfolding_all rfl)))))))) (bx_cons (sx_ret (ED.ex ed_bl))
  bx_nil) bx_nil)
  bx_nil)) (passes_of rfl))
  (bx_cons (sx_par 8 9 (ex_ix is_ix (ep_name 1) (ED.ep ed_int)) (ex_ix is_ix (ep_name 1) (EX.ep (ex_bin os_sub (ep_name 3) (ED.ep ed_int)))) nd)
  (bx_cons (sx_set 10 (ex_if (tx_not (tx_truth (EX.ep (ex_ix is_ix (ep_name 8) (ED.ep ed_int))))) (ex_cmp (os_ne hu) (EX.ep (ex_cmp os_lt (EX.ep (ex_ix is_ix (ep_name 9) (ED.ep ed_int))) (EX.ep (ex_ix is_ix (ep_name 8) (ED.ep ed_int))) (by (first | rfl | exact nomark _ | with_unfolding_all rfl)))) (EX.ep (ex_cmp (os_eq hu) (EX.ep (ex_ix is_ix (ep_name 8) (ED.ep ed_int))) (ED.ep ed_int) (by (first | rfl | exact nomark _ | with_unfolding_all rfl)))) (by (first | rfl | exact nomark _ | with_unfolding_all rfl))) (ex_cmp (os_ne hu) (EX.ep (ex_cmp os_gt (EX.ep (ex_ix is_ix (ep_name 9) (ED.ep ed_int))) (EX.ep (ex_ix is_ix (ep_name 8) (ED.ep ed_int))) (by (first | rfl | exact nomark _ | with_unfolding_all rfl)))) (EX.ep (ex_cmp (os_eq hu) (EX.ep (ex_ix is_ix (ep_name 8) (ED.ep ed_int))) (ED.ep ed_int) (by (first | rfl | exact nomark _ | with_unfolding_all rfl)))) (by (first | rfl | exact nomark _ | with_unfolding_all rfl)))) nd)
  (bx_cons (sx_ret (ex_cmp (os_eq hu) (ep_name 10) (EX.ep (ex_cmp (os_eq hu) (EX.ep (ex_ix is_ix (ep_name 0) (EX.ep (ex_un us_neg (ED.ep ed_int))))) (ED.ep ed_str) (by (first | rfl | exact nomark _ | with_unfolding_all rfl)))) (by (first | rfl | exact nomark _ | with_unfolding_all rfl))))
  bx_nil)))))))
noncomputable def m__law_is_right (P : Program) (w : World) : Fam Fl := (fun p b => mSeq (mSet 1 ((mCallPF 2 f__law_deck (M.map (fun p => p.1 :: p.2) (M.pair (mName 0) (M.map (fun p => p.1 :: p.2) (M.pair (M.pure (.int 2150127)) (M.pure [])))))) p b))
  (mSeq (mSet 2 (mBin opAdd (M.map Opd.sol (mBin opAdd (M.map Opd.sol (mCallP 1 f__law_all_folds (M.map (fun p => p.1 :: p.2) (M.pair (M.pure (.int 1)) (M.pure []))))) (M.map Opd.sol (mCallP 1 f__law_all_folds (M.map (fun p => p.1 :: p.2) (M.pair (M.pure (.int 2)) (M.pure []))))))) (M.map Opd.sol (mSlice opSl (M.map Opd.sol (mCallD 2 f__law_mixed 1 (M.map (fun p => p.1 :: p.2) (M.pair (M.frz (mCallP 1 f__law_all_folds (M.map (fun p => p.1 :: p.2) (M.pair (M.pure (.int 3)) (M.pure []))))) (M.pure []))))) (M.pure none) (mInt (M.map (fun x => .sol (.d x)) (M.pure (.int 6))))))))
  (mSeq (mSet 2 (mBin opAdd (mBor 2) (M.map Opd.sol (mComp [3] (mRange fRange1 (M.map (fun p => p.1 :: p.2) (M.pair (M.map (fun x => .sol (.d x)) (M.pure (.int 4))) (M.pure [])))) (gN 3) (M.pure true) (M.frz (mCallD 2 f__law_pick 1 (M.map (fun p => p.1 :: p.2) (M.pair (M.frz (mCallP 1 f__law_all_folds (M.map (fun p => p.1 :: p.2) (M.pair (M.pure (.int 4)) (M.pure []))))) (M.pure [])))))))))
  (mSeq (mSet 4 (M.pure (.on P w [])))
  (mSeq (mFor (mWalk fEnum (M.map (fun p => p.1 :: p.2) (M.pair (mName 2) (M.pure [])))) (gT 2 (gC (gN 5) (gC (gN 6) g0))) (mSeq (mIf (mIf (M.map (!·) (mTruth (M.map Opd.sol (mCallP 2 f__law_is_folded_right (M.map (fun p => p.1 :: p.2) (M.pair (mName 6) (M.map (fun p => p.1 :: p.2) (M.pair (M.frz (mBin opEq (M.map Opd.sol (mBin opAnd (mBor 5) (M.map (fun x => .sol (.d x)) (M.pure (.int 1))))) (M.map (fun x => .sol (.d x)) (M.pure (.int 0))))) (M.pure []))))))))) (M.pure true) (M.map (!·) (mTruth (M.map Opd.sol (mCallP 1 f__law_are_twins_right (M.map (fun p => p.1 :: p.2) (M.pair (mName 6) (M.pure [])))))))) (mSeq (M.map Fl.rt (M.map O.d (M.pure (.bl false))))
  (M.pure .nx)) (M.pure .nx))
  (mSeq (mIf (mB (mBin opNe (M.map Opd.sol (mSetd P w 4 (M.map (fun p => p.1 :: p.2) (M.pair (M.frz (mCallP 1 f_layout (M.map (fun p => p.1 :: p.2) (M.pair (mName 6) (M.pure []))))) (M.map (fun p => p.1 :: p.2) (M.pair (mName 6) (M.pure []))))))) (mBor 6))) (mSeq (M.map Fl.rt (M.map O.d (M.pure (.bl false))))
  (M.pure .nx)) (M.pure .nx))
  (M.pure .nx))))
  (mSeq (mSet 7 (mComp [3] (mRange fRange1 (M.map (fun p => p.1 :: p.2) (M.pair (M.map (fun x => .sol (.d x)) (M.pure (.int 4))) (M.pure [])))) (gN 3) (M.pure true) (M.frz (mCallD 1 f__law_no_folds 1 (M.pure [])))))
  (mSeq (mSet 8 (mLst (M.map (fun p => p.1 :: p.2) (M.pair (M.frz (mHeard "heard" "folds" "BadFolds" (mCallP 1 f_bundle (M.map (fun p => p.1 :: p.2) (M.pair (M.frz (mBin opIx (mBor 7) (M.map (fun x => .sol (.d x)) (M.pure (.int 0))))) (M.pure [])))))) (M.pure [])))))
  (mSeq (M.map (fun _ => Fl.nx) (mMeth fAppend 8 (M.map (fun p => p.1 :: p.2) (M.pair (M.frz (mHeard "heard" "folds" "BadFolds" (mCallK0 1 1 [0] f_layout (M.map (fun p => p.1 :: p.2) (M.pair (M.frz (mBin opIx (mBor 7) (M.map (fun x => .sol (.d x)) (M.pure (.int 1))))) (M.pure [])))))) (M.pure [])))))
  (mSeq (M.map (fun _ => Fl.nx) (mMeth fAppend 8 (M.map (fun p => p.1 :: p.2) (M.pair (M.frz (mHeard "heard" "folds" "BadFolds" (mCallP 1 f_spine (M.map (fun p => p.1 :: p.2) (M.pair (M.frz (mBin opIx (mBor 7) (M.map (fun x => .sol (.d x)) (M.pure (.int 2))))) (M.pure [])))))) (M.pure [])))))
  (mSeq (M.map (fun _ => Fl.nx) (mMeth fAppend 8 (M.map (fun p => p.1 :: p.2) (M.pair (M.frz (mHeard "heard" "folds" "BadFolds" (mCallK0 1 1 [0] f_twins (M.map (fun p => p.1 :: p.2) (M.pair (M.frz (mBin opIx (mBor 7) (M.map (fun x => .sol (.d x)) (M.pure (.int 3))))) (M.pure [])))))) (M.pure [])))))
  (mSeq (M.map Fl.rt (mCallP 2 (f__law_same 12) (M.map (fun p => p.1 :: p.2) (M.pair (mName 8) (M.map (fun p => p.1 :: p.2) (M.pair (M.frz (mComp [9] (mItems (mName 7)) (gN 9) (M.pure true) (mTup (M.map (fun p => p.1 :: p.2) (M.pair (M.pure (.str "folds")) (M.map (fun p => p.1 :: p.2) (M.pair (mName 9) (M.pure [])))))))) (M.pure [])))))))
  (M.pure .nx))))))))))))
noncomputable def f__law_is_right (P : Program) (w : World) : Addr → Addr → FSem := fun p b => fnSem 10 (m__law_is_right P w p b)
theorem sc__law_is_right : FnScope ["script", "deck", "some", "k", "met", "at", "folds", "bad", "heard", "it"] ["script"] (defScope (top 39)) := ⟨rfl, rfl, rfl, by decide +kernel, rfl, by decide +kernel, by decide +kernel⟩
def q__law_is_right : Str := (envOfC "_law_is_right" (defScope (top 39)) 0 0 .none).qual ++ "<lambda>"
theorem fc__law_is_right (T : Top K mg Z) (F__law_deck : FCF P w K mg base Z 1 "_law_deck" (top 26) ["script", "mark"] f__law_deck) (F__law_same : FC P w K mg base Z 13 "_law_same" (top 30) ["got", "due"] (f__law_same 12)) (F__law_no_folds : FC P w K mg base Z 3 "_law_no_folds" (top 35) ["deck"] f__law_no_folds) (F__law_all_folds : FC P w K mg base Z 1 "_law_all_folds" (top 34) ["many"] f__law_all_folds) (F__law_mixed : FC P w K mg base Z 2 "_law_mixed" (top 29) ["deck", "some"] f__law_mixed) (F__law_pick : FC P w K mg base Z 2 "_law_pick" (top 28) ["deck", "some"] f__law_pick) (F__law_is_folded_right : FC P w K mg base Z 14 "_law_is_folded_right" (top 37) ["folds", "is_named"] f__law_is_folded_right) (F__law_are_twins_right : FC P w K mg base Z 6 "_law_are_twins_right" (top 38) ["folds"] f__law_are_twins_right) (F_layout : FC P w K mg base Z 5 "layout" (top 22) ["folds"] f_layout) (F_bundle : FC P w K mg base Z 4 "bundle" (top 21) ["folds"] f_bundle) (F_spine : FC P w K mg base Z 4 "spine" (top 23) ["folds"] f_spine) (F_twins : FC P w K mg base Z 4 "twins" (top 24) ["folds"] f_twins) (c PT : Addr) (TB : LamX.TabB base mg c PT) (hmT : (PT, q__law_is_right) ∈ Z.tb) (hun : ∀ r ∈ Z.tb, r.1 = PT → r.2 = q__law_is_right) (HT__law_heard : HeardT K mg "_law_heard" (top 36) "BadFolds") (ex : FunAt K mg "_law_is_right" (top 39) c) : FCF P w K mg base Z 15 "_law_is_right" (top 39) ["script"] (f__law_is_right P w) := by
  refine fcF_okC (m := m__law_is_right P w) (N := ["script", "deck", "some", "k", "met", "at", "folds", "bad", "heard", "it"]) ex sc__law_is_right (fun _ _ _ _ _ _ us hl => match us, hl with | [_], _ => rfl) (fun a A outer s H E hr => ?_) rfl
  have hu := hr.units
  have hr1 := hr
  have nd := sc__law_is_right.nd
  exact (bxf_set 1 (exf_call (F__law_deck.mono (by decide)) hr (ad_cons (ed_name 0) (ad_cons ed_int ad_nil)))
  (bx_cons (sx_set 2 (ex_bin os_add (EX.ep (ex_bin os_add (EX.ep (ex_call (F__law_all_folds.mono (by decide)) hr (ad_cons ed_int ad_nil))) (EX.ep (ex_call (F__law_all_folds.mono (by decide)) hr (ad_cons ed_int ad_nil))))) (EX.ep (ex_slice ss_sl (EX.ep (ex_callD 1 (F__law_mixed.mono (by decide)) hr (ad_cons (EX.frz (ex_call (F__law_all_folds.mono (by decide)) hr (ad_cons ed_int ad_nil))) ad_nil))) p0_none (p0_some (ED.ep ed_int))))) nd)
  (bx_cons (sx_set 2 (ex_bin os_add (ep_name 2) (EX.ep (ex_lc (own := [("k", 3)]) (ix_range1 (ap_cons (ED.ep ed_int) ap_nil) T.b_range) (blkOk_by (by kernel_rfl)) nd (by intros; exact (tg_name 3 nd)) (by intros; exact ts_nil) (by intros; exact (EX.frz (ex_callD 1 (F__law_pick.mono (by decide)) hr (ad_cons (EX.frz (ex_call (F__law_all_folds.mono (by decide)) hr (ad_cons ed_int ad_nil))) ad_nil)))) (by decide)))) nd)
  (bx_cons (sx_set 4 ex_dictN nd)
  (bx_cons (sx_for (ix_enum (ad_cons (ed_name 2) ad_nil) T.b_enumerate) (tg_tup (tgs_cons (tg_name 5 nd) (tgs_cons (tg_name 6 nd) tgs_nil))) (bx_cons (sx_if (tx_pw (pw_orX (tx_not (tx_truth (EX.ep (ex_call (F__law_is_folded_right.mono (by decide)) hr (ad_cons (ed_name 6) (ad_cons (EX.frz (ex_cmp (os_eq hu) (EX.ep (ex_bin os_and (ep_name 5) (ED.ep ed_int))) (ED.ep ed_int) (by (first | rfl | exact nomark _ | with_unfolding_all rfl)))) ad_nil)))))) (pw_or1X (tx_not (tx_truth (EX.ep (ex_call (F__law_are_twins_right.mono (by decide)) hr (ad_cons (ed_name 6) ad_nil)))))))) (bx_cons (sx_ret (ED.ex ed_bl))
  bx_nil) bx_nil)
  (bx_cons (sx_if (tx_cmp (os_ne hu) (EX.ep (ex_setd 4 hu (ad_cons (EX.frz (ex_call (F_layout.mono (by decide)) hr (ad_cons (ed_name 6) ad_nil))) (ad_cons (ed_name 6) ad_nil)))) (ep_name 6) (by (first | rfl | exact nomark _ | with_unfolding_all rfl))) (bx_cons (sx_ret (ED.ex ed_bl))
  bx_nil) bx_nil)
  bx_nil)) (passes_of rfl))
  (bx_cons (sx_set 7 (ex_lc (own := [("k", 3)]) (ix_range1 (ap_cons (ED.ep ed_int) ap_nil) T.b_range) (blkOk_by (by kernel_rfl)) nd (by intros; exact (tg_name 3 nd)) (by intros; exact ts_nil) (by intros; exact (EX.frz (ex_callD 1 (F__law_no_folds.mono (by decide)) hr ad_nil))) (by decide)) nd)
  (bx_cons (sx_set 8 (ex_lst (ad_cons (EX.frz (ex_heard (Ng := ["call", "e"]) (k := 12) HT__law_heard SG__law_heard rfl HB__law_heard TB rfl hmT hun hr (LamX.lamS_by (by kernel_rfl)) (fun A1 o1 s1 H1 E1 f1 c1 hr => have hu := hr.units; (ex_call (F_bundle.mono (by decide)) hr (ad_cons (EX.frz (ex_ix is_ix (ep_name 7) (ED.ep ed_int))) ad_nil))))) ad_nil)) nd)
  (bx_cons (sx_expr (ex_append 8 (ad_cons (EX.frz (ex_heard (Ng := ["call", "e"]) (k := 12) HT__law_heard SG__law_heard rfl HB__law_heard TB rfl hmT hun hr (LamX.lamS_by (by kernel_rfl)) (fun A1 o1 s1 H1 E1 f1 c1 hr => have hu := hr.units; (ex_callK0 (ks := ["folds"]) [0] (F_layout.mono (by decide)) hr (kd_cons (EX.frz (ex_ix is_ix (ep_name 7) (ED.ep ed_int))) kd_nil) (fun _ _ _ _ _ _ us ws h1 h2 => match ws, h2 with | [_], _ => match us, h1 with | [], _ => rfl))))) ad_nil)))
  (bx_cons (sx_expr (ex_append 8 (ad_cons (EX.frz (ex_heard (Ng := ["call", "e"]) (k := 12) HT__law_heard SG__law_heard rfl HB__law_heard TB rfl hmT hun hr (LamX.lamS_by (by kernel_rfl)) (fun A1 o1 s1 H1 E1 f1 c1 hr => have hu := hr.units; (ex_call (F_spine.mono (by decide)) hr (ad_cons (EX.frz (ex_ix is_ix (ep_name 7) (ED.ep ed_int))) ad_nil))))) ad_nil)))
  (bx_cons (sx_expr (ex_append 8 (ad_cons (EX.frz (ex_heard (Ng := ["call", "e"]) (k := 12) HT__law_heard SG__law_heard rfl HB__law_heard TB rfl hmT hun hr (LamX.lamS_by (by kernel_rfl)) (fun A1 o1 s1 H1 E1 f1 c1 hr => have hu := hr.units; (ex_callK0 (ks := ["folds"]) [0] (F_twins.mono (by decide)) hr (kd_cons (EX.frz (ex_ix is_ix (ep_name 7) (ED.ep ed_int))) kd_nil) (fun _ _ _ _ _ _ us ws h1 h2 => match ws, h2 with | [_], _ => match us, h1 with | [], _ => rfl))))) ad_nil)))
  (bx_cons (sx_ret (ex_call (F__law_same.mono (by decide)) hr (ad_cons (ed_name 8) (ad_cons (EX.frz (ex_lc (own := [("it", 9)]) (ix_seq (ed_name 7)) (blkOk_by (by kernel_rfl)) nd (by intros; exact (tg_name 9 nd)) (by intros; exact ts_nil) (by intros; exact (ed_tup (ad_cons ed_str (ad_cons (ed_name 9) ad_nil)))) (by decide))) ad_nil))))
  bx_nil)))))))))) nd)
noncomputable def m_law (P : Program) (w : World) : Fam Fl := (mOnly sub_PageError (fun p b => M.map Fl.rt ((mCallPF 1 (f__law_is_right P w) (M.map (fun p => p.1 :: p.2) (M.pair (mName 0) (M.pure [])))) p b)) (mSeq (M.map Fl.rt (M.map O.d (M.pure (.bl false))))
  (M.pure .nx)))
noncomputable def f_law (P : Program) (w : World) : Addr → Addr → FSem := fun p b => fnSem 1 (m_law P w p b)
theorem sc_law : FnScope ["script"] ["script"] (defScope (top 40)) := ⟨rfl, rfl, rfl, by decide +kernel, rfl, by decide +kernel, by decide +kernel⟩
theorem fc_law (T : Top K mg Z) (F__law_is_right : FCF P w K mg base Z 15 "_law_is_right" (top 39) ["script"] (f__law_is_right P w)) (cX : Value) (hm_PageError : mg "PageError" = some cX) (hs_PageError : SubOk K mg cX sub_PageError) (ex : ∃ (a : Addr) (fd : FuncData), Fun K "law" "law" (top 40) a fd ∧ mg "law" = some (.ref a)) : FCF P w K mg base Z 16 "law" (top 40) ["script"] (f_law P w) := by
  refine fcF_ok (m := m_law P w) (N := ["script"]) ex sc_law (fun _ _ _ _ _ _ us hl => match us, hl with | [_], _ => rfl) (fun a cdv A outer s H E hr => ?_) rfl
  have hu := hr.units
  have hr1 := hr
  have nd := sc_law.nd
  exact (bxf_one (sxf_only hm_PageError hs_PageError (fun _ _ _ => (bxf_ret (exf_call (F__law_is_right.mono (by decide)) hr (ad_cons (ed_name 0) ad_nil)))) (fun _ _ _ => (bx_cons (sx_ret (ED.ex ed_bl))
  bx_nil))))
end
end K27
end
section
set_option Elab.async false
set_option maxRecDepth 100000
set_option linter.all false
set_option maxHeartbeats 1000000
/-! PL24: the end: the law is called in a heap in which the script, some top tuples and the code tables are tracked. -/
namespace PL
open PySem PySem.Spec PyProof.Rows L2
/-- a def's promise, called in one surrounding -/
structure FnAt (P : Program) (w : World) (K : PySem.W.Frag) (mg : Str → Option Value) (base : Heap) (A : Around) (f : Addr) (fd : FuncData) (ps : List Str) (sp : Sp) : Prop where
  go : ∀ (outer : List Env) (s : Shared) (H : Hp) (args : Args) (us : List Value) (vs : List V) (Q : VK) (E : XK), Env0 P w K mg base A outer s H → BindsTo s fd args (ps.zip us) → Vals vs us → sp vs H Q E → codeAny (model P w) A (.call (.ref f) args) (CR (L2.CX P w) outer P w H s Q E) s
theorem law_callZ {P : Program} {w : World} {K : PySem.W.Frag} {mg mb : Str → Option Value} {fa a : Addr} {cs : List (Addr × Addr)} {fd : FuncData} {x : Str} {sp : Sp} {s₁ : Shared}
    (KX : K.In s₁.heap) (hns : s₁.heap.Ns mainGlobals mg) (hmb : s₁.heap.Ns builtinsNs mb) (hbb : ∀ y : Str, y ≠ "__name__" → mb y = bootBuiltins y) (hlim : s₁.heap.NoLimit) (hg : s₁.gens = #[])
    (hT : ∀ p ∈ cs, s₁.heap.get? p.2 = some { cls := .none, data := .fields #[] }) (nT : ∀ p ∈ cs, K.lookup p.2 = none) (C : ∀ p ∈ cs, PySem.W.CodeHd s₁.heap p.1 p.2)
    (hbm : ∃ (bm : Addr) (ob : Obj), mg "__builtins__" = some (.ref bm) ∧ bm ≠ builtinsNs ∧ s₁.heap.get? bm = some ob ∧ ob.cls = .type "module" ∧ ob.dict = some builtinsNs ∧ ob.data = .plain)
    (H : Hp) (ok : HOk P w H s₁.heap)
    (dom : ∀ b u, H b = some u → (∃ p ∈ cs, p.2 = b) ∨ (K.lookup b = none ∧ ∃ (o : Obj) (v : HO) (xs : Array Value) (n : Nat), u = .frz o v ∧ o.data = .seq xs n)) (tb : ∀ p ∈ cs, H p.2 = some (.tbl #[]))
    (F : ∀ base : Heap, K.In base → base.Ns mainGlobals mg → (∀ p ∈ cs, LamX.TabB base mg p.1 p.2) → FnAt P w K mg base callerA fa fd [x] sp) (hbind : ∀ (s : Shared) (u : Value), BindsTo s fd ⟨[u], []⟩ [(x, u)])
    (hsp : sp [.ref a] H (fun v _ => v = .bl true) fun _ _ _ => False) (hCX : ∀ e s', L2.CX P w [] H s₁ (fun _ _ _ => False) e s' → False) :
    codeAny (model P w) callerA (.call (.ref fa) ⟨[.ref a], []⟩) (fun r s' => r = .ok (.ret (.bool true)) ∧ OldK s₁.heap s'.heap ∧ s'.os = s₁.os ∧ AllBare s'.gens) s₁ := by
  have off : ∀ {b : Addr} {o : Obj}, s₁.heap.get? b = some o → (∀ xs n, o.data ≠ .seq xs n) → o.data ≠ .fields #[] → H b = none := by
    intro b o e n1 n2
    cases q : H b with
    | none => rfl
    | some u =>
      exfalso
      rcases dom b u q with ⟨p, hp, e1⟩ | ⟨_, o', v, xs, n, rfl, hd⟩
      · subst e1
        rw [hT p hp] at e
        cases e
        exact n2 rfl
      · obtain ⟨e2, _⟩ := ok b _ q
        rw [e] at e2
        cases e2
        exact n1 _ _ hd
  have stays : ∀ {b : Addr} {m : Str → Option Value}, s₁.heap.Ns b m → (hidT s₁.heap H).Ns b m := by
    rintro b m ⟨o, es, ep, e, hd, rest⟩
    exact ⟨o, es, ep, hidT_get e (off e (fun xs n z => by rw [hd] at z; cases z) (fun z => by rw [hd] at z; cases z)), hd, rest⟩
  have inK : K.In (hidT s₁.heap H) := by
    intro b o e
    refine hidT_get (KX b o e) ?_
    cases q : H b with
    | none => rfl
    | some u =>
      exfalso
      rcases dom b u q with ⟨p, hp, e1⟩ | ⟨e2, _⟩
      · subst e1
        rw [nT p hp] at e
        cases e
      · rw [e2] at e
        cases e
  have hmod : L2.Mod K mg (hidT s₁.heap H) := by
    obtain ⟨mc, h1, h2⟩ := hlim
    exact ⟨inK, stays hns, ⟨mb, stays hmb, hbb⟩, mc, stays h1, h2⟩
  have TB : ∀ p ∈ cs, LamX.TabB (hidT s₁.heap H) mg p.1 p.2 := by
    intro p hp
    have atP := hT p hp
    constructor
    · obtain ⟨o, us, y1, y2, y3, y4, y5, y6, y7, e1, z1, z2, z3, z4, z5, z6, z7, z8, z9⟩ := C p hp
      have hb := off e1 (fun xs n z => by rw [z2] at z; cases z) (fun z => by rw [z2] at z; cases z; simp at z3)
      exact ⟨o, us, y1, y2, y3, y4, y5, y6, y7, hidT_get e1 hb, z1, z2, z3, z4, z5, z6, z7, z8, z9⟩
    · obtain ⟨bm, ob, m1, m2, m3, m4, m5, m6⟩ := hbm
      have ng : bm ≠ mainGlobals := by
        rintro rfl
        obtain ⟨o, es, ep, e, hd, _⟩ := hns
        rw [m3] at e
        cases e
        rw [m6] at hd
        cases hd
      have np : bm ≠ p.2 := by
        rintro rfl
        rw [m3] at atP
        cases atP
        cases m6
      exact ⟨bm, ob, m1, m2, ng, np, hidT_get m3 (off m3 (fun xs n z => by rw [m6] at z; cases z) (fun z => by rw [m6] at z; cases z)), m4, m5, m6⟩
    · intro z
      obtain ⟨o, es, ep, e, hd, _⟩ := hns
      rw [z, atP] at e
      cases e
      cases hd
  have env : Env0 P w K mg (hidT s₁.heap H) callerA [] s₁ H :=
    ⟨rfl, hmod, fun b o e => of_hidT e, Nat.le_of_eq (hidT_size _ _), trivial, fun b hb => (List.not_mem_nil hb).elim, ok, .of_eq hg⟩
  refine codeAny_mono ((F _ inK (stays hns) TB).go [] s₁ H ⟨[.ref a], []⟩ [.ref a] [.ref a] _ _ env (hbind s₁ (.ref a)) (.cons rfl .nil) hsp) fun r s' h => ?_
  match r, h with
  | .error e, h => exact (hCX e s' h).elim
  | .ok .next, h => exact False.elim h
  | .ok .brk, h => exact False.elim h
  | .ok .cont, h => exact False.elim h
  | .ok (.ret u), ⟨v, H', hos, bare, un, hok', hrel, hv⟩ =>
    have hv' : v = .bl true := hv
    subst hv'
    obtain rfl : u = Value.bool true := hrel
    have old : ∀ b o, s₁.heap.get? b = some o → (∃ p ∈ cs, p.2 = b) ∨ s'.heap.get? b = some o := by
      intro b o e
      cases q : H b with
      | none => exact .inr (un.keep b o e q (fun z => nomatch (show b ∈ ([] : List Addr) from z)) (fun z => nomatch z))
      | some u =>
        rcases dom b u q with z | ⟨_, o', y, xs, n, rfl, _⟩
        · exact .inl z
        · obtain ⟨e1, _⟩ := ok b _ q
          obtain ⟨e2, _⟩ := hok' b _ (un.frzs b o' y q)
          rw [e] at e1
          cases e1
          exact .inr e2
    have grown : ∀ p ∈ cs, ∃ more : Array Value, s'.heap.get? p.2 = some { cls := .none, data := .fields more } := by
      intro p hp
      obtain ⟨more, z⟩ := un.tbls p.2 #[] (tb p hp)
      exact ⟨_, hok' p.2 _ z⟩
    refine ⟨rfl, ⟨fun b o e => ?_, fun b o e => ?_⟩, hos, bare⟩
    · rcases old b o e with ⟨p, hp, rfl⟩ | z
      · obtain ⟨more, hm⟩ := grown p hp
        rw [hT p hp] at e
        cases e
        exact .inr (.inl ⟨((C p hp).tab (hT p hp)).isCodeTable, rfl, #[], more, rfl, by rw [Array.empty_append]; exact hm⟩)
      · exact .inl z
    · rcases old b o e with ⟨p, hp, rfl⟩ | z
      · obtain ⟨more, hm⟩ := grown p hp
        exact ⟨_, hm⟩
      · exact ⟨o, z⟩
end PL
end
section
set_option Elab.async false
set_option maxRecDepth 100000
set_option linter.all false
set_option maxHeartbeats 1000000
/-! PL25: the zone of a law: the top's tuples, the script, the code tables; the law's end. -/
namespace PL
open PySem PySem.Spec PyProof.Rows L2
/-- a tuple of the top -/
structure TopT where
  at_ : Addr
  ob : Obj
  vs : List V
structure TopT.Ok (t : TopT) (h : Heap) : Prop where
  get : h.get? t.at_ = some t.ob
  cls : t.ob.cls = .type "tuple"
  dat : ∃ (its : List Value) (n : Nat), t.ob.data = .seq its.toArray n ∧ Vals t.vs its
  sz : t.vs.length ≤ sizeLine
def zoneOf (K : PySem.W.Frag) (ts : List TopT) (tb : List (Addr × Str)) : Zone where
  st := fun H G => ∀ t ∈ ts, WT K t.at_ t.vs ∨ (G t.at_ ∧ ∃ o, H t.at_ = some (.frz o (.tup t.vs)))
  stab := fun H G H' G' h k t ht => (h t ht).imp id fun ⟨g, o, e⟩ => ⟨k.gg _ g, o, k.keep _ _ g e (fun ps z => by cases z)⟩
  tb := tb
/-- the heap that the law starts in, as it is tracked -/
def hp0 (K : PySem.W.Frag) (cs : List (Addr × Addr)) (a : Addr) (so : Obj) (ns : List Int) (ts : List TopT) : Hp := fun b =>
  if b ∈ cs.map (·.2) then some (.tbl #[]) else if (K.lookup b).isSome = true then none else if b = a then some (.frz so (.lst (ns.map V.int))) else
    (ts.find? fun t => decide (t.at_ = b)).map fun t => .frz t.ob (.tup t.vs)
section
variable {P : Program} {w : World} {K : PySem.W.Frag} {cs : List (Addr × Addr)} {a : Addr} {vals : List Value} {ns : List Int} {ts : List TopT} {h : Heap}
theorem hp0_tab {p : Addr × Addr} {so : Obj} (hp : p ∈ cs) : hp0 K cs a so ns ts p.2 = some (.tbl #[]) := if_pos (List.mem_map.mpr ⟨p, hp, rfl⟩)
theorem hp0_cases {so : Obj} {b : Addr} {u : HO} (e : hp0 K cs a so ns ts b = some u) : ((∃ p ∈ cs, p.2 = b) ∧ u = .tbl #[]) ∨ (K.lookup b = none ∧ ((b = a ∧ u = .frz so (.lst (ns.map V.int))) ∨ ∃ t ∈ ts, t.at_ = b ∧ u = .frz t.ob (.tup t.vs))) := by
  unfold hp0 at e
  split at e
  · rename_i hb
    obtain ⟨p, hp, q⟩ := List.mem_map.mp hb
    cases e
    exact .inl ⟨⟨p, hp, q⟩, rfl⟩
  · split at e
    · cases e
    · rename_i hk
      have hk' : K.lookup b = none := by
        cases q : K.lookup b with
        | none => rfl
        | some o => rw [q] at hk; exact absurd rfl hk
      split at e
      · rename_i hb
        cases e
        exact .inr ⟨hk', .inl ⟨hb, rfl⟩⟩
      · obtain ⟨t, ht, q⟩ := Option.map_eq_some_iff.mp e
        cases q
        exact .inr ⟨hk', .inr ⟨t, List.mem_of_find?_eq_some ht, of_decide_eq_true (List.find?_some (p := fun t : TopT => decide (t.at_ = b)) ht), rfl⟩⟩
theorem hp0_ok (hT : ∀ p ∈ cs, h.get? p.2 = some { cls := .none, data := .fields #[] }) (ha : h.get? a = some { cls := .type "list", data := .seq vals.toArray }) (hi : Vals (ns.map V.int) vals) (hl : ns.length ≤ sizeLine) (ht : ∀ t ∈ ts, t.Ok h) :
    HOk P w (hp0 K cs a { cls := .type "list", data := .seq vals.toArray } ns ts) h := fun b u e => by
  rcases hp0_cases e with ⟨⟨p, hp, rfl⟩, rfl⟩ | ⟨_, ⟨rfl, rfl⟩ | ⟨t, h1, rfl, rfl⟩⟩
  · exact hT p hp
  · exact ⟨ha, by rw [List.length_map]; exact hl, vals, _, hi, ha⟩
  · obtain ⟨g, c, ⟨its, n, hd, hv⟩, sz⟩ := ht t h1
    exact ⟨g, sz, its, hv, t.ob, g, c, n, hd⟩
theorem hp0_dom (ha : h.get? a = some { cls := .type "list", data := .seq vals.toArray }) (ht : ∀ t ∈ ts, t.Ok h) : ∀ b u, hp0 K cs a { cls := .type "list", data := .seq vals.toArray } ns ts b = some u →
    (∃ p ∈ cs, p.2 = b) ∨ (K.lookup b = none ∧ ∃ (o : Obj) (v : HO) (xs : Array Value) (n : Nat), u = .frz o v ∧ o.data = .seq xs n) := fun b u e => by
  rcases hp0_cases e with ⟨z, _⟩ | ⟨hk, ⟨rfl, rfl⟩ | ⟨t, h1, rfl, rfl⟩⟩
  · exact .inl z
  · exact .inr ⟨hk, _, _, _, _, rfl, rfl⟩
  · obtain ⟨g, c, ⟨its, n, hd, hv⟩, sz⟩ := ht t h1
    exact .inr ⟨hk, _, _, _, _, rfl, hd⟩
def gr0 (H : Hp) : Addr → Prop := fun b => ∃ o u, H b = some (.frz o u)
theorem good0 {so : Obj} {tb : List (Addr × Str)} (KX : K.In h) (ha : h.get? a = some so) (hso : so.cls = .type "list") (ht : ∀ t ∈ ts, t.Ok h) (nT : ∀ t ∈ ts, ∀ t' ∈ ts, t.at_ = t'.at_ → t = t') (hT : ∀ p ∈ cs, h.get? p.2 = some { cls := .none, data := .fields #[] }) (htb : ∀ r ∈ tb, ∃ p ∈ cs, p.2 = r.1) :
    Good (zoneOf K ts tb) (hp0 K cs a so ns ts) (gr0 (hp0 K cs a so ns ts)) [] := by
  refine ⟨List.nodup_nil, fun _ h => by simp at h, fun b ⟨o, u, e⟩ => ⟨_, e, fun ps z => by cases z⟩, fun _ h => by simp at h, fun t h1 => ?_, fun r hr => ?_⟩
  · obtain ⟨g, c, ⟨its, n, hd, hv⟩, sz⟩ := ht t h1
    cases q : K.lookup t.at_ with
    | some o =>
      refine .inl ⟨o, its.toArray, n, q, ?_, ?_, ?_, by simpa using hv⟩
      · have e := KX _ _ q
        rw [g] at e
        cases e
        exact c
      · have e := KX _ _ q
        rw [g] at e
        cases e
        exact hd
      · rw [List.size_toArray, ← hv.length]
        exact sz
    | none =>
      have e : hp0 K cs a so ns ts t.at_ = some (.frz t.ob (.tup t.vs)) := by
        unfold hp0
        rw [if_neg (fun z => by
          obtain ⟨p, hp, e1⟩ := List.mem_map.mp z
          have e2 := hT p hp
          rw [e1, g] at e2
          rw [Option.some.inj e2] at c
          cases c), if_neg (by rw [q]; simp), if_neg (fun z => by
          rw [z, ha] at g
          rw [Option.some.inj g] at hso
          rw [hso] at c
          exact absurd c (by decide))]
        have f : ts.find? (fun t' => decide (t'.at_ = t.at_)) = some t := by
          cases ef : ts.find? (fun t' : TopT => decide (t'.at_ = t.at_)) with
          | none => exact absurd (decide_eq_true rfl) (List.find?_eq_none.mp ef t h1)
          | some t' =>
            have m := List.mem_of_find?_eq_some ef
            have e1 : t'.at_ = t.at_ := of_decide_eq_true (List.find?_some (p := fun t' : TopT => decide (t'.at_ = t.at_)) ef)
            rw [nT t' m t h1 e1]
        rw [f]
        rfl
      exact .inr ⟨⟨_, _, e⟩, _, e⟩
  · obtain ⟨p, hp, e⟩ := htb r hr
    refine LamX.TabS.nil ?_
    rw [← e]
    exact hp0_tab hp
/-- the script is read -/
theorem rep_scr (KX : K.In h) (hT : ∀ p ∈ cs, h.get? p.2 = some { cls := .none, data := .fields #[] }) (ha : h.get? a = some { cls := .type "list", data := .seq vals.toArray }) (hi : Vals (ns.map V.int) vals) (hl : ns.length ≤ sizeLine) :
    Rep K (hp0 K cs a { cls := .type "list", data := .seq vals.toArray } ns ts) (gr0 (hp0 K cs a { cls := .type "list", data := .seq vals.toArray } ns ts)) (.scr ns) (.ref a) := by
  cases q : K.lookup a with
  | some o =>
    have e := KX _ _ q
    rw [ha] at e
    cases e
    exact .scrW fun H => .inr ⟨_, vals.toArray, _, q, rfl, rfl, rfl, by rw [List.size_toArray, ← hi.length, List.length_map]; exact hl, by simpa using hi⟩
  | none =>
    have e : hp0 K cs a { cls := .type "list", data := .seq vals.toArray } ns ts a = some (.frz { cls := .type "list", data := .seq vals.toArray } (.lst (ns.map V.int))) := by
      unfold hp0
      rw [if_neg (fun z => by
        obtain ⟨p, hp, e1⟩ := List.mem_map.mp z
        have e2 := hT p hp
        rw [e1, ha] at e2
        cases e2), if_neg (by rw [q]; simp), if_pos rfl]
    exact .scr ⟨_, _, e⟩ e
end
/-- a family's def that may be called in one surrounding -/
structure FCA (P : Program) (w : World) (K : PySem.W.Frag) (mg : Str → Option Value) (base : Heap) (Z : Zone) (A : Around) (x : Str) (st : Stmt) (ps : List Str) (f : Addr → Addr → FSem) : Prop where
  ex : ∃ (a : Addr) (fd : FuncData), FnAt P w K mg base A a fd ps (spFF Z K mg f ps.length) ∧ mg x = some (.ref a) ∧ PySem.W.keepIn K (.ref a) = true ∧ Binds K fd ps [] ∧ Fun K x x st a fd
theorem FCF.at_ {P : Program} {w : World} {K : PySem.W.Frag} {mg : Str → Option Value} {base : Heap} {Z : Zone} {A : Around} {k : Nat} {x : Str} {st : Stmt} {ps : List Str} {f : Addr → Addr → FSem} (F : FCF P w K mg base Z k x st ps f) (hr : Room k A) : FCA P w K mg base Z A x st ps f :=
  let ⟨a, fd, h1, h2⟩ := F.ex; ⟨a, fd, ⟨fun outer s H args us vs Q E e b r q => h1.run A outer s H args us vs Q E hr e b r q⟩, h2⟩
/-- the law holds, called in a heap with the script at a -/
theorem law_endA {P : Program} {w : World} {K : PySem.W.Frag} {mg mb : Str → Option Value} {fa a : Addr} {cs : List (Addr × Addr)} {x : Str} {st : Stmt} {f : Addr → Addr → FSem} {s₁ : Shared} {vals : List Value} {ns : List Int} {ts : List TopT} {tb : List (Addr × Str)}
    (KX : K.In s₁.heap) (hns : s₁.heap.Ns mainGlobals mg) (hmb : s₁.heap.Ns builtinsNs mb) (hbb : ∀ y : Str, y ≠ "__name__" → mb y = bootBuiltins y) (hlim : s₁.heap.NoLimit) (hg : s₁.gens = #[])
    (hT : ∀ p ∈ cs, s₁.heap.get? p.2 = some { cls := .none, data := .fields #[] }) (nT : ∀ p ∈ cs, K.lookup p.2 = none) (C : ∀ p ∈ cs, PySem.W.CodeHd s₁.heap p.1 p.2)
    (hbm : ∃ (bm : Addr) (ob : Obj), mg "__builtins__" = some (.ref bm) ∧ bm ≠ builtinsNs ∧ s₁.heap.get? bm = some ob ∧ ob.cls = .type "module" ∧ ob.dict = some builtinsNs ∧ ob.data = .plain)
    (ha : s₁.heap.get? a = some { cls := .type "list", data := .seq vals.toArray }) (hi : IntsAre vals ns) (hl : ns.length ≤ sizeLine)
    (ht : ∀ t ∈ ts, t.Ok s₁.heap) (un : ∀ t ∈ ts, ∀ t' ∈ ts, t.at_ = t'.at_ → t = t') (htb : ∀ r ∈ tb, ∃ p ∈ cs, p.2 = r.1) {a0 : Addr} {fd : FuncData} (F0 : Fun K x x st a0 fd) (hm0 : mg x = some (.ref a0)) (hfa : mg x = some (.ref fa))
    (hbind : ∀ (kV doc pm : Value) (an : Option Addr) (cdv ct : Value) (us : List Value), us.length = 1 → bindArgs (PySem.W.fnOf x x (defArgs st) (defBody st) (defScope st) .none kV doc pm an cdv ct) ⟨us, []⟩ = pure ((["script"] : List Str).zip us))
    (FL : ∀ base : Heap, K.In base → base.Ns mainGlobals mg → (∀ p ∈ cs, LamX.TabB base mg p.1 p.2) → FCA P w K mg base (zoneOf K ts tb) callerA x st ["script"] f)
    (law : ∀ p b, f p b none [.scr ns] = .ok (.d (.bl true)) none) (hCX : ∀ H e s', L2.CX P w [] H s₁ (fun _ _ _ => False) e s' → False) :
    codeAny (model P w) callerA (.call (.ref fa) ⟨[.ref a], []⟩) (fun r s' => r = .ok (.ret (.bool true)) ∧ OldK s₁.heap s'.heap ∧ s'.os = s₁.os ∧ AllBare s'.gens) s₁ := by
  have hi' : Vals (ns.map V.int) vals := vals_ints hi
  obtain rfl : a0 = fa := by rw [hm0] at hfa; exact Value.ref.inj (Option.some.inj hfa)
  refine law_callZ (sp := spFF (zoneOf K ts tb) K mg f 1) (x := "script") (fd := fd) KX hns hmb hbb hlim hg hT nT C hbm (hp0 K cs a { cls := .type "list", data := .seq vals.toArray } ns ts) (hp0_ok hT ha hi' hl ht) (hp0_dom ha ht) (fun p hp => hp0_tab hp) (fun base h1 h2 h3 => ?_) (fun s u => ?_) ?_ (hCX _)
  · obtain ⟨a', fd', h4, h5, _, _, h6⟩ := (FL base h1 h2 h3).ex
    obtain rfl : a' = a0 := by rw [hm0] at h5; exact (Value.ref.inj (Option.some.inj h5)).symm
    obtain ⟨⟨oc, od, kV, doc, pm, an, cdv, ct, osl, rfl, lk, _⟩, _⟩ := F0
    obtain ⟨⟨oc', od', kV', doc', pm', an', cdv', ct', osl', rfl, lk', _⟩, _⟩ := h6
    rw [lk] at lk'
    have e := Option.some.inj lk'
    have e2 := congrArg Obj.data e
    simp only [Data.func.injEq] at e2
    rw [e2]
    exact h4
  · obtain ⟨⟨oc, od, kV, doc, pm, an, cdv, ct, osl, rfl, lk, _⟩, _⟩ := F0
    exact .of_eq (hbind kV doc pm an cdv ct [u] rfl)
  · refine ⟨gr0 _, [], none, [.scr ns], [], [.ref a], rfl, rfl, ⟨rfl, rfl⟩, .cons (rep_scr KX hT ha hi' hl) .nil, good0 KX ha rfl ht un hT htb, fun p b => ?_⟩
    rw [law p b]
    intro v H' G' Fo F' r _
    obtain ⟨r, _⟩ := r
    cases r
    rfl
theorem law_end {P : Program} {w : World} {K : PySem.W.Frag} {mg mb : Str → Option Value} {k : Nat} {fa a : Addr} {cs : List (Addr × Addr)} {x : Str} {st : Stmt} {f : Addr → Addr → FSem} {s₁ : Shared} {vals : List Value} {ns : List Int} {ts : List TopT} {tb : List (Addr × Str)}
    (KX : K.In s₁.heap) (hns : s₁.heap.Ns mainGlobals mg) (hmb : s₁.heap.Ns builtinsNs mb) (hbb : ∀ y : Str, y ≠ "__name__" → mb y = bootBuiltins y) (hlim : s₁.heap.NoLimit) (hg : s₁.gens = #[])
    (hT : ∀ p ∈ cs, s₁.heap.get? p.2 = some { cls := .none, data := .fields #[] }) (nT : ∀ p ∈ cs, K.lookup p.2 = none) (C : ∀ p ∈ cs, PySem.W.CodeHd s₁.heap p.1 p.2)
    (hbm : ∃ (bm : Addr) (ob : Obj), mg "__builtins__" = some (.ref bm) ∧ bm ≠ builtinsNs ∧ s₁.heap.get? bm = some ob ∧ ob.cls = .type "module" ∧ ob.dict = some builtinsNs ∧ ob.data = .plain)
    (ha : s₁.heap.get? a = some { cls := .type "list", data := .seq vals.toArray }) (hi : IntsAre vals ns) (hl : ns.length ≤ sizeLine) (hr : Room k callerA)
    (ht : ∀ t ∈ ts, t.Ok s₁.heap) (un : ∀ t ∈ ts, ∀ t' ∈ ts, t.at_ = t'.at_ → t = t') (htb : ∀ r ∈ tb, ∃ p ∈ cs, p.2 = r.1) {a0 : Addr} {fd : FuncData} (F0 : Fun K x x st a0 fd) (hm0 : mg x = some (.ref a0)) (hfa : mg x = some (.ref fa))
    (hbind : ∀ (kV doc pm : Value) (an : Option Addr) (cdv ct : Value) (us : List Value), us.length = 1 → bindArgs (PySem.W.fnOf x x (defArgs st) (defBody st) (defScope st) .none kV doc pm an cdv ct) ⟨us, []⟩ = pure ((["script"] : List Str).zip us))
    (FL : ∀ base : Heap, K.In base → base.Ns mainGlobals mg → (∀ p ∈ cs, LamX.TabB base mg p.1 p.2) → FCF P w K mg base (zoneOf K ts tb) k x st ["script"] f)
    (law : ∀ p b, f p b none [.scr ns] = .ok (.d (.bl true)) none) (hCX : ∀ H e s', L2.CX P w [] H s₁ (fun _ _ _ => False) e s' → False) :
    codeAny (model P w) callerA (.call (.ref fa) ⟨[.ref a], []⟩) (fun r s' => r = .ok (.ret (.bool true)) ∧ OldK s₁.heap s'.heap ∧ s'.os = s₁.os ∧ AllBare s'.gens) s₁ :=
  law_endA KX hns hmb hbb hlim hg hT nT C hbm ha hi hl ht un htb F0 hm0 hfa hbind (fun base h1 h2 h3 => (FL base h1 h2 h3).at_ hr) law hCX
/-- a tuple of the top as a constant -/
theorem topC_of {K : PySem.W.Frag} {mg : Str → Option Value} {ts : List TopT} {tb : List (Addr × Str)} {x : Str} {t : TopT} {xs : List D} (hm : mg x = some (.ref t.at_)) (h : t ∈ ts) (hr : ∀ H G, Reps K H G xs t.vs) : TopC (zoneOf K ts tb) K mg x (.tup xs) :=
  ⟨.ref t.at_, .ref t.at_, hm, rfl, fun H G st => (st t h).elim (fun w => .tupW w (hr H G)) fun ⟨g, o, e⟩ => .tup g (.inr ⟨o, e⟩) (hr H G)⟩
end PL
end
section
set_option Elab.async false
set_option maxRecDepth 100000
set_option linter.all false
set_option maxHeartbeats 1000000
/-! PL26: what the written part says of defs, constants, errors. -/
namespace PL
open PySem PySem.Spec PyProof.Rows L2
/-- a def of the top -/
def DefF (K : PySem.W.Frag) (x : Str) (st : Stmt) : Prop :=
  ∃ (f : Addr) (fd : FuncData), Fun K x x st f fd ∧ PySem.W.nsIn K mainGlobals x = some (some (.ref f))
section
variable {K : PySem.W.Frag} {x : Str} {st : Stmt} {h : Heap} {mg : Str → Option Value}
theorem def_mk {f : Addr} {oc kV doc pm cdv ct : Value} {od an : Option Addr} {osl : Array (Option Value)} (a : PySem.W.nsIn K mainGlobals x = some (some (.ref f)))
    (l : K.lookup f = some ⟨oc, od, .func (PySem.W.fnOf x x (defArgs st) (defBody st) (defScope st) .none kV doc pm an cdv ct), osl⟩) (c : PySem.W.codeIn K cdv x = true) (k : PySem.W.keepIn K (.ref f) = true) : DefF K x st :=
  ⟨f, _, ⟨⟨oc, od, kV, doc, pm, an, cdv, ct, osl, rfl, l, c⟩, k⟩, a⟩
theorem DefF.ex (d : DefF K x st) (X : K.In h) (G : h.Ns mainGlobals mg) : ∃ (a : Addr) (fd : FuncData), Fun K x x st a fd ∧ mg x = some (.ref a) :=
  let ⟨f, fd, F, a⟩ := d; ⟨f, fd, F, PySem.W.mg_of X G a⟩
/-- a def of the top whose code object is at c -/
def DefC (K : PySem.W.Frag) (x : Str) (st : Stmt) (c : Addr) : Prop :=
  ∃ (f : Addr) (oc : Value) (od : Option Addr) (kV doc pm : Value) (an : Option Addr) (ct : Value) (osl : Array (Option Value)), PySem.W.nsIn K mainGlobals x = some (some (.ref f)) ∧
    K.lookup f = some ⟨oc, od, .func (PySem.W.fnOf x x (defArgs st) (defBody st) (defScope st) .none kV doc pm an (.ref c) ct), osl⟩ ∧ PySem.W.codeIn K (.ref c) x = true ∧ PySem.W.keepIn K (.ref f) = true
theorem defC_mk {f c : Addr} {oc kV doc pm ct : Value} {od an : Option Addr} {osl : Array (Option Value)} (a : PySem.W.nsIn K mainGlobals x = some (some (.ref f)))
    (l : K.lookup f = some ⟨oc, od, .func (PySem.W.fnOf x x (defArgs st) (defBody st) (defScope st) .none kV doc pm an (.ref c) ct), osl⟩) (q : PySem.W.codeIn K (.ref c) x = true) (k : PySem.W.keepIn K (.ref f) = true) : DefC K x st c :=
  ⟨f, oc, od, kV, doc, pm, an, ct, osl, a, l, q, k⟩
theorem DefC.at {c : Addr} (d : DefC K x st c) (X : K.In h) (G : h.Ns mainGlobals mg) : FunAt K mg x st c :=
  let ⟨f, oc, od, kV, doc, pm, an, ct, osl, a, l, q, k⟩ := d; ⟨f, oc, od, kV, doc, pm, an, ct, osl, l, q, k, PySem.W.mg_of X G a⟩
/-- a code object with its table -/
def hdB (vs : Array Value) (c P : Addr) : Bool := (match (vs[11]? : Option Value) with | some (.ref P') => P' == P | _ => false) &&
  ((match vs.getD 18 .none with | .str _ _ => true | _ => false) && ((match vs.getD 7 .none with | .int _ _ => true | _ => false) &&
  ((match vs.getD 9 .none with | .bool _ => true | _ => false) && ((match vs.getD 10 .none with | .int _ _ => true | _ => false) && c != P))))
theorem code_mk {c P : Addr} {dd : Option Addr} {vs : Array Value} {sl : Array (Option Value)} (l : K.lookup c = some ⟨.type "code", dd, .fields vs, sl⟩) (q : hdB vs c P = true) : PySem.W.codeHdIn K c P = true := by
  unfold PySem.W.codeHdIn
  rw [l]
  unfold hdB at q
  simp only [Bool.and_assoc]
  exact q
/-- an error class with its __init__ -/
def ErrF (K : PySem.W.Frag) (x qn : Str) (C : Addr) : Prop := PySem.W.nsIn K mainGlobals x = some (some (.ref C)) ∧ (∀ mg : Str → Option Value, mg x = some (.ref C) → ∃ fI, Er.Txt K mg x qn C fI) ∧ PySem.W.exmOne K (.ref C) (.ref C) = some true
theorem exm_mk {S C : Addr} (h1 : PySem.W.subIn K (.ref C) (.type "BaseException") = some true) (h2 : PySem.W.isClsIn K C = true) (h3 : PySem.W.typeIn K (.ref C) = some (.type "type")) {b : Bool} (h4 : PySem.W.subIn K (.ref S) (.ref C) = some b) : PySem.W.exmOne K (.ref S) (.ref C) = some b := by
  have z : (PySem.W.clsIn K C).isSome = true := h2
  unfold PySem.W.exmOne
  rw [h1]
  show (if _ then PySem.W.kitCls K (.ref S) (.ref C) else none) = some b
  rw [if_pos (by decide)]
  show (if ((PySem.W.clsIn K C).isSome && PySem.W.typeIn K (.ref C) == some (.type "type")) = true then PySem.W.subIn K (.ref S) (.ref C) else none) = some b
  rw [z, h3, h4]
  rfl
theorem err_mk {qn : Str} {C fI : Addr} {nm q : Str} {N : Addr} {bs bm : List Value} {sn : List Str} {sub : List Value} {ab : Bool} {col : Option Bool} {dd : Option Addr} {k0 k1 k2 k3 k5 : Option Value} {oc doc pm cdv ct : Value} {od an : Option Addr} {osl : Array (Option Value)} {p1 p2 q1 q2 q3 q4 : Pos}
    (aC : PySem.W.nsIn K mainGlobals x = some (some (.ref C))) (xL : K.lookup C = some (PySem.excClassObj nm q C N bs bm true sn sub ab col dd k0 k1 k2 k3 k5 "Exception.__new__")) (ov : Er.over bm = true)
    (sa : PySem.W.findIn K (.ref C) "__setattr__" = some (some (.builtin "object.__setattr__"))) (ga : PySem.W.findIn K (.ref C) "__getattribute__" = some (some (.builtin "BaseException.__getattribute__"))) (gg : PySem.W.findIn K (.ref C) "__getattr__" = some none)
    (nN : PySem.W.findIn K (.ref C) "thing" = some none) (iC : PySem.W.findIn K (.ref C) "__init__" = some (some (.ref fI))) (tI : PySem.W.typeIn K (.ref fI) = some (.type "function")) (kC : PySem.W.keepIn K (.ref C) = true)
    (eC : PySem.W.subIn K (.ref C) (.type "BaseException") = some true) (tC : PySem.W.typeIn K (.ref C) = some (.type "type")) (hC : PySem.W.hasDictIn K C = true) (jC : PySem.W.isClsIn K C = true) (sC : PySem.W.subIn K (.ref C) (.ref C) = some true)
    (l : K.lookup fI = some ⟨oc, od, .func (PySem.W.fnOf "__init__" qn (Er.iA p1 p2) (Er.iB q1 q2 q3 q4) Er.iS .none .none doc pm an cdv ct), osl⟩) (cd : PySem.W.codeIn K cdv qn = true) : ErrF K x qn C :=
  ⟨aC, fun mg hm => ⟨fI, { gC := hm, cls := ⟨nm, q, N, bs, bm, sn, sub, ab, col, dd, k0, k1, k2, k3, k5, xL, ov⟩, sa := sa, ga := ga, gg := gg, noN := nN, iC := iC, tC := tI, kC := kC, exC := eC, tyC := tC, hdC := hC, fn := ⟨oc, od, doc, pm, an, cdv, ct, osl, p1, p2, q1, q2, q3, q4, l, cd⟩ }⟩, exm_mk eC jC tC sC⟩
/-- constants of the top -/
theorem topS {ts : List TopT} {tb : List (Addr × Str)} {u : Str} {tk : Tok} (X : K.In h) (G : h.Ns mainGlobals mg) (a : PySem.W.nsIn K mainGlobals x = some (some (.str u tk))) : TopC (zoneOf K ts tb) K mg x (.str u) :=
  ⟨.str u, .str u tk, PySem.W.mg_of X G a, ⟨tk, rfl⟩, fun _ _ _ => .str u⟩
theorem topI {ts : List TopT} {tb : List (Addr × Str)} {i : Int} {tk : Tok} (X : K.In h) (G : h.Ns mainGlobals mg) (a : PySem.W.nsIn K mainGlobals x = some (some (.int i tk))) : TopC (zoneOf K ts tb) K mg x (.int i) :=
  ⟨.int i, .int i tk, PySem.W.mg_of X G a, ⟨tk, rfl⟩, fun _ _ _ => .int i⟩
/-- a tuple of the written part, its items told -/
def TupK (K : PySem.W.Frag) (x : Str) (ds : List D) : Prop := ∃ (p : Addr) (o : Obj) (its : Array Value) (n : Nat) (vs : List V), PySem.W.nsIn K mainGlobals x = some (some (.ref p)) ∧ K.lookup p = some o ∧ o.cls = .type "tuple" ∧ o.data = .seq its n ∧ its.size ≤ sizeLine ∧ Vals vs its.toList ∧ ∀ H G, Reps K H G ds vs
/-- the values of ints and texts -/
def flatV : List D → List V
  | .int i :: ds => .int i :: flatV ds
  | .str y :: ds => .str y :: flatV ds
  | _ => []
inductive ItsD : List D → List Value → Prop
  | nil : ItsD [] []
  | int {ds : List D} {us : List Value} (i : Int) (t : Tok) : ItsD ds us → ItsD (.int i :: ds) (.int i t :: us)
  | str {ds : List D} {us : List Value} (y : Str) (t : Tok) : ItsD ds us → ItsD (.str y :: ds) (.str y t :: us)
theorem ItsD.ok {K : PySem.W.Frag} : ∀ {ds : List D} {us : List Value}, ItsD ds us → Vals (flatV ds) us ∧ ∀ H G, Reps K H G ds (flatV ds)
  | _, _, .nil => ⟨.nil, fun _ _ => .nil⟩
  | _, _, .int i t r => ⟨.cons ⟨t, rfl⟩ (ItsD.ok (K := K) r).1, fun H G => .cons (.int i) ((ItsD.ok r).2 H G)⟩
  | _, _, .str i t r => ⟨.cons ⟨t, rfl⟩ (ItsD.ok (K := K) r).1, fun H G => .cons (.str i) ((ItsD.ok r).2 H G)⟩
theorem tup_mk {p : Addr} {dd : Option Addr} {its : Array Value} {n : Nat} {sl : Array (Option Value)} {ds : List D} (a : PySem.W.nsIn K mainGlobals x = some (some (.ref p))) (l : K.lookup p = some ⟨.type "tuple", dd, .seq its n, sl⟩) (z : its.size ≤ sizeLine) (r : ItsD ds its.toList) : TupK K x ds :=
  ⟨p, _, its, n, flatV ds, a, l, rfl, rfl, z, (r.ok (K := K)).1, r.ok.2⟩
theorem TupK.top {ts : List TopT} {tb : List (Addr × Str)} {ds : List D} (X : K.In h) (G : h.Ns mainGlobals mg) (t : TupK K x ds) : TopC (zoneOf K ts tb) K mg x (.tup ds) :=
  let ⟨p, o, its, n, vs, a, l, c, d, z, v, r⟩ := t; ⟨.ref p, .ref p, PySem.W.mg_of X G a, rfl, fun H G' _ => .tupW ⟨o, its, n, l, c, d, z, v⟩ (r H G')⟩
/-- a loose tuple of the top -/
theorem loose_str : ∀ {ss : List Str} {us : List Value} {as : List Addr}, PySem.W.ReadsAllW [] (fun _ => none) h us (ss.map PySem.W.WData.str) as → Vals (ss.map V.str) us
  | [], _, _, r => by cases r; exact .nil
  | s :: ss, _, _, r => by
    cases r with
    | cons r1 r2 => cases r1; exact .cons ⟨_, rfl⟩ (loose_str r2)
theorem loose_tup {lv : List (Str × PySem.W.WData)} {ss : List Str} (L : PySem.W.LooseAre lv mg h) (m : (x, PySem.W.WData.tuple (ss.map PySem.W.WData.str)) ∈ lv) (z : ss.length ≤ sizeLine) : ∃ t : TopT, mg x = some (.ref t.at_) ∧ t.vs = ss.map V.str ∧ t.Ok h := by
  obtain ⟨v, hm, r⟩ := L.val _ m
  have r' : PySem.W.ReadsLit h v (PySem.W.WData.tuple (ss.map PySem.W.WData.str)) [] := r
  cases r' with
  | @tuple b o us n _ _ hg hc hd ra =>
    have hv := loose_str ra
    exact ⟨⟨b, o, ss.map V.str⟩, hm, rfl, hg, hc, ⟨us.toList, n, by rw [hd, Array.toArray_toList], hv⟩, by rw [List.length_map]; exact z⟩
theorem reps_strs (ss : List Str) : ∀ H G, Reps K H G (ss.map D.str) (ss.map V.str) := fun H G => by
  induction ss with
  | nil => exact .nil
  | cons s ss ih => exact .cons (.str s) ih
theorem topT_uniq {t t' : TopT} (a : t.Ok h) (b : t'.Ok h) (e : t.at_ = t'.at_) : t = t' := by
  obtain ⟨g, _, ⟨its, n, d, v⟩, _⟩ := a
  obtain ⟨g', _, ⟨its', n', d', v'⟩, _⟩ := b
  obtain ⟨p, o, vs⟩ := t
  obtain ⟨p', o', vs'⟩ := t'
  simp only at e g g' d d' v v'
  subst e
  rw [g] at g'
  cases g'
  rw [d] at d'
  have q : its.toArray = its'.toArray := by injection d'
  have q2 : its = its' := by simpa using q
  subst q2
  rw [Vals.inj v v']
end
end PL
end
section
set_option Elab.async false
set_option linter.all false
set_option maxRecDepth 100000
set_option maxHeartbeats 4000000
namespace K27
open PySem PySem.Spec PyProof.Rows L2 PL
theorem fin {P : Program} {w : World} {K : PySem.W.Frag} {mg mb : Str → Option Value} {s₁ : Shared} {fa a : Addr} {vals : List Value} {ns : List Int} {cL PT : Addr} {tk_LEFT tk_MOST_FOLDS tk_UP : Tok} {C_BadFolds C_PageError : Addr}
    (KX : K.In s₁.heap) (GN : s₁.heap.Ns mainGlobals mg) (LO : PySem.W.LooseAre ([("ASIDE", PySem.W.WData.tuple ((["left", "right"] : List Str).map PySem.W.WData.str)), ("WORDS", PySem.W.WData.tuple ((["down", "left", "right", "up"] : List Str).map PySem.W.WData.str))] : List (Str × PySem.W.WData)) mg s₁.heap) (hmb : s₁.heap.Ns builtinsNs mb) (hbb : ∀ y : Str, y ≠ "__name__" → mb y = bootBuiltins y) (hlim : s₁.heap.NoLimit) (hg : s₁.gens = #[])
    (hT : s₁.heap.get? PT = some { cls := .none, data := .fields #[] }) (hbm : ∃ (bm : Addr) (ob : Obj), mg "__builtins__" = some (.ref bm) ∧ bm ≠ builtinsNs ∧ s₁.heap.get? bm = some ob ∧ ob.cls = .type "module" ∧ ob.dict = some builtinsNs ∧ ob.data = .plain)
    (ha : s₁.heap.get? a = some { cls := .type "list", data := .seq vals.toArray }) (hi : IntsAre vals ns) (hlen : ns.length ≤ 63) (hbits : ∀ k ∈ ns, Builtin.Int.intBits k ≤ 1048576) (hfa : mg "law" = some (.ref fa))
    (LAW : ∀ ns : List Int, ns.length ≤ 63 → (∀ k ∈ ns, Builtin.Int.intBits k ≤ 1048576) → ∀ p b, f_law P w p b none [.scr ns] = .ok (.d (.bl true)) none)
    (n_abs : PySem.W.nsIn K mainGlobals "abs" = some none)
    (n_all : PySem.W.nsIn K mainGlobals "all" = some none)
    (n_bool : PySem.W.nsIn K mainGlobals "bool" = some none)
    (n_dict : PySem.W.nsIn K mainGlobals "dict" = some none)
    (n_enumerate : PySem.W.nsIn K mainGlobals "enumerate" = some none)
    (n_int : PySem.W.nsIn K mainGlobals "int" = some none)
    (n_isinstance : PySem.W.nsIn K mainGlobals "isinstance" = some none)
    (n_len : PySem.W.nsIn K mainGlobals "len" = some none)
    (n_list : PySem.W.nsIn K mainGlobals "list" = some none)
    (n_max : PySem.W.nsIn K mainGlobals "max" = some none)
    (n_range : PySem.W.nsIn K mainGlobals "range" = some none)
    (n_str : PySem.W.nsIn K mainGlobals "str" = some none)
    (n_sum : PySem.W.nsIn K mainGlobals "sum" = some none)
    (n_tuple : PySem.W.nsIn K mainGlobals "tuple" = some none)
    (n_zip : PySem.W.nsIn K mainGlobals "zip" = some none)
    (k_LEFT : PySem.W.nsIn K mainGlobals "LEFT" = some (some (.str "left" tk_LEFT)))
    (k_MOST_FOLDS : PySem.W.nsIn K mainGlobals "MOST_FOLDS" = some (some (.int 4 tk_MOST_FOLDS)))
    (k_POWERS : TupK K "POWERS" [.int 1, .int 2, .int 4, .int 8, .int 16, .int 32, .int 64])
    (k_UP : PySem.W.nsIn K mainGlobals "UP" = some (some (.str "up" tk_UP)))
    (x_BadFolds : ErrF K "BadFolds" "BadFolds.__init__" C_BadFolds)
    (d_is_one_word : DefF K "is_one_word" (top 4))
    (d_is_folds_value : DefF K "is_folds_value" (top 14))
    (d_need_folds : DefF K "need_folds" (top 15))
    (d_sheet_size : DefF K "sheet_size" (top 16))
    (d_turned_over : DefF K "turned_over" (top 17))
    (d_folded : DefF K "folded" (top 18))
    (d_bundle_of : DefF K "bundle_of" (top 19))
    (d_layout_of : DefF K "layout_of" (top 20))
    (d_bundle : DefF K "bundle" (top 21))
    (d_layout : DefF K "layout" (top 22))
    (d_spine : DefF K "spine" (top 23))
    (d_twins : DefF K "twins" (top 24))
    (d__law_deck : DefF K "_law_deck" (top 26))
    (d__law_draw : DefF K "_law_draw" (top 27))
    (d__law_pick : DefF K "_law_pick" (top 28))
    (d__law_mixed : DefF K "_law_mixed" (top 29))
    (d__law_same : DefF K "_law_same" (top 30))
    (d__law_turned_over : DefF K "_law_turned_over" (top 31))
    (d__law_bundle : DefF K "_law_bundle" (top 32))
    (d__law_layout : DefF K "_law_layout" (top 33))
    (d__law_all_folds : DefF K "_law_all_folds" (top 34))
    (d__law_no_folds : DefF K "_law_no_folds" (top 35))
    (d__law_heard : DefF K "_law_heard" (top 36))
    (d__law_is_folded_right : DefF K "_law_is_folded_right" (top 37))
    (d__law_are_twins_right : DefF K "_law_are_twins_right" (top 38))
    (d__law_is_right : DefC K "_law_is_right" (top 39) cL)
    (d_law : DefF K "law" (top 40))
    (hdL : PySem.W.codeHdIn K cL PT = true)
    (nPT : K.lookup PT = none)
    (p_PageError : PySem.W.nsIn K mainGlobals "PageError" = some (some (.ref C_PageError)))
    (s_PageError_BadFolds : PySem.W.exmOne K (.ref C_BadFolds) (.ref C_PageError) = some true)
    : codeAny (model P w) callerA (.call (.ref fa) ⟨[.ref a], []⟩) (fun r s' => r = .ok (.ret (.bool true)) ∧ OldK s₁.heap s'.heap ∧ s'.os = s₁.os ∧ AllBare s'.gens) s₁ := by
  obtain ⟨t_ASIDE, a_ASIDE, e_ASIDE, o_ASIDE⟩ := loose_tup (x := "ASIDE") (ss := ["left", "right"]) LO List.mem_cons_self (by rw [sizeLine_eq]; decide)
  obtain ⟨t_WORDS, a_WORDS, e_WORDS, o_WORDS⟩ := loose_tup (x := "WORDS") (ss := ["down", "left", "right", "up"]) LO (List.mem_cons_of_mem _ List.mem_cons_self) (by rw [sizeLine_eq]; decide)
  have okT : ∀ t ∈ ([t_ASIDE, t_WORDS] : List TopT), t.Ok s₁.heap := by
    intro t ht
    simp only [List.mem_cons, List.not_mem_nil, or_false] at ht
    rcases ht with rfl | rfl
    all_goals assumption
  obtain ⟨f0, fd0, F0, m0⟩ := d_law.ex KX GN
  refine law_end (k := 16) (cs := [(cL, PT)]) (x := "law") (st := top 40) (f := f_law P w) (ts := [t_ASIDE, t_WORDS]) (tb := [(PT, q__law_is_right)]) KX GN hmb hbb hlim hg (fun p hp => ?_) (fun p hp => ?_) (fun p hp => ?_) hbm ha hi (by rw [sizeLine_eq]; omega) (⟨rfl, by decide, by decide⟩) okT (fun t ht t' ht' e => topT_uniq (okT t ht) (okT t' ht') e) (fun r hr => ?_) F0 m0 hfa (fun _ _ _ _ _ _ us hl => match us, hl with | [_], _ => rfl) (fun base h1 h2 h3 => ?_) (LAW ns hlen hbits) (fun _ _ _ ⟨_, _, _, _, _, _, _, _, _, _, _, _, z⟩ => z)
  · rw [List.mem_singleton.mp hp]; exact hT
  · rw [List.mem_singleton.mp hp]; exact nPT
  · rw [List.mem_singleton.mp hp]; exact PySem.W.codeHd_of_K KX hdL
  · rw [List.mem_singleton.mp hr]; exact ⟨(cL, PT), List.mem_singleton.mpr rfl, rfl⟩
  · have T : Top K mg (zoneOf K [t_ASIDE, t_WORDS] [(PT, q__law_is_right)]) := { b_abs := PySem.W.mg_none_of KX GN n_abs, b_all := PySem.W.mg_none_of KX GN n_all, b_bool := PySem.W.mg_none_of KX GN n_bool, b_dict := PySem.W.mg_none_of KX GN n_dict, b_enumerate := PySem.W.mg_none_of KX GN n_enumerate, b_int := PySem.W.mg_none_of KX GN n_int, b_isinstance := PySem.W.mg_none_of KX GN n_isinstance, b_len := PySem.W.mg_none_of KX GN n_len, b_list := PySem.W.mg_none_of KX GN n_list, b_max := PySem.W.mg_none_of KX GN n_max, b_range := PySem.W.mg_none_of KX GN n_range, b_str := PySem.W.mg_none_of KX GN n_str, b_sum := PySem.W.mg_none_of KX GN n_sum, b_tuple := PySem.W.mg_none_of KX GN n_tuple, b_zip := PySem.W.mg_none_of KX GN n_zip, c_ASIDE := topC_of (t := t_ASIDE) a_ASIDE List.mem_cons_self (by rw [e_ASIDE]; exact reps_strs ["left", "right"]), c_LEFT := topS KX GN k_LEFT, c_MOST_FOLDS := topI KX GN k_MOST_FOLDS, c_POWERS := k_POWERS.top KX GN, c_UP := topS KX GN k_UP, c_WORDS := topC_of (t := t_WORDS) a_WORDS (List.mem_cons_of_mem _ List.mem_cons_self) (by rw [e_WORDS]; exact reps_strs ["down", "left", "right", "up"]), x_BadFolds := let ⟨fI, q⟩ := x_BadFolds.2.1 mg (PySem.W.mg_of KX GN x_BadFolds.1); ⟨_, _, _, q⟩ }
    have F_is_one_word := fc_is_one_word (P := P) (w := w) (base := base) T (d_is_one_word.ex KX GN)
    have F_is_folds_value := fc_is_folds_value (P := P) (w := w) (base := base) T F_is_one_word (d_is_folds_value.ex KX GN)
    have F_need_folds := fc_need_folds (P := P) (w := w) (base := base) T F_is_folds_value (d_need_folds.ex KX GN)
    have F_sheet_size := fc_sheet_size (P := P) (w := w) (base := base) T (d_sheet_size.ex KX GN)
    have F_turned_over := fc_turned_over (P := P) (w := w) (base := base) T (d_turned_over.ex KX GN)
    have F_folded := fc_folded (P := P) (w := w) (base := base) T F_turned_over (d_folded.ex KX GN)
    have F_bundle_of := fc_bundle_of (P := P) (w := w) (base := base) T F_sheet_size F_folded (d_bundle_of.ex KX GN)
    have F_layout_of := fc_layout_of (P := P) (w := w) (base := base) T F_bundle_of (d_layout_of.ex KX GN)
    have F_bundle := fc_bundle (P := P) (w := w) (base := base) T F_need_folds F_bundle_of (d_bundle.ex KX GN)
    have F_layout := fc_layout (P := P) (w := w) (base := base) T F_need_folds F_layout_of (d_layout.ex KX GN)
    have F_spine := fc_spine (P := P) (w := w) (base := base) T F_need_folds (d_spine.ex KX GN)
    have F_twins := fc_twins (P := P) (w := w) (base := base) T F_need_folds (d_twins.ex KX GN)
    have F__law_deck := fc__law_deck (P := P) (w := w) (base := base) T (d__law_deck.ex KX GN)
    have F__law_draw := fc__law_draw (P := P) (w := w) (base := base) T (d__law_draw.ex KX GN)
    have F__law_pick := fc__law_pick (P := P) (w := w) (base := base) T F__law_draw (d__law_pick.ex KX GN)
    have F__law_mixed := fc__law_mixed (P := P) (w := w) (base := base) T F__law_draw (d__law_mixed.ex KX GN)
    have F__law_same := fc__law_same (P := P) (w := w) (base := base) T (d__law_same.ex KX GN) 12
    have F__law_turned_over := fc__law_turned_over (P := P) (w := w) (base := base) T (d__law_turned_over.ex KX GN)
    have F__law_bundle := fc__law_bundle (P := P) (w := w) (base := base) T F__law_turned_over (d__law_bundle.ex KX GN)
    have F__law_layout := fc__law_layout (P := P) (w := w) (base := base) T F__law_bundle (d__law_layout.ex KX GN)
    have F__law_all_folds := fc__law_all_folds (P := P) (w := w) (base := base) T (d__law_all_folds.ex KX GN)
    have F__law_no_folds := fc__law_no_folds (P := P) (w := w) (base := base) T F__law_pick (d__law_no_folds.ex KX GN)
    have F__law_is_folded_right := fc__law_is_folded_right (P := P) (w := w) (base := base) T F__law_same F__law_bundle F__law_layout F_spine F_bundle F_layout F_twins (d__law_is_folded_right.ex KX GN)
    have F__law_are_twins_right := fc__law_are_twins_right (P := P) (w := w) (base := base) T F_bundle F_layout (d__law_are_twins_right.ex KX GN)
    have HT__law_heard : HeardT K mg "_law_heard" (top 36) "BadFolds" := let ⟨g, fd, F, m⟩ := d__law_heard.ex KX GN; let ⟨fI, q⟩ := x_BadFolds.2.1 mg (PySem.W.mg_of KX GN x_BadFolds.1); ⟨g, fd, _, _, fI, F, m, q, x_BadFolds.2.2⟩
    have F__law_is_right := fc__law_is_right (P := P) (w := w) (base := base) T F__law_deck F__law_same F__law_no_folds F__law_all_folds F__law_mixed F__law_pick F__law_is_folded_right F__law_are_twins_right F_layout F_bundle F_spine F_twins cL PT (h3 (cL, PT) (List.mem_singleton.mpr rfl)) (List.mem_singleton.mpr rfl) (fun r hr _ => by rw [List.mem_singleton.mp hr]) (HT__law_heard) (d__law_is_right.at KX GN)
    have subOk_PageError : SubOk K mg (.ref C_PageError) sub_PageError := by
      intro y C b hy hb
      unfold sub_PageError at hb
      split at hb
      · rename_i e
        cases hb
        subst e
        have e2 := hy.symm.trans (PySem.W.mg_of KX GN x_BadFolds.1)
        cases e2
        exact s_PageError_BadFolds
      · cases hb
    have F_law := fc_law (P := P) (w := w) (base := base) T F__law_is_right (.ref C_PageError) (PySem.W.mg_of KX GN p_PageError) subOk_PageError (d_law.ex KX GN)
    exact F_law
end K27
/- closing:
  refine' K27.fin KX G.T.g G.X.2 G.T.b G.T.builtins G.T.nolimit hg (TB _ (List.mem_singleton.mpr rfl)) G.T.bmain hobj hints hlen hbits hmg LAW ?n_abs ?n_all ?n_bool ?n_dict ?n_enumerate ?n_int ?n_isinstance ?n_len ?n_list ?n_max ?n_range ?n_str ?n_sum ?n_tuple ?n_zip ?k_LEFT ?k_MOST_FOLDS ?k_POWERS ?k_UP ?x_BadFolds ?d_is_one_word ?d_is_folds_value ?d_need_folds ?d_sheet_size ?d_turned_over ?d_folded ?d_bundle_of ?d_layout_of ?d_bundle ?d_layout ?d_spine ?d_twins ?d__law_deck ?d__law_draw ?d__law_pick ?d__law_mixed ?d__law_same ?d__law_turned_over ?d__law_bundle ?d__law_layout ?d__law_all_folds ?d__law_no_folds ?d__law_heard ?d__law_is_folded_right ?d__law_are_twins_right ?d__law_is_right ?d_law ?hdL ?nPT ?p_PageError ?s_PageError_BadFolds
  (case n_abs => k_is)
  (case n_all => k_is)
  (case n_bool => k_is)
  (case n_dict => k_is)
  (case n_enumerate => k_is)
  (case n_int => k_is)
  (case n_isinstance => k_is)
  (case n_len => k_is)
  (case n_list => k_is)
  (case n_max => k_is)
  (case n_range => k_is)
  (case n_str => k_is)
  (case n_sum => k_is)
  (case n_tuple => k_is)
  (case n_zip => k_is)
  (case k_LEFT => k_is)
  (case k_MOST_FOLDS => k_is)
  (case k_POWERS => ((refine' PL.tup_mk ?a_71 ?l_71 ?z_71 ?r_71; (case a_71 => k_is); (case l_71 => k_is); (case z_71 => (rw [PySem.sizeLine_eq]; exact (by decide))); (case r_71 => (repeat (first | exact PL.ItsD.nil | refine PL.ItsD.int _ _ ?_ | refine PL.ItsD.str _ _ ?_))))))
  (case k_UP => k_is)
  (case x_BadFolds => ((refine' PL.err_mk ?aC_72 ?xL_72 ?ov_72 ?sa_72 ?ga_72 ?gg_72 ?nN_72 ?iC_72 ?tI_72 ?kC_72 ?eC_72 ?tC_72 ?hC_72 ?jC_72 ?sC_72 ?l_72 ?cd_72; (case aC_72 => k_is); (case xL_72 => k_is); (case ov_72 => rfl); (case sa_72 => k_is); (case ga_72 => k_is); (case gg_72 => k_is); (case nN_72 => k_is); (case iC_72 => k_is); (case tI_72 => k_is); (case kC_72 => k_is); (case eC_72 => k_is); (case tC_72 => k_is); (case hC_72 => k_is); (case jC_72 => k_is); (case sC_72 => (first | rfl | k_is)); (case l_72 => k_is); (case cd_72 => k_is))))
  (case d_is_one_word => ((refine' PL.def_mk ?a_44 ?l_44 ?c_44 ?k_44; (case a_44 => k_is); (case l_44 => k_is); (case c_44 => k_is); (case k_44 => k_is))))
  (case d_is_folds_value => ((refine' PL.def_mk ?a_45 ?l_45 ?c_45 ?k_45; (case a_45 => k_is); (case l_45 => k_is); (case c_45 => k_is); (case k_45 => k_is))))
  (case d_need_folds => ((refine' PL.def_mk ?a_46 ?l_46 ?c_46 ?k_46; (case a_46 => k_is); (case l_46 => k_is); (case c_46 => k_is); (case k_46 => k_is))))
  (case d_sheet_size => ((refine' PL.def_mk ?a_47 ?l_47 ?c_47 ?k_47; (case a_47 => k_is); (case l_47 => k_is); (case c_47 => k_is); (case k_47 => k_is))))
  (case d_turned_over => ((refine' PL.def_mk ?a_48 ?l_48 ?c_48 ?k_48; (case a_48 => k_is); (case l_48 => k_is); (case c_48 => k_is); (case k_48 => k_is))))
  (case d_folded => ((refine' PL.def_mk ?a_49 ?l_49 ?c_49 ?k_49; (case a_49 => k_is); (case l_49 => k_is); (case c_49 => k_is); (case k_49 => k_is))))
  (case d_bundle_of => ((refine' PL.def_mk ?a_50 ?l_50 ?c_50 ?k_50; (case a_50 => k_is); (case l_50 => k_is); (case c_50 => k_is); (case k_50 => k_is))))
  (case d_layout_of => ((refine' PL.def_mk ?a_51 ?l_51 ?c_51 ?k_51; (case a_51 => k_is); (case l_51 => k_is); (case c_51 => k_is); (case k_51 => k_is))))
  (case d_bundle => ((refine' PL.def_mk ?a_52 ?l_52 ?c_52 ?k_52; (case a_52 => k_is); (case l_52 => k_is); (case c_52 => k_is); (case k_52 => k_is))))
  (case d_layout => ((refine' PL.def_mk ?a_53 ?l_53 ?c_53 ?k_53; (case a_53 => k_is); (case l_53 => k_is); (case c_53 => k_is); (case k_53 => k_is))))
  (case d_spine => ((refine' PL.def_mk ?a_54 ?l_54 ?c_54 ?k_54; (case a_54 => k_is); (case l_54 => k_is); (case c_54 => k_is); (case k_54 => k_is))))
  (case d_twins => ((refine' PL.def_mk ?a_55 ?l_55 ?c_55 ?k_55; (case a_55 => k_is); (case l_55 => k_is); (case c_55 => k_is); (case k_55 => k_is))))
  (case d__law_deck => ((refine' PL.def_mk ?a_56 ?l_56 ?c_56 ?k_56; (case a_56 => k_is); (case l_56 => k_is); (case c_56 => k_is); (case k_56 => k_is))))
  (case d__law_draw => ((refine' PL.def_mk ?a_57 ?l_57 ?c_57 ?k_57; (case a_57 => k_is); (case l_57 => k_is); (case c_57 => k_is); (case k_57 => k_is))))
  (case d__law_pick => ((refine' PL.def_mk ?a_58 ?l_58 ?c_58 ?k_58; (case a_58 => k_is); (case l_58 => k_is); (case c_58 => k_is); (case k_58 => k_is))))
  (case d__law_mixed => ((refine' PL.def_mk ?a_59 ?l_59 ?c_59 ?k_59; (case a_59 => k_is); (case l_59 => k_is); (case c_59 => k_is); (case k_59 => k_is))))
  (case d__law_same => ((refine' PL.def_mk ?a_60 ?l_60 ?c_60 ?k_60; (case a_60 => k_is); (case l_60 => k_is); (case c_60 => k_is); (case k_60 => k_is))))
  (case d__law_turned_over => ((refine' PL.def_mk ?a_61 ?l_61 ?c_61 ?k_61; (case a_61 => k_is); (case l_61 => k_is); (case c_61 => k_is); (case k_61 => k_is))))
  (case d__law_bundle => ((refine' PL.def_mk ?a_62 ?l_62 ?c_62 ?k_62; (case a_62 => k_is); (case l_62 => k_is); (case c_62 => k_is); (case k_62 => k_is))))
  (case d__law_layout => ((refine' PL.def_mk ?a_63 ?l_63 ?c_63 ?k_63; (case a_63 => k_is); (case l_63 => k_is); (case c_63 => k_is); (case k_63 => k_is))))
  (case d__law_all_folds => ((refine' PL.def_mk ?a_64 ?l_64 ?c_64 ?k_64; (case a_64 => k_is); (case l_64 => k_is); (case c_64 => k_is); (case k_64 => k_is))))
  (case d__law_no_folds => ((refine' PL.def_mk ?a_65 ?l_65 ?c_65 ?k_65; (case a_65 => k_is); (case l_65 => k_is); (case c_65 => k_is); (case k_65 => k_is))))
  (case d__law_heard => ((refine' PL.def_mk ?a_66 ?l_66 ?c_66 ?k_66; (case a_66 => k_is); (case l_66 => k_is); (case c_66 => k_is); (case k_66 => k_is))))
  (case d__law_is_folded_right => ((refine' PL.def_mk ?a_67 ?l_67 ?c_67 ?k_67; (case a_67 => k_is); (case l_67 => k_is); (case c_67 => k_is); (case k_67 => k_is))))
  (case d__law_are_twins_right => ((refine' PL.def_mk ?a_68 ?l_68 ?c_68 ?k_68; (case a_68 => k_is); (case l_68 => k_is); (case c_68 => k_is); (case k_68 => k_is))))
  (case d__law_is_right => ((refine' PL.defC_mk ?a_70 ?l_70 ?c_70 ?k_70; (case a_70 => k_is); (case l_70 => k_is); (case c_70 => k_is); (case k_70 => k_is))))
  (case d_law => ((refine' PL.def_mk ?a_69 ?l_69 ?c_69 ?k_69; (case a_69 => k_is); (case l_69 => k_is); (case c_69 => k_is); (case k_69 => k_is))))
  (case hdL => ((refine' PL.code_mk ?l_73 ?q_73; (case l_73 => k_is); (case q_73 => rfl))))
  (case nPT => (first | rfl | decide +kernel))
  (case p_PageError => k_is)
  (case s_PageError_BadFolds => ((refine' PL.exm_mk ?e_75 ?j_75 ?t_75 ?s_75; (case e_75 => k_is); (case j_75 => k_is); (case t_75 => k_is); (case s_75 => (first | rfl | k_is)))))
-/
end
section
set_option Elab.async false
/-! PL27: the tactics that close the facts of the written part. -/
end
section
set_option Elab.async false
set_option maxRecDepth 100000
set_option linter.all false
set_option maxHeartbeats 1000000
/-! PL28: mirrors run by rewriting: one small equation for each word, so that what is stuck stays folded. -/
namespace PL
open PySem PySem.Spec PyProof.Rows L2
section
variable {α β γ : Type} {Γ Γ1 : Fr} {m r : M Fl}
theorem bind_ok (a : α) (k : α → Fr → Res β) : (Res.ok a Γ).bind k = k a Γ := rfl
theorem bind_err (x : Str) (d : D) (k : α → Fr → Res β) : (Res.err x d Γ : Res α).bind k = .err x d Γ := rfl
theorem bind_stuck (k : α → Fr → Res β) : (Res.stuck : Res α).bind k = .stuck := rfl
theorem Mbind_ap (m : M α) (k : α → M β) : m.bind k Γ = (m Γ).bind k := rfl
theorem Mpure_ap (a : α) : M.pure a Γ = .ok a Γ := rfl
theorem Mmap_ap (f : α → β) (m : M α) : M.map f m Γ = (m Γ).bind fun a Γ1 => .ok (f a) Γ1 := rfl
theorem Mpair_ap (a : M α) (b : M β) : M.pair a b Γ = (a Γ).bind fun x Γ1 => (b Γ1).bind fun y Γ2 => .ok (x, y) Γ2 := rfl
theorem Mfrz_ap (m : M O) : M.frz m Γ = (m Γ).bind fun o Γ1 => optR o.view Γ1 := rfl
theorem optR_s (a : α) : optR (some a) Γ = .ok a Γ := rfl
theorem optR_n : optR (none : Option α) Γ = .stuck := rfl
def seqK (r : M Fl) (fl : Fl) (Γ : Fr) : Res Fl := match fl with
  | .nx => r Γ
  | f => .ok f Γ
theorem mSeq_ap : mSeq m r Γ = (m Γ).bind (seqK r) := by
  unfold mSeq seqK
  cases m Γ with
  | ok fl Γ1 => cases fl <;> rfl
  | err x d Γ1 => rfl
  | stuck => rfl
theorem seqK_nx : seqK r .nx Γ = r Γ := rfl
theorem seqK_rt (o : O) : seqK r (.rt o) Γ = .ok (.rt o) Γ := rfl
theorem mSet_ap (i : Nat) (m : M O) : mSet i m Γ = (m Γ).bind fun o Γ1 => setFr i o Γ1 := rfl
theorem mIf_ap (t : M Bool) (a b : M α) : mIf t a b Γ = (t Γ).bind fun c Γ1 => (if c = true then a else b) Γ1 := rfl
theorem mB_ap (m : M O) : mB m Γ = (m Γ).bind fun o Γ1 => optR o.tr Γ1 := rfl
theorem tr_bl (k : Bool) : (O.d (.bl k)).tr = some k := rfl
theorem mBin_ap (f : D → D → Option O) (a b : M Opd) : mBin f a b Γ = (a Γ).bind fun x Γ1 => (b Γ1).bind fun y Γ2 => M.op2 f x y Γ2 := by
  unfold mBin M.bind M.pair
  cases a Γ with
  | ok x Γ1 =>
    show ((b Γ1).bind fun y Γ2 => Res.ok (x, y) Γ2).bind _ = (b Γ1).bind _
    cases b Γ1 <;> rfl
  | err x d Γ1 => rfl
  | stuck => rfl
theorem mUn_ap (f : D → Option O) (a : M Opd) : mUn f a Γ = (a Γ).bind fun x Γ1 => M.op1 f x Γ1 := rfl
theorem mCall_ap (f : List D → Option O) (a : M (List Opd)) : mCall f a Γ = (a Γ).bind fun x Γ1 => M.opn f x Γ1 := rfl
theorem op2_ap (f : D → D → Option O) (x y : Opd) : M.op2 f x y Γ = optR ((rsv x Γ).bind fun a => (rsv y Γ).bind fun b => f a b) Γ := rfl
theorem op1_ap (f : D → Option O) (x : Opd) : M.op1 f x Γ = optR ((rsv x Γ).bind f) Γ := rfl
theorem opn_ap (f : List D → Option O) (x : List Opd) : M.opn f x Γ = optR ((rsvs x Γ).bind f) Γ := rfl
theorem rsv_sol (o : O) : rsv (.sol o) Γ = o.view := rfl
def rsvK : Option (Option O) → Option D
  | some (some o) => o.view
  | _ => none
theorem rsv_bor (i : Nat) : rsv (.bor i) Γ = rsvK Γ[i]? := by
  unfold rsv rsvK
  dsimp only
  all_goals (rcases Γ[i]? with _ | _ | _ <;> rfl)
theorem rsvK_s (o : O) : rsvK (some (some o)) = o.view := rfl
theorem view_d (x : D) : (O.d x).view = some x := rfl
theorem view_ol (xs : List D) : (O.ol xs).view = some (.lst xs) := rfl
theorem rsvs_nil : rsvs [] Γ = some [] := rfl
theorem rsvs_cons (p : Opd) (ps : List Opd) : rsvs (p :: ps) Γ = (rsv p Γ).bind fun x => (rsvs ps Γ).bind fun xs => some (x :: xs) := rfl
def borK (i : Nat) (Γ : Fr) : Option (Option O) → Res Opd
  | some (some _) => .ok (.bor i) Γ
  | _ => .stuck
theorem mBor_ap (i : Nat) : mBor i Γ = borK i Γ Γ[i]? := by
  unfold mBor borK
  rcases Γ[i]? with _ | _ | _ <;> rfl
theorem borK_s (i : Nat) (o : O) : borK i Γ (some (some o)) = .ok (.bor i) Γ := rfl
def nameK (i : Nat) (Γ : Fr) : Option (Option O) → Res D
  | some (some (.d x)) => .ok x (Γ.set i (some (.d x)))
  | some (some (.ol xs)) => .ok (.lst xs) (Γ.set i (some (.d (.lst xs))))
  | some (some (.od ks us)) => .ok (.dic ks us) (Γ.set i (some (.d (.dic ks us))))
  | _ => .stuck
theorem mName_ap (i : Nat) : mName i Γ = nameK i Γ Γ[i]? := by
  unfold mName nameK
  rcases Γ[i]? with _ | _ | o
  · rfl
  · rfl
  · cases o <;> rfl
theorem nameK_d (i : Nat) (x : D) : nameK i Γ (some (some (.d x))) = .ok x (Γ.set i (some (.d x))) := rfl
theorem nameK_ol (i : Nat) (xs : List D) : nameK i Γ (some (some (.ol xs))) = .ok (.lst xs) (Γ.set i (some (.d (.lst xs)))) := rfl
theorem setFr_ap {i : Nat} {o : O} (h : i < Γ.length) : setFr i o Γ = .ok .nx (Γ.set i (some o)) := if_pos h
theorem mTup_ap (m : M (List D)) : mTup m Γ = (m Γ).bind fun xs Γ1 => if xs.length ≤ 16777216 then .ok (.tup xs) Γ1 else .stuck := rfl
theorem mLst_ap (m : M (List D)) : mLst m Γ = (m Γ).bind fun xs Γ1 => if xs.length ≤ 16777216 then .ok (.ol xs) Γ1 else .stuck := rfl
theorem mTruth_ap (m : M Opd) : mTruth m Γ = (m Γ).bind fun p Γ1 => optR ((rsv p Γ1).bind truthD) Γ1 := rfl
theorem mSel_ap (w : Bool) (a b : M O) : mSel w a b Γ = (a Γ).bind fun o Γ1 => match o.view.bind truthD with
  | some k => if k = w then b Γ1 else .ok o Γ1
  | none => .stuck := rfl
theorem mCallP_ap (n : Nat) (f : FSem) (m : M (List D)) : mCallP n f m Γ = (m Γ).bind fun ds Γ1 => if ds.length = n then (match f none ds with
  | .ok o none => .ok o Γ1
  | .err x d none => .err x d Γ1
  | _ => .stuck) else .stuck := rfl
theorem mCallD_ap (n : Nat) (f : FSem) (i : Nat) (m : M (List D)) : mCallD n f i m Γ = (mBor i Γ).bind fun x Γ1 => (m Γ1).bind fun y Γ2 => kCallD n f (x, y) Γ2 := by
  unfold mCallD M.bind M.pair
  cases mBor i Γ with
  | ok x Γ1 =>
    show ((m Γ1).bind fun y Γ2 => Res.ok (x, y) Γ2).bind _ = (m Γ1).bind _
    cases m Γ1 <;> rfl
  | err x d Γ1 => rfl
  | stuck => rfl
def callDK (f : FSem) (i : Nat) (Γ : Fr) (ds : List D) : Option (Option O) → Res O
  | some (some (.dk s)) => (match f (some s) ds with
    | .ok o (some s') => .ok o (Γ.set i (some (.dk s')))
    | .err x d (some s') => .err x d (Γ.set i (some (.dk s')))
    | _ => .stuck)
  | _ => .stuck
theorem kCallD_ap (n : Nat) (f : FSem) (i : Nat) (ds : List D) : kCallD n f (.bor i, ds) Γ = if ds.length + 1 = n then callDK f i Γ ds Γ[i]? else .stuck := by
  unfold kCallD callDK
  dsimp only
  all_goals (split <;> first | rfl | (rcases Γ[i]? with _ | _ | o <;> first | rfl | (cases o <;> rfl)))
theorem callDK_s (f : FSem) (i : Nat) (ds : List D) (s : Deck) : callDK f i Γ ds (some (some (.dk s))) = match f (some s) ds with
  | .ok o (some s') => .ok o (Γ.set i (some (.dk s')))
  | .err x d (some s') => .err x d (Γ.set i (some (.dk s')))
  | _ => .stuck := rfl
def dkGetK (f : Deck → Int) (Γ : Fr) : Option (Option O) → Res D
  | some (some (.dk s)) => .ok (.int (f s)) Γ
  | _ => .stuck
theorem mDkGet_ap (f : Deck → Int) (i : Nat) : mDkGet f i Γ = dkGetK f Γ Γ[i]? := by
  unfold mDkGet dkGetK
  rcases Γ[i]? with _ | _ | o
  · rfl
  · rfl
  · cases o <;> rfl
theorem dkGetK_s (f : Deck → Int) (s : Deck) : dkGetK f Γ (some (some (.dk s))) = .ok (.int (f s)) Γ := rfl
/-- how a call ends -/
def fnEnd (k : Option Deck) : Res Fl → FR
  | .ok .nx Γ => (match finK k Γ with | some k' => .ok (.d .non) k' | none => .stuck)
  | .ok (.rt o) Γ => (match finK k Γ with | some k' => .ok o k' | none => .stuck)
  | .ok _ _ => .stuck
  | .err x d Γ => (match finK k Γ with | some k' => .err x d k' | none => .stuck)
  | .stuck => .stuck
theorem fnSem_ap (n : Nat) (m : M Fl) (k : Option Deck) (ds : List D) : fnSem n m k ds = fnEnd k (m ((argO k ds).map some ++ List.replicate (n - (argO k ds).length) none)) := rfl
theorem fnEnd_rt (o : O) : fnEnd none (.ok (.rt o) Γ) = .ok o none := rfl
theorem fnEnd_nx : fnEnd none (.ok .nx Γ) = .ok (.d .non) none := rfl
theorem fnEnd_err (x : Str) (d : D) : fnEnd none (.err x d Γ) = .err x d none := rfl
theorem fnEnd_rtK (o : O) (s s' : Deck) (h : s'.at_ = s.at_) : fnEnd (some s) (.ok (.rt o) (some (.dk s') :: Γ)) = .ok o (some s') := by
  show (match (if s'.at_ = s.at_ then some (some s') else none) with | some k' => FR.ok o k' | none => FR.stuck) = _
  rw [if_pos h]
theorem argO_none (ds : List D) : argO none ds = ds.map O.d := rfl
theorem argO_some (s : Deck) (ds : List D) : argO (some s) ds = .dk s :: ds.map O.d := rfl
theorem opAdd_i (i j : Int) : opAdd (.int i) (.int j) = some (.d (.int (i + j))) := rfl
theorem opSub_i (i j : Int) : opSub (.int i) (.int j) = some (.d (.int (i - j))) := rfl
theorem opMul_l (i j : Int) (h : -(2 ^ 64) < i ∧ i < 2 ^ 64) : opMul (.int i) (.int j) = some (.d (.int (i * j))) := if_pos (.inl h)
theorem opMul_r (i j : Int) (h : -(2 ^ 64) < j ∧ j < 2 ^ 64) : opMul (.int i) (.int j) = some (.d (.int (i * j))) := if_pos (.inr h)
theorem opMod_i (i j : Int) (h : 0 < j) : opMod (.int i) (.int j) = some (.d (.int (i % j))) := if_pos h
theorem opFdiv_i (i j : Int) (h : 0 < j) (h2 : j < 1073741824) : opFdiv (.int i) (.int j) = some (.d (.int (i / j))) := if_pos ⟨h, h2⟩
theorem opGe_i (i j : Int) : opGe (.int i) (.int j) = some (.d (.bl (decide (j ≤ i)))) := rfl
theorem opLt_i (i j : Int) : opLt (.int i) (.int j) = some (.d (.bl (decide (i < j)))) := rfl
theorem fInt_i (i : Int) : fInt [.int i] = some (.d (.int i)) := rfl
theorem fMax_i (i j : Int) : fMax [.int i, .int j] = some (.d (.int (if j > i then j else i))) := rfl
theorem fLen_l (xs : List D) : fLen [.lst xs] = some (.d (.int xs.length)) := rfl
theorem fLen_t (xs : List D) : fLen [.tup xs] = some (.d (.int xs.length)) := rfl
theorem mDkPut_ap (i : Nat) (m : M D) : mDkPut i m Γ = (m Γ).bind fun x Γ1 => kDkPut i x Γ1 := rfl
def dkPutK (i : Nat) (c : Int) (Γ : Fr) : Option (Option O) → Res Fl
  | some (some (.dk s)) => .ok .nx (Γ.set i (some (.dk { s with draws := c })))
  | _ => .stuck
theorem kDkPut_ap (i : Nat) (c : Int) : kDkPut i (.int c) Γ = dkPutK i c Γ Γ[i]? := by
  unfold kDkPut dkPutK
  rcases Γ[i]? with _ | _ | o
  · rfl
  · rfl
  · cases o <;> rfl
theorem dkPutK_s (i : Nat) (c : Int) (s : Deck) : dkPutK i c Γ (some (some (.dk s))) = .ok .nx (Γ.set i (some (.dk { s with draws := c }))) := rfl
def dkNeK (Γ : Fr) : Option (Option O) → Res Bool
  | some (some (.dk s)) => .ok (!s.left.isEmpty) Γ
  | _ => .stuck
theorem map_len {α β : Type} (f : α → β) (xs : List α) : (xs.map f).length = xs.length := List.length_map f
end
end PL
end
section
set_option Elab.async false
set_option linter.all false
set_option maxRecDepth 100000
set_option maxHeartbeats 4000000
namespace K27
open PySem PySem.Spec PyProof.Rows L2 PL
/-! ### comparing lists of ints with [] -/
theorem pys_ints : ∀ ns : List Int, pys (ns.map D.int) = some (ns.map PyData.int)
  | [] => rfl
  | n :: ns => by
    have ih := pys_ints ns
    show ((D.py (.int n)).bind fun a => (pys (ns.map D.int)).map fun as => a :: as) = _
    rw [ih]
    rfl
theorem can_ints : ∀ ns : List Int, PyData.canLayAll0 (ns.map PyData.int) = true
  | [] => by simp [PyData.canLayAll0]
  | n :: ns => by simp [PyData.canLayAll0, PyData.canLay0, can_ints ns]
theorem depth_ints : ∀ ns : List Int, PyData.depthAll (ns.map PyData.int) ≤ 1
  | [] => by simp [PyData.depthAll]
  | n :: ns => by
    have ih := depth_ints ns
    simp [PyData.depthAll, PyData.depth]
    omega
theorem ne_ints (ns : List Int) : (opNe (.lst (ns.map D.int)) (.lst [])).bind O.tr = some (!ns.isEmpty) := by
  have h1 : SeqAt.shaped (.list (ns.map PyData.int)) = true := by
    unfold SeqAt.shaped
    have := depth_ints ns
    rw [Bool.and_eq_true, decide_eq_true_eq]
    exact ⟨by simp [PyData.canLay0, can_ints], by simp [PyData.depth]; omega⟩
  have h2 : SeqAt.shaped (.list []) = true := by decide +kernel
  unfold opNe eqD
  rw [D.py, pys_ints]
  show ((if SeqAt.shaped (.list (ns.map PyData.int)) = true ∧ SeqAt.shaped (.list []) = true then some (PyData.eqv (.list (ns.map PyData.int)) (.list [])) else none).map fun b => O.d (.bl (!b))).bind O.tr = _
  rw [if_pos ⟨h1, h2⟩]
  cases ns <;> simp [PyData.eqv, PyData.eqvAll, O.tr]
theorem ne_ap {Γ : Fr} (i : Nat) : mDkNe i Γ = dkNeK Γ Γ[i]? := by
  unfold mDkNe dkNeK
  rcases Γ[i]? with _ | _ | o
  · rfl
  · rfl
  · cases o with
    | dk s => dsimp only; rw [ne_ints]; rfl
    | _ => rfl
theorem neK_s {Γ : Fr} (s : Deck) : dkNeK Γ (some (some (.dk s))) = .ok (!s.left.isEmpty) Γ := rfl
theorem pow18 : opPow (.int 10) (.int 18) = some (.d (.int 1000000000000000000)) := by
  show (if (0 : Int) ≤ 18 ∧ (18 : Int) ≤ 1000000 ∧ (10 : Int).natAbs < 2 ^ 64 then some (O.d (.int ((10 : Int) ^ (18 : Int).toNat))) else none) = _
  rw [if_pos (by decide)]
  rfl
section
variable {Γ : Fr}
def popK (i : Nat) (Γ : Fr) : Option (Option O) → Res D
  | some (some (.dk s)) => (match s.left[s.left.length - 1]? with
    | some c => .ok (.int c) (Γ.set i (some (.dk { s with left := s.left.dropLast })))
    | none => .stuck)
  | _ => .stuck
theorem pop_ap (i : Nat) : mDkPop i Γ = popK i Γ Γ[i]? := by
  unfold mDkPop popK
  rcases Γ[i]? with _ | _ | o
  · rfl
  · rfl
  · cases o <;> rfl
theorem popK_s (i : Nat) (a l : Addr) (xs : List Int) (c m d : Int) : popK i Γ (some (some (.dk ⟨a, l, xs ++ [c], m, d⟩))) = .ok (.int c) (Γ.set i (some (.dk ⟨a, l, xs, m, d⟩))) := by
  unfold popK
  have e : (xs ++ [c])[(xs ++ [c]).length - 1]? = some c := by simp
  simp only [e]
  simp
def appK (i : Nat) (m : M D) (Γ : Fr) : Option (Option O) → Res O
  | some (some (.dk s)) => (m Γ).bind fun x Γ1 => kDkApp s.lf i x Γ1
  | _ => .stuck
theorem app_ap (i : Nat) (m : M D) : mDkApp i m Γ = appK i m Γ Γ[i]? := by
  unfold mDkApp appK
  rcases Γ[i]? with _ | _ | o
  · rfl
  · rfl
  · cases o <;> rfl
theorem appK_s (i : Nat) (m : M D) (s : Deck) : appK i m Γ (some (some (.dk s))) = (m Γ).bind fun x Γ1 => kDkApp s.lf i x Γ1 := rfl
def appL (l : Addr) (i : Nat) (c : Int) (Γ : Fr) : Option (Option O) → Res O
  | some (some (.dk s)) => if s.lf = l ∧ s.left.length < SZ then .ok (.d .non) (Γ.set i (some (.dk { s with left := s.left ++ [c] }))) else .stuck
  | _ => .stuck
theorem kapp_ap (l : Addr) (i : Nat) (c : Int) : kDkApp l i (.int c) Γ = appL l i c Γ Γ[i]? := by
  unfold kDkApp appL
  rcases Γ[i]? with _ | _ | o
  · rfl
  · rfl
  · cases o <;> rfl
theorem appL_s (l a : Addr) (i : Nat) (c : Int) (xs : List Int) (m d : Int) (h : xs.length < SZ) : appL l i c Γ (some (some (.dk ⟨a, l, xs, m, d⟩))) = .ok (.d .non) (Γ.set i (some (.dk ⟨a, l, xs ++ [c], m, d⟩))) := if_pos ⟨rfl, h⟩
end
theorem mod_lt (x m : Int) (h : 0 < m) : 0 ≤ x % m ∧ x % m < m := ⟨Int.emod_nonneg _ (by omega), Int.emod_lt_of_pos _ h⟩
theorem sq_mul (x : Int) : opMul (.int (x % 2147483563)) (.int (x % 2147483563)) = some (.d (.int (x % 2147483563 * (x % 2147483563)))) := opMul_l _ _ (by
  obtain ⟨h1, h2⟩ := mod_lt x 2147483563 (by decide)
  constructor
  · have : -(2 ^ 64 : Int) < 0 := by decide
    omega
  · have : (2147483563 : Int) < 2 ^ 64 := by decide
    omega)
theorem draw_nil (a l : Addr) (mixed draws many : Int) (h : 0 < many) : ∃ r, f__law_draw (some ⟨a, l, [], mixed, draws⟩) [.int many] = .ok (.d (.int (r % many))) (some ⟨a, l, [], mixed, draws + 1⟩) := by
  unfold f__law_draw m__law_draw
  (simp (config := { maxSteps := 1000000, decide := true }) only [PL.bind_ok, PL.bind_err, PL.bind_stuck, PL.Mbind_ap, PL.Mpure_ap, PL.Mmap_ap, PL.Mpair_ap, PL.Mfrz_ap, PL.optR_s, PL.optR_n, PL.mSeq_ap, PL.seqK_nx, PL.seqK_rt, PL.mSet_ap, PL.mIf_ap, PL.mB_ap, PL.tr_bl, PL.mBin_ap, PL.mUn_ap, PL.mCall_ap, PL.op2_ap, PL.op1_ap, PL.opn_ap,
  PL.rsv_sol, PL.rsv_bor, PL.rsvK_s, PL.borK_s, PL.nameK_d, PL.nameK_ol, PL.callDK_s, PL.dkGetK_s, PL.dkPutK_s, PL.view_d, PL.view_ol, PL.rsvs_nil, PL.rsvs_cons, PL.mBor_ap, PL.mName_ap, PL.setFr_ap, PL.mTup_ap, PL.mLst_ap, PL.mTruth_ap, PL.mSel_ap, PL.mCallP_ap, PL.mCallD_ap, PL.kCallD_ap, PL.mDkGet_ap, PL.fnSem_ap, PL.fnEnd_rt, PL.fnEnd_nx, PL.fnEnd_err, PL.argO_none, PL.argO_some, PL.opAdd_i, PL.opSub_i, PL.opMod_i, PL.opFdiv_i, PL.opGe_i, PL.opLt_i, PL.fInt_i, PL.fMax_i, PL.fLen_l, PL.fLen_t, PL.mDkPut_ap, PL.kDkPut_ap, List.map_cons, List.map_nil, List.cons_append, List.nil_append, List.replicate_succ, List.replicate_zero, Nat.reduceSub, Nat.reduceAdd, Nat.reduceLT, Nat.reduceLeDiff, List.set_cons_zero, List.set_cons_succ, List.getElem?_cons_zero, List.getElem?_cons_succ, List.length_cons, List.length_nil, Option.bind_some, Option.map_some, Option.bind_none, if_true, if_false, opMul_l, opMul_r, ne_ap, neK_s, List.isEmpty_nil, Bool.not_true, sq_mul, h, fnEnd_rtK])
  exact ⟨_, rfl⟩
theorem draw_hi (a l : Addr) (xs : List Int) (c mixed draws many : Int) (h : 0 < many) (hb : many < 1073741824) (hl : xs.length < SZ) (hc : 1000000000000000000 ≤ c) : ∃ r c', f__law_draw (some ⟨a, l, xs ++ [c], mixed, draws⟩) [.int many] = .ok (.d (.int (r % many))) (some ⟨a, l, xs ++ [c'], mixed, draws + 1⟩) := by
  have e1 : (!(xs ++ [c]).isEmpty) = true := by cases xs <;> rfl
  have e2 : decide (1000000000000000000 ≤ c) = true := decide_eq_true hc
  have e3 : (0 : Int) < (if many > 2 then many else 2) ∧ (if many > 2 then many else 2) < 1073741824 := by split <;> omega
  unfold f__law_draw m__law_draw
  (simp (config := { maxSteps := 1000000, decide := true }) only [PL.bind_ok, PL.bind_err, PL.bind_stuck, PL.Mbind_ap, PL.Mpure_ap, PL.Mmap_ap, PL.Mpair_ap, PL.Mfrz_ap, PL.optR_s, PL.optR_n, PL.mSeq_ap, PL.seqK_nx, PL.seqK_rt, PL.mSet_ap, PL.mIf_ap, PL.mB_ap, PL.tr_bl, PL.mBin_ap, PL.mUn_ap, PL.mCall_ap, PL.op2_ap, PL.op1_ap, PL.opn_ap,
  PL.rsv_sol, PL.rsv_bor, PL.rsvK_s, PL.borK_s, PL.nameK_d, PL.nameK_ol, PL.callDK_s, PL.dkGetK_s, PL.dkPutK_s, PL.view_d, PL.view_ol, PL.rsvs_nil, PL.rsvs_cons, PL.mBor_ap, PL.mName_ap, PL.setFr_ap, PL.mTup_ap, PL.mLst_ap, PL.mTruth_ap, PL.mSel_ap, PL.mCallP_ap, PL.mCallD_ap, PL.kCallD_ap, PL.mDkGet_ap, PL.fnSem_ap, PL.fnEnd_rt, PL.fnEnd_nx, PL.fnEnd_err, PL.argO_none, PL.argO_some, PL.opAdd_i, PL.opSub_i, PL.opMod_i, PL.opFdiv_i, PL.opGe_i, PL.opLt_i, PL.fInt_i, PL.fMax_i, PL.fLen_l, PL.fLen_t, PL.mDkPut_ap, PL.kDkPut_ap, List.map_cons, List.map_nil, List.cons_append, List.nil_append, List.replicate_succ, List.replicate_zero, Nat.reduceSub, Nat.reduceAdd, Nat.reduceLT, Nat.reduceLeDiff, List.set_cons_zero, List.set_cons_succ, List.getElem?_cons_zero, List.getElem?_cons_succ, List.length_cons, List.length_nil, Option.bind_some, Option.map_some, Option.bind_none, if_true, if_false, opMul_l, opMul_r, ne_ap, neK_s, e1, sq_mul, h, fnEnd_rtK, pow18, pop_ap, popK_s, app_ap, appK_s, kapp_ap, appL_s, e2, e3.1, e3.2, hl])
  exact ⟨_, _, rfl⟩
theorem draw_lo (a l : Addr) (xs : List Int) (c mixed draws many : Int) (h : 0 < many) (hc : ¬ 1000000000000000000 ≤ c) : ∃ r, f__law_draw (some ⟨a, l, xs ++ [c], mixed, draws⟩) [.int many] = .ok (.d (.int (r % many))) (some ⟨a, l, xs, mixed, draws + 1⟩) := by
  have e1 : (!(xs ++ [c]).isEmpty) = true := by cases xs <;> rfl
  have e2 : decide (1000000000000000000 ≤ c) = false := decide_eq_false hc
  unfold f__law_draw m__law_draw
  (simp (config := { maxSteps := 1000000, decide := true }) only [PL.bind_ok, PL.bind_err, PL.bind_stuck, PL.Mbind_ap, PL.Mpure_ap, PL.Mmap_ap, PL.Mpair_ap, PL.Mfrz_ap, PL.optR_s, PL.optR_n, PL.mSeq_ap, PL.seqK_nx, PL.seqK_rt, PL.mSet_ap, PL.mIf_ap, PL.mB_ap, PL.tr_bl, PL.mBin_ap, PL.mUn_ap, PL.mCall_ap, PL.op2_ap, PL.op1_ap, PL.opn_ap,
  PL.rsv_sol, PL.rsv_bor, PL.rsvK_s, PL.borK_s, PL.nameK_d, PL.nameK_ol, PL.callDK_s, PL.dkGetK_s, PL.dkPutK_s, PL.view_d, PL.view_ol, PL.rsvs_nil, PL.rsvs_cons, PL.mBor_ap, PL.mName_ap, PL.setFr_ap, PL.mTup_ap, PL.mLst_ap, PL.mTruth_ap, PL.mSel_ap, PL.mCallP_ap, PL.mCallD_ap, PL.kCallD_ap, PL.mDkGet_ap, PL.fnSem_ap, PL.fnEnd_rt, PL.fnEnd_nx, PL.fnEnd_err, PL.argO_none, PL.argO_some, PL.opAdd_i, PL.opSub_i, PL.opMod_i, PL.opFdiv_i, PL.opGe_i, PL.opLt_i, PL.fInt_i, PL.fMax_i, PL.fLen_l, PL.fLen_t, PL.mDkPut_ap, PL.kDkPut_ap, List.map_cons, List.map_nil, List.cons_append, List.nil_append, List.replicate_succ, List.replicate_zero, Nat.reduceSub, Nat.reduceAdd, Nat.reduceLT, Nat.reduceLeDiff, List.set_cons_zero, List.set_cons_succ, List.getElem?_cons_zero, List.getElem?_cons_succ, List.length_cons, List.length_nil, Option.bind_some, Option.map_some, Option.bind_none, if_true, if_false, opMul_l, opMul_r, ne_ap, neK_s, e1, sq_mul, h, fnEnd_rtK, pow18, pop_ap, popK_s, e2, Bool.false_eq_true])
  exact ⟨_, rfl⟩
/-- a draw: a number below many, the deck at the same place -/
theorem draw_ok (s : Deck) (many : Int) (h : 0 < many) (hb : many < 1073741824) (hl : s.left.length < SZ) : ∃ r s', f__law_draw (some s) [.int many] = .ok (.d (.int r)) (some s') ∧ 0 ≤ r ∧ r < many ∧ s'.at_ = s.at_ ∧ s'.left.length ≤ s.left.length := by
  obtain ⟨a, l, left, mixed, draws⟩ := s
  rcases List.eq_nil_or_concat left with rfl | ⟨xs, c, rfl⟩
  · obtain ⟨r, e⟩ := draw_nil a l mixed draws many h
    exact ⟨_, _, e, (mod_lt r many h).1, (mod_lt r many h).2, rfl, Nat.le_refl _⟩
  · rw [List.concat_eq_append] at hl ⊢
    have hx : xs.length < SZ := by simp at hl; omega
    by_cases hc : 1000000000000000000 ≤ c
    · obtain ⟨r, c', e⟩ := draw_hi a l xs c mixed draws many h hb hx hc
      exact ⟨_, _, e, (mod_lt r many h).1, (mod_lt r many h).2, rfl, by simp⟩
    · obtain ⟨r, e⟩ := draw_lo a l xs c mixed draws many h hc
      exact ⟨_, _, e, (mod_lt r many h).1, (mod_lt r many h).2, rfl, by simp⟩
theorem atI_in (xs : List D) (r : Int) (h0 : 0 ≤ r) (h1 : r < xs.length) : ∃ x, atI xs r = some x ∧ x ∈ xs := by
  have hn : r.toNat < xs.length := by omega
  refine ⟨xs[r.toNat], ?_, List.getElem_mem hn⟩
  unfold atI ixN
  rw [if_pos h0, if_pos h1, Option.bind_some]
  exact List.getElem?_eq_getElem hn
theorem pick_ok (s : Deck) (xs : List D) (hx : xs ≠ []) (hz : xs.length < 1073741824) (hl : s.left.length < SZ) : ∃ x s', f__law_pick (some s) [.lst xs] = .ok (.d x) (some s') ∧ x ∈ xs ∧ s'.at_ = s.at_ ∧ s'.left.length ≤ s.left.length := by
  have hp : 0 < (xs.length : Int) := by have := List.length_pos_iff.mpr hx; omega
  obtain ⟨r, s', e, h0, h1, ha, hs⟩ := draw_ok s xs.length hp (by omega) hl
  obtain ⟨x, ex, hm⟩ := atI_in xs r h0 h1
  have ei : opIx (.lst xs) (.int r) = some (.d x) := by
    show (atI xs r).map O.d = _
    rw [ex]
    rfl
  refine ⟨x, s', ?_, hm, ha, hs⟩
  unfold f__law_pick m__law_pick
  (simp (config := { maxSteps := 1000000, decide := true }) only [PL.bind_ok, PL.bind_err, PL.bind_stuck, PL.Mbind_ap, PL.Mpure_ap, PL.Mmap_ap, PL.Mpair_ap, PL.Mfrz_ap, PL.optR_s, PL.optR_n, PL.mSeq_ap, PL.seqK_nx, PL.seqK_rt, PL.mSet_ap, PL.mIf_ap, PL.mB_ap, PL.tr_bl, PL.mBin_ap, PL.mUn_ap, PL.mCall_ap, PL.op2_ap, PL.op1_ap, PL.opn_ap,
  PL.rsv_sol, PL.rsv_bor, PL.rsvK_s, PL.borK_s, PL.nameK_d, PL.nameK_ol, PL.callDK_s, PL.dkGetK_s, PL.dkPutK_s, PL.view_d, PL.view_ol, PL.rsvs_nil, PL.rsvs_cons, PL.mBor_ap, PL.mName_ap, PL.setFr_ap, PL.mTup_ap, PL.mLst_ap, PL.mTruth_ap, PL.mSel_ap, PL.mCallP_ap, PL.mCallD_ap, PL.kCallD_ap, PL.mDkGet_ap, PL.fnSem_ap, PL.fnEnd_rt, PL.fnEnd_nx, PL.fnEnd_err, PL.argO_none, PL.argO_some, PL.opAdd_i, PL.opSub_i, PL.opMod_i, PL.opFdiv_i, PL.opGe_i, PL.opLt_i, PL.fInt_i, PL.fMax_i, PL.fLen_l, PL.fLen_t, PL.mDkPut_ap, PL.kDkPut_ap, List.map_cons, List.map_nil, List.cons_append, List.nil_append, List.replicate_succ, List.replicate_zero, Nat.reduceSub, Nat.reduceAdd, Nat.reduceLT, Nat.reduceLeDiff, List.set_cons_zero, List.set_cons_succ, List.getElem?_cons_zero, List.getElem?_cons_succ, List.length_cons, List.length_nil, Option.bind_some, Option.map_some, Option.bind_none, if_true, if_false, kCallD_ap, callDK_s, e, ei, fnEnd_rtK, ha])
/-! ### comparing lists with [] -/
def plainB (d : D) : Bool := match d.py with
  | some p => p.canLay0 && decide (p.depth ≤ 60)
  | none => false
theorem py_all : ∀ ys : List D, (∀ y ∈ ys, plainB y = true) → ∃ ps, pys ys = some ps ∧ PyData.canLayAll0 ps = true ∧ PyData.depthAll ps ≤ 60 ∧ ps.length = ys.length
  | [], _ => ⟨[], rfl, by simp [PyData.canLayAll0], by simp [PyData.depthAll], rfl⟩
  | y :: ys, h => by
    obtain ⟨ps, e1, e2, e3, e4⟩ := py_all ys fun z hz => h z (List.mem_cons_of_mem _ hz)
    have hy := h y List.mem_cons_self
    unfold plainB at hy
    cases ep : D.py y with
    | none => rw [ep] at hy; cases hy
    | some p =>
      rw [ep, Bool.and_eq_true, decide_eq_true_eq] at hy
      refine ⟨p :: ps, ?_, by simp [PyData.canLayAll0, hy.1, e2], by simp only [PyData.depthAll]; omega, by rw [List.length_cons, List.length_cons, e4]⟩
      show ((D.py y).bind fun a => (pys ys).map fun as => a :: as) = _
      rw [ep, e1]
      rfl
theorem ne_list (ys : List D) (h : ∀ y ∈ ys, plainB y = true) : opNe (.lst ys) (.lst []) = some (.d (.bl (!ys.isEmpty))) := by
  obtain ⟨ps, e1, e2, e3, e4⟩ := py_all ys h
  have h1 : SeqAt.shaped (.list ps) = true := by
    unfold SeqAt.shaped
    rw [Bool.and_eq_true, decide_eq_true_eq]
    exact ⟨by simp [PyData.canLay0, e2], by simp [PyData.depth]; omega⟩
  have h2 : SeqAt.shaped (.list []) = true := by decide +kernel
  unfold opNe eqD
  rw [D.py, e1]
  show (if SeqAt.shaped (.list ps) = true ∧ SeqAt.shaped (.list []) = true then some (PyData.eqv (.list ps) (.list [])) else none).map (fun b => O.d (.bl (!b))) = _
  rw [if_pos ⟨h1, h2⟩]
  cases ys with
  | nil => cases ps with
    | nil => simp [PyData.eqv, PyData.eqvAll]
    | cons p ps => simp at e4
  | cons y ys => cases ps with
    | nil => simp at e4
    | cons p ps => simp [PyData.eqv, PyData.eqvAll]
theorem popAt_ok (ys : List D) (r : Int) (h0 : 0 ≤ r) (h1 : r < ys.length) (hz : ys.length ≤ 1000) : ∃ y zs, fPopAt ys [.int r] = some (zs, y) ∧ y ∈ ys ∧ (∀ z ∈ zs, z ∈ ys) ∧ zs.length + 1 = ys.length := by
  have hn : r.toNat < ys.length := by omega
  refine ⟨ys[r.toNat], ys.eraseIdx r.toNat, ?_, List.getElem_mem hn, fun z hz => List.mem_of_mem_eraseIdx hz, by rw [List.length_eraseIdx_of_lt hn]; omega⟩
  show (if -(2 ^ 63) ≤ r ∧ r < 2 ^ 63 then (seqIndex? r ys.length).bind fun k => (ys[k]?).bind fun y => some (ys.eraseIdx k, y) else none) = _
  rw [if_pos (by omega)]
  have e : seqIndex? r ys.length = some r.toNat := by
    have hn0 : ¬ r < 0 := by omega
    unfold seqIndex?
    simp only [hn0, if_false, h0, h1, decide_true, Bool.and_self, if_true]
  rw [e, Option.bind_some, List.getElem?_eq_getElem hn]
  rfl
/-! ### mixed -/
theorem meth_ap {Γ : Fr} (f : List D → List D → Option (List D × D)) (i : Nat) (m : M (List D)) : mMeth f i m Γ = (mOwn i Γ).bind fun x Γ1 => (m Γ1).bind fun y Γ2 => kMeth f (x, y) Γ2 := by
  unfold mMeth M.bind M.pair
  cases mOwn i Γ with
  | ok x Γ1 =>
    show ((m Γ1).bind fun y Γ2 => Res.ok (x, y) Γ2).bind _ = (m Γ1).bind _
    cases m Γ1 <;> rfl
  | err x d Γ1 => rfl
  | stuck => rfl
def ownK (i : Nat) (Γ : Fr) : Option (Option O) → Res Opd
  | some (some (.ol _)) => .ok (.bor i) Γ
  | _ => .stuck
theorem own_ap {Γ : Fr} (i : Nat) : mOwn i Γ = ownK i Γ Γ[i]? := by
  unfold mOwn ownK
  rcases Γ[i]? with _ | _ | o
  · rfl
  · rfl
  · cases o <;> rfl
theorem ownK_s {Γ : Fr} (i : Nat) (xs : List D) : ownK i Γ (some (some (.ol xs))) = .ok (.bor i) Γ := rfl
def methK (f : List D → List D → Option (List D × D)) (i : Nat) (ds : List D) (Γ : Fr) : Option (Option O) → Res O
  | some (some (.ol xs)) => (match f xs ds with
    | some (ys, y) => .ok (.d y) (Γ.set i (some (.ol ys)))
    | none => .stuck)
  | _ => .stuck
theorem kMeth_ap {Γ : Fr} (f : List D → List D → Option (List D × D)) (i : Nat) (ds : List D) : kMeth f (.bor i, ds) Γ = methK f i ds Γ Γ[i]? := by
  unfold kMeth methK
  dsimp only
  all_goals (rcases Γ[i]? with _ | _ | o <;> first | rfl | (cases o <;> rfl))
theorem methK_s {Γ : Fr} (f : List D → List D → Option (List D × D)) (i : Nat) (ds xs : List D) : methK f i ds Γ (some (some (.ol xs))) = match f xs ds with
  | some (ys, y) => .ok (.d y) (Γ.set i (some (.ol ys)))
  | none => .stuck := rfl
theorem fApp_s (xs : List D) (y : D) (h : xs.length < SZ) : fAppend xs [y] = some (xs ++ [y], .non) := if_pos h
theorem mPar_ap {Γ : Fr} (i j : Nat) (a b : M O) : mPar i j a b Γ = (a Γ).bind fun x Γ1 => (b Γ1).bind fun y Γ2 => (setFr i x Γ2).bind fun _ Γ3 => setFr j y Γ3 := by
  unfold mPar M.bind M.pair
  cases a Γ with
  | ok x Γ1 =>
    show ((b Γ1).bind fun y Γ2 => Res.ok (x, y) Γ2).bind _ = (b Γ1).bind _
    cases b Γ1 <;> rfl
  | err x d Γ1 => rfl
  | stuck => rfl
def mixC : M Bool := (mB (mBin opNe (mBor 2) (M.map Opd.sol (mLst (M.pure [])))))
def mixB : M Fl := (mSeq (M.map (fun _ => Fl.nx) (mMeth fAppend 3 (M.map (fun p => p.1 :: p.2) (M.pair (M.frz (mMeth fPopAt 2 (M.map (fun p => p.1 :: p.2) (M.pair (M.frz (mCallD 2 f__law_draw 0 (M.map (fun p => p.1 :: p.2) (M.pair (M.frz (mCall fLen (M.map (fun p => p.1 :: p.2) (M.pair (mBor 2) (M.pure []))))) (M.pure []))))) (M.pure []))))) (M.pure [])))))
  (M.pure .nx))
theorem whileL_t {Γ Γ1 Γ2 : Fr} {mc : M Bool} {mb : M Fl} {n : Nat} (h : mc Γ = .ok true Γ1) (hb : mb Γ1 = .ok .nx Γ2) : whileL mc mb (n + 1) Γ = whileL mc mb n Γ2 := by
  show (mc Γ).bind _ = _
  rw [h]
  show (mb Γ1).bind _ = _
  rw [hb]
  rfl
theorem whileL_f {Γ Γ1 : Fr} {mc : M Bool} {mb : M Fl} {n : Nat} (h : mc Γ = .ok false Γ1) : whileL mc mb (n + 1) Γ = .ok .nx Γ1 := by
  show (mc Γ).bind _ = _
  rw [h]
  rfl
theorem mix_loop (o1 : O) : ∀ (n : Nat) (s : Deck) (ys zs : List D) (fuel : Nat), ys.length = n → n < fuel → ys.length + zs.length ≤ 1000 → s.left.length < SZ → (∀ y ∈ ys, plainB y = true) →
    ∃ s' zs', whileL mixC mixB fuel [some (.dk s), some o1, some (.ol ys), some (.ol zs)] = .ok .nx [some (.dk s'), some o1, some (.ol []), some (.ol zs')] ∧ s'.at_ = s.at_ ∧ s'.left.length ≤ s.left.length ∧ zs'.length = zs.length + n ∧ ∀ z ∈ zs', z ∈ zs ∨ z ∈ ys
  | 0, s, ys, zs, fuel + 1, hn, hf, hz, hl, hp => by
    have e : ys = [] := List.length_eq_zero_iff.mp hn
    subst e
    have hc : mixC [some (.dk s), some o1, some (.ol []), some (.ol zs)] = .ok false [some (.dk s), some o1, some (.ol []), some (.ol zs)] := by
      unfold mixC
      (simp (config := { maxSteps := 1000000, decide := true }) only [PL.bind_ok, PL.bind_err, PL.bind_stuck, PL.Mbind_ap, PL.Mpure_ap, PL.Mmap_ap, PL.Mpair_ap, PL.Mfrz_ap, PL.optR_s, PL.optR_n, PL.mSeq_ap, PL.seqK_nx, PL.seqK_rt, PL.mSet_ap, PL.mIf_ap, PL.mB_ap, PL.tr_bl, PL.mBin_ap, PL.mUn_ap, PL.mCall_ap, PL.op2_ap, PL.op1_ap, PL.opn_ap,
  PL.rsv_sol, PL.rsv_bor, PL.rsvK_s, PL.borK_s, PL.nameK_d, PL.nameK_ol, PL.callDK_s, PL.dkGetK_s, PL.dkPutK_s, PL.view_d, PL.view_ol, PL.rsvs_nil, PL.rsvs_cons, PL.mBor_ap, PL.mName_ap, PL.setFr_ap, PL.mTup_ap, PL.mLst_ap, PL.mTruth_ap, PL.mSel_ap, PL.mCallP_ap, PL.mCallD_ap, PL.kCallD_ap, PL.mDkGet_ap, PL.fnSem_ap, PL.fnEnd_rt, PL.fnEnd_nx, PL.fnEnd_err, PL.argO_none, PL.argO_some, PL.opAdd_i, PL.opSub_i, PL.opMod_i, PL.opFdiv_i, PL.opGe_i, PL.opLt_i, PL.fInt_i, PL.fMax_i, PL.fLen_l, PL.fLen_t, PL.mDkPut_ap, PL.kDkPut_ap, List.map_cons, List.map_nil, List.cons_append, List.nil_append, List.replicate_succ, List.replicate_zero, Nat.reduceSub, Nat.reduceAdd, Nat.reduceLT, Nat.reduceLeDiff, List.set_cons_zero, List.set_cons_succ, List.getElem?_cons_zero, List.getElem?_cons_succ, List.length_cons, List.length_nil, Option.bind_some, Option.map_some, Option.bind_none, if_true, if_false, ne_list [] (by simp), List.isEmpty_nil, Bool.not_true, Nat.zero_le])
    exact ⟨s, zs, whileL_f hc, rfl, Nat.le_refl _, rfl, fun z h => .inl h⟩
  | n + 1, s, ys, zs, fuel + 1, hn, hf, hz, hl, hp => by
    have ne : ys.isEmpty = false := by cases ys with
      | nil => cases hn
      | cons => rfl
    have hc : mixC [some (.dk s), some o1, some (.ol ys), some (.ol zs)] = .ok true [some (.dk s), some o1, some (.ol ys), some (.ol zs)] := by
      unfold mixC
      (simp (config := { maxSteps := 1000000, decide := true }) only [PL.bind_ok, PL.bind_err, PL.bind_stuck, PL.Mbind_ap, PL.Mpure_ap, PL.Mmap_ap, PL.Mpair_ap, PL.Mfrz_ap, PL.optR_s, PL.optR_n, PL.mSeq_ap, PL.seqK_nx, PL.seqK_rt, PL.mSet_ap, PL.mIf_ap, PL.mB_ap, PL.tr_bl, PL.mBin_ap, PL.mUn_ap, PL.mCall_ap, PL.op2_ap, PL.op1_ap, PL.opn_ap,
  PL.rsv_sol, PL.rsv_bor, PL.rsvK_s, PL.borK_s, PL.nameK_d, PL.nameK_ol, PL.callDK_s, PL.dkGetK_s, PL.dkPutK_s, PL.view_d, PL.view_ol, PL.rsvs_nil, PL.rsvs_cons, PL.mBor_ap, PL.mName_ap, PL.setFr_ap, PL.mTup_ap, PL.mLst_ap, PL.mTruth_ap, PL.mSel_ap, PL.mCallP_ap, PL.mCallD_ap, PL.kCallD_ap, PL.mDkGet_ap, PL.fnSem_ap, PL.fnEnd_rt, PL.fnEnd_nx, PL.fnEnd_err, PL.argO_none, PL.argO_some, PL.opAdd_i, PL.opSub_i, PL.opMod_i, PL.opFdiv_i, PL.opGe_i, PL.opLt_i, PL.fInt_i, PL.fMax_i, PL.fLen_l, PL.fLen_t, PL.mDkPut_ap, PL.kDkPut_ap, List.map_cons, List.map_nil, List.cons_append, List.nil_append, List.replicate_succ, List.replicate_zero, Nat.reduceSub, Nat.reduceAdd, Nat.reduceLT, Nat.reduceLeDiff, List.set_cons_zero, List.set_cons_succ, List.getElem?_cons_zero, List.getElem?_cons_succ, List.length_cons, List.length_nil, Option.bind_some, Option.map_some, Option.bind_none, if_true, if_false, ne_list ys hp, ne, Bool.not_false, Nat.zero_le])
    obtain ⟨r, s1, e1, r0, r1, ha, hs⟩ := draw_ok s ys.length (by omega) (by omega) hl
    obtain ⟨y, ws, e2, hy, hw, hlw⟩ := popAt_ok ys r r0 r1 (by omega)
    have hb : mixB [some (.dk s), some o1, some (.ol ys), some (.ol zs)] = .ok .nx [some (.dk s1), some o1, some (.ol ws), some (.ol (zs ++ [y]))] := by
      unfold mixB
      (simp (config := { maxSteps := 1000000, decide := true }) only [PL.bind_ok, PL.bind_err, PL.bind_stuck, PL.Mbind_ap, PL.Mpure_ap, PL.Mmap_ap, PL.Mpair_ap, PL.Mfrz_ap, PL.optR_s, PL.optR_n, PL.mSeq_ap, PL.seqK_nx, PL.seqK_rt, PL.mSet_ap, PL.mIf_ap, PL.mB_ap, PL.tr_bl, PL.mBin_ap, PL.mUn_ap, PL.mCall_ap, PL.op2_ap, PL.op1_ap, PL.opn_ap,
  PL.rsv_sol, PL.rsv_bor, PL.rsvK_s, PL.borK_s, PL.nameK_d, PL.nameK_ol, PL.callDK_s, PL.dkGetK_s, PL.dkPutK_s, PL.view_d, PL.view_ol, PL.rsvs_nil, PL.rsvs_cons, PL.mBor_ap, PL.mName_ap, PL.setFr_ap, PL.mTup_ap, PL.mLst_ap, PL.mTruth_ap, PL.mSel_ap, PL.mCallP_ap, PL.mCallD_ap, PL.kCallD_ap, PL.mDkGet_ap, PL.fnSem_ap, PL.fnEnd_rt, PL.fnEnd_nx, PL.fnEnd_err, PL.argO_none, PL.argO_some, PL.opAdd_i, PL.opSub_i, PL.opMod_i, PL.opFdiv_i, PL.opGe_i, PL.opLt_i, PL.fInt_i, PL.fMax_i, PL.fLen_l, PL.fLen_t, PL.mDkPut_ap, PL.kDkPut_ap, List.map_cons, List.map_nil, List.cons_append, List.nil_append, List.replicate_succ, List.replicate_zero, Nat.reduceSub, Nat.reduceAdd, Nat.reduceLT, Nat.reduceLeDiff, List.set_cons_zero, List.set_cons_succ, List.getElem?_cons_zero, List.getElem?_cons_succ, List.length_cons, List.length_nil, Option.bind_some, Option.map_some, Option.bind_none, if_true, if_false, meth_ap, own_ap, ownK_s, kMeth_ap, methK_s, kCallD_ap, callDK_s, e1, e2, fApp_s zs y (by have : SZ = 16777216 := rfl; omega)])
    obtain ⟨s2, zs', e3, a3, l3, len3, m3⟩ := mix_loop o1 n s1 ws (zs ++ [y]) fuel (by omega) (by omega) (by rw [List.length_append, List.length_singleton]; omega) (by omega) (fun w h => hp w (hw w h))
    refine ⟨s2, zs', (whileL_t hc hb).trans e3, by rw [a3, ha], by omega, by rw [len3, List.length_append, List.length_singleton]; omega, fun z h => ?_⟩
    rcases m3 z h with q | q
    · rcases List.mem_append.mp q with q | q
      · exact .inl q
      · rw [List.mem_singleton.mp q]; exact .inr hy
    · exact .inr (hw z q)
theorem mixed_ok (s : Deck) (xs : List D) (hn : xs.length < 99) (hl : s.left.length < SZ) (hp : ∀ y ∈ xs, plainB y = true) : ∃ zs s', f__law_mixed (some s) [.lst xs] = .ok (.d (.lst zs)) (some s') ∧ (∀ z ∈ zs, z ∈ xs) ∧ zs.length = xs.length ∧ s'.at_ = s.at_ ∧ s'.left.length ≤ s.left.length := by
  obtain ⟨s', zs, e, ha, hs, hlen, hm⟩ := mix_loop (.d (.lst xs)) xs.length s xs [] 100 rfl (by omega) (by simp; omega) hl hp
  have e' : whileL mixC mixB 100 [some (.dk s), some (.d (.lst xs)), some (.ol xs), some (.ol [])] = .ok .nx [some (.dk s'), some (.d (.lst xs)), some (.ol []), some (.ol zs)] := e
  unfold mixC mixB at e'
  have fl : fList [.lst xs] = some (.ol xs) := rfl
  refine ⟨zs, s', ?_, fun z h => (hm z h).resolve_left (by simp), by simpa using hlen, ha, hs⟩
  unfold f__law_mixed m__law_mixed
  (simp (config := { maxSteps := 1000000, decide := true }) only [PL.bind_ok, PL.bind_err, PL.bind_stuck, PL.Mbind_ap, PL.Mpure_ap, PL.Mmap_ap, PL.Mpair_ap, PL.Mfrz_ap, PL.optR_s, PL.optR_n, PL.mSeq_ap, PL.seqK_nx, PL.seqK_rt, PL.mSet_ap, PL.mIf_ap, PL.mB_ap, PL.tr_bl, PL.mBin_ap, PL.mUn_ap, PL.mCall_ap, PL.op2_ap, PL.op1_ap, PL.opn_ap,
  PL.rsv_sol, PL.rsv_bor, PL.rsvK_s, PL.borK_s, PL.nameK_d, PL.nameK_ol, PL.callDK_s, PL.dkGetK_s, PL.dkPutK_s, PL.view_d, PL.view_ol, PL.rsvs_nil, PL.rsvs_cons, PL.mBor_ap, PL.mName_ap, PL.setFr_ap, PL.mTup_ap, PL.mLst_ap, PL.mTruth_ap, PL.mSel_ap, PL.mCallP_ap, PL.mCallD_ap, PL.kCallD_ap, PL.mDkGet_ap, PL.fnSem_ap, PL.fnEnd_rt, PL.fnEnd_nx, PL.fnEnd_err, PL.argO_none, PL.argO_some, PL.opAdd_i, PL.opSub_i, PL.opMod_i, PL.opFdiv_i, PL.opGe_i, PL.opLt_i, PL.fInt_i, PL.fMax_i, PL.fLen_l, PL.fLen_t, PL.mDkPut_ap, PL.kDkPut_ap, List.map_cons, List.map_nil, List.cons_append, List.nil_append, List.replicate_succ, List.replicate_zero, Nat.reduceSub, Nat.reduceAdd, Nat.reduceLT, Nat.reduceLeDiff, List.set_cons_zero, List.set_cons_succ, List.getElem?_cons_zero, List.getElem?_cons_succ, List.length_cons, List.length_nil, Option.bind_some, Option.map_some, Option.bind_none, if_true, if_false, mPar_ap, fl, e', fnEnd_rtK, ha, Nat.zero_le])
/-! ### what is no folds -/
def badL : List D := [.non, .tup [], .tup [.str "up"], .tup [.str "left", .str "down"], .tup [.str "left", .str "left", .str "left", .str "left", .str "left"], .lst [.str "left"], .tup [.str "Left"], .str "left", .tup [.bl true], .int 1, .tup [.str "left", .non], .tup [.tup [.str "left"]], .tup [.str "up", .str "right", .str "up"]]
theorem five : opMul (.tup [.str "left"]) (.int 5) = some (.d (.tup [.str "left", .str "left", .str "left", .str "left", .str "left"])) := by
  show (if [D.str "left"] ≠ [] ∧ (2 : Int) ≤ 5 ∧ (5 : Int) ≤ 1000 ∧ [D.str "left"].length ≤ 1000 then some (O.d (.tup (List.replicate (5 : Int).toNat [D.str "left"]).flatten)) else none) = _
  rw [if_pos ⟨by simp, by decide, by decide, by simp⟩]
  rfl
theorem add_l (xs ys : List D) (h : xs.length + ys.length ≤ SZ) : opAdd (.lst xs) (.lst ys) = some (.ol (xs ++ ys)) := if_pos h
theorem nofolds_ok (s : Deck) (hl : s.left.length < SZ) : ∃ x s', f__law_no_folds (some s) [] = .ok (.d x) (some s') ∧ x ∈ badL ∧ s'.at_ = s.at_ ∧ s'.left.length ≤ s.left.length := by
  obtain ⟨x, s', e, hx, ha, hs⟩ := pick_ok s badL (by simp [badL]) (by simp [badL]) hl
  unfold badL at e
  refine ⟨x, s', ?_, hx, ha, hs⟩
  unfold f__law_no_folds m__law_no_folds
  (simp (config := { maxSteps := 1000000, decide := true }) only [PL.bind_ok, PL.bind_err, PL.bind_stuck, PL.Mbind_ap, PL.Mpure_ap, PL.Mmap_ap, PL.Mpair_ap, PL.Mfrz_ap, PL.optR_s, PL.optR_n, PL.mSeq_ap, PL.seqK_nx, PL.seqK_rt, PL.mSet_ap, PL.mIf_ap, PL.mB_ap, PL.tr_bl, PL.mBin_ap, PL.mUn_ap, PL.mCall_ap, PL.op2_ap, PL.op1_ap, PL.opn_ap,
  PL.rsv_sol, PL.rsv_bor, PL.rsvK_s, PL.borK_s, PL.nameK_d, PL.nameK_ol, PL.callDK_s, PL.dkGetK_s, PL.dkPutK_s, PL.view_d, PL.view_ol, PL.rsvs_nil, PL.rsvs_cons, PL.mBor_ap, PL.mName_ap, PL.setFr_ap, PL.mTup_ap, PL.mLst_ap, PL.mTruth_ap, PL.mSel_ap, PL.mCallP_ap, PL.mCallD_ap, PL.kCallD_ap, PL.mDkGet_ap, PL.fnSem_ap, PL.fnEnd_rt, PL.fnEnd_nx, PL.fnEnd_err, PL.argO_none, PL.argO_some, PL.opAdd_i, PL.opSub_i, PL.opMod_i, PL.opFdiv_i, PL.opGe_i, PL.opLt_i, PL.fInt_i, PL.fMax_i, PL.fLen_l, PL.fLen_t, PL.mDkPut_ap, PL.kDkPut_ap, List.map_cons, List.map_nil, List.cons_append, List.nil_append, List.replicate_succ, List.replicate_zero, Nat.reduceSub, Nat.reduceAdd, Nat.reduceLT, Nat.reduceLeDiff, List.set_cons_zero, List.set_cons_succ, List.getElem?_cons_zero, List.getElem?_cons_succ, List.length_cons, List.length_nil, Option.bind_some, Option.map_some, Option.bind_none, if_true, if_false, five, add_l, Nat.zero_le, kCallD_ap, callDK_s, e, fnEnd_rtK, ha])
/-! ### the deck -/
theorem cut_ints (ns : List Int) (lo hi : Option Int) : ∃ ms : List Int, PL.cutD (ns.map D.int) lo hi = ms.map D.int ∧ ms.length ≤ ns.length := by
  refine ⟨((ns.drop (HT.sIx ns.length 0 lo)).take (HT.sIx ns.length ns.length hi - HT.sIx ns.length 0 lo)), ?_, ?_⟩
  · unfold PL.cutD
    rw [List.map_take, List.map_drop, List.length_map]
  · rw [List.length_take, List.length_drop]
    omega
def deckB : M Fl := (mSeq (mSet 2 (mBin opMod (M.map Opd.sol (mCall fInt (M.map (fun p => p.1 :: p.2) (M.pair (M.map Opd.sol (mBin opAdd (M.map Opd.sol (mBin opAdd (M.map Opd.sol (mBin opMul (mBor 2) (M.map (fun x => .sol (.d x)) (M.pure (.int 48271))))) (M.map Opd.sol (mBin opMod (M.map Opd.sol (mCall fInt (M.map (fun p => p.1 :: p.2) (M.pair (mBor 3) (M.pure []))))) (M.map (fun x => .sol (.d x)) (M.pure (.int 2147483629))))))) (M.map (fun x => .sol (.d x)) (M.pure (.int 211))))) (M.pure []))))) (M.map (fun x => .sol (.d x)) (M.pure (.int 2147483587)))))
  (M.pure .nx))
theorem gN_ap {Γ : Fr} (i : Nat) (x : D) : gN i x Γ = if i < Γ.length then some (Γ.set i (some (.d x))) else none := rfl
theorem forL_nx {f : D → Fr → Option Fr} {mb : M Fl} {x : D} {xs : List D} {Γ Γ1 Γ2 : Fr} (h : f x Γ = some Γ1) (hb : mb Γ1 = .ok .nx Γ2) : forL f mb (x :: xs) Γ = forL f mb xs Γ2 := by
  show (match f x Γ with | none => Res.stuck | some Γ1 => (mb Γ1).bind _) = _
  rw [h]
  show (mb Γ1).bind _ = _
  rw [hb]
  rfl
theorem deck_loop (o0 o1 : O) : ∀ (ms : List Int) (b : Int) (v : Option O), ∃ b' v', forL (gN 3) deckB (ms.map D.int) [some o0, some o1, some (.d (.int b)), v] = .ok .nx [some o0, some o1, some (.d (.int b')), v']
  | [], b, v => ⟨b, v, rfl⟩
  | m :: ms, b, v => by
    have h : gN 3 (.int m) [some o0, some o1, some (.d (.int b)), v] = some [some o0, some o1, some (.d (.int b)), some (.d (.int m))] := rfl
    have hb : ∃ b', deckB [some o0, some o1, some (.d (.int b)), some (.d (.int m))] = .ok .nx [some o0, some o1, some (.d (.int b')), some (.d (.int m))] := by
      unfold deckB
      (simp (config := { maxSteps := 1000000, decide := true }) only [PL.bind_ok, PL.bind_err, PL.bind_stuck, PL.Mbind_ap, PL.Mpure_ap, PL.Mmap_ap, PL.Mpair_ap, PL.Mfrz_ap, PL.optR_s, PL.optR_n, PL.mSeq_ap, PL.seqK_nx, PL.seqK_rt, PL.mSet_ap, PL.mIf_ap, PL.mB_ap, PL.tr_bl, PL.mBin_ap, PL.mUn_ap, PL.mCall_ap, PL.op2_ap, PL.op1_ap, PL.opn_ap,
  PL.rsv_sol, PL.rsv_bor, PL.rsvK_s, PL.borK_s, PL.nameK_d, PL.nameK_ol, PL.callDK_s, PL.dkGetK_s, PL.dkPutK_s, PL.view_d, PL.view_ol, PL.rsvs_nil, PL.rsvs_cons, PL.mBor_ap, PL.mName_ap, PL.setFr_ap, PL.mTup_ap, PL.mLst_ap, PL.mTruth_ap, PL.mSel_ap, PL.mCallP_ap, PL.mCallD_ap, PL.kCallD_ap, PL.mDkGet_ap, PL.fnSem_ap, PL.fnEnd_rt, PL.fnEnd_nx, PL.fnEnd_err, PL.argO_none, PL.argO_some, PL.opAdd_i, PL.opSub_i, PL.opMod_i, PL.opFdiv_i, PL.opGe_i, PL.opLt_i, PL.fInt_i, PL.fMax_i, PL.fLen_l, PL.fLen_t, PL.mDkPut_ap, PL.kDkPut_ap, List.map_cons, List.map_nil, List.cons_append, List.nil_append, List.replicate_succ, List.replicate_zero, Nat.reduceSub, Nat.reduceAdd, Nat.reduceLT, Nat.reduceLeDiff, List.set_cons_zero, List.set_cons_succ, List.getElem?_cons_zero, List.getElem?_cons_succ, List.length_cons, List.length_nil, Option.bind_some, Option.map_some, Option.bind_none, if_true, if_false, opMul_r])
      exact ⟨_, rfl⟩
    obtain ⟨b1, hb⟩ := hb
    obtain ⟨b2, v2, e⟩ := deck_loop o0 o1 ms b1 (some (.d (.int m)))
    exact ⟨b2, v2, (forL_nx h hb).trans e⟩
def deckE : M D := (M.frz (mCall fInt (M.map (fun p => p.1 :: p.2) (M.pair (mBor 3) (M.pure [])))))
theorem deck_comp (o0 o1 o2 : O) : ∀ (ms : List Int) (acc : List D), acc.length + ms.length ≤ 1000 → compL [3] (gN 3) (M.pure true) deckE (ms.map D.int) acc [some o0, some o1, some o2, none] = .ok (acc ++ ms.map D.int) [some o0, some o1, some o2, none]
  | [], acc, _ => by rw [List.map_nil, List.append_nil]; rfl
  | m :: ms, acc, h => by
    have he : deckE [some o0, some o1, some o2, some (.d (.int m))] = .ok (.int m) [some o0, some o1, some o2, some (.d (.int m))] := by
      unfold deckE
      (simp (config := { maxSteps := 1000000, decide := true }) only [PL.bind_ok, PL.bind_err, PL.bind_stuck, PL.Mbind_ap, PL.Mpure_ap, PL.Mmap_ap, PL.Mpair_ap, PL.Mfrz_ap, PL.optR_s, PL.optR_n, PL.mSeq_ap, PL.seqK_nx, PL.seqK_rt, PL.mSet_ap, PL.mIf_ap, PL.mB_ap, PL.tr_bl, PL.mBin_ap, PL.mUn_ap, PL.mCall_ap, PL.op2_ap, PL.op1_ap, PL.opn_ap,
  PL.rsv_sol, PL.rsv_bor, PL.rsvK_s, PL.borK_s, PL.nameK_d, PL.nameK_ol, PL.callDK_s, PL.dkGetK_s, PL.dkPutK_s, PL.view_d, PL.view_ol, PL.rsvs_nil, PL.rsvs_cons, PL.mBor_ap, PL.mName_ap, PL.setFr_ap, PL.mTup_ap, PL.mLst_ap, PL.mTruth_ap, PL.mSel_ap, PL.mCallP_ap, PL.mCallD_ap, PL.kCallD_ap, PL.mDkGet_ap, PL.fnSem_ap, PL.fnEnd_rt, PL.fnEnd_nx, PL.fnEnd_err, PL.argO_none, PL.argO_some, PL.opAdd_i, PL.opSub_i, PL.opMod_i, PL.opFdiv_i, PL.opGe_i, PL.opLt_i, PL.fInt_i, PL.fMax_i, PL.fLen_l, PL.fLen_t, PL.mDkPut_ap, PL.kDkPut_ap, List.map_cons, List.map_nil, List.cons_append, List.nil_append, List.replicate_succ, List.replicate_zero, Nat.reduceSub, Nat.reduceAdd, Nat.reduceLT, Nat.reduceLeDiff, List.set_cons_zero, List.set_cons_succ, List.getElem?_cons_zero, List.getElem?_cons_succ, List.length_cons, List.length_nil, Option.bind_some, Option.map_some, Option.bind_none, if_true, if_false])
    have hz : acc.length < SZ := by have : SZ = 16777216 := rfl; simp at h; omega
    have ih := deck_comp o0 o1 o2 ms (acc ++ [.int m]) (by simp at h ⊢; omega)
    have e1 : compL [3] (gN 3) (M.pure true) deckE ((m :: ms).map D.int) acc [some o0, some o1, some o2, none] = (match deckE [some o0, some o1, some o2, some (.d (.int m))] with
        | .ok y Γ3 => if acc.length < SZ then compL [3] (gN 3) (M.pure true) deckE (ms.map D.int) (acc ++ [y]) (clr [3] Γ3) else .stuck
        | _ => .stuck) := rfl
    rw [e1, he]
    dsimp only
    rw [if_pos hz]
    show compL [3] (gN 3) (M.pure true) deckE (ms.map D.int) (acc ++ [.int m]) [some o0, some o1, some o2, none] = _
    rw [ih, List.append_assoc]
    rfl
theorem intsD_map' : ∀ ns : List Int, intsD (ns.map D.int) = some ns
  | [] => rfl
  | n :: ns => by
    have ih := intsD_map' ns
    simp only [List.map_cons, intsD, ih, Option.map_some, Option.bind_some]
theorem mFor_ap {Γ : Fr} (mi : M (List D)) (f : D → Fr → Option Fr) (mb : M Fl) : mFor mi f mb Γ = (mi Γ).bind fun xs Γ1 => forL f mb xs Γ1 := rfl
theorem mComp_ap {Γ : Fr} (own : List Nat) (mi : M (List D)) (f : D → Fr → Option Fr) (mt : M Bool) (me : M D) : mComp own mi f mt me Γ = (mi Γ).bind fun xs Γ1 => (compL own f mt me xs [] (clr own Γ1)).bind fun acc Γ2 => .ok (.ol acc) Γ2 := rfl
theorem mItems_ap {Γ : Fr} (m : M D) : mItems m Γ = (m Γ).bind fun x Γ1 => optR x.items Γ1 := rfl
theorem mSlice_ap {Γ : Fr} (f : D → Option Int → Option Int → Option O) (a : M Opd) (l h : M (Option Int)) : mSlice f a l h Γ = ((M.pair (M.pair a l) h) Γ).bind fun p Γ1 => optR ((rsv p.1.1 Γ1).bind fun x => f x p.1.2 p.2) Γ1 := rfl
theorem mInt_ap {Γ : Fr} (m : M Opd) : mInt m Γ = (m Γ).bind fun p Γ1 => optR ((rsv p Γ1).bind intD) Γ1 := rfl
theorem intD_i (i : Int) : PL.intD (.int i) = some (some i) := rfl
theorem deck_ok (p b : Addr) (ns : List Int) (m : Int) (hn : ns.length ≤ 63) : ∃ s, f__law_deck p b none [.scr ns, .int m] = .ok (.dk s) none ∧ s.left.length < 1000 := by
  obtain ⟨ms, e, hl⟩ := cut_ints ns none (some 63)
  have es : opSl (.scr ns) none (some 63) = some (.ol (ms.map D.int)) := by
    show some (O.ol (PL.cutD (ns.map D.int) none (some 63))) = _
    rw [e]
  obtain ⟨b', v', e2⟩ := deck_loop (.d (.scr ns)) (.d (.int m)) ms m none
  have e3 := deck_comp (.d (.scr ns)) (.d (.int m)) (.d (.int b')) ms [] (by simp; omega)
  have ei : (D.lst (ms.map D.int)).items = some (ms.map D.int) := rfl
  have er : opRev (.lst (ms.map D.int)) = some (.ol (ms.reverse.map D.int)) := by
    show some (O.ol (ms.map D.int).reverse) = _
    rw [List.map_reverse]
  have ed : deckOf p b (.ol (ms.reverse.map D.int)) (.int b') (.int 0) = some ⟨p, b, ms.reverse, b', 0⟩ := by
    show (intsD (ms.reverse.map D.int)).bind _ = _
    rw [intsD_map']
    rfl
  unfold deckB at e2
  unfold deckE at e3
  refine ⟨⟨p, b, ms.reverse, b', 0⟩, ?_, by rw [List.length_reverse]; omega⟩
  unfold f__law_deck m__law_deck
  (simp (config := { maxSteps := 1000000, decide := true }) only [PL.bind_ok, PL.bind_err, PL.bind_stuck, PL.Mbind_ap, PL.Mpure_ap, PL.Mmap_ap, PL.Mpair_ap, PL.Mfrz_ap, PL.optR_s, PL.optR_n, PL.mSeq_ap, PL.seqK_nx, PL.seqK_rt, PL.mSet_ap, PL.mIf_ap, PL.mB_ap, PL.tr_bl, PL.mBin_ap, PL.mUn_ap, PL.mCall_ap, PL.op2_ap, PL.op1_ap, PL.opn_ap,
  PL.rsv_sol, PL.rsv_bor, PL.rsvK_s, PL.borK_s, PL.nameK_d, PL.nameK_ol, PL.callDK_s, PL.dkGetK_s, PL.dkPutK_s, PL.view_d, PL.view_ol, PL.rsvs_nil, PL.rsvs_cons, PL.mBor_ap, PL.mName_ap, PL.setFr_ap, PL.mTup_ap, PL.mLst_ap, PL.mTruth_ap, PL.mSel_ap, PL.mCallP_ap, PL.mCallD_ap, PL.kCallD_ap, PL.mDkGet_ap, PL.fnSem_ap, PL.fnEnd_rt, PL.fnEnd_nx, PL.fnEnd_err, PL.argO_none, PL.argO_some, PL.opAdd_i, PL.opSub_i, PL.opMod_i, PL.opFdiv_i, PL.opGe_i, PL.opLt_i, PL.fInt_i, PL.fMax_i, PL.fLen_l, PL.fLen_t, PL.mDkPut_ap, PL.kDkPut_ap, List.map_cons, List.map_nil, List.cons_append, List.nil_append, List.replicate_succ, List.replicate_zero, Nat.reduceSub, Nat.reduceAdd, Nat.reduceLT, Nat.reduceLeDiff, List.set_cons_zero, List.set_cons_succ, List.getElem?_cons_zero, List.getElem?_cons_succ, List.length_cons, List.length_nil, Option.bind_some, Option.map_some, Option.bind_none, if_true, if_false, mFor_ap, mItems_ap, mSlice_ap, mInt_ap, intD_i, es, ei, e2, mDeck, mComp_ap, clr, e3, er, ed, List.nil_append])
end K27
end
section
set_option Elab.async false
set_option linter.all false
set_option maxRecDepth 100000
set_option maxHeartbeats 4000000
/-! K27d: _law_same of a thing and itself. -/
namespace K27
open PySem PySem.Spec PyProof.Rows L2 PL
mutual
/-- the depth of what may be compared; none: not to be compared -/
def okN : D → Option Nat
  | .non => some 0
  | .bl _ => some 0
  | .int _ => some 0
  | .str x => if eqD (.str x) (.str x) = some true then some 0 else none
  | .tup xs => (okNs xs).map (· + 1)
  | .lst xs => (okNs xs).map (· + 1)
  | _ => none
def okNs : List D → Option Nat
  | [] => some 0
  | x :: xs => (okN x).bind fun a => (okNs xs).map fun b => max a b
end
theorem okNs_mem : ∀ {xs : List D} {n : Nat}, okNs xs = some n → ∀ x ∈ xs, ∃ k, okN x = some k ∧ k ≤ n
  | [], _, _, x, h => by cases h
  | y :: ys, n, e, x, h => by
    obtain ⟨a, e1, e2⟩ := Option.bind_eq_some_iff.mp (show ((okN y).bind fun a => (okNs ys).map fun b => max a b) = some n from e)
    obtain ⟨b, e3, e4⟩ := Option.map_eq_some_iff.mp e2
    subst e4
    rcases List.mem_cons.mp h with rfl | h
    · exact ⟨a, e1, Nat.le_max_left _ _⟩
    · obtain ⟨k, k1, k2⟩ := okNs_mem e3 x h
      exact ⟨k, k1, Nat.le_trans k2 (Nat.le_max_right _ _)⟩
def isT : FR → Prop := fun r => r = .ok (.d (.bl true)) none
def sameT (rec : FSem) : M Bool := (M.map (!·) (mTruth (M.map Opd.sol (mCallP 2 rec (M.map (fun p => p.1 :: p.2) (M.pair (mName 2) (M.map (fun p => p.1 :: p.2) (M.pair (mName 3) (M.pure [])))))))))
theorem same_comp (rec : FSem) (X : D) : ∀ xs : List D, (∀ x ∈ xs, rec none [x, x] = .ok (.d (.bl true)) none) →
    compL [2, 3] (gT 2 (gC (gN 2) (gC (gN 3) g0))) (sameT rec) (M.pure (.int 1)) (zipD xs xs) [] [some (.d X), some (.d X), none, none] = .ok [] [some (.d X), some (.d X), none, none]
  | [], _ => rfl
  | x :: xs, h => by
    have ih := same_comp rec X xs fun y hy => h y (List.mem_cons_of_mem _ hy)
    have hx := h x List.mem_cons_self
    have ht : sameT rec [some (.d X), some (.d X), some (.d x), some (.d x)] = .ok false [some (.d X), some (.d X), some (.d x), some (.d x)] := by
      unfold sameT
      (simp (config := { maxSteps := 1000000, decide := true }) only [PL.bind_ok, PL.bind_err, PL.bind_stuck, PL.Mbind_ap, PL.Mpure_ap, PL.Mmap_ap, PL.Mpair_ap, PL.Mfrz_ap, PL.optR_s, PL.optR_n, PL.mSeq_ap, PL.seqK_nx, PL.seqK_rt, PL.mSet_ap, PL.mIf_ap, PL.mB_ap, PL.tr_bl, PL.mBin_ap, PL.mUn_ap, PL.mCall_ap, PL.op2_ap, PL.op1_ap, PL.opn_ap,
  PL.rsv_sol, PL.rsv_bor, PL.rsvK_s, PL.borK_s, PL.nameK_d, PL.nameK_ol, PL.callDK_s, PL.dkGetK_s, PL.dkPutK_s, PL.view_d, PL.view_ol, PL.rsvs_nil, PL.rsvs_cons, PL.mBor_ap, PL.mName_ap, PL.setFr_ap, PL.mTup_ap, PL.mLst_ap, PL.mTruth_ap, PL.mSel_ap, PL.mCallP_ap, PL.mCallD_ap, PL.kCallD_ap, PL.mDkGet_ap, PL.fnSem_ap, PL.fnEnd_rt, PL.fnEnd_nx, PL.fnEnd_err, PL.argO_none, PL.argO_some, PL.opAdd_i, PL.opSub_i, PL.opMod_i, PL.opFdiv_i, PL.opGe_i, PL.opLt_i, PL.fInt_i, PL.fMax_i, PL.fLen_l, PL.fLen_t, PL.mDkPut_ap, PL.kDkPut_ap, List.map_cons, List.map_nil, List.cons_append, List.nil_append, List.replicate_succ, List.replicate_zero, Nat.reduceSub, Nat.reduceAdd, Nat.reduceLT, Nat.reduceLeDiff, List.set_cons_zero, List.set_cons_succ, List.getElem?_cons_zero, List.getElem?_cons_succ, List.length_cons, List.length_nil, Option.bind_some, Option.map_some, Option.bind_none, if_true, if_false, hx, truthD, Bool.not_true])
    have e1 : compL [2, 3] (gT 2 (gC (gN 2) (gC (gN 3) g0))) (sameT rec) (M.pure (.int 1)) (zipD (x :: xs) (x :: xs)) [] [some (.d X), some (.d X), none, none] = (match sameT rec [some (.d X), some (.d X), some (.d x), some (.d x)] with
      | .ok true Γ2 => (match (M.pure (.int 1) : M D) Γ2 with
        | .ok y Γ3 => if ([] : List D).length < SZ then compL [2, 3] (gT 2 (gC (gN 2) (gC (gN 3) g0))) (sameT rec) (M.pure (.int 1)) (zipD xs xs) ([] ++ [y]) (clr [2, 3] Γ3) else .stuck
        | _ => .stuck)
      | .ok false Γ2 => compL [2, 3] (gT 2 (gC (gN 2) (gC (gN 3) g0))) (sameT rec) (M.pure (.int 1)) (zipD xs xs) [] (clr [2, 3] Γ2)
      | _ => .stuck) := rfl
    rw [e1, ht]
    exact ih
theorem eq_bl (a : Bool) : opEq (.bl a) (.bl a) = some (.d (.bl true)) := by cases a <;> rfl
theorem ne_bl (a : Bool) : opNe (.bl a) (.bl a) = some (.d (.bl false)) := by cases a <;> rfl
theorem eq_int (i : Int) : opEq (.int i) (.int i) = some (.d (.bl true)) := by
  show (if SeqAt.shaped (.int i) = true ∧ SeqAt.shaped (.int i) = true then some (PyData.eqv (.int i) (.int i)) else none).map (fun b => O.d (.bl b)) = _
  have h : SeqAt.shaped (.int i) = true := rfl
  rw [if_pos ⟨h, h⟩]
  simp [PyData.eqv]
theorem eq_nil : opEq (.lst []) (.lst []) = some (.d (.bl true)) := by
  show (if SeqAt.shaped (.list []) = true ∧ SeqAt.shaped (.list []) = true then some (PyData.eqv (.list []) (.list [])) else none).map (fun b => O.d (.bl b)) = _
  have h : SeqAt.shaped (.list []) = true := by decide +kernel
  rw [if_pos ⟨h, h⟩]
  simp [PyData.eqv, PyData.eqvAll]
theorem walk_ap {Γ : Fr} (f : List D → Option (List D)) (m : M (List D)) : mWalk f m Γ = (m Γ).bind fun ds Γ1 => optR (f ds) Γ1 := rfl
theorem same_seq (rec : FSem) (X : D) (xs : List D) (hX : X = .tup xs ∨ X = .lst xs) (h : ∀ x ∈ xs, rec none [x, x] = .ok (.d (.bl true)) none) : fnSem 4 (m__law_same rec) none [X, X] = .ok (.d (.bl true)) none := by
  have hc := same_comp rec X xs h
  unfold sameT at hc
  unfold m__law_same
  rcases hX with rfl | rfl
  · have i1 : fIsi [.tup xs, .tup [.ty .tup, .ty .lst]] = some (.d (.bl true)) := rfl
    have i2 : fIsi [.tup xs, .ty .tup] = some (.d (.bl true)) := rfl
    have i3 : fIsi [.tup xs, .ty .lst] = some (.d (.bl false)) := rfl
    have z : fZip [.tup xs, .tup xs] = some (zipD xs xs) := rfl
    (simp (config := { maxSteps := 1000000, decide := true }) only [PL.bind_ok, PL.bind_err, PL.bind_stuck, PL.Mbind_ap, PL.Mpure_ap, PL.Mmap_ap, PL.Mpair_ap, PL.Mfrz_ap, PL.optR_s, PL.optR_n, PL.mSeq_ap, PL.seqK_nx, PL.seqK_rt, PL.mSet_ap, PL.mIf_ap, PL.mB_ap, PL.tr_bl, PL.mBin_ap, PL.mUn_ap, PL.mCall_ap, PL.op2_ap, PL.op1_ap, PL.opn_ap,
  PL.rsv_sol, PL.rsv_bor, PL.rsvK_s, PL.borK_s, PL.nameK_d, PL.nameK_ol, PL.callDK_s, PL.dkGetK_s, PL.dkPutK_s, PL.view_d, PL.view_ol, PL.rsvs_nil, PL.rsvs_cons, PL.mBor_ap, PL.mName_ap, PL.setFr_ap, PL.mTup_ap, PL.mLst_ap, PL.mTruth_ap, PL.mSel_ap, PL.mCallP_ap, PL.mCallD_ap, PL.kCallD_ap, PL.mDkGet_ap, PL.fnSem_ap, PL.fnEnd_rt, PL.fnEnd_nx, PL.fnEnd_err, PL.argO_none, PL.argO_some, PL.opAdd_i, PL.opSub_i, PL.opMod_i, PL.opFdiv_i, PL.opGe_i, PL.opLt_i, PL.fInt_i, PL.fMax_i, PL.fLen_l, PL.fLen_t, PL.mDkPut_ap, PL.kDkPut_ap, List.map_cons, List.map_nil, List.cons_append, List.nil_append, List.replicate_succ, List.replicate_zero, Nat.reduceSub, Nat.reduceAdd, Nat.reduceLT, Nat.reduceLeDiff, List.set_cons_zero, List.set_cons_succ, List.getElem?_cons_zero, List.getElem?_cons_succ, List.length_cons, List.length_nil, Option.bind_some, Option.map_some, Option.bind_none, if_true, if_false, i1, i2, i3, z, walk_ap, truthD, ne_bl, eq_int, mComp_ap, clr, hc, eq_nil, Nat.zero_le, Bool.false_eq_true])
  · have i1 : fIsi [.lst xs, .tup [.ty .tup, .ty .lst]] = some (.d (.bl true)) := rfl
    have i2 : fIsi [.lst xs, .ty .tup] = some (.d (.bl false)) := rfl
    have i3 : fIsi [.lst xs, .ty .lst] = some (.d (.bl true)) := rfl
    have z : fZip [.lst xs, .lst xs] = some (zipD xs xs) := rfl
    (simp (config := { maxSteps := 1000000, decide := true }) only [PL.bind_ok, PL.bind_err, PL.bind_stuck, PL.Mbind_ap, PL.Mpure_ap, PL.Mmap_ap, PL.Mpair_ap, PL.Mfrz_ap, PL.optR_s, PL.optR_n, PL.mSeq_ap, PL.seqK_nx, PL.seqK_rt, PL.mSet_ap, PL.mIf_ap, PL.mB_ap, PL.tr_bl, PL.mBin_ap, PL.mUn_ap, PL.mCall_ap, PL.op2_ap, PL.op1_ap, PL.opn_ap,
  PL.rsv_sol, PL.rsv_bor, PL.rsvK_s, PL.borK_s, PL.nameK_d, PL.nameK_ol, PL.callDK_s, PL.dkGetK_s, PL.dkPutK_s, PL.view_d, PL.view_ol, PL.rsvs_nil, PL.rsvs_cons, PL.mBor_ap, PL.mName_ap, PL.setFr_ap, PL.mTup_ap, PL.mLst_ap, PL.mTruth_ap, PL.mSel_ap, PL.mCallP_ap, PL.mCallD_ap, PL.kCallD_ap, PL.mDkGet_ap, PL.fnSem_ap, PL.fnEnd_rt, PL.fnEnd_nx, PL.fnEnd_err, PL.argO_none, PL.argO_some, PL.opAdd_i, PL.opSub_i, PL.opMod_i, PL.opFdiv_i, PL.opGe_i, PL.opLt_i, PL.fInt_i, PL.fMax_i, PL.fLen_l, PL.fLen_t, PL.mDkPut_ap, PL.kDkPut_ap, List.map_cons, List.map_nil, List.cons_append, List.nil_append, List.replicate_succ, List.replicate_zero, Nat.reduceSub, Nat.reduceAdd, Nat.reduceLT, Nat.reduceLeDiff, List.set_cons_zero, List.set_cons_succ, List.getElem?_cons_zero, List.getElem?_cons_succ, List.length_cons, List.length_nil, Option.bind_some, Option.map_some, Option.bind_none, if_true, if_false, i1, i2, i3, z, walk_ap, truthD, ne_bl, eq_int, mComp_ap, clr, hc, eq_nil, Nat.zero_le, Bool.false_eq_true])
theorem same_flat (rec : FSem) (X : D) (h : okN X = some 0) (hs : ∀ xs, X ≠ .tup xs ∧ X ≠ .lst xs) : fnSem 4 (m__law_same rec) none [X, X] = .ok (.d (.bl true)) none := by
  unfold m__law_same
  cases X with
  | non =>
    have i1 : fIsi [.non, .tup [.ty .tup, .ty .lst]] = some (.d (.bl false)) := rfl
    have i4 : opIs .non .non = some (.d (.bl true)) := rfl
    (simp (config := { maxSteps := 1000000, decide := true }) only [PL.bind_ok, PL.bind_err, PL.bind_stuck, PL.Mbind_ap, PL.Mpure_ap, PL.Mmap_ap, PL.Mpair_ap, PL.Mfrz_ap, PL.optR_s, PL.optR_n, PL.mSeq_ap, PL.seqK_nx, PL.seqK_rt, PL.mSet_ap, PL.mIf_ap, PL.mB_ap, PL.tr_bl, PL.mBin_ap, PL.mUn_ap, PL.mCall_ap, PL.op2_ap, PL.op1_ap, PL.opn_ap,
  PL.rsv_sol, PL.rsv_bor, PL.rsvK_s, PL.borK_s, PL.nameK_d, PL.nameK_ol, PL.callDK_s, PL.dkGetK_s, PL.dkPutK_s, PL.view_d, PL.view_ol, PL.rsvs_nil, PL.rsvs_cons, PL.mBor_ap, PL.mName_ap, PL.setFr_ap, PL.mTup_ap, PL.mLst_ap, PL.mTruth_ap, PL.mSel_ap, PL.mCallP_ap, PL.mCallD_ap, PL.kCallD_ap, PL.mDkGet_ap, PL.fnSem_ap, PL.fnEnd_rt, PL.fnEnd_nx, PL.fnEnd_err, PL.argO_none, PL.argO_some, PL.opAdd_i, PL.opSub_i, PL.opMod_i, PL.opFdiv_i, PL.opGe_i, PL.opLt_i, PL.fInt_i, PL.fMax_i, PL.fLen_l, PL.fLen_t, PL.mDkPut_ap, PL.kDkPut_ap, List.map_cons, List.map_nil, List.cons_append, List.nil_append, List.replicate_succ, List.replicate_zero, Nat.reduceSub, Nat.reduceAdd, Nat.reduceLT, Nat.reduceLeDiff, List.set_cons_zero, List.set_cons_succ, List.getElem?_cons_zero, List.getElem?_cons_succ, List.length_cons, List.length_nil, Option.bind_some, Option.map_some, Option.bind_none, if_true, if_false, i1, i4, truthD, Bool.false_eq_true])
  | bl b =>
    have i1 : fIsi [.bl b, .tup [.ty .tup, .ty .lst]] = some (.d (.bl false)) := rfl
    have i2 : fIsi [.bl b, .ty .bl] = some (.d (.bl true)) := rfl
    have i4 : opIs (.bl b) .non = some (.d (.bl false)) := rfl
    (simp (config := { maxSteps := 1000000, decide := true }) only [PL.bind_ok, PL.bind_err, PL.bind_stuck, PL.Mbind_ap, PL.Mpure_ap, PL.Mmap_ap, PL.Mpair_ap, PL.Mfrz_ap, PL.optR_s, PL.optR_n, PL.mSeq_ap, PL.seqK_nx, PL.seqK_rt, PL.mSet_ap, PL.mIf_ap, PL.mB_ap, PL.tr_bl, PL.mBin_ap, PL.mUn_ap, PL.mCall_ap, PL.op2_ap, PL.op1_ap, PL.opn_ap,
  PL.rsv_sol, PL.rsv_bor, PL.rsvK_s, PL.borK_s, PL.nameK_d, PL.nameK_ol, PL.callDK_s, PL.dkGetK_s, PL.dkPutK_s, PL.view_d, PL.view_ol, PL.rsvs_nil, PL.rsvs_cons, PL.mBor_ap, PL.mName_ap, PL.setFr_ap, PL.mTup_ap, PL.mLst_ap, PL.mTruth_ap, PL.mSel_ap, PL.mCallP_ap, PL.mCallD_ap, PL.kCallD_ap, PL.mDkGet_ap, PL.fnSem_ap, PL.fnEnd_rt, PL.fnEnd_nx, PL.fnEnd_err, PL.argO_none, PL.argO_some, PL.opAdd_i, PL.opSub_i, PL.opMod_i, PL.opFdiv_i, PL.opGe_i, PL.opLt_i, PL.fInt_i, PL.fMax_i, PL.fLen_l, PL.fLen_t, PL.mDkPut_ap, PL.kDkPut_ap, List.map_cons, List.map_nil, List.cons_append, List.nil_append, List.replicate_succ, List.replicate_zero, Nat.reduceSub, Nat.reduceAdd, Nat.reduceLT, Nat.reduceLeDiff, List.set_cons_zero, List.set_cons_succ, List.getElem?_cons_zero, List.getElem?_cons_succ, List.length_cons, List.length_nil, Option.bind_some, Option.map_some, Option.bind_none, if_true, if_false, i1, i2, i4, truthD, eq_bl, Bool.false_eq_true])
  | int i =>
    have i1 : fIsi [.int i, .tup [.ty .tup, .ty .lst]] = some (.d (.bl false)) := rfl
    have i2 : fIsi [.int i, .ty .bl] = some (.d (.bl false)) := rfl
    have i3 : fIsi [.int i, .ty .int] = some (.d (.bl true)) := rfl
    have i4 : opIs (.int i) .non = some (.d (.bl false)) := rfl
    (simp (config := { maxSteps := 1000000, decide := true }) only [PL.bind_ok, PL.bind_err, PL.bind_stuck, PL.Mbind_ap, PL.Mpure_ap, PL.Mmap_ap, PL.Mpair_ap, PL.Mfrz_ap, PL.optR_s, PL.optR_n, PL.mSeq_ap, PL.seqK_nx, PL.seqK_rt, PL.mSet_ap, PL.mIf_ap, PL.mB_ap, PL.tr_bl, PL.mBin_ap, PL.mUn_ap, PL.mCall_ap, PL.op2_ap, PL.op1_ap, PL.opn_ap,
  PL.rsv_sol, PL.rsv_bor, PL.rsvK_s, PL.borK_s, PL.nameK_d, PL.nameK_ol, PL.callDK_s, PL.dkGetK_s, PL.dkPutK_s, PL.view_d, PL.view_ol, PL.rsvs_nil, PL.rsvs_cons, PL.mBor_ap, PL.mName_ap, PL.setFr_ap, PL.mTup_ap, PL.mLst_ap, PL.mTruth_ap, PL.mSel_ap, PL.mCallP_ap, PL.mCallD_ap, PL.kCallD_ap, PL.mDkGet_ap, PL.fnSem_ap, PL.fnEnd_rt, PL.fnEnd_nx, PL.fnEnd_err, PL.argO_none, PL.argO_some, PL.opAdd_i, PL.opSub_i, PL.opMod_i, PL.opFdiv_i, PL.opGe_i, PL.opLt_i, PL.fInt_i, PL.fMax_i, PL.fLen_l, PL.fLen_t, PL.mDkPut_ap, PL.kDkPut_ap, List.map_cons, List.map_nil, List.cons_append, List.nil_append, List.replicate_succ, List.replicate_zero, Nat.reduceSub, Nat.reduceAdd, Nat.reduceLT, Nat.reduceLeDiff, List.set_cons_zero, List.set_cons_succ, List.getElem?_cons_zero, List.getElem?_cons_succ, List.length_cons, List.length_nil, Option.bind_some, Option.map_some, Option.bind_none, if_true, if_false, i1, i2, i3, i4, truthD, eq_int, Bool.false_eq_true, Bool.not_false])
  | str x =>
    have i1 : fIsi [.str x, .tup [.ty .tup, .ty .lst]] = some (.d (.bl false)) := rfl
    have i2 : fIsi [.str x, .ty .bl] = some (.d (.bl false)) := rfl
    have i3 : fIsi [.str x, .ty .int] = some (.d (.bl false)) := rfl
    have i5 : fIsi [.str x, .ty .str] = some (.d (.bl true)) := rfl
    have i4 : opIs (.str x) .non = some (.d (.bl false)) := rfl
    have he : opEq (.str x) (.str x) = some (.d (.bl true)) := by
      unfold okN at h
      split at h
      · rename_i e
        unfold opEq
        rw [e]
        rfl
      · cases h
    (simp (config := { maxSteps := 1000000, decide := true }) only [PL.bind_ok, PL.bind_err, PL.bind_stuck, PL.Mbind_ap, PL.Mpure_ap, PL.Mmap_ap, PL.Mpair_ap, PL.Mfrz_ap, PL.optR_s, PL.optR_n, PL.mSeq_ap, PL.seqK_nx, PL.seqK_rt, PL.mSet_ap, PL.mIf_ap, PL.mB_ap, PL.tr_bl, PL.mBin_ap, PL.mUn_ap, PL.mCall_ap, PL.op2_ap, PL.op1_ap, PL.opn_ap,
  PL.rsv_sol, PL.rsv_bor, PL.rsvK_s, PL.borK_s, PL.nameK_d, PL.nameK_ol, PL.callDK_s, PL.dkGetK_s, PL.dkPutK_s, PL.view_d, PL.view_ol, PL.rsvs_nil, PL.rsvs_cons, PL.mBor_ap, PL.mName_ap, PL.setFr_ap, PL.mTup_ap, PL.mLst_ap, PL.mTruth_ap, PL.mSel_ap, PL.mCallP_ap, PL.mCallD_ap, PL.kCallD_ap, PL.mDkGet_ap, PL.fnSem_ap, PL.fnEnd_rt, PL.fnEnd_nx, PL.fnEnd_err, PL.argO_none, PL.argO_some, PL.opAdd_i, PL.opSub_i, PL.opMod_i, PL.opFdiv_i, PL.opGe_i, PL.opLt_i, PL.fInt_i, PL.fMax_i, PL.fLen_l, PL.fLen_t, PL.mDkPut_ap, PL.kDkPut_ap, List.map_cons, List.map_nil, List.cons_append, List.nil_append, List.replicate_succ, List.replicate_zero, Nat.reduceSub, Nat.reduceAdd, Nat.reduceLT, Nat.reduceLeDiff, List.set_cons_zero, List.set_cons_succ, List.getElem?_cons_zero, List.getElem?_cons_succ, List.length_cons, List.length_nil, Option.bind_some, Option.map_some, Option.bind_none, if_true, if_false, i1, i2, i3, i4, i5, truthD, he, Bool.false_eq_true])
  | tup xs => exact absurd rfl (hs xs).1
  | lst xs => exact absurd rfl (hs xs).2
  | ty n => cases h
  | ob a => cases h
  | dic ks us => cases h
  | scr ns => cases h
theorem same_refl : ∀ (n : Nat) (X : D) (k : Nat), okN X = some k → k ≤ n → f__law_same (n + 1) none [X, X] = .ok (.d (.bl true)) none := by
  intro n
  induction n with
  | zero =>
    intro X k h hk
    have hk0 : k = 0 := by omega
    subst hk0
    refine same_flat _ X h fun xs => ⟨fun e => ?_, fun e => ?_⟩
    · subst e
      obtain ⟨m, _, e2⟩ := Option.map_eq_some_iff.mp (show (okNs xs).map (· + 1) = some 0 from h)
      omega
    · subst e
      obtain ⟨m, _, e2⟩ := Option.map_eq_some_iff.mp (show (okNs xs).map (· + 1) = some 0 from h)
      omega
  | succ n ih =>
    intro X k h hk
    cases X with
    | tup xs =>
      obtain ⟨m, e1, e2⟩ := Option.map_eq_some_iff.mp (show (okNs xs).map (· + 1) = some k from h)
      exact same_seq _ _ xs (.inl rfl) fun x hx => let ⟨j, j1, j2⟩ := okNs_mem e1 x hx; ih x j j1 (by omega)
    | lst xs =>
      obtain ⟨m, e1, e2⟩ := Option.map_eq_some_iff.mp (show (okNs xs).map (· + 1) = some k from h)
      exact same_seq _ _ xs (.inr rfl) fun x hx => let ⟨j, j1, j2⟩ := okNs_mem e1 x hx; ih x j j1 (by omega)
    | non => exact same_flat _ _ rfl fun xs => ⟨fun z => by (cases z), fun z => by (cases z)⟩
    | bl b => exact same_flat _ _ rfl fun xs => ⟨fun z => by (cases z), fun z => by (cases z)⟩
    | int i => exact same_flat _ _ rfl fun xs => ⟨fun z => by (cases z), fun z => by (cases z)⟩
    | str x =>
      refine same_flat _ _ ?_ fun xs => ⟨fun z => by (cases z), fun z => by (cases z)⟩
      unfold okN at h ⊢
      split at h
      · rename_i e; rw [if_pos e]
      · cases h
    | ty n => cases h
    | ob a => cases h
    | dic ks us => cases h
    | scr ns => cases h
end K27
end
section
set_option Elab.async false
set_option linter.all false
set_option maxRecDepth 100000
set_option maxHeartbeats 4000000
/-! K27e: layouts from bundles. -/
namespace K27
open PySem PySem.Spec PyProof.Rows L2 PL
/-- a leaf of a bundle: row, column, face, turned -/
structure Q where
  r : Int
  c : Int
  f : Int
  t : Bool
def Q.d (x : Q) : D := .tup [.int x.r, .int x.c, .int x.f, .bl x.t]
def layQ : Nat → List Q → List D
  | _, [] => []
  | i, x :: xs => .tup [.int (2 * (i : Int) + 1), .int x.f, .int x.r, .int x.c, .bl x.t] :: .tup [.int (2 * (i : Int) + 2), .int (1 - x.f), .int x.r, .int x.c, .bl x.t] :: layQ (i + 1) xs
def tgE : D → Fr → Option Fr := (gT 2 (gC (gN 2) (gC (gT 4 (gC (gN 3) (gC (gN 4) (gC (gN 5) (gC (gN 6) g0))))) g0)))
def layB : M Fl := (mSeq (M.map (fun _ => Fl.nx) (mMeth fAppend 1 (M.map (fun p => p.1 :: p.2) (M.pair (mTup (M.map (fun p => p.1 :: p.2) (M.pair (M.frz (mBin opAdd (M.map Opd.sol (mBin opMul (M.map (fun x => .sol (.d x)) (M.pure (.int 2))) (mBor 2))) (M.map (fun x => .sol (.d x)) (M.pure (.int 1))))) (M.map (fun p => p.1 :: p.2) (M.pair (mName 5) (M.map (fun p => p.1 :: p.2) (M.pair (mName 3) (M.map (fun p => p.1 :: p.2) (M.pair (mName 4) (M.map (fun p => p.1 :: p.2) (M.pair (mName 6) (M.pure [])))))))))))) (M.pure [])))))
  (mSeq (M.map (fun _ => Fl.nx) (mMeth fAppend 1 (M.map (fun p => p.1 :: p.2) (M.pair (mTup (M.map (fun p => p.1 :: p.2) (M.pair (M.frz (mBin opAdd (M.map Opd.sol (mBin opMul (M.map (fun x => .sol (.d x)) (M.pure (.int 2))) (mBor 2))) (M.map (fun x => .sol (.d x)) (M.pure (.int 2))))) (M.map (fun p => p.1 :: p.2) (M.pair (M.frz (mBin opSub (M.map (fun x => .sol (.d x)) (M.pure (.int 1))) (mBor 5))) (M.map (fun p => p.1 :: p.2) (M.pair (mName 3) (M.map (fun p => p.1 :: p.2) (M.pair (mName 4) (M.map (fun p => p.1 :: p.2) (M.pair (mName 6) (M.pure [])))))))))))) (M.pure [])))))
  (M.pure .nx)))
def layB2 : M Fl := (mSeq (M.map (fun _ => Fl.nx) (mMeth fExtend 1 (M.map (fun p => p.1 :: p.2) (M.pair (M.frz (mLst (M.map (fun p => p.1 :: p.2) (M.pair (mTup (M.map (fun p => p.1 :: p.2) (M.pair (M.frz (mBin opAdd (M.map Opd.sol (mBin opMul (M.map (fun x => .sol (.d x)) (M.pure (.int 2))) (mBor 2))) (M.map (fun x => .sol (.d x)) (M.pure (.int 1))))) (M.map (fun p => p.1 :: p.2) (M.pair (mName 5) (M.map (fun p => p.1 :: p.2) (M.pair (mName 3) (M.map (fun p => p.1 :: p.2) (M.pair (mName 4) (M.map (fun p => p.1 :: p.2) (M.pair (mName 6) (M.pure [])))))))))))) (M.map (fun p => p.1 :: p.2) (M.pair (mTup (M.map (fun p => p.1 :: p.2) (M.pair (M.frz (mBin opAdd (M.map Opd.sol (mBin opMul (M.map (fun x => .sol (.d x)) (M.pure (.int 2))) (mBor 2))) (M.map (fun x => .sol (.d x)) (M.pure (.int 2))))) (M.map (fun p => p.1 :: p.2) (M.pair (M.frz (mBin opSub (M.map (fun x => .sol (.d x)) (M.pure (.int 1))) (mBor 5))) (M.map (fun p => p.1 :: p.2) (M.pair (mName 3) (M.map (fun p => p.1 :: p.2) (M.pair (mName 4) (M.map (fun p => p.1 :: p.2) (M.pair (mName 6) (M.pure [])))))))))))) (M.pure []))))))) (M.pure [])))))
  (M.pure .nx))
theorem enumD_cons (i : Nat) (x : D) (xs : List D) : enumD i (x :: xs) = .tup [.int i, x] :: enumD (i + 1) xs := rfl
theorem lay_loop (o0 : O) : ∀ (xs : List Q) (i : Nat) (acc : List D) (v2 v3 v4 v5 v6 : Option O), acc.length + 2 * xs.length ≤ 1000 → ∃ v2' v3' v4' v5' v6', forL tgE layB (enumD i (xs.map Q.d)) [some o0, some (.ol acc), v2, v3, v4, v5, v6] = .ok .nx [some o0, some (.ol (acc ++ layQ i xs)), v2', v3', v4', v5', v6']
  | [], i, acc, v2, v3, v4, v5, v6, _ => ⟨v2, v3, v4, v5, v6, by rw [layQ, List.append_nil]; rfl⟩
  | x :: xs, i, acc, v2, v3, v4, v5, v6, h => by
    have hz : acc.length < SZ := by have : SZ = 16777216 := rfl; simp at h; omega
    have hz2 : (acc ++ [D.tup [.int (2 * (i : Int) + 1), .int x.f, .int x.r, .int x.c, .bl x.t]]).length < SZ := by have : SZ = 16777216 := rfl; simp at h ⊢; omega
    have ht : tgE (.tup [.int i, x.d]) [some o0, some (.ol acc), v2, v3, v4, v5, v6] = some [some o0, some (.ol acc), some (.d (.int i)), some (.d (.int x.r)), some (.d (.int x.c)), some (.d (.int x.f)), some (.d (.bl x.t))] := rfl
    have hb : layB [some o0, some (.ol acc), some (.d (.int i)), some (.d (.int x.r)), some (.d (.int x.c)), some (.d (.int x.f)), some (.d (.bl x.t))] = .ok .nx [some o0, some (.ol (acc ++ [.tup [.int (2 * (i : Int) + 1), .int x.f, .int x.r, .int x.c, .bl x.t]] ++ [.tup [.int (2 * (i : Int) + 2), .int (1 - x.f), .int x.r, .int x.c, .bl x.t]])), some (.d (.int i)), some (.d (.int x.r)), some (.d (.int x.c)), some (.d (.int x.f)), some (.d (.bl x.t))] := by
      unfold layB
      (simp (config := { maxSteps := 1000000, decide := true }) only [PL.bind_ok, PL.bind_err, PL.bind_stuck, PL.Mbind_ap, PL.Mpure_ap, PL.Mmap_ap, PL.Mpair_ap, PL.Mfrz_ap, PL.optR_s, PL.optR_n, PL.mSeq_ap, PL.seqK_nx, PL.seqK_rt, PL.mSet_ap, PL.mIf_ap, PL.mB_ap, PL.tr_bl, PL.mBin_ap, PL.mUn_ap, PL.mCall_ap, PL.op2_ap, PL.op1_ap, PL.opn_ap,
  PL.rsv_sol, PL.rsv_bor, PL.rsvK_s, PL.borK_s, PL.nameK_d, PL.nameK_ol, PL.callDK_s, PL.dkGetK_s, PL.dkPutK_s, PL.view_d, PL.view_ol, PL.rsvs_nil, PL.rsvs_cons, PL.mBor_ap, PL.mName_ap, PL.setFr_ap, PL.mTup_ap, PL.mLst_ap, PL.mTruth_ap, PL.mSel_ap, PL.mCallP_ap, PL.mCallD_ap, PL.kCallD_ap, PL.mDkGet_ap, PL.fnSem_ap, PL.fnEnd_rt, PL.fnEnd_nx, PL.fnEnd_err, PL.argO_none, PL.argO_some, PL.opAdd_i, PL.opSub_i, PL.opMod_i, PL.opFdiv_i, PL.opGe_i, PL.opLt_i, PL.fInt_i, PL.fMax_i, PL.fLen_l, PL.fLen_t, PL.mDkPut_ap, PL.kDkPut_ap, List.map_cons, List.map_nil, List.cons_append, List.nil_append, List.replicate_succ, List.replicate_zero, Nat.reduceSub, Nat.reduceAdd, Nat.reduceLT, Nat.reduceLeDiff, List.set_cons_zero, List.set_cons_succ, List.getElem?_cons_zero, List.getElem?_cons_succ, List.length_cons, List.length_nil, Option.bind_some, Option.map_some, Option.bind_none, if_true, if_false, meth_ap, own_ap, ownK_s, kMeth_ap, methK_s, opMul_l, fApp_s _ _ hz, fApp_s _ _ hz2, Nat.zero_le])
    obtain ⟨a2, a3, a4, a5, a6, e⟩ := lay_loop o0 xs (i + 1) (acc ++ [.tup [.int (2 * (i : Int) + 1), .int x.f, .int x.r, .int x.c, .bl x.t]] ++ [.tup [.int (2 * (i : Int) + 2), .int (1 - x.f), .int x.r, .int x.c, .bl x.t]]) _ _ _ _ _ (by simp at h ⊢; omega)
    refine ⟨a2, a3, a4, a5, a6, ?_⟩
    rw [List.map_cons, enumD_cons]
    refine (forL_nx ht hb).trans (e.trans ?_)
    rw [layQ, List.append_assoc, List.append_assoc]
    rfl
theorem fExt_s (xs ys : List D) (h : xs.length + ys.length ≤ SZ) : fExtend xs [.lst ys] = some (xs ++ ys, .non) := if_pos h
theorem lay_loop2 (o0 : O) : ∀ (xs : List Q) (i : Nat) (acc : List D) (v2 v3 v4 v5 v6 : Option O), acc.length + 2 * xs.length ≤ 1000 → ∃ v2' v3' v4' v5' v6', forL tgE layB2 (enumD i (xs.map Q.d)) [some o0, some (.ol acc), v2, v3, v4, v5, v6] = .ok .nx [some o0, some (.ol (acc ++ layQ i xs)), v2', v3', v4', v5', v6']
  | [], i, acc, v2, v3, v4, v5, v6, _ => ⟨v2, v3, v4, v5, v6, by rw [layQ, List.append_nil]; rfl⟩
  | x :: xs, i, acc, v2, v3, v4, v5, v6, h => by
    have hz : ∀ y z : D, fExtend acc [.lst [y, z]] = some (acc ++ [y, z], .non) := fun y z => fExt_s _ _ (by have : SZ = 16777216 := rfl; simp at h ⊢; omega)
    have ht : tgE (.tup [.int i, x.d]) [some o0, some (.ol acc), v2, v3, v4, v5, v6] = some [some o0, some (.ol acc), some (.d (.int i)), some (.d (.int x.r)), some (.d (.int x.c)), some (.d (.int x.f)), some (.d (.bl x.t))] := rfl
    have hb : layB2 [some o0, some (.ol acc), some (.d (.int i)), some (.d (.int x.r)), some (.d (.int x.c)), some (.d (.int x.f)), some (.d (.bl x.t))] = .ok .nx [some o0, some (.ol (acc ++ [.tup [.int (2 * (i : Int) + 1), .int x.f, .int x.r, .int x.c, .bl x.t], .tup [.int (2 * (i : Int) + 2), .int (1 - x.f), .int x.r, .int x.c, .bl x.t]])), some (.d (.int i)), some (.d (.int x.r)), some (.d (.int x.c)), some (.d (.int x.f)), some (.d (.bl x.t))] := by
      unfold layB2
      (simp (config := { maxSteps := 1000000, decide := true }) only [PL.bind_ok, PL.bind_err, PL.bind_stuck, PL.Mbind_ap, PL.Mpure_ap, PL.Mmap_ap, PL.Mpair_ap, PL.Mfrz_ap, PL.optR_s, PL.optR_n, PL.mSeq_ap, PL.seqK_nx, PL.seqK_rt, PL.mSet_ap, PL.mIf_ap, PL.mB_ap, PL.tr_bl, PL.mBin_ap, PL.mUn_ap, PL.mCall_ap, PL.op2_ap, PL.op1_ap, PL.opn_ap,
  PL.rsv_sol, PL.rsv_bor, PL.rsvK_s, PL.borK_s, PL.nameK_d, PL.nameK_ol, PL.callDK_s, PL.dkGetK_s, PL.dkPutK_s, PL.view_d, PL.view_ol, PL.rsvs_nil, PL.rsvs_cons, PL.mBor_ap, PL.mName_ap, PL.setFr_ap, PL.mTup_ap, PL.mLst_ap, PL.mTruth_ap, PL.mSel_ap, PL.mCallP_ap, PL.mCallD_ap, PL.kCallD_ap, PL.mDkGet_ap, PL.fnSem_ap, PL.fnEnd_rt, PL.fnEnd_nx, PL.fnEnd_err, PL.argO_none, PL.argO_some, PL.opAdd_i, PL.opSub_i, PL.opMod_i, PL.opFdiv_i, PL.opGe_i, PL.opLt_i, PL.fInt_i, PL.fMax_i, PL.fLen_l, PL.fLen_t, PL.mDkPut_ap, PL.kDkPut_ap, List.map_cons, List.map_nil, List.cons_append, List.nil_append, List.replicate_succ, List.replicate_zero, Nat.reduceSub, Nat.reduceAdd, Nat.reduceLT, Nat.reduceLeDiff, List.set_cons_zero, List.set_cons_succ, List.getElem?_cons_zero, List.getElem?_cons_succ, List.length_cons, List.length_nil, Option.bind_some, Option.map_some, Option.bind_none, if_true, if_false, meth_ap, own_ap, ownK_s, kMeth_ap, methK_s, opMul_l, hz, Nat.zero_le])
    obtain ⟨a2, a3, a4, a5, a6, e⟩ := lay_loop2 o0 xs (i + 1) (acc ++ [.tup [.int (2 * (i : Int) + 1), .int x.f, .int x.r, .int x.c, .bl x.t], .tup [.int (2 * (i : Int) + 2), .int (1 - x.f), .int x.r, .int x.c, .bl x.t]]) _ _ _ _ _ (by simp at h ⊢; omega)
    refine ⟨a2, a3, a4, a5, a6, ?_⟩
    rw [List.map_cons, enumD_cons]
    refine (forL_nx ht hb).trans (e.trans ?_)
    rw [layQ, List.append_assoc]
    rfl
/-- what is computed of the folds F: its bundle, twice -/
structure FoldOk (F : D) (B : List Q) : Prop where
  need : f_need_folds none [F] = .ok (.d .non) none
  bun : f_bundle_of none [F] = .ok (.d (.lst (B.map Q.d))) none
  law : f__law_bundle none [F] = .ok (.d (.tup (B.map Q.d))) none
section
variable {F : D} {B : List Q}
theorem FoldOk.bundle (h : FoldOk F B) : f_bundle none [F] = .ok (.d (.tup (B.map Q.d))) none := by
  have e : fTuple [.lst (B.map Q.d)] = some (.d (.tup (B.map Q.d))) := rfl
  unfold f_bundle m_bundle
  (simp (config := { maxSteps := 1000000, decide := true }) only [PL.bind_ok, PL.bind_err, PL.bind_stuck, PL.Mbind_ap, PL.Mpure_ap, PL.Mmap_ap, PL.Mpair_ap, PL.Mfrz_ap, PL.optR_s, PL.optR_n, PL.mSeq_ap, PL.seqK_nx, PL.seqK_rt, PL.mSet_ap, PL.mIf_ap, PL.mB_ap, PL.tr_bl, PL.mBin_ap, PL.mUn_ap, PL.mCall_ap, PL.op2_ap, PL.op1_ap, PL.opn_ap,
  PL.rsv_sol, PL.rsv_bor, PL.rsvK_s, PL.borK_s, PL.nameK_d, PL.nameK_ol, PL.callDK_s, PL.dkGetK_s, PL.dkPutK_s, PL.view_d, PL.view_ol, PL.rsvs_nil, PL.rsvs_cons, PL.mBor_ap, PL.mName_ap, PL.setFr_ap, PL.mTup_ap, PL.mLst_ap, PL.mTruth_ap, PL.mSel_ap, PL.mCallP_ap, PL.mCallD_ap, PL.kCallD_ap, PL.mDkGet_ap, PL.fnSem_ap, PL.fnEnd_rt, PL.fnEnd_nx, PL.fnEnd_err, PL.argO_none, PL.argO_some, PL.opAdd_i, PL.opSub_i, PL.opMod_i, PL.opFdiv_i, PL.opGe_i, PL.opLt_i, PL.fInt_i, PL.fMax_i, PL.fLen_l, PL.fLen_t, PL.mDkPut_ap, PL.kDkPut_ap, List.map_cons, List.map_nil, List.cons_append, List.nil_append, List.replicate_succ, List.replicate_zero, Nat.reduceSub, Nat.reduceAdd, Nat.reduceLT, Nat.reduceLeDiff, List.set_cons_zero, List.set_cons_succ, List.getElem?_cons_zero, List.getElem?_cons_succ, List.length_cons, List.length_nil, Option.bind_some, Option.map_some, Option.bind_none, if_true, if_false, h.need, h.bun, e])
theorem FoldOk.layout_of (h : FoldOk F B) (hl : B.length ≤ 100) : f_layout_of none [F] = .ok (.d (.lst (layQ 0 B))) none := by
  obtain ⟨a2, a3, a4, a5, a6, e⟩ := lay_loop (.d F) B 0 [] none none none none none (by simp; omega)
  have e1 : fEnum [.lst (B.map Q.d)] = some (enumD 0 (B.map Q.d)) := rfl
  unfold tgE layB at e
  unfold f_layout_of m_layout_of
  (simp (config := { maxSteps := 1000000, decide := true }) only [PL.bind_ok, PL.bind_err, PL.bind_stuck, PL.Mbind_ap, PL.Mpure_ap, PL.Mmap_ap, PL.Mpair_ap, PL.Mfrz_ap, PL.optR_s, PL.optR_n, PL.mSeq_ap, PL.seqK_nx, PL.seqK_rt, PL.mSet_ap, PL.mIf_ap, PL.mB_ap, PL.tr_bl, PL.mBin_ap, PL.mUn_ap, PL.mCall_ap, PL.op2_ap, PL.op1_ap, PL.opn_ap,
  PL.rsv_sol, PL.rsv_bor, PL.rsvK_s, PL.borK_s, PL.nameK_d, PL.nameK_ol, PL.callDK_s, PL.dkGetK_s, PL.dkPutK_s, PL.view_d, PL.view_ol, PL.rsvs_nil, PL.rsvs_cons, PL.mBor_ap, PL.mName_ap, PL.setFr_ap, PL.mTup_ap, PL.mLst_ap, PL.mTruth_ap, PL.mSel_ap, PL.mCallP_ap, PL.mCallD_ap, PL.kCallD_ap, PL.mDkGet_ap, PL.fnSem_ap, PL.fnEnd_rt, PL.fnEnd_nx, PL.fnEnd_err, PL.argO_none, PL.argO_some, PL.opAdd_i, PL.opSub_i, PL.opMod_i, PL.opFdiv_i, PL.opGe_i, PL.opLt_i, PL.fInt_i, PL.fMax_i, PL.fLen_l, PL.fLen_t, PL.mDkPut_ap, PL.kDkPut_ap, List.map_cons, List.map_nil, List.cons_append, List.nil_append, List.replicate_succ, List.replicate_zero, Nat.reduceSub, Nat.reduceAdd, Nat.reduceLT, Nat.reduceLeDiff, List.set_cons_zero, List.set_cons_succ, List.getElem?_cons_zero, List.getElem?_cons_succ, List.length_cons, List.length_nil, Option.bind_some, Option.map_some, Option.bind_none, if_true, if_false, h.bun, e1, walk_ap, mFor_ap, e, List.nil_append, Nat.zero_le])
theorem FoldOk.layout (h : FoldOk F B) (hl : B.length ≤ 100) : f_layout none [F] = .ok (.d (.tup (layQ 0 B))) none := by
  have e : fTuple [.lst (layQ 0 B)] = some (.d (.tup (layQ 0 B))) := rfl
  unfold f_layout m_layout
  (simp (config := { maxSteps := 1000000, decide := true }) only [PL.bind_ok, PL.bind_err, PL.bind_stuck, PL.Mbind_ap, PL.Mpure_ap, PL.Mmap_ap, PL.Mpair_ap, PL.Mfrz_ap, PL.optR_s, PL.optR_n, PL.mSeq_ap, PL.seqK_nx, PL.seqK_rt, PL.mSet_ap, PL.mIf_ap, PL.mB_ap, PL.tr_bl, PL.mBin_ap, PL.mUn_ap, PL.mCall_ap, PL.op2_ap, PL.op1_ap, PL.opn_ap,
  PL.rsv_sol, PL.rsv_bor, PL.rsvK_s, PL.borK_s, PL.nameK_d, PL.nameK_ol, PL.callDK_s, PL.dkGetK_s, PL.dkPutK_s, PL.view_d, PL.view_ol, PL.rsvs_nil, PL.rsvs_cons, PL.mBor_ap, PL.mName_ap, PL.setFr_ap, PL.mTup_ap, PL.mLst_ap, PL.mTruth_ap, PL.mSel_ap, PL.mCallP_ap, PL.mCallD_ap, PL.kCallD_ap, PL.mDkGet_ap, PL.fnSem_ap, PL.fnEnd_rt, PL.fnEnd_nx, PL.fnEnd_err, PL.argO_none, PL.argO_some, PL.opAdd_i, PL.opSub_i, PL.opMod_i, PL.opFdiv_i, PL.opGe_i, PL.opLt_i, PL.fInt_i, PL.fMax_i, PL.fLen_l, PL.fLen_t, PL.mDkPut_ap, PL.kDkPut_ap, List.map_cons, List.map_nil, List.cons_append, List.nil_append, List.replicate_succ, List.replicate_zero, Nat.reduceSub, Nat.reduceAdd, Nat.reduceLT, Nat.reduceLeDiff, List.set_cons_zero, List.set_cons_succ, List.getElem?_cons_zero, List.getElem?_cons_succ, List.length_cons, List.length_nil, Option.bind_some, Option.map_some, Option.bind_none, if_true, if_false, h.need, h.layout_of hl, e])
theorem FoldOk.law_layout (h : FoldOk F B) (hl : B.length ≤ 100) : f__law_layout none [F] = .ok (.d (.tup (layQ 0 B))) none := by
  obtain ⟨a2, a3, a4, a5, a6, e⟩ := lay_loop2 (.d F) B 0 [] none none none none none (by simp; omega)
  have e1 : fEnum [.tup (B.map Q.d)] = some (enumD 0 (B.map Q.d)) := rfl
  have e2 : fTuple [.lst (layQ 0 B)] = some (.d (.tup (layQ 0 B))) := rfl
  unfold tgE layB2 at e
  unfold f__law_layout m__law_layout
  (simp (config := { maxSteps := 1000000, decide := true }) only [PL.bind_ok, PL.bind_err, PL.bind_stuck, PL.Mbind_ap, PL.Mpure_ap, PL.Mmap_ap, PL.Mpair_ap, PL.Mfrz_ap, PL.optR_s, PL.optR_n, PL.mSeq_ap, PL.seqK_nx, PL.seqK_rt, PL.mSet_ap, PL.mIf_ap, PL.mB_ap, PL.tr_bl, PL.mBin_ap, PL.mUn_ap, PL.mCall_ap, PL.op2_ap, PL.op1_ap, PL.opn_ap,
  PL.rsv_sol, PL.rsv_bor, PL.rsvK_s, PL.borK_s, PL.nameK_d, PL.nameK_ol, PL.callDK_s, PL.dkGetK_s, PL.dkPutK_s, PL.view_d, PL.view_ol, PL.rsvs_nil, PL.rsvs_cons, PL.mBor_ap, PL.mName_ap, PL.setFr_ap, PL.mTup_ap, PL.mLst_ap, PL.mTruth_ap, PL.mSel_ap, PL.mCallP_ap, PL.mCallD_ap, PL.kCallD_ap, PL.mDkGet_ap, PL.fnSem_ap, PL.fnEnd_rt, PL.fnEnd_nx, PL.fnEnd_err, PL.argO_none, PL.argO_some, PL.opAdd_i, PL.opSub_i, PL.opMod_i, PL.opFdiv_i, PL.opGe_i, PL.opLt_i, PL.fInt_i, PL.fMax_i, PL.fLen_l, PL.fLen_t, PL.mDkPut_ap, PL.kDkPut_ap, List.map_cons, List.map_nil, List.cons_append, List.nil_append, List.replicate_succ, List.replicate_zero, Nat.reduceSub, Nat.reduceAdd, Nat.reduceLT, Nat.reduceLeDiff, List.set_cons_zero, List.set_cons_succ, List.getElem?_cons_zero, List.getElem?_cons_succ, List.length_cons, List.length_nil, Option.bind_some, Option.map_some, Option.bind_none, if_true, if_false, h.law, e1, e2, walk_ap, mFor_ap, e, List.nil_append, Nat.zero_le])
end
end K27
end
section
set_option Elab.async false
set_option maxRecDepth 100000
set_option linter.all false
set_option maxHeartbeats 1000000
/-! PL29: a mirror is run statement by statement. -/
namespace PL
open PySem PySem.Spec PyProof.Rows L2
section
variable {Γ Γ1 : Fr} {m r : M Fl} {o : O} {Y : Res Fl}
theorem seq_nx (h : m Γ = .ok .nx Γ1) : mSeq m r Γ = r Γ1 := by
  rw [mSeq_ap, h]
  rfl
theorem seq_go (h : m Γ = .ok .nx Γ1) (h2 : r Γ1 = Y) : mSeq m r Γ = Y := (seq_nx h).trans h2
theorem seq_rt (h : m Γ = .ok (.rt o) Γ1) : mSeq m r Γ = .ok (.rt o) Γ1 := by
  rw [mSeq_ap, h]
  rfl
theorem fn_rt {n : Nat} {ds : List D} {Γ0 : Fr} (h0 : ds.map (fun d => some (O.d d)) ++ List.replicate (n - ds.length) none = Γ0) (h : ∃ Γ1, m Γ0 = .ok (.rt o) Γ1) : fnSem n m none ds = .ok o none := by
  obtain ⟨Γ1, h⟩ := h
  have e : (argO none ds).map some ++ List.replicate (n - (argO none ds).length) none = Γ0 := by
    rw [argO_none, List.map_map, List.length_map]
    exact h0
  rw [fnSem_ap, e, h]
  rfl
end
end PL
end
section
set_option Elab.async false
set_option linter.all false
set_option maxRecDepth 100000
set_option maxHeartbeats 4000000
/-! K27f: one choice of folds is right. -/
namespace K27
open PySem PySem.Spec PyProof.Rows L2 PL
def twL (n : Nat) : List D := (List.range (n / 2)).map fun k : Nat => .tup [.int (k : Int), .int ((n : Int) - 1 - (k : Int))]
def frC : M O := (mComp [8] (mRange fRange1 (M.map (fun p => p.1 :: p.2) (M.pair (M.map Opd.sol (mBin opFdiv (mBor 6) (M.map (fun x => .sol (.d x)) (M.pure (.int 2))))) (M.pure [])))) (gN 8) (M.pure true) (mTup (M.map (fun p => p.1 :: p.2) (M.pair (mName 8) (M.map (fun p => p.1 :: p.2) (M.pair (M.frz (mBin opSub (M.map Opd.sol (mBin opSub (mBor 6) (M.map (fun x => .sol (.d x)) (M.pure (.int 1))))) (mBor 8))) (M.pure [])))))))
theorem frC2 (o0 o1 o2 o3 o4 o5 : Option O) : frC [o0, o1, o2, o3, o4, o5, some (.d (.int 2)), none, none] = .ok (.ol (twL 2)) [o0, o1, o2, o3, o4, o5, some (.d (.int 2)), none, none] := by kernel_rfl
theorem frC4 (o0 o1 o2 o3 o4 o5 : Option O) : frC [o0, o1, o2, o3, o4, o5, some (.d (.int 4)), none, none] = .ok (.ol (twL 4)) [o0, o1, o2, o3, o4, o5, some (.d (.int 4)), none, none] := by kernel_rfl
theorem frC8 (o0 o1 o2 o3 o4 o5 : Option O) : frC [o0, o1, o2, o3, o4, o5, some (.d (.int 8)), none, none] = .ok (.ol (twL 8)) [o0, o1, o2, o3, o4, o5, some (.d (.int 8)), none, none] := by kernel_rfl
theorem frC16 (o0 o1 o2 o3 o4 o5 : Option O) : frC [o0, o1, o2, o3, o4, o5, some (.d (.int 16)), none, none] = .ok (.ol (twL 16)) [o0, o1, o2, o3, o4, o5, some (.d (.int 16)), none, none] := by kernel_rfl
def restT : M Fl := (mSeq (mSet 3 (mCall fLen (M.map (fun p => p.1 :: p.2) (M.pair (mBor 1) (M.pure [])))))
  (mSeq (mIf (mIf (mB (mBin opNe (M.map Opd.sol (mCall fLenDict (M.map (fun p => p.1 :: p.2) (M.pair (M.map Opd.sol (mComp [4] (mItems (mName 2)) (gN 4) (M.pure true) (mTup (M.map (fun p => p.1 :: p.2) (M.pair (M.frz (mSlice opSl (mBor 4) (mInt (M.map (fun x => .sol (.d x)) (M.pure (.int 1)))) (mInt (M.map (fun x => .sol (.d x)) (M.pure (.int 4)))))) (M.map (fun p => p.1 :: p.2) (M.pair (M.frz (mBin opIx (mBor 4) (M.map (fun x => .sol (.d x)) (M.pure (.int 0))))) (M.pure [])))))))) (M.pure []))))) (M.map Opd.sol (mBin opMul (M.map (fun x => .sol (.d x)) (M.pure (.int 2))) (mBor 3))))) (M.pure true) (mB (mBin opNe (M.map Opd.sol (mCall fLen (M.map (fun p => p.1 :: p.2) (M.pair (mBor 2) (M.pure []))))) (M.map Opd.sol (mBin opMul (M.map (fun x => .sol (.d x)) (M.pure (.int 2))) (mBor 3)))))) (mSeq (M.map Fl.rt (M.map O.d (M.pure (.bl false))))
  (M.pure .nx)) (M.pure .nx))
  (mSeq (mFor (mRange fRange1 (M.map (fun p => p.1 :: p.2) (M.pair (M.map Opd.sol (mBin opFdiv (mBor 3) (M.map (fun x => .sol (.d x)) (M.pure (.int 2))))) (M.pure [])))) (gN 5) (mSeq (mPar 6 7 (mBin opIx (mBor 1) (mBor 5)) (mBin opIx (mBor 1) (M.map Opd.sol (mBin opSub (M.map Opd.sol (mBin opSub (mBor 3) (M.map (fun x => .sol (.d x)) (M.pure (.int 1))))) (mBor 5)))))
  (mSeq (mIf (mIf (mB (mBin opNe (M.map Opd.sol (mBin opIx (mBor 6) (M.map (fun x => .sol (.d x)) (M.pure (.int 0))))) (M.map Opd.sol (mBin opIx (mBor 7) (M.map (fun x => .sol (.d x)) (M.pure (.int 0))))))) (M.pure true) (mIf (mB (mBin opNe (M.map Opd.sol (mCall fAbs (M.map (fun p => p.1 :: p.2) (M.pair (M.map Opd.sol (mBin opSub (M.map Opd.sol (mBin opIx (mBor 6) (M.map (fun x => .sol (.d x)) (M.pure (.int 1))))) (M.map Opd.sol (mBin opIx (mBor 7) (M.map (fun x => .sol (.d x)) (M.pure (.int 1))))))) (M.pure []))))) (M.map (fun x => .sol (.d x)) (M.pure (.int 1))))) (M.pure true) (mIf (mB (mBin opEq (M.map Opd.sol (mBin opIx (mBor 6) (M.map (fun x => .sol (.d x)) (M.pure (.int 2))))) (M.map Opd.sol (mBin opIx (mBor 7) (M.map (fun x => .sol (.d x)) (M.pure (.int 2))))))) (M.pure true) (mB (mBin opNe (M.map Opd.sol (mBin opIx (mBor 6) (M.map (fun x => .sol (.d x)) (M.pure (.int 3))))) (M.map Opd.sol (mBin opIx (mBor 7) (M.map (fun x => .sol (.d x)) (M.pure (.int 3)))))))))) (mSeq (M.map Fl.rt (M.map O.d (M.pure (.bl false))))
  (M.pure .nx)) (M.pure .nx))
  (M.pure .nx))))
  (mSeq (mPar 8 9 (mBin opIx (mBor 1) (M.map (fun x => .sol (.d x)) (M.pure (.int 0)))) (mBin opIx (mBor 1) (M.map Opd.sol (mBin opSub (mBor 3) (M.map (fun x => .sol (.d x)) (M.pure (.int 1)))))))
  (mSeq (mSet 10 (mIf (M.map (!·) (mTruth (M.map Opd.sol (mBin opIx (mBor 8) (M.map (fun x => .sol (.d x)) (M.pure (.int 3))))))) (mBin opNe (M.map Opd.sol (mBin opLt (M.map Opd.sol (mBin opIx (mBor 9) (M.map (fun x => .sol (.d x)) (M.pure (.int 1))))) (M.map Opd.sol (mBin opIx (mBor 8) (M.map (fun x => .sol (.d x)) (M.pure (.int 1))))))) (M.map Opd.sol (mBin opEq (M.map Opd.sol (mBin opIx (mBor 8) (M.map (fun x => .sol (.d x)) (M.pure (.int 2))))) (M.map (fun x => .sol (.d x)) (M.pure (.int 1)))))) (mBin opNe (M.map Opd.sol (mBin opGt (M.map Opd.sol (mBin opIx (mBor 9) (M.map (fun x => .sol (.d x)) (M.pure (.int 1))))) (M.map Opd.sol (mBin opIx (mBor 8) (M.map (fun x => .sol (.d x)) (M.pure (.int 1))))))) (M.map Opd.sol (mBin opEq (M.map Opd.sol (mBin opIx (mBor 8) (M.map (fun x => .sol (.d x)) (M.pure (.int 2))))) (M.map (fun x => .sol (.d x)) (M.pure (.int 1))))))))
  (mSeq (M.map Fl.rt (mBin opEq (mBor 10) (M.map Opd.sol (mBin opEq (M.map Opd.sol (mBin opIx (mBor 0) (M.map Opd.sol (mUn opNeg (M.map (fun x => .sol (.d x)) (M.pure (.int 1))))))) (M.map (fun x => .sol (.d x)) (M.pure (.str "left")))))))
  (M.pure .nx)))))))
/-- what more is computed of the folds F -/
structure FoldOk2 (F : D) (B : List Q) (S : D) : Prop where
  ok : FoldOk F B
  spine : f_spine none [F] = .ok (.d S) none
  ix : opIx F (.int (-1)) = some (.d S)
  tw : f_twins none [F] = .ok (.d (.tup (twL B.length))) none
  same : okN (.lst [.tup (B.map Q.d), .tup (layQ 0 B), S, .tup (twL B.length)]) = some 3
  len : B.length = 2 ∨ B.length = 4 ∨ B.length = 8 ∨ B.length = 16
  rest : fnEnd none (restT [some (.d F), some (.d (.tup (B.map Q.d))), some (.d (.tup (layQ 0 B))), none, none, none, none, none, none, none, none]) = .ok (.d (.bl true)) none
theorem callK0_ap {Γ : Fr} (n nk : Nat) (g : List Nat) (f : FSem) (m : M (List D)) : mCallK0 n nk g f m Γ = (m Γ).bind fun zs Γ1 => kCallK n nk g f ([], zs) Γ1 := rfl
theorem kCallK_1 {Γ : Fr} (f : FSem) (x : D) : kCallK 1 1 [0] f ([], [x]) Γ = match f none [x] with
  | .ok o none => .ok o Γ
  | .err y d none => .err y d Γ
  | _ => .stuck := rfl
section
variable {F S : D} {B : List Q}
theorem FoldOk2.frc (h : FoldOk2 F B S) (o0 o1 o2 o3 o4 o5 : Option O) : frC [o0, o1, o2, o3, o4, o5, some (.d (.int (B.length : Int))), none, none] = .ok (.ol (twL B.length)) [o0, o1, o2, o3, o4, o5, some (.d (.int (B.length : Int))), none, none] := by
  rcases h.len with e | e | e | e <;> rw [e]
  · exact frC2 ..
  · exact frC4 ..
  · exact frC8 ..
  · exact frC16 ..
theorem FoldOk2.right (h : FoldOk2 F B S) (b : Bool) : f__law_is_folded_right none [F, .bl b] = .ok (.d (.bl true)) none := by
  have hl : B.length ≤ 100 := by rcases h.len with e | e | e | e <;> omega
  have e1 := h.ok.bundle
  have e2 := h.ok.layout hl
  have e3 := h.ok.law_layout hl
  have e4 := same_refl 11 _ 3 h.same (by decide)
  have e5 := h.frc
  have e6 : ∀ xs ys : List D, xs.length = 2 → ys.length = 2 → opAdd (.lst xs) (.lst ys) = some (.ol (xs ++ ys)) := fun xs ys h1 h2 => if_pos (by rw [h1, h2]; decide)
  have e7 : ∀ x y z w : D, opAdd (.lst [x, y]) (.lst [z, w]) = some (.ol [x, y, z, w]) := fun _ _ _ _ => rfl
  have e9 : fTuple [.lst (twL B.length)] = some (.d (.tup (twL B.length))) := rfl
  have e8 : opNeg (.int 1) = some (.d (.int (-1))) := rfl
  have e10 : f__law_same 12 none [.lst [.tup (B.map Q.d), .tup (layQ 0 B), S, .tup (twL B.length)], .lst [.tup (B.map Q.d), .tup (layQ 0 B), S, .tup (twL B.length)]] = .ok (.d (.bl true)) none := e4
  unfold frC at e5
  unfold f__law_is_folded_right m__law_is_folded_right
  refine fn_rt (Γ0 := [some (.d F), some (.d (.bl b)), none, none, none, none, none, none, none]) rfl ⟨[some (.d F), some (.d (.bl b)), some (.d (.tup (B.map Q.d))), some (.d (.tup (layQ 0 B))), some (.ol [.tup (B.map Q.d), .tup (layQ 0 B)]), some (.d S), some (.d (.int B.length)), some (.d (.tup (twL B.length))), none], ?_⟩
  refine seq_go (Γ1 := [some (.d F), some (.d (.bl b)), some (.d (.tup (B.map Q.d))), some (.d (.tup (layQ 0 B))), none, none, none, none, none]) (by (simp (config := { maxSteps := 1000000, decide := true }) only [PL.bind_ok, PL.bind_err, PL.bind_stuck, PL.Mbind_ap, PL.Mpure_ap, PL.Mmap_ap, PL.Mpair_ap, PL.Mfrz_ap, PL.optR_s, PL.optR_n, PL.mSeq_ap, PL.seqK_nx, PL.seqK_rt, PL.mSet_ap, PL.mIf_ap, PL.mB_ap, PL.tr_bl, PL.mBin_ap, PL.mUn_ap, PL.mCall_ap, PL.op2_ap, PL.op1_ap, PL.opn_ap,
  PL.rsv_sol, PL.rsv_bor, PL.rsvK_s, PL.borK_s, PL.nameK_d, PL.nameK_ol, PL.callDK_s, PL.dkGetK_s, PL.dkPutK_s, PL.view_d, PL.view_ol, PL.rsvs_nil, PL.rsvs_cons, PL.mBor_ap, PL.mName_ap, PL.setFr_ap, PL.mTup_ap, PL.mLst_ap, PL.mTruth_ap, PL.mSel_ap, PL.mCallP_ap, PL.mCallD_ap, PL.kCallD_ap, PL.mDkGet_ap, PL.fnSem_ap, PL.fnEnd_rt, PL.fnEnd_nx, PL.fnEnd_err, PL.argO_none, PL.argO_some, PL.opAdd_i, PL.opSub_i, PL.opMod_i, PL.opFdiv_i, PL.opGe_i, PL.opLt_i, PL.fInt_i, PL.fMax_i, PL.fLen_l, PL.fLen_t, PL.mDkPut_ap, PL.kDkPut_ap, List.map_cons, List.map_nil, List.cons_append, List.nil_append, List.replicate_succ, List.replicate_zero, Nat.reduceSub, Nat.reduceAdd, Nat.reduceLT, Nat.reduceLeDiff, List.set_cons_zero, List.set_cons_succ, List.getElem?_cons_zero, List.getElem?_cons_succ, List.length_cons, List.length_nil, Option.bind_some, Option.map_some, Option.bind_none, if_true, if_false, mPar_ap, h.ok.law, e3])) ?_
  refine seq_go (Γ1 := [some (.d F), some (.d (.bl b)), some (.d (.tup (B.map Q.d))), some (.d (.tup (layQ 0 B))), some (.ol [.tup (B.map Q.d), .tup (layQ 0 B)]), none, none, none, none]) (by
    cases b
    · (simp (config := { maxSteps := 1000000, decide := true }) only [PL.bind_ok, PL.bind_err, PL.bind_stuck, PL.Mbind_ap, PL.Mpure_ap, PL.Mmap_ap, PL.Mpair_ap, PL.Mfrz_ap, PL.optR_s, PL.optR_n, PL.mSeq_ap, PL.seqK_nx, PL.seqK_rt, PL.mSet_ap, PL.mIf_ap, PL.mB_ap, PL.tr_bl, PL.mBin_ap, PL.mUn_ap, PL.mCall_ap, PL.op2_ap, PL.op1_ap, PL.opn_ap,
  PL.rsv_sol, PL.rsv_bor, PL.rsvK_s, PL.borK_s, PL.nameK_d, PL.nameK_ol, PL.callDK_s, PL.dkGetK_s, PL.dkPutK_s, PL.view_d, PL.view_ol, PL.rsvs_nil, PL.rsvs_cons, PL.mBor_ap, PL.mName_ap, PL.setFr_ap, PL.mTup_ap, PL.mLst_ap, PL.mTruth_ap, PL.mSel_ap, PL.mCallP_ap, PL.mCallD_ap, PL.kCallD_ap, PL.mDkGet_ap, PL.fnSem_ap, PL.fnEnd_rt, PL.fnEnd_nx, PL.fnEnd_err, PL.argO_none, PL.argO_some, PL.opAdd_i, PL.opSub_i, PL.opMod_i, PL.opFdiv_i, PL.opGe_i, PL.opLt_i, PL.fInt_i, PL.fMax_i, PL.fLen_l, PL.fLen_t, PL.mDkPut_ap, PL.kDkPut_ap, List.map_cons, List.map_nil, List.cons_append, List.nil_append, List.replicate_succ, List.replicate_zero, Nat.reduceSub, Nat.reduceAdd, Nat.reduceLT, Nat.reduceLeDiff, List.set_cons_zero, List.set_cons_succ, List.getElem?_cons_zero, List.getElem?_cons_succ, List.length_cons, List.length_nil, Option.bind_some, Option.map_some, Option.bind_none, if_true, if_false, e1, e2, truthD, callK0_ap, kCallK_1, Bool.false_eq_true])
    · (simp (config := { maxSteps := 1000000, decide := true }) only [PL.bind_ok, PL.bind_err, PL.bind_stuck, PL.Mbind_ap, PL.Mpure_ap, PL.Mmap_ap, PL.Mpair_ap, PL.Mfrz_ap, PL.optR_s, PL.optR_n, PL.mSeq_ap, PL.seqK_nx, PL.seqK_rt, PL.mSet_ap, PL.mIf_ap, PL.mB_ap, PL.tr_bl, PL.mBin_ap, PL.mUn_ap, PL.mCall_ap, PL.op2_ap, PL.op1_ap, PL.opn_ap,
  PL.rsv_sol, PL.rsv_bor, PL.rsvK_s, PL.borK_s, PL.nameK_d, PL.nameK_ol, PL.callDK_s, PL.dkGetK_s, PL.dkPutK_s, PL.view_d, PL.view_ol, PL.rsvs_nil, PL.rsvs_cons, PL.mBor_ap, PL.mName_ap, PL.setFr_ap, PL.mTup_ap, PL.mLst_ap, PL.mTruth_ap, PL.mSel_ap, PL.mCallP_ap, PL.mCallD_ap, PL.kCallD_ap, PL.mDkGet_ap, PL.fnSem_ap, PL.fnEnd_rt, PL.fnEnd_nx, PL.fnEnd_err, PL.argO_none, PL.argO_some, PL.opAdd_i, PL.opSub_i, PL.opMod_i, PL.opFdiv_i, PL.opGe_i, PL.opLt_i, PL.fInt_i, PL.fMax_i, PL.fLen_l, PL.fLen_t, PL.mDkPut_ap, PL.kDkPut_ap, List.map_cons, List.map_nil, List.cons_append, List.nil_append, List.replicate_succ, List.replicate_zero, Nat.reduceSub, Nat.reduceAdd, Nat.reduceLT, Nat.reduceLeDiff, List.set_cons_zero, List.set_cons_succ, List.getElem?_cons_zero, List.getElem?_cons_succ, List.length_cons, List.length_nil, Option.bind_some, Option.map_some, Option.bind_none, if_true, if_false, e1, e2, truthD, callK0_ap, kCallK_1])) ?_
  refine seq_go (Γ1 := [some (.d F), some (.d (.bl b)), some (.d (.tup (B.map Q.d))), some (.d (.tup (layQ 0 B))), some (.ol [.tup (B.map Q.d), .tup (layQ 0 B)]), some (.d S), none, none, none]) (by
    cases b
    · (simp (config := { maxSteps := 1000000, decide := true }) only [PL.bind_ok, PL.bind_err, PL.bind_stuck, PL.Mbind_ap, PL.Mpure_ap, PL.Mmap_ap, PL.Mpair_ap, PL.Mfrz_ap, PL.optR_s, PL.optR_n, PL.mSeq_ap, PL.seqK_nx, PL.seqK_rt, PL.mSet_ap, PL.mIf_ap, PL.mB_ap, PL.tr_bl, PL.mBin_ap, PL.mUn_ap, PL.mCall_ap, PL.op2_ap, PL.op1_ap, PL.opn_ap,
  PL.rsv_sol, PL.rsv_bor, PL.rsvK_s, PL.borK_s, PL.nameK_d, PL.nameK_ol, PL.callDK_s, PL.dkGetK_s, PL.dkPutK_s, PL.view_d, PL.view_ol, PL.rsvs_nil, PL.rsvs_cons, PL.mBor_ap, PL.mName_ap, PL.setFr_ap, PL.mTup_ap, PL.mLst_ap, PL.mTruth_ap, PL.mSel_ap, PL.mCallP_ap, PL.mCallD_ap, PL.kCallD_ap, PL.mDkGet_ap, PL.fnSem_ap, PL.fnEnd_rt, PL.fnEnd_nx, PL.fnEnd_err, PL.argO_none, PL.argO_some, PL.opAdd_i, PL.opSub_i, PL.opMod_i, PL.opFdiv_i, PL.opGe_i, PL.opLt_i, PL.fInt_i, PL.fMax_i, PL.fLen_l, PL.fLen_t, PL.mDkPut_ap, PL.kDkPut_ap, List.map_cons, List.map_nil, List.cons_append, List.nil_append, List.replicate_succ, List.replicate_zero, Nat.reduceSub, Nat.reduceAdd, Nat.reduceLT, Nat.reduceLeDiff, List.set_cons_zero, List.set_cons_succ, List.getElem?_cons_zero, List.getElem?_cons_succ, List.length_cons, List.length_nil, Option.bind_some, Option.map_some, Option.bind_none, if_true, if_false, truthD, callK0_ap, kCallK_1, h.spine, Bool.false_eq_true])
    · (simp (config := { maxSteps := 1000000, decide := true }) only [PL.bind_ok, PL.bind_err, PL.bind_stuck, PL.Mbind_ap, PL.Mpure_ap, PL.Mmap_ap, PL.Mpair_ap, PL.Mfrz_ap, PL.optR_s, PL.optR_n, PL.mSeq_ap, PL.seqK_nx, PL.seqK_rt, PL.mSet_ap, PL.mIf_ap, PL.mB_ap, PL.tr_bl, PL.mBin_ap, PL.mUn_ap, PL.mCall_ap, PL.op2_ap, PL.op1_ap, PL.opn_ap,
  PL.rsv_sol, PL.rsv_bor, PL.rsvK_s, PL.borK_s, PL.nameK_d, PL.nameK_ol, PL.callDK_s, PL.dkGetK_s, PL.dkPutK_s, PL.view_d, PL.view_ol, PL.rsvs_nil, PL.rsvs_cons, PL.mBor_ap, PL.mName_ap, PL.setFr_ap, PL.mTup_ap, PL.mLst_ap, PL.mTruth_ap, PL.mSel_ap, PL.mCallP_ap, PL.mCallD_ap, PL.kCallD_ap, PL.mDkGet_ap, PL.fnSem_ap, PL.fnEnd_rt, PL.fnEnd_nx, PL.fnEnd_err, PL.argO_none, PL.argO_some, PL.opAdd_i, PL.opSub_i, PL.opMod_i, PL.opFdiv_i, PL.opGe_i, PL.opLt_i, PL.fInt_i, PL.fMax_i, PL.fLen_l, PL.fLen_t, PL.mDkPut_ap, PL.kDkPut_ap, List.map_cons, List.map_nil, List.cons_append, List.nil_append, List.replicate_succ, List.replicate_zero, Nat.reduceSub, Nat.reduceAdd, Nat.reduceLT, Nat.reduceLeDiff, List.set_cons_zero, List.set_cons_succ, List.getElem?_cons_zero, List.getElem?_cons_succ, List.length_cons, List.length_nil, Option.bind_some, Option.map_some, Option.bind_none, if_true, if_false, truthD, callK0_ap, kCallK_1, h.spine])) ?_
  refine seq_go (Γ1 := [some (.d F), some (.d (.bl b)), some (.d (.tup (B.map Q.d))), some (.d (.tup (layQ 0 B))), some (.ol [.tup (B.map Q.d), .tup (layQ 0 B)]), some (.d S), some (.d (.int B.length)), none, none]) (by
    (simp (config := { maxSteps := 1000000, decide := true }) only [PL.bind_ok, PL.bind_err, PL.bind_stuck, PL.Mbind_ap, PL.Mpure_ap, PL.Mmap_ap, PL.Mpair_ap, PL.Mfrz_ap, PL.optR_s, PL.optR_n, PL.mSeq_ap, PL.seqK_nx, PL.seqK_rt, PL.mSet_ap, PL.mIf_ap, PL.mB_ap, PL.tr_bl, PL.mBin_ap, PL.mUn_ap, PL.mCall_ap, PL.op2_ap, PL.op1_ap, PL.opn_ap,
  PL.rsv_sol, PL.rsv_bor, PL.rsvK_s, PL.borK_s, PL.nameK_d, PL.nameK_ol, PL.callDK_s, PL.dkGetK_s, PL.dkPutK_s, PL.view_d, PL.view_ol, PL.rsvs_nil, PL.rsvs_cons, PL.mBor_ap, PL.mName_ap, PL.setFr_ap, PL.mTup_ap, PL.mLst_ap, PL.mTruth_ap, PL.mSel_ap, PL.mCallP_ap, PL.mCallD_ap, PL.kCallD_ap, PL.mDkGet_ap, PL.fnSem_ap, PL.fnEnd_rt, PL.fnEnd_nx, PL.fnEnd_err, PL.argO_none, PL.argO_some, PL.opAdd_i, PL.opSub_i, PL.opMod_i, PL.opFdiv_i, PL.opGe_i, PL.opLt_i, PL.fInt_i, PL.fMax_i, PL.fLen_l, PL.fLen_t, PL.mDkPut_ap, PL.kDkPut_ap, List.map_cons, List.map_nil, List.cons_append, List.nil_append, List.replicate_succ, List.replicate_zero, Nat.reduceSub, Nat.reduceAdd, Nat.reduceLT, Nat.reduceLeDiff, List.set_cons_zero, List.set_cons_succ, List.getElem?_cons_zero, List.getElem?_cons_succ, List.length_cons, List.length_nil, Option.bind_some, Option.map_some, Option.bind_none, if_true, if_false, List.length_map])) ?_
  refine seq_go (Γ1 := [some (.d F), some (.d (.bl b)), some (.d (.tup (B.map Q.d))), some (.d (.tup (layQ 0 B))), some (.ol [.tup (B.map Q.d), .tup (layQ 0 B)]), some (.d S), some (.d (.int B.length)), some (.d (.tup (twL B.length))), none]) (by
    (simp (config := { maxSteps := 1000000, decide := true }) only [PL.bind_ok, PL.bind_err, PL.bind_stuck, PL.Mbind_ap, PL.Mpure_ap, PL.Mmap_ap, PL.Mpair_ap, PL.Mfrz_ap, PL.optR_s, PL.optR_n, PL.mSeq_ap, PL.seqK_nx, PL.seqK_rt, PL.mSet_ap, PL.mIf_ap, PL.mB_ap, PL.tr_bl, PL.mBin_ap, PL.mUn_ap, PL.mCall_ap, PL.op2_ap, PL.op1_ap, PL.opn_ap,
  PL.rsv_sol, PL.rsv_bor, PL.rsvK_s, PL.borK_s, PL.nameK_d, PL.nameK_ol, PL.callDK_s, PL.dkGetK_s, PL.dkPutK_s, PL.view_d, PL.view_ol, PL.rsvs_nil, PL.rsvs_cons, PL.mBor_ap, PL.mName_ap, PL.setFr_ap, PL.mTup_ap, PL.mLst_ap, PL.mTruth_ap, PL.mSel_ap, PL.mCallP_ap, PL.mCallD_ap, PL.kCallD_ap, PL.mDkGet_ap, PL.fnSem_ap, PL.fnEnd_rt, PL.fnEnd_nx, PL.fnEnd_err, PL.argO_none, PL.argO_some, PL.opAdd_i, PL.opSub_i, PL.opMod_i, PL.opFdiv_i, PL.opGe_i, PL.opLt_i, PL.fInt_i, PL.fMax_i, PL.fLen_l, PL.fLen_t, PL.mDkPut_ap, PL.kDkPut_ap, List.map_cons, List.map_nil, List.cons_append, List.nil_append, List.replicate_succ, List.replicate_zero, Nat.reduceSub, Nat.reduceAdd, Nat.reduceLT, Nat.reduceLeDiff, List.set_cons_zero, List.set_cons_succ, List.getElem?_cons_zero, List.getElem?_cons_succ, List.length_cons, List.length_nil, Option.bind_some, Option.map_some, Option.bind_none, if_true, if_false, e5, e9])) ?_
  exact seq_rt (Γ1 := [some (.d F), some (.d (.bl b)), some (.d (.tup (B.map Q.d))), some (.d (.tup (layQ 0 B))), some (.ol [.tup (B.map Q.d), .tup (layQ 0 B)]), some (.d S), some (.d (.int B.length)), some (.d (.tup (twL B.length))), none]) (by
    (simp (config := { maxSteps := 1000000, decide := true }) only [PL.bind_ok, PL.bind_err, PL.bind_stuck, PL.Mbind_ap, PL.Mpure_ap, PL.Mmap_ap, PL.Mpair_ap, PL.Mfrz_ap, PL.optR_s, PL.optR_n, PL.mSeq_ap, PL.seqK_nx, PL.seqK_rt, PL.mSet_ap, PL.mIf_ap, PL.mB_ap, PL.tr_bl, PL.mBin_ap, PL.mUn_ap, PL.mCall_ap, PL.op2_ap, PL.op1_ap, PL.opn_ap,
  PL.rsv_sol, PL.rsv_bor, PL.rsvK_s, PL.borK_s, PL.nameK_d, PL.nameK_ol, PL.callDK_s, PL.dkGetK_s, PL.dkPutK_s, PL.view_d, PL.view_ol, PL.rsvs_nil, PL.rsvs_cons, PL.mBor_ap, PL.mName_ap, PL.setFr_ap, PL.mTup_ap, PL.mLst_ap, PL.mTruth_ap, PL.mSel_ap, PL.mCallP_ap, PL.mCallD_ap, PL.kCallD_ap, PL.mDkGet_ap, PL.fnSem_ap, PL.fnEnd_rt, PL.fnEnd_nx, PL.fnEnd_err, PL.argO_none, PL.argO_some, PL.opAdd_i, PL.opSub_i, PL.opMod_i, PL.opFdiv_i, PL.opGe_i, PL.opLt_i, PL.fInt_i, PL.fMax_i, PL.fLen_l, PL.fLen_t, PL.mDkPut_ap, PL.kDkPut_ap, List.map_cons, List.map_nil, List.cons_append, List.nil_append, List.replicate_succ, List.replicate_zero, Nat.reduceSub, Nat.reduceAdd, Nat.reduceLT, Nat.reduceLeDiff, List.set_cons_zero, List.set_cons_succ, List.getElem?_cons_zero, List.getElem?_cons_succ, List.length_cons, List.length_nil, Option.bind_some, Option.map_some, Option.bind_none, if_true, if_false, h.tw, h.ix, e7, e8, e10]))
theorem FoldOk2.twins (h : FoldOk2 F B S) : f__law_are_twins_right none [F] = .ok (.d (.bl true)) none := by
  have hl : B.length ≤ 100 := by rcases h.len with e | e | e | e <;> omega
  have e1 := h.ok.bundle
  have e2 := h.ok.layout hl
  have e3 := h.rest
  unfold restT at e3
  unfold f__law_are_twins_right m__law_are_twins_right
  rw [fnSem_ap, mSeq_ap]
  have e4 : mPar 1 2 (mCallP 1 f_bundle (M.map (fun p => p.1 :: p.2) (M.pair (mName 0) (M.pure [])))) (mCallP 1 f_layout (M.map (fun p => p.1 :: p.2) (M.pair (mName 0) (M.pure [])))) [some (.d F), none, none, none, none, none, none, none, none, none, none] = .ok .nx [some (.d F), some (.d (.tup (B.map Q.d))), some (.d (.tup (layQ 0 B))), none, none, none, none, none, none, none, none] := by
    (simp (config := { maxSteps := 1000000, decide := true }) only [PL.bind_ok, PL.bind_err, PL.bind_stuck, PL.Mbind_ap, PL.Mpure_ap, PL.Mmap_ap, PL.Mpair_ap, PL.Mfrz_ap, PL.optR_s, PL.optR_n, PL.mSeq_ap, PL.seqK_nx, PL.seqK_rt, PL.mSet_ap, PL.mIf_ap, PL.mB_ap, PL.tr_bl, PL.mBin_ap, PL.mUn_ap, PL.mCall_ap, PL.op2_ap, PL.op1_ap, PL.opn_ap,
  PL.rsv_sol, PL.rsv_bor, PL.rsvK_s, PL.borK_s, PL.nameK_d, PL.nameK_ol, PL.callDK_s, PL.dkGetK_s, PL.dkPutK_s, PL.view_d, PL.view_ol, PL.rsvs_nil, PL.rsvs_cons, PL.mBor_ap, PL.mName_ap, PL.setFr_ap, PL.mTup_ap, PL.mLst_ap, PL.mTruth_ap, PL.mSel_ap, PL.mCallP_ap, PL.mCallD_ap, PL.kCallD_ap, PL.mDkGet_ap, PL.fnSem_ap, PL.fnEnd_rt, PL.fnEnd_nx, PL.fnEnd_err, PL.argO_none, PL.argO_some, PL.opAdd_i, PL.opSub_i, PL.opMod_i, PL.opFdiv_i, PL.opGe_i, PL.opLt_i, PL.fInt_i, PL.fMax_i, PL.fLen_l, PL.fLen_t, PL.mDkPut_ap, PL.kDkPut_ap, List.map_cons, List.map_nil, List.cons_append, List.nil_append, List.replicate_succ, List.replicate_zero, Nat.reduceSub, Nat.reduceAdd, Nat.reduceLT, Nat.reduceLeDiff, List.set_cons_zero, List.set_cons_succ, List.getElem?_cons_zero, List.getElem?_cons_succ, List.length_cons, List.length_nil, Option.bind_some, Option.map_some, Option.bind_none, if_true, if_false, mPar_ap, e1, e2])
  show fnEnd none ((mPar 1 2 _ _ [some (.d F), none, none, none, none, none, none, none, none, none, none]).bind _) = _
  rw [e4]
  exact e3
end
end K27
end
section
set_option Elab.async false
set_option linter.all false
set_option maxRecDepth 100000
set_option maxHeartbeats 4000000
/-! K27f2: the table of folds; a number of a layout's key. -/
namespace K27
open PySem PySem.Spec PyProof.Rows L2 PL
mutual
def hk : NestedKey → Nat
  | .none => 1
  | .num i => (i + 3).toNat
  | .text _ => 2
  | .tup ks => hks 7 ks
def hks (h : Nat) : List NestedKey → Nat
  | [] => h
  | k :: ks => hks ((h * 1000003 + hk k) % 2147483647) ks
end
structure FT where
  F : D
  B : List Q
  S : D
  n : Nat
def keyL (B : List Q) : Option Nat := (nkey (.tup (layQ 0 B))).bind fun k => if k.depth ≤ 8 then some (hk k) else none
structure FT.Ok (t : FT) : Prop where
  ok : FoldOk2 t.F t.B t.S
  key : keyL t.B = some t.n
  pl : plainB t.F = true
def nodupN : List Nat → Bool
  | [] => true
  | x :: xs => (xs.all fun y => !(Nat.beq x y)) && nodupN xs
theorem nodupN_ok : ∀ {xs : List Nat}, nodupN xs = true → xs.Nodup
  | [], _ => .nil
  | x :: xs, h => by
    unfold nodupN at h
    rw [Bool.and_eq_true, List.all_eq_true] at h
    refine List.nodup_cons.mpr ⟨fun hm => ?_, nodupN_ok h.2⟩
    have := h.1 x hm
    simp at this
end K27
end
section
set_option Elab.async false
set_option linter.all false
set_option maxRecDepth 100000
set_option maxHeartbeats 4000000
namespace K27
open PySem PySem.Spec PyProof.Rows L2 PL
def t0 : FT := ⟨.tup [.str "left"], [⟨0, 0, 1, false⟩, ⟨0, 1, 0, false⟩], .str "left", 333256050⟩
theorem ok0 : t0.Ok := ⟨⟨⟨by kernel_rfl, by kernel_rfl, by kernel_rfl⟩, by kernel_rfl, by kernel_rfl, by kernel_rfl, by kernel_rfl, .inl rfl, by kernel_rfl⟩, by kernel_rfl, by kernel_rfl⟩
def t8 : FT := ⟨.tup [.str "right", .str "right"], [⟨0, 1, 1, false⟩, ⟨0, 2, 0, false⟩, ⟨0, 3, 1, false⟩, ⟨0, 0, 0, false⟩], .str "right", 567397727⟩
theorem ok8 : t8.Ok := ⟨⟨⟨by kernel_rfl, by kernel_rfl, by kernel_rfl⟩, by kernel_rfl, by kernel_rfl, by kernel_rfl, by kernel_rfl, .inr (.inl rfl), by kernel_rfl⟩, by kernel_rfl, by kernel_rfl⟩
def t16 : FT := ⟨.tup [.str "right", .str "left", .str "left"], [⟨0, 2, 1, false⟩, ⟨0, 5, 0, false⟩, ⟨0, 6, 1, false⟩, ⟨0, 1, 0, false⟩, ⟨0, 0, 1, false⟩, ⟨0, 7, 0, false⟩, ⟨0, 4, 1, false⟩, ⟨0, 3, 0, false⟩], .str "left", 1699491114⟩
theorem ok16 : t16.Ok := ⟨⟨⟨by kernel_rfl, by kernel_rfl, by kernel_rfl⟩, by kernel_rfl, by kernel_rfl, by kernel_rfl, by kernel_rfl, .inr (.inr (.inl rfl)), by kernel_rfl⟩, by kernel_rfl, by kernel_rfl⟩
def t24 : FT := ⟨.tup [.str "right", .str "up", .str "left"], [⟨1, 0, 1, false⟩, ⟨1, 3, 0, false⟩, ⟨0, 3, 1, true⟩, ⟨0, 0, 0, true⟩, ⟨0, 1, 1, true⟩, ⟨0, 2, 0, true⟩, ⟨1, 2, 1, false⟩, ⟨1, 1, 0, false⟩], .str "left", 2002263338⟩
theorem ok24 : t24.Ok := ⟨⟨⟨by kernel_rfl, by kernel_rfl, by kernel_rfl⟩, by kernel_rfl, by kernel_rfl, by kernel_rfl, by kernel_rfl, .inr (.inr (.inl rfl)), by kernel_rfl⟩, by kernel_rfl, by kernel_rfl⟩
def t32 : FT := ⟨.tup [.str "right", .str "left", .str "right"], [⟨0, 3, 1, false⟩, ⟨0, 4, 0, false⟩, ⟨0, 7, 1, false⟩, ⟨0, 0, 0, false⟩, ⟨0, 1, 1, false⟩, ⟨0, 6, 0, false⟩, ⟨0, 5, 1, false⟩, ⟨0, 2, 0, false⟩], .str "right", 759148686⟩
theorem ok32 : t32.Ok := ⟨⟨⟨by kernel_rfl, by kernel_rfl, by kernel_rfl⟩, by kernel_rfl, by kernel_rfl, by kernel_rfl, by kernel_rfl, .inr (.inr (.inl rfl)), by kernel_rfl⟩, by kernel_rfl, by kernel_rfl⟩
def t40 : FT := ⟨.tup [.str "right", .str "up", .str "right"], [⟨1, 1, 1, false⟩, ⟨1, 2, 0, false⟩, ⟨0, 2, 1, true⟩, ⟨0, 1, 0, true⟩, ⟨0, 0, 1, true⟩, ⟨0, 3, 0, true⟩, ⟨1, 3, 1, false⟩, ⟨1, 0, 0, false⟩], .str "right", 262847803⟩
theorem ok40 : t40.Ok := ⟨⟨⟨by kernel_rfl, by kernel_rfl, by kernel_rfl⟩, by kernel_rfl, by kernel_rfl, by kernel_rfl, by kernel_rfl, .inr (.inr (.inl rfl)), by kernel_rfl⟩, by kernel_rfl, by kernel_rfl⟩
def t48 : FT := ⟨.tup [.str "right", .str "left", .str "down", .str "left"], [⟨0, 2, 1, false⟩, ⟨0, 5, 0, false⟩, ⟨0, 6, 1, false⟩, ⟨0, 1, 0, false⟩, ⟨1, 1, 1, true⟩, ⟨1, 6, 0, true⟩, ⟨1, 5, 1, true⟩, ⟨1, 2, 0, true⟩, ⟨1, 3, 1, true⟩, ⟨1, 4, 0, true⟩, ⟨1, 7, 1, true⟩, ⟨1, 0, 0, true⟩, ⟨0, 0, 1, false⟩, ⟨0, 7, 0, false⟩, ⟨0, 4, 1, false⟩, ⟨0, 3, 0, false⟩], .str "left", 1713436764⟩
theorem ok48 : t48.Ok := ⟨⟨⟨by kernel_rfl, by kernel_rfl, by kernel_rfl⟩, by kernel_rfl, by kernel_rfl, by kernel_rfl, by kernel_rfl, .inr (.inr (.inr rfl)), by kernel_rfl⟩, by kernel_rfl, by kernel_rfl⟩
def t56 : FT := ⟨.tup [.str "right", .str "up", .str "down", .str "left"], [⟨2, 0, 1, false⟩, ⟨2, 3, 0, false⟩, ⟨1, 3, 1, true⟩, ⟨1, 0, 0, true⟩, ⟨0, 0, 1, false⟩, ⟨0, 3, 0, false⟩, ⟨3, 3, 1, true⟩, ⟨3, 0, 0, true⟩, ⟨3, 1, 1, true⟩, ⟨3, 2, 0, true⟩, ⟨0, 2, 1, false⟩, ⟨0, 1, 0, false⟩, ⟨1, 1, 1, true⟩, ⟨1, 2, 0, true⟩, ⟨2, 2, 1, false⟩, ⟨2, 1, 0, false⟩], .str "left", 780815852⟩
theorem ok56 : t56.Ok := ⟨⟨⟨by kernel_rfl, by kernel_rfl, by kernel_rfl⟩, by kernel_rfl, by kernel_rfl, by kernel_rfl, by kernel_rfl, .inr (.inr (.inr rfl)), by kernel_rfl⟩, by kernel_rfl, by kernel_rfl⟩
def t64 : FT := ⟨.tup [.str "right", .str "left", .str "left", .str "left"], [⟨0, 6, 1, false⟩, ⟨0, 9, 0, false⟩, ⟨0, 14, 1, false⟩, ⟨0, 1, 0, false⟩, ⟨0, 2, 1, false⟩, ⟨0, 13, 0, false⟩, ⟨0, 10, 1, false⟩, ⟨0, 5, 0, false⟩, ⟨0, 4, 1, false⟩, ⟨0, 11, 0, false⟩, ⟨0, 12, 1, false⟩, ⟨0, 3, 0, false⟩, ⟨0, 0, 1, false⟩, ⟨0, 15, 0, false⟩, ⟨0, 8, 1, false⟩, ⟨0, 7, 0, false⟩], .str "left", 1434144487⟩
theorem ok64 : t64.Ok := ⟨⟨⟨by kernel_rfl, by kernel_rfl, by kernel_rfl⟩, by kernel_rfl, by kernel_rfl, by kernel_rfl, by kernel_rfl, .inr (.inr (.inr rfl)), by kernel_rfl⟩, by kernel_rfl, by kernel_rfl⟩
def t72 : FT := ⟨.tup [.str "right", .str "up", .str "left", .str "left"], [⟨1, 2, 1, false⟩, ⟨1, 5, 0, false⟩, ⟨0, 5, 1, true⟩, ⟨0, 2, 0, true⟩, ⟨0, 1, 1, true⟩, ⟨0, 6, 0, true⟩, ⟨1, 6, 1, false⟩, ⟨1, 1, 0, false⟩, ⟨1, 0, 1, false⟩, ⟨1, 7, 0, false⟩, ⟨0, 7, 1, true⟩, ⟨0, 0, 0, true⟩, ⟨0, 3, 1, true⟩, ⟨0, 4, 0, true⟩, ⟨1, 4, 1, false⟩, ⟨1, 3, 0, false⟩], .str "left", 1207772160⟩
theorem ok72 : t72.Ok := ⟨⟨⟨by kernel_rfl, by kernel_rfl, by kernel_rfl⟩, by kernel_rfl, by kernel_rfl, by kernel_rfl, by kernel_rfl, .inr (.inr (.inr rfl)), by kernel_rfl⟩, by kernel_rfl, by kernel_rfl⟩
def t80 : FT := ⟨.tup [.str "right", .str "left", .str "right", .str "left"], [⟨0, 4, 1, false⟩, ⟨0, 11, 0, false⟩, ⟨0, 12, 1, false⟩, ⟨0, 3, 0, false⟩, ⟨0, 0, 1, false⟩, ⟨0, 15, 0, false⟩, ⟨0, 8, 1, false⟩, ⟨0, 7, 0, false⟩, ⟨0, 6, 1, false⟩, ⟨0, 9, 0, false⟩, ⟨0, 14, 1, false⟩, ⟨0, 1, 0, false⟩, ⟨0, 2, 1, false⟩, ⟨0, 13, 0, false⟩, ⟨0, 10, 1, false⟩, ⟨0, 5, 0, false⟩], .str "left", 744434806⟩
theorem ok80 : t80.Ok := ⟨⟨⟨by kernel_rfl, by kernel_rfl, by kernel_rfl⟩, by kernel_rfl, by kernel_rfl, by kernel_rfl, by kernel_rfl, .inr (.inr (.inr rfl)), by kernel_rfl⟩, by kernel_rfl, by kernel_rfl⟩
def t88 : FT := ⟨.tup [.str "right", .str "up", .str "right", .str "left"], [⟨1, 0, 1, false⟩, ⟨1, 7, 0, false⟩, ⟨0, 7, 1, true⟩, ⟨0, 0, 0, true⟩, ⟨0, 3, 1, true⟩, ⟨0, 4, 0, true⟩, ⟨1, 4, 1, false⟩, ⟨1, 3, 0, false⟩, ⟨1, 2, 1, false⟩, ⟨1, 5, 0, false⟩, ⟨0, 5, 1, true⟩, ⟨0, 2, 0, true⟩, ⟨0, 1, 1, true⟩, ⟨0, 6, 0, true⟩, ⟨1, 6, 1, false⟩, ⟨1, 1, 0, false⟩], .str "left", 1818789426⟩
theorem ok88 : t88.Ok := ⟨⟨⟨by kernel_rfl, by kernel_rfl, by kernel_rfl⟩, by kernel_rfl, by kernel_rfl, by kernel_rfl, by kernel_rfl, .inr (.inr (.inr rfl)), by kernel_rfl⟩, by kernel_rfl, by kernel_rfl⟩
def t96 : FT := ⟨.tup [.str "right", .str "left", .str "up", .str "left"], [⟨1, 2, 1, false⟩, ⟨1, 5, 0, false⟩, ⟨1, 6, 1, false⟩, ⟨1, 1, 0, false⟩, ⟨0, 1, 1, true⟩, ⟨0, 6, 0, true⟩, ⟨0, 5, 1, true⟩, ⟨0, 2, 0, true⟩, ⟨0, 3, 1, true⟩, ⟨0, 4, 0, true⟩, ⟨0, 7, 1, true⟩, ⟨0, 0, 0, true⟩, ⟨1, 0, 1, false⟩, ⟨1, 7, 0, false⟩, ⟨1, 4, 1, false⟩, ⟨1, 3, 0, false⟩], .str "left", 1675066039⟩
theorem ok96 : t96.Ok := ⟨⟨⟨by kernel_rfl, by kernel_rfl, by kernel_rfl⟩, by kernel_rfl, by kernel_rfl, by kernel_rfl, by kernel_rfl, .inr (.inr (.inr rfl)), by kernel_rfl⟩, by kernel_rfl, by kernel_rfl⟩
def t104 : FT := ⟨.tup [.str "right", .str "up", .str "up", .str "left"], [⟨3, 0, 1, false⟩, ⟨3, 3, 0, false⟩, ⟨0, 3, 1, true⟩, ⟨0, 0, 0, true⟩, ⟨1, 0, 1, false⟩, ⟨1, 3, 0, false⟩, ⟨2, 3, 1, true⟩, ⟨2, 0, 0, true⟩, ⟨2, 1, 1, true⟩, ⟨2, 2, 0, true⟩, ⟨1, 2, 1, false⟩, ⟨1, 1, 0, false⟩, ⟨0, 1, 1, true⟩, ⟨0, 2, 0, true⟩, ⟨3, 2, 1, false⟩, ⟨3, 1, 0, false⟩], .str "left", 1129869723⟩
theorem ok104 : t104.Ok := ⟨⟨⟨by kernel_rfl, by kernel_rfl, by kernel_rfl⟩, by kernel_rfl, by kernel_rfl, by kernel_rfl, by kernel_rfl, .inr (.inr (.inr rfl)), by kernel_rfl⟩, by kernel_rfl, by kernel_rfl⟩
def t112 : FT := ⟨.tup [.str "right", .str "left", .str "down", .str "right"], [⟨0, 3, 1, false⟩, ⟨0, 4, 0, false⟩, ⟨0, 7, 1, false⟩, ⟨0, 0, 0, false⟩, ⟨1, 0, 1, true⟩, ⟨1, 7, 0, true⟩, ⟨1, 4, 1, true⟩, ⟨1, 3, 0, true⟩, ⟨1, 2, 1, true⟩, ⟨1, 5, 0, true⟩, ⟨1, 6, 1, true⟩, ⟨1, 1, 0, true⟩, ⟨0, 1, 1, false⟩, ⟨0, 6, 0, false⟩, ⟨0, 5, 1, false⟩, ⟨0, 2, 0, false⟩], .str "right", 469220864⟩
theorem ok112 : t112.Ok := ⟨⟨⟨by kernel_rfl, by kernel_rfl, by kernel_rfl⟩, by kernel_rfl, by kernel_rfl, by kernel_rfl, by kernel_rfl, .inr (.inr (.inr rfl)), by kernel_rfl⟩, by kernel_rfl, by kernel_rfl⟩
def t120 : FT := ⟨.tup [.str "right", .str "up", .str "down", .str "right"], [⟨2, 1, 1, false⟩, ⟨2, 2, 0, false⟩, ⟨1, 2, 1, true⟩, ⟨1, 1, 0, true⟩, ⟨0, 1, 1, false⟩, ⟨0, 2, 0, false⟩, ⟨3, 2, 1, true⟩, ⟨3, 1, 0, true⟩, ⟨3, 0, 1, true⟩, ⟨3, 3, 0, true⟩, ⟨0, 3, 1, false⟩, ⟨0, 0, 0, false⟩, ⟨1, 0, 1, true⟩, ⟨1, 3, 0, true⟩, ⟨2, 3, 1, false⟩, ⟨2, 0, 0, false⟩], .str "right", 1100715530⟩
theorem ok120 : t120.Ok := ⟨⟨⟨by kernel_rfl, by kernel_rfl, by kernel_rfl⟩, by kernel_rfl, by kernel_rfl, by kernel_rfl, by kernel_rfl, .inr (.inr (.inr rfl)), by kernel_rfl⟩, by kernel_rfl, by kernel_rfl⟩
def t128 : FT := ⟨.tup [.str "right", .str "left", .str "left", .str "right"], [⟨0, 7, 1, false⟩, ⟨0, 8, 0, false⟩, ⟨0, 15, 1, false⟩, ⟨0, 0, 0, false⟩, ⟨0, 3, 1, false⟩, ⟨0, 12, 0, false⟩, ⟨0, 11, 1, false⟩, ⟨0, 4, 0, false⟩, ⟨0, 5, 1, false⟩, ⟨0, 10, 0, false⟩, ⟨0, 13, 1, false⟩, ⟨0, 2, 0, false⟩, ⟨0, 1, 1, false⟩, ⟨0, 14, 0, false⟩, ⟨0, 9, 1, false⟩, ⟨0, 6, 0, false⟩], .str "right", 972056295⟩
theorem ok128 : t128.Ok := ⟨⟨⟨by kernel_rfl, by kernel_rfl, by kernel_rfl⟩, by kernel_rfl, by kernel_rfl, by kernel_rfl, by kernel_rfl, .inr (.inr (.inr rfl)), by kernel_rfl⟩, by kernel_rfl, by kernel_rfl⟩
def t136 : FT := ⟨.tup [.str "right", .str "up", .str "left", .str "right"], [⟨1, 3, 1, false⟩, ⟨1, 4, 0, false⟩, ⟨0, 4, 1, true⟩, ⟨0, 3, 0, true⟩, ⟨0, 0, 1, true⟩, ⟨0, 7, 0, true⟩, ⟨1, 7, 1, false⟩, ⟨1, 0, 0, false⟩, ⟨1, 1, 1, false⟩, ⟨1, 6, 0, false⟩, ⟨0, 6, 1, true⟩, ⟨0, 1, 0, true⟩, ⟨0, 2, 1, true⟩, ⟨0, 5, 0, true⟩, ⟨1, 5, 1, false⟩, ⟨1, 2, 0, false⟩], .str "right", 1718399751⟩
theorem ok136 : t136.Ok := ⟨⟨⟨by kernel_rfl, by kernel_rfl, by kernel_rfl⟩, by kernel_rfl, by kernel_rfl, by kernel_rfl, by kernel_rfl, .inr (.inr (.inr rfl)), by kernel_rfl⟩, by kernel_rfl, by kernel_rfl⟩
def t144 : FT := ⟨.tup [.str "right", .str "left", .str "right", .str "right"], [⟨0, 5, 1, false⟩, ⟨0, 10, 0, false⟩, ⟨0, 13, 1, false⟩, ⟨0, 2, 0, false⟩, ⟨0, 1, 1, false⟩, ⟨0, 14, 0, false⟩, ⟨0, 9, 1, false⟩, ⟨0, 6, 0, false⟩, ⟨0, 7, 1, false⟩, ⟨0, 8, 0, false⟩, ⟨0, 15, 1, false⟩, ⟨0, 0, 0, false⟩, ⟨0, 3, 1, false⟩, ⟨0, 12, 0, false⟩, ⟨0, 11, 1, false⟩, ⟨0, 4, 0, false⟩], .str "right", 282346614⟩
theorem ok144 : t144.Ok := ⟨⟨⟨by kernel_rfl, by kernel_rfl, by kernel_rfl⟩, by kernel_rfl, by kernel_rfl, by kernel_rfl, by kernel_rfl, .inr (.inr (.inr rfl)), by kernel_rfl⟩, by kernel_rfl, by kernel_rfl⟩
def t152 : FT := ⟨.tup [.str "right", .str "up", .str "right", .str "right"], [⟨1, 1, 1, false⟩, ⟨1, 6, 0, false⟩, ⟨0, 6, 1, true⟩, ⟨0, 1, 0, true⟩, ⟨0, 2, 1, true⟩, ⟨0, 5, 0, true⟩, ⟨1, 5, 1, false⟩, ⟨1, 2, 0, false⟩, ⟨1, 3, 1, false⟩, ⟨1, 4, 0, false⟩, ⟨0, 4, 1, true⟩, ⟨0, 3, 0, true⟩, ⟨0, 0, 1, true⟩, ⟨0, 7, 0, true⟩, ⟨1, 7, 1, false⟩, ⟨1, 0, 0, false⟩], .str "right", 181933370⟩
theorem ok152 : t152.Ok := ⟨⟨⟨by kernel_rfl, by kernel_rfl, by kernel_rfl⟩, by kernel_rfl, by kernel_rfl, by kernel_rfl, by kernel_rfl, .inr (.inr (.inr rfl)), by kernel_rfl⟩, by kernel_rfl, by kernel_rfl⟩
def t160 : FT := ⟨.tup [.str "right", .str "left", .str "up", .str "right"], [⟨1, 3, 1, false⟩, ⟨1, 4, 0, false⟩, ⟨1, 7, 1, false⟩, ⟨1, 0, 0, false⟩, ⟨0, 0, 1, true⟩, ⟨0, 7, 0, true⟩, ⟨0, 4, 1, true⟩, ⟨0, 3, 0, true⟩, ⟨0, 2, 1, true⟩, ⟨0, 5, 0, true⟩, ⟨0, 6, 1, true⟩, ⟨0, 1, 0, true⟩, ⟨1, 1, 1, false⟩, ⟨1, 6, 0, false⟩, ⟨1, 5, 1, false⟩, ⟨1, 2, 0, false⟩], .str "right", 430850139⟩
theorem ok160 : t160.Ok := ⟨⟨⟨by kernel_rfl, by kernel_rfl, by kernel_rfl⟩, by kernel_rfl, by kernel_rfl, by kernel_rfl, by kernel_rfl, .inr (.inr (.inr rfl)), by kernel_rfl⟩, by kernel_rfl, by kernel_rfl⟩
def t168 : FT := ⟨.tup [.str "right", .str "up", .str "up", .str "right"], [⟨3, 1, 1, false⟩, ⟨3, 2, 0, false⟩, ⟨0, 2, 1, true⟩, ⟨0, 1, 0, true⟩, ⟨1, 1, 1, false⟩, ⟨1, 2, 0, false⟩, ⟨2, 2, 1, true⟩, ⟨2, 1, 0, true⟩, ⟨2, 0, 1, true⟩, ⟨2, 3, 0, true⟩, ⟨1, 3, 1, false⟩, ⟨1, 0, 0, false⟩, ⟨0, 0, 1, true⟩, ⟨0, 3, 0, true⟩, ⟨3, 3, 1, false⟩, ⟨3, 0, 0, false⟩], .str "right", 1449769401⟩
theorem ok168 : t168.Ok := ⟨⟨⟨by kernel_rfl, by kernel_rfl, by kernel_rfl⟩, by kernel_rfl, by kernel_rfl, by kernel_rfl, by kernel_rfl, .inr (.inr (.inr rfl)), by kernel_rfl⟩, by kernel_rfl, by kernel_rfl⟩
end K27
end
section
set_option Elab.async false
set_option linter.all false
set_option maxRecDepth 100000
set_option maxHeartbeats 4000000
namespace K27
open PySem PySem.Spec PyProof.Rows L2 PL
def t1 : FT := ⟨.tup [.str "right"], [⟨0, 1, 1, false⟩, ⟨0, 0, 0, false⟩], .str "right", 1560280510⟩
theorem ok1 : t1.Ok := ⟨⟨⟨by kernel_rfl, by kernel_rfl, by kernel_rfl⟩, by kernel_rfl, by kernel_rfl, by kernel_rfl, by kernel_rfl, .inl rfl, by kernel_rfl⟩, by kernel_rfl, by kernel_rfl⟩
def t9 : FT := ⟨.tup [.str "up", .str "right"], [⟨1, 1, 1, false⟩, ⟨0, 1, 0, true⟩, ⟨0, 0, 1, true⟩, ⟨1, 0, 0, false⟩], .str "right", 2066015280⟩
theorem ok9 : t9.Ok := ⟨⟨⟨by kernel_rfl, by kernel_rfl, by kernel_rfl⟩, by kernel_rfl, by kernel_rfl, by kernel_rfl, by kernel_rfl, .inr (.inl rfl), by kernel_rfl⟩, by kernel_rfl, by kernel_rfl⟩
def t17 : FT := ⟨.tup [.str "up", .str "left", .str "left"], [⟨1, 2, 1, false⟩, ⟨0, 2, 0, true⟩, ⟨0, 1, 1, true⟩, ⟨1, 1, 0, false⟩, ⟨1, 0, 1, false⟩, ⟨0, 0, 0, true⟩, ⟨0, 3, 1, true⟩, ⟨1, 3, 0, false⟩], .str "left", 2055930634⟩
theorem ok17 : t17.Ok := ⟨⟨⟨by kernel_rfl, by kernel_rfl, by kernel_rfl⟩, by kernel_rfl, by kernel_rfl, by kernel_rfl, by kernel_rfl, .inr (.inr (.inl rfl)), by kernel_rfl⟩, by kernel_rfl, by kernel_rfl⟩
def t25 : FT := ⟨.tup [.str "up", .str "up", .str "left"], [⟨3, 0, 1, false⟩, ⟨0, 0, 0, true⟩, ⟨1, 0, 1, false⟩, ⟨2, 0, 0, true⟩, ⟨2, 1, 1, true⟩, ⟨1, 1, 0, false⟩, ⟨0, 1, 1, true⟩, ⟨3, 1, 0, false⟩], .str "left", 2115417588⟩
theorem ok25 : t25.Ok := ⟨⟨⟨by kernel_rfl, by kernel_rfl, by kernel_rfl⟩, by kernel_rfl, by kernel_rfl, by kernel_rfl, by kernel_rfl, .inr (.inr (.inl rfl)), by kernel_rfl⟩, by kernel_rfl, by kernel_rfl⟩
def t33 : FT := ⟨.tup [.str "up", .str "left", .str "right"], [⟨1, 3, 1, false⟩, ⟨0, 3, 0, true⟩, ⟨0, 0, 1, true⟩, ⟨1, 0, 0, false⟩, ⟨1, 1, 1, false⟩, ⟨0, 1, 0, true⟩, ⟨0, 2, 1, true⟩, ⟨1, 2, 0, false⟩], .str "right", 447036590⟩
theorem ok33 : t33.Ok := ⟨⟨⟨by kernel_rfl, by kernel_rfl, by kernel_rfl⟩, by kernel_rfl, by kernel_rfl, by kernel_rfl, by kernel_rfl, .inr (.inr (.inl rfl)), by kernel_rfl⟩, by kernel_rfl, by kernel_rfl⟩
def t41 : FT := ⟨.tup [.str "up", .str "up", .str "right"], [⟨3, 1, 1, false⟩, ⟨0, 1, 0, true⟩, ⟨1, 1, 1, false⟩, ⟨2, 1, 0, true⟩, ⟨2, 0, 1, true⟩, ⟨1, 0, 0, false⟩, ⟨0, 0, 1, true⟩, ⟨3, 0, 0, false⟩], .str "right", 381754216⟩
theorem ok41 : t41.Ok := ⟨⟨⟨by kernel_rfl, by kernel_rfl, by kernel_rfl⟩, by kernel_rfl, by kernel_rfl, by kernel_rfl, by kernel_rfl, .inr (.inr (.inl rfl)), by kernel_rfl⟩, by kernel_rfl, by kernel_rfl⟩
def t49 : FT := ⟨.tup [.str "up", .str "left", .str "down", .str "left"], [⟨2, 2, 1, false⟩, ⟨1, 2, 0, true⟩, ⟨1, 1, 1, true⟩, ⟨2, 1, 0, false⟩, ⟨3, 1, 1, true⟩, ⟨0, 1, 0, false⟩, ⟨0, 2, 1, false⟩, ⟨3, 2, 0, true⟩, ⟨3, 3, 1, true⟩, ⟨0, 3, 0, false⟩, ⟨0, 0, 1, false⟩, ⟨3, 0, 0, true⟩, ⟨2, 0, 1, false⟩, ⟨1, 0, 0, true⟩, ⟨1, 3, 1, true⟩, ⟨2, 3, 0, false⟩], .str "left", 1432751273⟩
theorem ok49 : t49.Ok := ⟨⟨⟨by kernel_rfl, by kernel_rfl, by kernel_rfl⟩, by kernel_rfl, by kernel_rfl, by kernel_rfl, by kernel_rfl, .inr (.inr (.inr rfl)), by kernel_rfl⟩, by kernel_rfl, by kernel_rfl⟩
def t57 : FT := ⟨.tup [.str "up", .str "up", .str "down", .str "left"], [⟨6, 0, 1, false⟩, ⟨1, 0, 0, true⟩, ⟨2, 0, 1, false⟩, ⟨5, 0, 0, true⟩, ⟨4, 0, 1, false⟩, ⟨3, 0, 0, true⟩, ⟨0, 0, 1, false⟩, ⟨7, 0, 0, true⟩, ⟨7, 1, 1, true⟩, ⟨0, 1, 0, false⟩, ⟨3, 1, 1, true⟩, ⟨4, 1, 0, false⟩, ⟨5, 1, 1, true⟩, ⟨2, 1, 0, false⟩, ⟨1, 1, 1, true⟩, ⟨6, 1, 0, false⟩], .str "left", 2047354166⟩
theorem ok57 : t57.Ok := ⟨⟨⟨by kernel_rfl, by kernel_rfl, by kernel_rfl⟩, by kernel_rfl, by kernel_rfl, by kernel_rfl, by kernel_rfl, .inr (.inr (.inr rfl)), by kernel_rfl⟩, by kernel_rfl, by kernel_rfl⟩
def t65 : FT := ⟨.tup [.str "up", .str "left", .str "left", .str "left"], [⟨1, 6, 1, false⟩, ⟨0, 6, 0, true⟩, ⟨0, 1, 1, true⟩, ⟨1, 1, 0, false⟩, ⟨1, 2, 1, false⟩, ⟨0, 2, 0, true⟩, ⟨0, 5, 1, true⟩, ⟨1, 5, 0, false⟩, ⟨1, 4, 1, false⟩, ⟨0, 4, 0, true⟩, ⟨0, 3, 1, true⟩, ⟨1, 3, 0, false⟩, ⟨1, 0, 1, false⟩, ⟨0, 0, 0, true⟩, ⟨0, 7, 1, true⟩, ⟨1, 7, 0, false⟩], .str "left", 1338900377⟩
theorem ok65 : t65.Ok := ⟨⟨⟨by kernel_rfl, by kernel_rfl, by kernel_rfl⟩, by kernel_rfl, by kernel_rfl, by kernel_rfl, by kernel_rfl, .inr (.inr (.inr rfl)), by kernel_rfl⟩, by kernel_rfl, by kernel_rfl⟩
def t73 : FT := ⟨.tup [.str "up", .str "up", .str "left", .str "left"], [⟨3, 2, 1, false⟩, ⟨0, 2, 0, true⟩, ⟨1, 2, 1, false⟩, ⟨2, 2, 0, true⟩, ⟨2, 1, 1, true⟩, ⟨1, 1, 0, false⟩, ⟨0, 1, 1, true⟩, ⟨3, 1, 0, false⟩, ⟨3, 0, 1, false⟩, ⟨0, 0, 0, true⟩, ⟨1, 0, 1, false⟩, ⟨2, 0, 0, true⟩, ⟨2, 3, 1, true⟩, ⟨1, 3, 0, false⟩, ⟨0, 3, 1, true⟩, ⟨3, 3, 0, false⟩], .str "left", 306658197⟩
theorem ok73 : t73.Ok := ⟨⟨⟨by kernel_rfl, by kernel_rfl, by kernel_rfl⟩, by kernel_rfl, by kernel_rfl, by kernel_rfl, by kernel_rfl, .inr (.inr (.inr rfl)), by kernel_rfl⟩, by kernel_rfl, by kernel_rfl⟩
def t81 : FT := ⟨.tup [.str "up", .str "left", .str "right", .str "left"], [⟨1, 4, 1, false⟩, ⟨0, 4, 0, true⟩, ⟨0, 3, 1, true⟩, ⟨1, 3, 0, false⟩, ⟨1, 0, 1, false⟩, ⟨0, 0, 0, true⟩, ⟨0, 7, 1, true⟩, ⟨1, 7, 0, false⟩, ⟨1, 6, 1, false⟩, ⟨0, 6, 0, true⟩, ⟨0, 1, 1, true⟩, ⟨1, 1, 0, false⟩, ⟨1, 2, 1, false⟩, ⟨0, 2, 0, true⟩, ⟨0, 5, 1, true⟩, ⟨1, 5, 0, false⟩], .str "left", 2116799674⟩
theorem ok81 : t81.Ok := ⟨⟨⟨by kernel_rfl, by kernel_rfl, by kernel_rfl⟩, by kernel_rfl, by kernel_rfl, by kernel_rfl, by kernel_rfl, .inr (.inr (.inr rfl)), by kernel_rfl⟩, by kernel_rfl, by kernel_rfl⟩
def t89 : FT := ⟨.tup [.str "up", .str "up", .str "right", .str "left"], [⟨3, 0, 1, false⟩, ⟨0, 0, 0, true⟩, ⟨1, 0, 1, false⟩, ⟨2, 0, 0, true⟩, ⟨2, 3, 1, true⟩, ⟨1, 3, 0, false⟩, ⟨0, 3, 1, true⟩, ⟨3, 3, 0, false⟩, ⟨3, 2, 1, false⟩, ⟨0, 2, 0, true⟩, ⟨1, 2, 1, false⟩, ⟨2, 2, 0, true⟩, ⟨2, 1, 1, true⟩, ⟨1, 1, 0, false⟩, ⟨0, 1, 1, true⟩, ⟨3, 1, 0, false⟩], .str "left", 2022793207⟩
theorem ok89 : t89.Ok := ⟨⟨⟨by kernel_rfl, by kernel_rfl, by kernel_rfl⟩, by kernel_rfl, by kernel_rfl, by kernel_rfl, by kernel_rfl, .inr (.inr (.inr rfl)), by kernel_rfl⟩, by kernel_rfl, by kernel_rfl⟩
def t97 : FT := ⟨.tup [.str "up", .str "left", .str "up", .str "left"], [⟨3, 2, 1, false⟩, ⟨0, 2, 0, true⟩, ⟨0, 1, 1, true⟩, ⟨3, 1, 0, false⟩, ⟨2, 1, 1, true⟩, ⟨1, 1, 0, false⟩, ⟨1, 2, 1, false⟩, ⟨2, 2, 0, true⟩, ⟨2, 3, 1, true⟩, ⟨1, 3, 0, false⟩, ⟨1, 0, 1, false⟩, ⟨2, 0, 0, true⟩, ⟨3, 0, 1, false⟩, ⟨0, 0, 0, true⟩, ⟨0, 3, 1, true⟩, ⟨3, 3, 0, false⟩], .str "left", 1496782182⟩
theorem ok97 : t97.Ok := ⟨⟨⟨by kernel_rfl, by kernel_rfl, by kernel_rfl⟩, by kernel_rfl, by kernel_rfl, by kernel_rfl, by kernel_rfl, .inr (.inr (.inr rfl)), by kernel_rfl⟩, by kernel_rfl, by kernel_rfl⟩
def t105 : FT := ⟨.tup [.str "up", .str "up", .str "up", .str "left"], [⟨7, 0, 1, false⟩, ⟨0, 0, 0, true⟩, ⟨3, 0, 1, false⟩, ⟨4, 0, 0, true⟩, ⟨5, 0, 1, false⟩, ⟨2, 0, 0, true⟩, ⟨1, 0, 1, false⟩, ⟨6, 0, 0, true⟩, ⟨6, 1, 1, true⟩, ⟨1, 1, 0, false⟩, ⟨2, 1, 1, true⟩, ⟨5, 1, 0, false⟩, ⟨4, 1, 1, true⟩, ⟨3, 1, 0, false⟩, ⟨0, 1, 1, true⟩, ⟨7, 1, 0, false⟩], .str "left", 1039739722⟩
theorem ok105 : t105.Ok := ⟨⟨⟨by kernel_rfl, by kernel_rfl, by kernel_rfl⟩, by kernel_rfl, by kernel_rfl, by kernel_rfl, by kernel_rfl, .inr (.inr (.inr rfl)), by kernel_rfl⟩, by kernel_rfl, by kernel_rfl⟩
def t113 : FT := ⟨.tup [.str "up", .str "left", .str "down", .str "right"], [⟨2, 3, 1, false⟩, ⟨1, 3, 0, true⟩, ⟨1, 0, 1, true⟩, ⟨2, 0, 0, false⟩, ⟨3, 0, 1, true⟩, ⟨0, 0, 0, false⟩, ⟨0, 3, 1, false⟩, ⟨3, 3, 0, true⟩, ⟨3, 2, 1, true⟩, ⟨0, 2, 0, false⟩, ⟨0, 1, 1, false⟩, ⟨3, 1, 0, true⟩, ⟨2, 1, 1, false⟩, ⟨1, 1, 0, true⟩, ⟨1, 2, 1, true⟩, ⟨2, 2, 0, false⟩], .str "right", 959837424⟩
theorem ok113 : t113.Ok := ⟨⟨⟨by kernel_rfl, by kernel_rfl, by kernel_rfl⟩, by kernel_rfl, by kernel_rfl, by kernel_rfl, by kernel_rfl, .inr (.inr (.inr rfl)), by kernel_rfl⟩, by kernel_rfl, by kernel_rfl⟩
def t121 : FT := ⟨.tup [.str "up", .str "up", .str "down", .str "right"], [⟨6, 1, 1, false⟩, ⟨1, 1, 0, true⟩, ⟨2, 1, 1, false⟩, ⟨5, 1, 0, true⟩, ⟨4, 1, 1, false⟩, ⟨3, 1, 0, true⟩, ⟨0, 1, 1, false⟩, ⟨7, 1, 0, true⟩, ⟨7, 0, 1, true⟩, ⟨0, 0, 0, false⟩, ⟨3, 0, 1, true⟩, ⟨4, 0, 0, false⟩, ⟨5, 0, 1, true⟩, ⟨2, 0, 0, false⟩, ⟨1, 0, 1, true⟩, ⟨6, 0, 0, false⟩], .str "right", 216438450⟩
theorem ok121 : t121.Ok := ⟨⟨⟨by kernel_rfl, by kernel_rfl, by kernel_rfl⟩, by kernel_rfl, by kernel_rfl, by kernel_rfl, by kernel_rfl, .inr (.inr (.inr rfl)), by kernel_rfl⟩, by kernel_rfl, by kernel_rfl⟩
def t129 : FT := ⟨.tup [.str "up", .str "left", .str "left", .str "right"], [⟨1, 7, 1, false⟩, ⟨0, 7, 0, true⟩, ⟨0, 0, 1, true⟩, ⟨1, 0, 0, false⟩, ⟨1, 3, 1, false⟩, ⟨0, 3, 0, true⟩, ⟨0, 4, 1, true⟩, ⟨1, 4, 0, false⟩, ⟨1, 5, 1, false⟩, ⟨0, 5, 0, true⟩, ⟨0, 2, 1, true⟩, ⟨1, 2, 0, false⟩, ⟨1, 1, 1, false⟩, ⟨0, 1, 0, true⟩, ⟨0, 6, 1, true⟩, ⟨1, 6, 0, false⟩], .str "right", 953388111⟩
theorem ok129 : t129.Ok := ⟨⟨⟨by kernel_rfl, by kernel_rfl, by kernel_rfl⟩, by kernel_rfl, by kernel_rfl, by kernel_rfl, by kernel_rfl, .inr (.inr (.inr rfl)), by kernel_rfl⟩, by kernel_rfl, by kernel_rfl⟩
def t137 : FT := ⟨.tup [.str "up", .str "up", .str "left", .str "right"], [⟨3, 3, 1, false⟩, ⟨0, 3, 0, true⟩, ⟨1, 3, 1, false⟩, ⟨2, 3, 0, true⟩, ⟨2, 0, 1, true⟩, ⟨1, 0, 0, false⟩, ⟨0, 0, 1, true⟩, ⟨3, 0, 0, false⟩, ⟨3, 1, 1, false⟩, ⟨0, 1, 0, true⟩, ⟨1, 1, 1, false⟩, ⟨2, 1, 0, true⟩, ⟨2, 2, 1, true⟩, ⟨1, 2, 0, false⟩, ⟨0, 2, 1, true⟩, ⟨3, 2, 0, false⟩], .str "right", 276231242⟩
theorem ok137 : t137.Ok := ⟨⟨⟨by kernel_rfl, by kernel_rfl, by kernel_rfl⟩, by kernel_rfl, by kernel_rfl, by kernel_rfl, by kernel_rfl, .inr (.inr (.inr rfl)), by kernel_rfl⟩, by kernel_rfl, by kernel_rfl⟩
def t145 : FT := ⟨.tup [.str "up", .str "left", .str "right", .str "right"], [⟨1, 5, 1, false⟩, ⟨0, 5, 0, true⟩, ⟨0, 2, 1, true⟩, ⟨1, 2, 0, false⟩, ⟨1, 1, 1, false⟩, ⟨0, 1, 0, true⟩, ⟨0, 6, 1, true⟩, ⟨1, 6, 0, false⟩, ⟨1, 7, 1, false⟩, ⟨0, 7, 0, true⟩, ⟨0, 0, 1, true⟩, ⟨1, 0, 0, false⟩, ⟨1, 3, 1, false⟩, ⟨0, 3, 0, true⟩, ⟨0, 4, 1, true⟩, ⟨1, 4, 0, false⟩], .str "right", 1731287408⟩
theorem ok145 : t145.Ok := ⟨⟨⟨by kernel_rfl, by kernel_rfl, by kernel_rfl⟩, by kernel_rfl, by kernel_rfl, by kernel_rfl, by kernel_rfl, .inr (.inr (.inr rfl)), by kernel_rfl⟩, by kernel_rfl, by kernel_rfl⟩
def t153 : FT := ⟨.tup [.str "up", .str "up", .str "right", .str "right"], [⟨3, 1, 1, false⟩, ⟨0, 1, 0, true⟩, ⟨1, 1, 1, false⟩, ⟨2, 1, 0, true⟩, ⟨2, 2, 1, true⟩, ⟨1, 2, 0, false⟩, ⟨0, 2, 1, true⟩, ⟨3, 2, 0, false⟩, ⟨3, 3, 1, false⟩, ⟨0, 3, 0, true⟩, ⟨1, 3, 1, false⟩, ⟨2, 3, 0, true⟩, ⟨2, 0, 1, true⟩, ⟨1, 0, 0, false⟩, ⟨0, 0, 1, true⟩, ⟨3, 0, 0, false⟩], .str "right", 1992366252⟩
theorem ok153 : t153.Ok := ⟨⟨⟨by kernel_rfl, by kernel_rfl, by kernel_rfl⟩, by kernel_rfl, by kernel_rfl, by kernel_rfl, by kernel_rfl, .inr (.inr (.inr rfl)), by kernel_rfl⟩, by kernel_rfl, by kernel_rfl⟩
def t161 : FT := ⟨.tup [.str "up", .str "left", .str "up", .str "right"], [⟨3, 3, 1, false⟩, ⟨0, 3, 0, true⟩, ⟨0, 0, 1, true⟩, ⟨3, 0, 0, false⟩, ⟨2, 0, 1, true⟩, ⟨1, 0, 0, false⟩, ⟨1, 3, 1, false⟩, ⟨2, 3, 0, true⟩, ⟨2, 2, 1, true⟩, ⟨1, 2, 0, false⟩, ⟨1, 1, 1, false⟩, ⟨2, 1, 0, true⟩, ⟨3, 1, 1, false⟩, ⟨0, 1, 0, true⟩, ⟨0, 2, 1, true⟩, ⟨3, 2, 0, false⟩], .str "right", 1023868333⟩
theorem ok161 : t161.Ok := ⟨⟨⟨by kernel_rfl, by kernel_rfl, by kernel_rfl⟩, by kernel_rfl, by kernel_rfl, by kernel_rfl, by kernel_rfl, .inr (.inr (.inr rfl)), by kernel_rfl⟩, by kernel_rfl, by kernel_rfl⟩
def t169 : FT := ⟨.tup [.str "up", .str "up", .str "up", .str "right"], [⟨7, 1, 1, false⟩, ⟨0, 1, 0, true⟩, ⟨3, 1, 1, false⟩, ⟨4, 1, 0, true⟩, ⟨5, 1, 1, false⟩, ⟨2, 1, 0, true⟩, ⟨1, 1, 1, false⟩, ⟨6, 1, 0, true⟩, ⟨6, 0, 1, true⟩, ⟨1, 0, 0, false⟩, ⟨2, 0, 1, true⟩, ⟨5, 0, 0, false⟩, ⟨4, 0, 1, true⟩, ⟨3, 0, 0, false⟩, ⟨0, 0, 1, true⟩, ⟨7, 0, 0, false⟩], .str "right", 1356307653⟩
theorem ok169 : t169.Ok := ⟨⟨⟨by kernel_rfl, by kernel_rfl, by kernel_rfl⟩, by kernel_rfl, by kernel_rfl, by kernel_rfl, by kernel_rfl, .inr (.inr (.inr rfl)), by kernel_rfl⟩, by kernel_rfl, by kernel_rfl⟩
end K27
end
section
set_option Elab.async false
set_option linter.all false
set_option maxRecDepth 100000
set_option maxHeartbeats 4000000
namespace K27
open PySem PySem.Spec PyProof.Rows L2 PL
def t2 : FT := ⟨.tup [.str "down", .str "left"], [⟨0, 0, 1, false⟩, ⟨1, 0, 0, true⟩, ⟨1, 1, 1, true⟩, ⟨0, 1, 0, false⟩], .str "left", 912175781⟩
theorem ok2 : t2.Ok := ⟨⟨⟨by kernel_rfl, by kernel_rfl, by kernel_rfl⟩, by kernel_rfl, by kernel_rfl, by kernel_rfl, by kernel_rfl, .inr (.inl rfl), by kernel_rfl⟩, by kernel_rfl, by kernel_rfl⟩
def t10 : FT := ⟨.tup [.str "down", .str "down", .str "left"], [⟨0, 0, 1, false⟩, ⟨3, 0, 0, true⟩, ⟨2, 0, 1, false⟩, ⟨1, 0, 0, true⟩, ⟨1, 1, 1, true⟩, ⟨2, 1, 0, false⟩, ⟨3, 1, 1, true⟩, ⟨0, 1, 0, false⟩], .str "left", 1183769701⟩
theorem ok10 : t10.Ok := ⟨⟨⟨by kernel_rfl, by kernel_rfl, by kernel_rfl⟩, by kernel_rfl, by kernel_rfl, by kernel_rfl, by kernel_rfl, .inr (.inr (.inl rfl)), by kernel_rfl⟩, by kernel_rfl, by kernel_rfl⟩
def t18 : FT := ⟨.tup [.str "down", .str "right", .str "left"], [⟨0, 0, 1, false⟩, ⟨1, 0, 0, true⟩, ⟨1, 3, 1, true⟩, ⟨0, 3, 0, false⟩, ⟨0, 2, 1, false⟩, ⟨1, 2, 0, true⟩, ⟨1, 1, 1, true⟩, ⟨0, 1, 0, false⟩], .str "left", 1245093261⟩
theorem ok18 : t18.Ok := ⟨⟨⟨by kernel_rfl, by kernel_rfl, by kernel_rfl⟩, by kernel_rfl, by kernel_rfl, by kernel_rfl, by kernel_rfl, .inr (.inr (.inl rfl)), by kernel_rfl⟩, by kernel_rfl, by kernel_rfl⟩
def t26 : FT := ⟨.tup [.str "down", .str "down", .str "right"], [⟨0, 1, 1, false⟩, ⟨3, 1, 0, true⟩, ⟨2, 1, 1, false⟩, ⟨1, 1, 0, true⟩, ⟨1, 0, 1, true⟩, ⟨2, 0, 0, false⟩, ⟨3, 0, 1, true⟩, ⟨0, 0, 0, false⟩], .str "right", 1597589976⟩
theorem ok26 : t26.Ok := ⟨⟨⟨by kernel_rfl, by kernel_rfl, by kernel_rfl⟩, by kernel_rfl, by kernel_rfl, by kernel_rfl, by kernel_rfl, .inr (.inr (.inl rfl)), by kernel_rfl⟩, by kernel_rfl, by kernel_rfl⟩
def t34 : FT := ⟨.tup [.str "down", .str "right", .str "right"], [⟨0, 1, 1, false⟩, ⟨1, 1, 0, true⟩, ⟨1, 2, 1, true⟩, ⟨0, 2, 0, false⟩, ⟨0, 3, 1, false⟩, ⟨1, 3, 0, true⟩, ⟨1, 0, 1, true⟩, ⟨0, 0, 0, false⟩], .str "right", 1783682864⟩
theorem ok34 : t34.Ok := ⟨⟨⟨by kernel_rfl, by kernel_rfl, by kernel_rfl⟩, by kernel_rfl, by kernel_rfl, by kernel_rfl, by kernel_rfl, .inr (.inr (.inl rfl)), by kernel_rfl⟩, by kernel_rfl, by kernel_rfl⟩
def t42 : FT := ⟨.tup [.str "down", .str "down", .str "down", .str "left"], [⟨0, 0, 1, false⟩, ⟨7, 0, 0, true⟩, ⟨4, 0, 1, false⟩, ⟨3, 0, 0, true⟩, ⟨2, 0, 1, false⟩, ⟨5, 0, 0, true⟩, ⟨6, 0, 1, false⟩, ⟨1, 0, 0, true⟩, ⟨1, 1, 1, true⟩, ⟨6, 1, 0, false⟩, ⟨5, 1, 1, true⟩, ⟨2, 1, 0, false⟩, ⟨3, 1, 1, true⟩, ⟨4, 1, 0, false⟩, ⟨7, 1, 1, true⟩, ⟨0, 1, 0, false⟩], .str "left", 1457980053⟩
theorem ok42 : t42.Ok := ⟨⟨⟨by kernel_rfl, by kernel_rfl, by kernel_rfl⟩, by kernel_rfl, by kernel_rfl, by kernel_rfl, by kernel_rfl, .inr (.inr (.inr rfl)), by kernel_rfl⟩, by kernel_rfl, by kernel_rfl⟩
def t50 : FT := ⟨.tup [.str "down", .str "right", .str "down", .str "left"], [⟨0, 0, 1, false⟩, ⟨3, 0, 0, true⟩, ⟨3, 3, 1, true⟩, ⟨0, 3, 0, false⟩, ⟨1, 3, 1, true⟩, ⟨2, 3, 0, false⟩, ⟨2, 0, 1, false⟩, ⟨1, 0, 0, true⟩, ⟨1, 1, 1, true⟩, ⟨2, 1, 0, false⟩, ⟨2, 2, 1, false⟩, ⟨1, 2, 0, true⟩, ⟨0, 2, 1, false⟩, ⟨3, 2, 0, true⟩, ⟨3, 1, 1, true⟩, ⟨0, 1, 0, false⟩], .str "left", 415234583⟩
theorem ok50 : t50.Ok := ⟨⟨⟨by kernel_rfl, by kernel_rfl, by kernel_rfl⟩, by kernel_rfl, by kernel_rfl, by kernel_rfl, by kernel_rfl, .inr (.inr (.inr rfl)), by kernel_rfl⟩, by kernel_rfl, by kernel_rfl⟩
def t58 : FT := ⟨.tup [.str "down", .str "down", .str "left", .str "left"], [⟨0, 2, 1, false⟩, ⟨3, 2, 0, true⟩, ⟨2, 2, 1, false⟩, ⟨1, 2, 0, true⟩, ⟨1, 1, 1, true⟩, ⟨2, 1, 0, false⟩, ⟨3, 1, 1, true⟩, ⟨0, 1, 0, false⟩, ⟨0, 0, 1, false⟩, ⟨3, 0, 0, true⟩, ⟨2, 0, 1, false⟩, ⟨1, 0, 0, true⟩, ⟨1, 3, 1, true⟩, ⟨2, 3, 0, false⟩, ⟨3, 3, 1, true⟩, ⟨0, 3, 0, false⟩], .str "left", 1085712964⟩
theorem ok58 : t58.Ok := ⟨⟨⟨by kernel_rfl, by kernel_rfl, by kernel_rfl⟩, by kernel_rfl, by kernel_rfl, by kernel_rfl, by kernel_rfl, .inr (.inr (.inr rfl)), by kernel_rfl⟩, by kernel_rfl, by kernel_rfl⟩
def t66 : FT := ⟨.tup [.str "down", .str "right", .str "left", .str "left"], [⟨0, 2, 1, false⟩, ⟨1, 2, 0, true⟩, ⟨1, 5, 1, true⟩, ⟨0, 5, 0, false⟩, ⟨0, 6, 1, false⟩, ⟨1, 6, 0, true⟩, ⟨1, 1, 1, true⟩, ⟨0, 1, 0, false⟩, ⟨0, 0, 1, false⟩, ⟨1, 0, 0, true⟩, ⟨1, 7, 1, true⟩, ⟨0, 7, 0, false⟩, ⟨0, 4, 1, false⟩, ⟨1, 4, 0, true⟩, ⟨1, 3, 1, true⟩, ⟨0, 3, 0, false⟩], .str "left", 267688533⟩
theorem ok66 : t66.Ok := ⟨⟨⟨by kernel_rfl, by kernel_rfl, by kernel_rfl⟩, by kernel_rfl, by kernel_rfl, by kernel_rfl, by kernel_rfl, .inr (.inr (.inr rfl)), by kernel_rfl⟩, by kernel_rfl, by kernel_rfl⟩
def t74 : FT := ⟨.tup [.str "down", .str "down", .str "right", .str "left"], [⟨0, 0, 1, false⟩, ⟨3, 0, 0, true⟩, ⟨2, 0, 1, false⟩, ⟨1, 0, 0, true⟩, ⟨1, 3, 1, true⟩, ⟨2, 3, 0, false⟩, ⟨3, 3, 1, true⟩, ⟨0, 3, 0, false⟩, ⟨0, 2, 1, false⟩, ⟨3, 2, 0, true⟩, ⟨2, 2, 1, false⟩, ⟨1, 2, 0, true⟩, ⟨1, 1, 1, true⟩, ⟨2, 1, 0, false⟩, ⟨3, 1, 1, true⟩, ⟨0, 1, 0, false⟩], .str "left", 654364327⟩
theorem ok74 : t74.Ok := ⟨⟨⟨by kernel_rfl, by kernel_rfl, by kernel_rfl⟩, by kernel_rfl, by kernel_rfl, by kernel_rfl, by kernel_rfl, .inr (.inr (.inr rfl)), by kernel_rfl⟩, by kernel_rfl, by kernel_rfl⟩
def t82 : FT := ⟨.tup [.str "down", .str "right", .str "right", .str "left"], [⟨0, 0, 1, false⟩, ⟨1, 0, 0, true⟩, ⟨1, 7, 1, true⟩, ⟨0, 7, 0, false⟩, ⟨0, 4, 1, false⟩, ⟨1, 4, 0, true⟩, ⟨1, 3, 1, true⟩, ⟨0, 3, 0, false⟩, ⟨0, 2, 1, false⟩, ⟨1, 2, 0, true⟩, ⟨1, 5, 1, true⟩, ⟨0, 5, 0, false⟩, ⟨0, 6, 1, false⟩, ⟨1, 6, 0, true⟩, ⟨1, 1, 1, true⟩, ⟨0, 1, 0, false⟩], .str "left", 1045587830⟩
theorem ok82 : t82.Ok := ⟨⟨⟨by kernel_rfl, by kernel_rfl, by kernel_rfl⟩, by kernel_rfl, by kernel_rfl, by kernel_rfl, by kernel_rfl, .inr (.inr (.inr rfl)), by kernel_rfl⟩, by kernel_rfl, by kernel_rfl⟩
def t90 : FT := ⟨.tup [.str "down", .str "down", .str "up", .str "left"], [⟨1, 0, 1, false⟩, ⟨6, 0, 0, true⟩, ⟨5, 0, 1, false⟩, ⟨2, 0, 0, true⟩, ⟨3, 0, 1, false⟩, ⟨4, 0, 0, true⟩, ⟨7, 0, 1, false⟩, ⟨0, 0, 0, true⟩, ⟨0, 1, 1, true⟩, ⟨7, 1, 0, false⟩, ⟨4, 1, 1, true⟩, ⟨3, 1, 0, false⟩, ⟨2, 1, 1, true⟩, ⟨5, 1, 0, false⟩, ⟨6, 1, 1, true⟩, ⟨1, 1, 0, false⟩], .str "left", 450365609⟩
theorem ok90 : t90.Ok := ⟨⟨⟨by kernel_rfl, by kernel_rfl, by kernel_rfl⟩, by kernel_rfl, by kernel_rfl, by kernel_rfl, by kernel_rfl, .inr (.inr (.inr rfl)), by kernel_rfl⟩, by kernel_rfl, by kernel_rfl⟩
def t98 : FT := ⟨.tup [.str "down", .str "right", .str "up", .str "left"], [⟨1, 0, 1, false⟩, ⟨2, 0, 0, true⟩, ⟨2, 3, 1, true⟩, ⟨1, 3, 0, false⟩, ⟨0, 3, 1, true⟩, ⟨3, 3, 0, false⟩, ⟨3, 0, 1, false⟩, ⟨0, 0, 0, true⟩, ⟨0, 1, 1, true⟩, ⟨3, 1, 0, false⟩, ⟨3, 2, 1, false⟩, ⟨0, 2, 0, true⟩, ⟨1, 2, 1, false⟩, ⟨2, 2, 0, true⟩, ⟨2, 1, 1, true⟩, ⟨1, 1, 0, false⟩], .str "left", 479265492⟩
theorem ok98 : t98.Ok := ⟨⟨⟨by kernel_rfl, by kernel_rfl, by kernel_rfl⟩, by kernel_rfl, by kernel_rfl, by kernel_rfl, by kernel_rfl, .inr (.inr (.inr rfl)), by kernel_rfl⟩, by kernel_rfl, by kernel_rfl⟩
def t106 : FT := ⟨.tup [.str "down", .str "down", .str "down", .str "right"], [⟨0, 1, 1, false⟩, ⟨7, 1, 0, true⟩, ⟨4, 1, 1, false⟩, ⟨3, 1, 0, true⟩, ⟨2, 1, 1, false⟩, ⟨5, 1, 0, true⟩, ⟨6, 1, 1, false⟩, ⟨1, 1, 0, true⟩, ⟨1, 0, 1, true⟩, ⟨6, 0, 0, false⟩, ⟨5, 0, 1, true⟩, ⟨2, 0, 0, false⟩, ⟨3, 0, 1, true⟩, ⟨4, 0, 0, false⟩, ⟨7, 0, 1, true⟩, ⟨0, 0, 0, false⟩], .str "right", 1774547984⟩
theorem ok106 : t106.Ok := ⟨⟨⟨by kernel_rfl, by kernel_rfl, by kernel_rfl⟩, by kernel_rfl, by kernel_rfl, by kernel_rfl, by kernel_rfl, .inr (.inr (.inr rfl)), by kernel_rfl⟩, by kernel_rfl, by kernel_rfl⟩
def t114 : FT := ⟨.tup [.str "down", .str "right", .str "down", .str "right"], [⟨0, 1, 1, false⟩, ⟨3, 1, 0, true⟩, ⟨3, 2, 1, true⟩, ⟨0, 2, 0, false⟩, ⟨1, 2, 1, true⟩, ⟨2, 2, 0, false⟩, ⟨2, 1, 1, false⟩, ⟨1, 1, 0, true⟩, ⟨1, 0, 1, true⟩, ⟨2, 0, 0, false⟩, ⟨2, 3, 1, false⟩, ⟨1, 3, 0, true⟩, ⟨0, 3, 1, false⟩, ⟨3, 3, 0, true⟩, ⟨3, 0, 1, true⟩, ⟨0, 0, 0, false⟩], .str "right", 2089804381⟩
theorem ok114 : t114.Ok := ⟨⟨⟨by kernel_rfl, by kernel_rfl, by kernel_rfl⟩, by kernel_rfl, by kernel_rfl, by kernel_rfl, by kernel_rfl, .inr (.inr (.inr rfl)), by kernel_rfl⟩, by kernel_rfl, by kernel_rfl⟩
def t122 : FT := ⟨.tup [.str "down", .str "down", .str "left", .str "right"], [⟨0, 3, 1, false⟩, ⟨3, 3, 0, true⟩, ⟨2, 3, 1, false⟩, ⟨1, 3, 0, true⟩, ⟨1, 0, 1, true⟩, ⟨2, 0, 0, false⟩, ⟨3, 0, 1, true⟩, ⟨0, 0, 0, false⟩, ⟨0, 1, 1, false⟩, ⟨3, 1, 0, true⟩, ⟨2, 1, 1, false⟩, ⟨1, 1, 0, true⟩, ⟨1, 2, 1, true⟩, ⟨2, 2, 0, false⟩, ⟨3, 2, 1, true⟩, ⟨0, 2, 0, false⟩], .str "right", 1055286009⟩
theorem ok122 : t122.Ok := ⟨⟨⟨by kernel_rfl, by kernel_rfl, by kernel_rfl⟩, by kernel_rfl, by kernel_rfl, by kernel_rfl, by kernel_rfl, .inr (.inr (.inr rfl)), by kernel_rfl⟩, by kernel_rfl, by kernel_rfl⟩
def t130 : FT := ⟨.tup [.str "down", .str "right", .str "left", .str "right"], [⟨0, 3, 1, false⟩, ⟨1, 3, 0, true⟩, ⟨1, 4, 1, true⟩, ⟨0, 4, 0, false⟩, ⟨0, 7, 1, false⟩, ⟨1, 7, 0, true⟩, ⟨1, 0, 1, true⟩, ⟨0, 0, 0, false⟩, ⟨0, 1, 1, false⟩, ⟨1, 1, 0, true⟩, ⟨1, 6, 1, true⟩, ⟨0, 6, 0, false⟩, ⟨0, 5, 1, false⟩, ⟨1, 5, 0, true⟩, ⟨1, 2, 1, true⟩, ⟨0, 2, 0, false⟩], .str "right", 2029659914⟩
theorem ok130 : t130.Ok := ⟨⟨⟨by kernel_rfl, by kernel_rfl, by kernel_rfl⟩, by kernel_rfl, by kernel_rfl, by kernel_rfl, by kernel_rfl, .inr (.inr (.inr rfl)), by kernel_rfl⟩, by kernel_rfl, by kernel_rfl⟩
def t138 : FT := ⟨.tup [.str "down", .str "down", .str "right", .str "right"], [⟨0, 1, 1, false⟩, ⟨3, 1, 0, true⟩, ⟨2, 1, 1, false⟩, ⟨1, 1, 0, true⟩, ⟨1, 2, 1, true⟩, ⟨2, 2, 0, false⟩, ⟨3, 2, 1, true⟩, ⟨0, 2, 0, false⟩, ⟨0, 3, 1, false⟩, ⟨3, 3, 0, true⟩, ⟨2, 3, 1, false⟩, ⟨1, 3, 0, true⟩, ⟨1, 0, 1, true⟩, ⟨2, 0, 0, false⟩, ⟨3, 0, 1, true⟩, ⟨0, 0, 0, false⟩], .str "right", 623937372⟩
theorem ok138 : t138.Ok := ⟨⟨⟨by kernel_rfl, by kernel_rfl, by kernel_rfl⟩, by kernel_rfl, by kernel_rfl, by kernel_rfl, by kernel_rfl, .inr (.inr (.inr rfl)), by kernel_rfl⟩, by kernel_rfl, by kernel_rfl⟩
def t146 : FT := ⟨.tup [.str "down", .str "right", .str "right", .str "right"], [⟨0, 1, 1, false⟩, ⟨1, 1, 0, true⟩, ⟨1, 6, 1, true⟩, ⟨0, 6, 0, false⟩, ⟨0, 5, 1, false⟩, ⟨1, 5, 0, true⟩, ⟨1, 2, 1, true⟩, ⟨0, 2, 0, false⟩, ⟨0, 3, 1, false⟩, ⟨1, 3, 0, true⟩, ⟨1, 4, 1, true⟩, ⟨0, 4, 0, false⟩, ⟨0, 7, 1, false⟩, ⟨1, 7, 0, true⟩, ⟨1, 0, 1, true⟩, ⟨0, 0, 0, false⟩], .str "right", 660075564⟩
theorem ok146 : t146.Ok := ⟨⟨⟨by kernel_rfl, by kernel_rfl, by kernel_rfl⟩, by kernel_rfl, by kernel_rfl, by kernel_rfl, by kernel_rfl, .inr (.inr (.inr rfl)), by kernel_rfl⟩, by kernel_rfl, by kernel_rfl⟩
def t154 : FT := ⟨.tup [.str "down", .str "down", .str "up", .str "right"], [⟨1, 1, 1, false⟩, ⟨6, 1, 0, true⟩, ⟨5, 1, 1, false⟩, ⟨2, 1, 0, true⟩, ⟨3, 1, 1, false⟩, ⟨4, 1, 0, true⟩, ⟨7, 1, 1, false⟩, ⟨0, 1, 0, true⟩, ⟨0, 0, 1, true⟩, ⟨7, 0, 0, false⟩, ⟨4, 0, 1, true⟩, ⟨3, 0, 0, false⟩, ⟨2, 0, 1, true⟩, ⟨5, 0, 0, false⟩, ⟨6, 0, 1, true⟩, ⟨1, 0, 0, false⟩], .str "right", 766933540⟩
theorem ok154 : t154.Ok := ⟨⟨⟨by kernel_rfl, by kernel_rfl, by kernel_rfl⟩, by kernel_rfl, by kernel_rfl, by kernel_rfl, by kernel_rfl, .inr (.inr (.inr rfl)), by kernel_rfl⟩, by kernel_rfl, by kernel_rfl⟩
def t162 : FT := ⟨.tup [.str "down", .str "right", .str "up", .str "right"], [⟨1, 1, 1, false⟩, ⟨2, 1, 0, true⟩, ⟨2, 2, 1, true⟩, ⟨1, 2, 0, false⟩, ⟨0, 2, 1, true⟩, ⟨3, 2, 0, false⟩, ⟨3, 1, 1, false⟩, ⟨0, 1, 0, true⟩, ⟨0, 0, 1, true⟩, ⟨3, 0, 0, false⟩, ⟨3, 3, 1, false⟩, ⟨0, 3, 0, true⟩, ⟨1, 3, 1, false⟩, ⟨2, 3, 0, true⟩, ⟨2, 0, 1, true⟩, ⟨1, 0, 0, false⟩], .str "right", 6351643⟩
theorem ok162 : t162.Ok := ⟨⟨⟨by kernel_rfl, by kernel_rfl, by kernel_rfl⟩, by kernel_rfl, by kernel_rfl, by kernel_rfl, by kernel_rfl, .inr (.inr (.inr rfl)), by kernel_rfl⟩, by kernel_rfl, by kernel_rfl⟩
end K27
end
section
set_option Elab.async false
set_option linter.all false
set_option maxRecDepth 100000
set_option maxHeartbeats 4000000
namespace K27
open PySem PySem.Spec PyProof.Rows L2 PL
def t3 : FT := ⟨.tup [.str "left", .str "left"], [⟨0, 2, 1, false⟩, ⟨0, 1, 0, false⟩, ⟨0, 0, 1, false⟩, ⟨0, 3, 0, false⟩], .str "left", 915707393⟩
theorem ok3 : t3.Ok := ⟨⟨⟨by kernel_rfl, by kernel_rfl, by kernel_rfl⟩, by kernel_rfl, by kernel_rfl, by kernel_rfl, by kernel_rfl, .inr (.inl rfl), by kernel_rfl⟩, by kernel_rfl, by kernel_rfl⟩
def t11 : FT := ⟨.tup [.str "left", .str "down", .str "left"], [⟨0, 2, 1, false⟩, ⟨0, 1, 0, false⟩, ⟨1, 1, 1, true⟩, ⟨1, 2, 0, true⟩, ⟨1, 3, 1, true⟩, ⟨1, 0, 0, true⟩, ⟨0, 0, 1, false⟩, ⟨0, 3, 0, false⟩], .str "left", 926875417⟩
theorem ok11 : t11.Ok := ⟨⟨⟨by kernel_rfl, by kernel_rfl, by kernel_rfl⟩, by kernel_rfl, by kernel_rfl, by kernel_rfl, by kernel_rfl, .inr (.inr (.inl rfl)), by kernel_rfl⟩, by kernel_rfl, by kernel_rfl⟩
def t19 : FT := ⟨.tup [.str "left", .str "right", .str "left"], [⟨0, 4, 1, false⟩, ⟨0, 3, 0, false⟩, ⟨0, 0, 1, false⟩, ⟨0, 7, 0, false⟩, ⟨0, 6, 1, false⟩, ⟨0, 1, 0, false⟩, ⟨0, 2, 1, false⟩, ⟨0, 5, 0, false⟩], .str "left", 1412306896⟩
theorem ok19 : t19.Ok := ⟨⟨⟨by kernel_rfl, by kernel_rfl, by kernel_rfl⟩, by kernel_rfl, by kernel_rfl, by kernel_rfl, by kernel_rfl, .inr (.inr (.inl rfl)), by kernel_rfl⟩, by kernel_rfl, by kernel_rfl⟩
def t27 : FT := ⟨.tup [.str "left", .str "down", .str "right"], [⟨0, 3, 1, false⟩, ⟨0, 0, 0, false⟩, ⟨1, 0, 1, true⟩, ⟨1, 3, 0, true⟩, ⟨1, 2, 1, true⟩, ⟨1, 1, 0, true⟩, ⟨0, 1, 1, false⟩, ⟨0, 2, 0, false⟩], .str "right", 1334943529⟩
theorem ok27 : t27.Ok := ⟨⟨⟨by kernel_rfl, by kernel_rfl, by kernel_rfl⟩, by kernel_rfl, by kernel_rfl, by kernel_rfl, by kernel_rfl, .inr (.inr (.inl rfl)), by kernel_rfl⟩, by kernel_rfl, by kernel_rfl⟩
def t35 : FT := ⟨.tup [.str "left", .str "right", .str "right"], [⟨0, 5, 1, false⟩, ⟨0, 2, 0, false⟩, ⟨0, 1, 1, false⟩, ⟨0, 6, 0, false⟩, ⟨0, 7, 1, false⟩, ⟨0, 0, 0, false⟩, ⟨0, 3, 1, false⟩, ⟨0, 4, 0, false⟩], .str "right", 471964468⟩
theorem ok35 : t35.Ok := ⟨⟨⟨by kernel_rfl, by kernel_rfl, by kernel_rfl⟩, by kernel_rfl, by kernel_rfl, by kernel_rfl, by kernel_rfl, .inr (.inr (.inl rfl)), by kernel_rfl⟩, by kernel_rfl, by kernel_rfl⟩
def t43 : FT := ⟨.tup [.str "left", .str "down", .str "down", .str "left"], [⟨0, 2, 1, false⟩, ⟨0, 1, 0, false⟩, ⟨3, 1, 1, true⟩, ⟨3, 2, 0, true⟩, ⟨2, 2, 1, false⟩, ⟨2, 1, 0, false⟩, ⟨1, 1, 1, true⟩, ⟨1, 2, 0, true⟩, ⟨1, 3, 1, true⟩, ⟨1, 0, 0, true⟩, ⟨2, 0, 1, false⟩, ⟨2, 3, 0, false⟩, ⟨3, 3, 1, true⟩, ⟨3, 0, 0, true⟩, ⟨0, 0, 1, false⟩, ⟨0, 3, 0, false⟩], .str "left", 265659154⟩
theorem ok43 : t43.Ok := ⟨⟨⟨by kernel_rfl, by kernel_rfl, by kernel_rfl⟩, by kernel_rfl, by kernel_rfl, by kernel_rfl, by kernel_rfl, .inr (.inr (.inr rfl)), by kernel_rfl⟩, by kernel_rfl, by kernel_rfl⟩
def t51 : FT := ⟨.tup [.str "left", .str "right", .str "down", .str "left"], [⟨0, 4, 1, false⟩, ⟨0, 3, 0, false⟩, ⟨0, 0, 1, false⟩, ⟨0, 7, 0, false⟩, ⟨1, 7, 1, true⟩, ⟨1, 0, 0, true⟩, ⟨1, 3, 1, true⟩, ⟨1, 4, 0, true⟩, ⟨1, 5, 1, true⟩, ⟨1, 2, 0, true⟩, ⟨1, 1, 1, true⟩, ⟨1, 6, 0, true⟩, ⟨0, 6, 1, false⟩, ⟨0, 1, 0, false⟩, ⟨0, 2, 1, false⟩, ⟨0, 5, 0, false⟩], .str "left", 612131546⟩
theorem ok51 : t51.Ok := ⟨⟨⟨by kernel_rfl, by kernel_rfl, by kernel_rfl⟩, by kernel_rfl, by kernel_rfl, by kernel_rfl, by kernel_rfl, .inr (.inr (.inr rfl)), by kernel_rfl⟩, by kernel_rfl, by kernel_rfl⟩
def t59 : FT := ⟨.tup [.str "left", .str "down", .str "left", .str "left"], [⟨0, 6, 1, false⟩, ⟨0, 1, 0, false⟩, ⟨1, 1, 1, true⟩, ⟨1, 6, 0, true⟩, ⟨1, 5, 1, true⟩, ⟨1, 2, 0, true⟩, ⟨0, 2, 1, false⟩, ⟨0, 5, 0, false⟩, ⟨0, 4, 1, false⟩, ⟨0, 3, 0, false⟩, ⟨1, 3, 1, true⟩, ⟨1, 4, 0, true⟩, ⟨1, 7, 1, true⟩, ⟨1, 0, 0, true⟩, ⟨0, 0, 1, false⟩, ⟨0, 7, 0, false⟩], .str "left", 1479382550⟩
theorem ok59 : t59.Ok := ⟨⟨⟨by kernel_rfl, by kernel_rfl, by kernel_rfl⟩, by kernel_rfl, by kernel_rfl, by kernel_rfl, by kernel_rfl, .inr (.inr (.inr rfl)), by kernel_rfl⟩, by kernel_rfl, by kernel_rfl⟩
def t67 : FT := ⟨.tup [.str "left", .str "right", .str "left", .str "left"], [⟨0, 10, 1, false⟩, ⟨0, 5, 0, false⟩, ⟨0, 2, 1, false⟩, ⟨0, 13, 0, false⟩, ⟨0, 14, 1, false⟩, ⟨0, 1, 0, false⟩, ⟨0, 6, 1, false⟩, ⟨0, 9, 0, false⟩, ⟨0, 8, 1, false⟩, ⟨0, 7, 0, false⟩, ⟨0, 0, 1, false⟩, ⟨0, 15, 0, false⟩, ⟨0, 12, 1, false⟩, ⟨0, 3, 0, false⟩, ⟨0, 4, 1, false⟩, ⟨0, 11, 0, false⟩], .str "left", 1379017698⟩
theorem ok67 : t67.Ok := ⟨⟨⟨by kernel_rfl, by kernel_rfl, by kernel_rfl⟩, by kernel_rfl, by kernel_rfl, by kernel_rfl, by kernel_rfl, .inr (.inr (.inr rfl)), by kernel_rfl⟩, by kernel_rfl, by kernel_rfl⟩
def t75 : FT := ⟨.tup [.str "left", .str "down", .str "right", .str "left"], [⟨0, 4, 1, false⟩, ⟨0, 3, 0, false⟩, ⟨1, 3, 1, true⟩, ⟨1, 4, 0, true⟩, ⟨1, 7, 1, true⟩, ⟨1, 0, 0, true⟩, ⟨0, 0, 1, false⟩, ⟨0, 7, 0, false⟩, ⟨0, 6, 1, false⟩, ⟨0, 1, 0, false⟩, ⟨1, 1, 1, true⟩, ⟨1, 6, 0, true⟩, ⟨1, 5, 1, true⟩, ⟨1, 2, 0, true⟩, ⟨0, 2, 1, false⟩, ⟨0, 5, 0, false⟩], .str "left", 2090399816⟩
theorem ok75 : t75.Ok := ⟨⟨⟨by kernel_rfl, by kernel_rfl, by kernel_rfl⟩, by kernel_rfl, by kernel_rfl, by kernel_rfl, by kernel_rfl, .inr (.inr (.inr rfl)), by kernel_rfl⟩, by kernel_rfl, by kernel_rfl⟩
def t83 : FT := ⟨.tup [.str "left", .str "right", .str "right", .str "left"], [⟨0, 8, 1, false⟩, ⟨0, 7, 0, false⟩, ⟨0, 0, 1, false⟩, ⟨0, 15, 0, false⟩, ⟨0, 12, 1, false⟩, ⟨0, 3, 0, false⟩, ⟨0, 4, 1, false⟩, ⟨0, 11, 0, false⟩, ⟨0, 10, 1, false⟩, ⟨0, 5, 0, false⟩, ⟨0, 2, 1, false⟩, ⟨0, 13, 0, false⟩, ⟨0, 14, 1, false⟩, ⟨0, 1, 0, false⟩, ⟨0, 6, 1, false⟩, ⟨0, 9, 0, false⟩], .str "left", 689308017⟩
theorem ok83 : t83.Ok := ⟨⟨⟨by kernel_rfl, by kernel_rfl, by kernel_rfl⟩, by kernel_rfl, by kernel_rfl, by kernel_rfl, by kernel_rfl, .inr (.inr (.inr rfl)), by kernel_rfl⟩, by kernel_rfl, by kernel_rfl⟩
def t91 : FT := ⟨.tup [.str "left", .str "down", .str "up", .str "left"], [⟨1, 2, 1, false⟩, ⟨1, 1, 0, false⟩, ⟨2, 1, 1, true⟩, ⟨2, 2, 0, true⟩, ⟨3, 2, 1, false⟩, ⟨3, 1, 0, false⟩, ⟨0, 1, 1, true⟩, ⟨0, 2, 0, true⟩, ⟨0, 3, 1, true⟩, ⟨0, 0, 0, true⟩, ⟨3, 0, 1, false⟩, ⟨3, 3, 0, false⟩, ⟨2, 3, 1, true⟩, ⟨2, 0, 0, true⟩, ⟨1, 0, 1, false⟩, ⟨1, 3, 0, false⟩], .str "left", 614713025⟩
theorem ok91 : t91.Ok := ⟨⟨⟨by kernel_rfl, by kernel_rfl, by kernel_rfl⟩, by kernel_rfl, by kernel_rfl, by kernel_rfl, by kernel_rfl, .inr (.inr (.inr rfl)), by kernel_rfl⟩, by kernel_rfl, by kernel_rfl⟩
def t99 : FT := ⟨.tup [.str "left", .str "right", .str "up", .str "left"], [⟨1, 4, 1, false⟩, ⟨1, 3, 0, false⟩, ⟨1, 0, 1, false⟩, ⟨1, 7, 0, false⟩, ⟨0, 7, 1, true⟩, ⟨0, 0, 0, true⟩, ⟨0, 3, 1, true⟩, ⟨0, 4, 0, true⟩, ⟨0, 5, 1, true⟩, ⟨0, 2, 0, true⟩, ⟨0, 1, 1, true⟩, ⟨0, 6, 0, true⟩, ⟨1, 6, 1, false⟩, ⟨1, 1, 0, false⟩, ⟨1, 2, 1, false⟩, ⟨1, 5, 0, false⟩], .str "left", 573760821⟩
theorem ok99 : t99.Ok := ⟨⟨⟨by kernel_rfl, by kernel_rfl, by kernel_rfl⟩, by kernel_rfl, by kernel_rfl, by kernel_rfl, by kernel_rfl, .inr (.inr (.inr rfl)), by kernel_rfl⟩, by kernel_rfl, by kernel_rfl⟩
def t107 : FT := ⟨.tup [.str "left", .str "down", .str "down", .str "right"], [⟨0, 3, 1, false⟩, ⟨0, 0, 0, false⟩, ⟨3, 0, 1, true⟩, ⟨3, 3, 0, true⟩, ⟨2, 3, 1, false⟩, ⟨2, 0, 0, false⟩, ⟨1, 0, 1, true⟩, ⟨1, 3, 0, true⟩, ⟨1, 2, 1, true⟩, ⟨1, 1, 0, true⟩, ⟨2, 1, 1, false⟩, ⟨2, 2, 0, false⟩, ⟨3, 2, 1, true⟩, ⟨3, 1, 0, true⟩, ⟨0, 1, 1, false⟩, ⟨0, 2, 0, false⟩], .str "right", 585558832⟩
theorem ok107 : t107.Ok := ⟨⟨⟨by kernel_rfl, by kernel_rfl, by kernel_rfl⟩, by kernel_rfl, by kernel_rfl, by kernel_rfl, by kernel_rfl, .inr (.inr (.inr rfl)), by kernel_rfl⟩, by kernel_rfl, by kernel_rfl⟩
def t115 : FT := ⟨.tup [.str "left", .str "right", .str "down", .str "right"], [⟨0, 5, 1, false⟩, ⟨0, 2, 0, false⟩, ⟨0, 1, 1, false⟩, ⟨0, 6, 0, false⟩, ⟨1, 6, 1, true⟩, ⟨1, 1, 0, true⟩, ⟨1, 2, 1, true⟩, ⟨1, 5, 0, true⟩, ⟨1, 4, 1, true⟩, ⟨1, 3, 0, true⟩, ⟨1, 0, 1, true⟩, ⟨1, 7, 0, true⟩, ⟨0, 7, 1, false⟩, ⟨0, 0, 0, false⟩, ⟨0, 3, 1, false⟩, ⟨0, 4, 0, false⟩], .str "right", 1515399293⟩
theorem ok115 : t115.Ok := ⟨⟨⟨by kernel_rfl, by kernel_rfl, by kernel_rfl⟩, by kernel_rfl, by kernel_rfl, by kernel_rfl, by kernel_rfl, .inr (.inr (.inr rfl)), by kernel_rfl⟩, by kernel_rfl, by kernel_rfl⟩
def t123 : FT := ⟨.tup [.str "left", .str "down", .str "left", .str "right"], [⟨0, 7, 1, false⟩, ⟨0, 0, 0, false⟩, ⟨1, 0, 1, true⟩, ⟨1, 7, 0, true⟩, ⟨1, 4, 1, true⟩, ⟨1, 3, 0, true⟩, ⟨0, 3, 1, false⟩, ⟨0, 4, 0, false⟩, ⟨0, 5, 1, false⟩, ⟨0, 2, 0, false⟩, ⟨1, 2, 1, true⟩, ⟨1, 5, 0, true⟩, ⟨1, 6, 1, true⟩, ⟨1, 1, 0, true⟩, ⟨0, 1, 1, false⟩, ⟨0, 6, 0, false⟩], .str "right", 1990010141⟩
theorem ok123 : t123.Ok := ⟨⟨⟨by kernel_rfl, by kernel_rfl, by kernel_rfl⟩, by kernel_rfl, by kernel_rfl, by kernel_rfl, by kernel_rfl, .inr (.inr (.inr rfl)), by kernel_rfl⟩, by kernel_rfl, by kernel_rfl⟩
def t131 : FT := ⟨.tup [.str "left", .str "right", .str "left", .str "right"], [⟨0, 11, 1, false⟩, ⟨0, 4, 0, false⟩, ⟨0, 3, 1, false⟩, ⟨0, 12, 0, false⟩, ⟨0, 15, 1, false⟩, ⟨0, 0, 0, false⟩, ⟨0, 7, 1, false⟩, ⟨0, 8, 0, false⟩, ⟨0, 9, 1, false⟩, ⟨0, 6, 0, false⟩, ⟨0, 1, 1, false⟩, ⟨0, 14, 0, false⟩, ⟨0, 13, 1, false⟩, ⟨0, 2, 0, false⟩, ⟨0, 5, 1, false⟩, ⟨0, 10, 0, false⟩], .str "right", 916929506⟩
theorem ok131 : t131.Ok := ⟨⟨⟨by kernel_rfl, by kernel_rfl, by kernel_rfl⟩, by kernel_rfl, by kernel_rfl, by kernel_rfl, by kernel_rfl, .inr (.inr (.inr rfl)), by kernel_rfl⟩, by kernel_rfl, by kernel_rfl⟩
def t139 : FT := ⟨.tup [.str "left", .str "down", .str "right", .str "right"], [⟨0, 5, 1, false⟩, ⟨0, 2, 0, false⟩, ⟨1, 2, 1, true⟩, ⟨1, 5, 0, true⟩, ⟨1, 6, 1, true⟩, ⟨1, 1, 0, true⟩, ⟨0, 1, 1, false⟩, ⟨0, 6, 0, false⟩, ⟨0, 7, 1, false⟩, ⟨0, 0, 0, false⟩, ⟨1, 0, 1, true⟩, ⟨1, 7, 0, true⟩, ⟨1, 4, 1, true⟩, ⟨1, 3, 0, true⟩, ⟨0, 3, 1, false⟩, ⟨0, 4, 0, false⟩], .str "right", 453543760⟩
theorem ok139 : t139.Ok := ⟨⟨⟨by kernel_rfl, by kernel_rfl, by kernel_rfl⟩, by kernel_rfl, by kernel_rfl, by kernel_rfl, by kernel_rfl, .inr (.inr (.inr rfl)), by kernel_rfl⟩, by kernel_rfl, by kernel_rfl⟩
def t147 : FT := ⟨.tup [.str "left", .str "right", .str "right", .str "right"], [⟨0, 9, 1, false⟩, ⟨0, 6, 0, false⟩, ⟨0, 1, 1, false⟩, ⟨0, 14, 0, false⟩, ⟨0, 13, 1, false⟩, ⟨0, 2, 0, false⟩, ⟨0, 5, 1, false⟩, ⟨0, 10, 0, false⟩, ⟨0, 11, 1, false⟩, ⟨0, 4, 0, false⟩, ⟨0, 3, 1, false⟩, ⟨0, 12, 0, false⟩, ⟨0, 15, 1, false⟩, ⟨0, 0, 0, false⟩, ⟨0, 7, 1, false⟩, ⟨0, 8, 0, false⟩], .str "right", 227219825⟩
theorem ok147 : t147.Ok := ⟨⟨⟨by kernel_rfl, by kernel_rfl, by kernel_rfl⟩, by kernel_rfl, by kernel_rfl, by kernel_rfl, by kernel_rfl, .inr (.inr (.inr rfl)), by kernel_rfl⟩, by kernel_rfl, by kernel_rfl⟩
def t155 : FT := ⟨.tup [.str "left", .str "down", .str "up", .str "right"], [⟨1, 3, 1, false⟩, ⟨1, 0, 0, false⟩, ⟨2, 0, 1, true⟩, ⟨2, 3, 0, true⟩, ⟨3, 3, 1, false⟩, ⟨3, 0, 0, false⟩, ⟨0, 0, 1, true⟩, ⟨0, 3, 0, true⟩, ⟨0, 2, 1, true⟩, ⟨0, 1, 0, true⟩, ⟨3, 1, 1, false⟩, ⟨3, 2, 0, false⟩, ⟨2, 2, 1, true⟩, ⟨2, 1, 0, true⟩, ⟨1, 1, 1, false⟩, ⟨1, 2, 0, false⟩], .str "right", 934612703⟩
theorem ok155 : t155.Ok := ⟨⟨⟨by kernel_rfl, by kernel_rfl, by kernel_rfl⟩, by kernel_rfl, by kernel_rfl, by kernel_rfl, by kernel_rfl, .inr (.inr (.inr rfl)), by kernel_rfl⟩, by kernel_rfl, by kernel_rfl⟩
def t163 : FT := ⟨.tup [.str "left", .str "right", .str "up", .str "right"], [⟨1, 5, 1, false⟩, ⟨1, 2, 0, false⟩, ⟨1, 1, 1, false⟩, ⟨1, 6, 0, false⟩, ⟨0, 6, 1, true⟩, ⟨0, 1, 0, true⟩, ⟨0, 2, 1, true⟩, ⟨0, 5, 0, true⟩, ⟨0, 4, 1, true⟩, ⟨0, 3, 0, true⟩, ⟨0, 0, 1, true⟩, ⟨0, 7, 0, true⟩, ⟨1, 7, 1, false⟩, ⟨1, 0, 0, false⟩, ⟨1, 3, 1, false⟩, ⟨1, 4, 0, false⟩], .str "right", 1477028568⟩
theorem ok163 : t163.Ok := ⟨⟨⟨by kernel_rfl, by kernel_rfl, by kernel_rfl⟩, by kernel_rfl, by kernel_rfl, by kernel_rfl, by kernel_rfl, .inr (.inr (.inr rfl)), by kernel_rfl⟩, by kernel_rfl, by kernel_rfl⟩
end K27
end
section
set_option Elab.async false
set_option linter.all false
set_option maxRecDepth 100000
set_option maxHeartbeats 4000000
namespace K27
open PySem PySem.Spec PyProof.Rows L2 PL
def t4 : FT := ⟨.tup [.str "right", .str "left"], [⟨0, 0, 1, false⟩, ⟨0, 3, 0, false⟩, ⟨0, 2, 1, false⟩, ⟨0, 1, 0, false⟩], .str "left", 1753441162⟩
theorem ok4 : t4.Ok := ⟨⟨⟨by kernel_rfl, by kernel_rfl, by kernel_rfl⟩, by kernel_rfl, by kernel_rfl, by kernel_rfl, by kernel_rfl, .inr (.inl rfl), by kernel_rfl⟩, by kernel_rfl, by kernel_rfl⟩
def t12 : FT := ⟨.tup [.str "right", .str "down", .str "left"], [⟨0, 0, 1, false⟩, ⟨0, 3, 0, false⟩, ⟨1, 3, 1, true⟩, ⟨1, 0, 0, true⟩, ⟨1, 1, 1, true⟩, ⟨1, 2, 0, true⟩, ⟨0, 2, 1, false⟩, ⟨0, 1, 0, false⟩], .str "left", 1786206731⟩
theorem ok12 : t12.Ok := ⟨⟨⟨by kernel_rfl, by kernel_rfl, by kernel_rfl⟩, by kernel_rfl, by kernel_rfl, by kernel_rfl, by kernel_rfl, .inr (.inr (.inl rfl)), by kernel_rfl⟩, by kernel_rfl, by kernel_rfl⟩
def t20 : FT := ⟨.tup [.str "right", .str "right", .str "left"], [⟨0, 0, 1, false⟩, ⟨0, 7, 0, false⟩, ⟨0, 4, 1, false⟩, ⟨0, 3, 0, false⟩, ⟨0, 2, 1, false⟩, ⟨0, 5, 0, false⟩, ⟨0, 6, 1, false⟩, ⟨0, 1, 0, false⟩], .str "left", 983485877⟩
theorem ok20 : t20.Ok := ⟨⟨⟨by kernel_rfl, by kernel_rfl, by kernel_rfl⟩, by kernel_rfl, by kernel_rfl, by kernel_rfl, by kernel_rfl, .inr (.inr (.inl rfl)), by kernel_rfl⟩, by kernel_rfl, by kernel_rfl⟩
def t28 : FT := ⟨.tup [.str "right", .str "down", .str "right"], [⟨0, 1, 1, false⟩, ⟨0, 2, 0, false⟩, ⟨1, 2, 1, true⟩, ⟨1, 1, 0, true⟩, ⟨1, 0, 1, true⟩, ⟨1, 3, 0, true⟩, ⟨0, 3, 1, false⟩, ⟨0, 0, 0, false⟩], .str "right", 46791196⟩
theorem ok28 : t28.Ok := ⟨⟨⟨by kernel_rfl, by kernel_rfl, by kernel_rfl⟩, by kernel_rfl, by kernel_rfl, by kernel_rfl, by kernel_rfl, .inr (.inr (.inl rfl)), by kernel_rfl⟩, by kernel_rfl, by kernel_rfl⟩
def t36 : FT := ⟨.tup [.str "right", .str "right", .str "right"], [⟨0, 1, 1, false⟩, ⟨0, 6, 0, false⟩, ⟨0, 5, 1, false⟩, ⟨0, 2, 0, false⟩, ⟨0, 3, 1, false⟩, ⟨0, 4, 0, false⟩, ⟨0, 7, 1, false⟩, ⟨0, 0, 0, false⟩], .str "right", 43143449⟩
theorem ok36 : t36.Ok := ⟨⟨⟨by kernel_rfl, by kernel_rfl, by kernel_rfl⟩, by kernel_rfl, by kernel_rfl, by kernel_rfl, by kernel_rfl, .inr (.inr (.inl rfl)), by kernel_rfl⟩, by kernel_rfl, by kernel_rfl⟩
def t44 : FT := ⟨.tup [.str "right", .str "down", .str "down", .str "left"], [⟨0, 0, 1, false⟩, ⟨0, 3, 0, false⟩, ⟨3, 3, 1, true⟩, ⟨3, 0, 0, true⟩, ⟨2, 0, 1, false⟩, ⟨2, 3, 0, false⟩, ⟨1, 3, 1, true⟩, ⟨1, 0, 0, true⟩, ⟨1, 1, 1, true⟩, ⟨1, 2, 0, true⟩, ⟨2, 2, 1, false⟩, ⟨2, 1, 0, false⟩, ⟨3, 1, 1, true⟩, ⟨3, 2, 0, true⟩, ⟨0, 2, 1, false⟩, ⟨0, 1, 0, false⟩], .str "left", 1344522426⟩
theorem ok44 : t44.Ok := ⟨⟨⟨by kernel_rfl, by kernel_rfl, by kernel_rfl⟩, by kernel_rfl, by kernel_rfl, by kernel_rfl, by kernel_rfl, .inr (.inr (.inr rfl)), by kernel_rfl⟩, by kernel_rfl, by kernel_rfl⟩
def t52 : FT := ⟨.tup [.str "right", .str "right", .str "down", .str "left"], [⟨0, 0, 1, false⟩, ⟨0, 7, 0, false⟩, ⟨0, 4, 1, false⟩, ⟨0, 3, 0, false⟩, ⟨1, 3, 1, true⟩, ⟨1, 4, 0, true⟩, ⟨1, 7, 1, true⟩, ⟨1, 0, 0, true⟩, ⟨1, 1, 1, true⟩, ⟨1, 6, 0, true⟩, ⟨1, 5, 1, true⟩, ⟨1, 2, 0, true⟩, ⟨0, 2, 1, false⟩, ⟨0, 5, 0, false⟩, ⟨0, 6, 1, false⟩, ⟨0, 1, 0, false⟩], .str "left", 622374443⟩
theorem ok52 : t52.Ok := ⟨⟨⟨by kernel_rfl, by kernel_rfl, by kernel_rfl⟩, by kernel_rfl, by kernel_rfl, by kernel_rfl, by kernel_rfl, .inr (.inr (.inr rfl)), by kernel_rfl⟩, by kernel_rfl, by kernel_rfl⟩
def t60 : FT := ⟨.tup [.str "right", .str "down", .str "left", .str "left"], [⟨0, 2, 1, false⟩, ⟨0, 5, 0, false⟩, ⟨1, 5, 1, true⟩, ⟨1, 2, 0, true⟩, ⟨1, 1, 1, true⟩, ⟨1, 6, 0, true⟩, ⟨0, 6, 1, false⟩, ⟨0, 1, 0, false⟩, ⟨0, 0, 1, false⟩, ⟨0, 7, 0, false⟩, ⟨1, 7, 1, true⟩, ⟨1, 0, 0, true⟩, ⟨1, 3, 1, true⟩, ⟨1, 4, 0, true⟩, ⟨0, 4, 1, false⟩, ⟨0, 3, 0, false⟩], .str "left", 1489625447⟩
theorem ok60 : t60.Ok := ⟨⟨⟨by kernel_rfl, by kernel_rfl, by kernel_rfl⟩, by kernel_rfl, by kernel_rfl, by kernel_rfl, by kernel_rfl, .inr (.inr (.inr rfl)), by kernel_rfl⟩, by kernel_rfl, by kernel_rfl⟩
def t68 : FT := ⟨.tup [.str "right", .str "right", .str "left", .str "left"], [⟨0, 2, 1, false⟩, ⟨0, 13, 0, false⟩, ⟨0, 10, 1, false⟩, ⟨0, 5, 0, false⟩, ⟨0, 6, 1, false⟩, ⟨0, 9, 0, false⟩, ⟨0, 14, 1, false⟩, ⟨0, 1, 0, false⟩, ⟨0, 0, 1, false⟩, ⟨0, 15, 0, false⟩, ⟨0, 8, 1, false⟩, ⟨0, 7, 0, false⟩, ⟨0, 4, 1, false⟩, ⟨0, 11, 0, false⟩, ⟨0, 12, 1, false⟩, ⟨0, 3, 0, false⟩], .str "left", 1399503492⟩
theorem ok68 : t68.Ok := ⟨⟨⟨by kernel_rfl, by kernel_rfl, by kernel_rfl⟩, by kernel_rfl, by kernel_rfl, by kernel_rfl, by kernel_rfl, .inr (.inr (.inr rfl)), by kernel_rfl⟩, by kernel_rfl, by kernel_rfl⟩
def t76 : FT := ⟨.tup [.str "right", .str "down", .str "right", .str "left"], [⟨0, 0, 1, false⟩, ⟨0, 7, 0, false⟩, ⟨1, 7, 1, true⟩, ⟨1, 0, 0, true⟩, ⟨1, 3, 1, true⟩, ⟨1, 4, 0, true⟩, ⟨0, 4, 1, false⟩, ⟨0, 3, 0, false⟩, ⟨0, 2, 1, false⟩, ⟨0, 5, 0, false⟩, ⟨1, 5, 1, true⟩, ⟨1, 2, 0, true⟩, ⟨1, 1, 1, true⟩, ⟨1, 6, 0, true⟩, ⟨0, 6, 1, false⟩, ⟨0, 1, 0, false⟩], .str "left", 2100642713⟩
theorem ok76 : t76.Ok := ⟨⟨⟨by kernel_rfl, by kernel_rfl, by kernel_rfl⟩, by kernel_rfl, by kernel_rfl, by kernel_rfl, by kernel_rfl, .inr (.inr (.inr rfl)), by kernel_rfl⟩, by kernel_rfl, by kernel_rfl⟩
def t84 : FT := ⟨.tup [.str "right", .str "right", .str "right", .str "left"], [⟨0, 0, 1, false⟩, ⟨0, 15, 0, false⟩, ⟨0, 8, 1, false⟩, ⟨0, 7, 0, false⟩, ⟨0, 4, 1, false⟩, ⟨0, 11, 0, false⟩, ⟨0, 12, 1, false⟩, ⟨0, 3, 0, false⟩, ⟨0, 2, 1, false⟩, ⟨0, 13, 0, false⟩, ⟨0, 10, 1, false⟩, ⟨0, 5, 0, false⟩, ⟨0, 6, 1, false⟩, ⟨0, 9, 0, false⟩, ⟨0, 14, 1, false⟩, ⟨0, 1, 0, false⟩], .str "left", 709793811⟩
theorem ok84 : t84.Ok := ⟨⟨⟨by kernel_rfl, by kernel_rfl, by kernel_rfl⟩, by kernel_rfl, by kernel_rfl, by kernel_rfl, by kernel_rfl, .inr (.inr (.inr rfl)), by kernel_rfl⟩, by kernel_rfl, by kernel_rfl⟩
def t92 : FT := ⟨.tup [.str "right", .str "down", .str "up", .str "left"], [⟨1, 0, 1, false⟩, ⟨1, 3, 0, false⟩, ⟨2, 3, 1, true⟩, ⟨2, 0, 0, true⟩, ⟨3, 0, 1, false⟩, ⟨3, 3, 0, false⟩, ⟨0, 3, 1, true⟩, ⟨0, 0, 0, true⟩, ⟨0, 1, 1, true⟩, ⟨0, 2, 0, true⟩, ⟨3, 2, 1, false⟩, ⟨3, 1, 0, false⟩, ⟨2, 1, 1, true⟩, ⟨2, 2, 0, true⟩, ⟨1, 2, 1, false⟩, ⟨1, 1, 0, false⟩], .str "left", 1693576297⟩
theorem ok92 : t92.Ok := ⟨⟨⟨by kernel_rfl, by kernel_rfl, by kernel_rfl⟩, by kernel_rfl, by kernel_rfl, by kernel_rfl, by kernel_rfl, .inr (.inr (.inr rfl)), by kernel_rfl⟩, by kernel_rfl, by kernel_rfl⟩
def t100 : FT := ⟨.tup [.str "right", .str "right", .str "up", .str "left"], [⟨1, 0, 1, false⟩, ⟨1, 7, 0, false⟩, ⟨1, 4, 1, false⟩, ⟨1, 3, 0, false⟩, ⟨0, 3, 1, true⟩, ⟨0, 4, 0, true⟩, ⟨0, 7, 1, true⟩, ⟨0, 0, 0, true⟩, ⟨0, 1, 1, true⟩, ⟨0, 6, 0, true⟩, ⟨0, 5, 1, true⟩, ⟨0, 2, 0, true⟩, ⟨1, 2, 1, false⟩, ⟨1, 5, 0, false⟩, ⟨1, 6, 1, false⟩, ⟨1, 1, 0, false⟩], .str "left", 584003718⟩
theorem ok100 : t100.Ok := ⟨⟨⟨by kernel_rfl, by kernel_rfl, by kernel_rfl⟩, by kernel_rfl, by kernel_rfl, by kernel_rfl, by kernel_rfl, .inr (.inr (.inr rfl)), by kernel_rfl⟩, by kernel_rfl, by kernel_rfl⟩
def t108 : FT := ⟨.tup [.str "right", .str "down", .str "down", .str "right"], [⟨0, 1, 1, false⟩, ⟨0, 2, 0, false⟩, ⟨3, 2, 1, true⟩, ⟨3, 1, 0, true⟩, ⟨2, 1, 1, false⟩, ⟨2, 2, 0, false⟩, ⟨1, 2, 1, true⟩, ⟨1, 1, 0, true⟩, ⟨1, 0, 1, true⟩, ⟨1, 3, 0, true⟩, ⟨2, 3, 1, false⟩, ⟨2, 0, 0, false⟩, ⟨3, 0, 1, true⟩, ⟨3, 3, 0, true⟩, ⟨0, 3, 1, false⟩, ⟨0, 0, 0, false⟩], .str "right", 1664422104⟩
theorem ok108 : t108.Ok := ⟨⟨⟨by kernel_rfl, by kernel_rfl, by kernel_rfl⟩, by kernel_rfl, by kernel_rfl, by kernel_rfl, by kernel_rfl, .inr (.inr (.inr rfl)), by kernel_rfl⟩, by kernel_rfl, by kernel_rfl⟩
def t116 : FT := ⟨.tup [.str "right", .str "right", .str "down", .str "right"], [⟨0, 1, 1, false⟩, ⟨0, 6, 0, false⟩, ⟨0, 5, 1, false⟩, ⟨0, 2, 0, false⟩, ⟨1, 2, 1, true⟩, ⟨1, 5, 0, true⟩, ⟨1, 6, 1, true⟩, ⟨1, 1, 0, true⟩, ⟨1, 0, 1, true⟩, ⟨1, 7, 0, true⟩, ⟨1, 4, 1, true⟩, ⟨1, 3, 0, true⟩, ⟨0, 3, 1, false⟩, ⟨0, 4, 0, false⟩, ⟨0, 7, 1, false⟩, ⟨0, 0, 0, false⟩], .str "right", 1525642190⟩
theorem ok116 : t116.Ok := ⟨⟨⟨by kernel_rfl, by kernel_rfl, by kernel_rfl⟩, by kernel_rfl, by kernel_rfl, by kernel_rfl, by kernel_rfl, .inr (.inr (.inr rfl)), by kernel_rfl⟩, by kernel_rfl, by kernel_rfl⟩
def t124 : FT := ⟨.tup [.str "right", .str "down", .str "left", .str "right"], [⟨0, 3, 1, false⟩, ⟨0, 4, 0, false⟩, ⟨1, 4, 1, true⟩, ⟨1, 3, 0, true⟩, ⟨1, 0, 1, true⟩, ⟨1, 7, 0, true⟩, ⟨0, 7, 1, false⟩, ⟨0, 0, 0, false⟩, ⟨0, 1, 1, false⟩, ⟨0, 6, 0, false⟩, ⟨1, 6, 1, true⟩, ⟨1, 1, 0, true⟩, ⟨1, 2, 1, true⟩, ⟨1, 5, 0, true⟩, ⟨0, 5, 1, false⟩, ⟨0, 2, 0, false⟩], .str "right", 2000253038⟩
theorem ok124 : t124.Ok := ⟨⟨⟨by kernel_rfl, by kernel_rfl, by kernel_rfl⟩, by kernel_rfl, by kernel_rfl, by kernel_rfl, by kernel_rfl, .inr (.inr (.inr rfl)), by kernel_rfl⟩, by kernel_rfl, by kernel_rfl⟩
def t132 : FT := ⟨.tup [.str "right", .str "right", .str "left", .str "right"], [⟨0, 3, 1, false⟩, ⟨0, 12, 0, false⟩, ⟨0, 11, 1, false⟩, ⟨0, 4, 0, false⟩, ⟨0, 7, 1, false⟩, ⟨0, 8, 0, false⟩, ⟨0, 15, 1, false⟩, ⟨0, 0, 0, false⟩, ⟨0, 1, 1, false⟩, ⟨0, 14, 0, false⟩, ⟨0, 9, 1, false⟩, ⟨0, 6, 0, false⟩, ⟨0, 5, 1, false⟩, ⟨0, 10, 0, false⟩, ⟨0, 13, 1, false⟩, ⟨0, 2, 0, false⟩], .str "right", 937415300⟩
theorem ok132 : t132.Ok := ⟨⟨⟨by kernel_rfl, by kernel_rfl, by kernel_rfl⟩, by kernel_rfl, by kernel_rfl, by kernel_rfl, by kernel_rfl, .inr (.inr (.inr rfl)), by kernel_rfl⟩, by kernel_rfl, by kernel_rfl⟩
def t140 : FT := ⟨.tup [.str "right", .str "down", .str "right", .str "right"], [⟨0, 1, 1, false⟩, ⟨0, 6, 0, false⟩, ⟨1, 6, 1, true⟩, ⟨1, 1, 0, true⟩, ⟨1, 2, 1, true⟩, ⟨1, 5, 0, true⟩, ⟨0, 5, 1, false⟩, ⟨0, 2, 0, false⟩, ⟨0, 3, 1, false⟩, ⟨0, 4, 0, false⟩, ⟨1, 4, 1, true⟩, ⟨1, 3, 0, true⟩, ⟨1, 0, 1, true⟩, ⟨1, 7, 0, true⟩, ⟨0, 7, 1, false⟩, ⟨0, 0, 0, false⟩], .str "right", 463786657⟩
theorem ok140 : t140.Ok := ⟨⟨⟨by kernel_rfl, by kernel_rfl, by kernel_rfl⟩, by kernel_rfl, by kernel_rfl, by kernel_rfl, by kernel_rfl, .inr (.inr (.inr rfl)), by kernel_rfl⟩, by kernel_rfl, by kernel_rfl⟩
def t148 : FT := ⟨.tup [.str "right", .str "right", .str "right", .str "right"], [⟨0, 1, 1, false⟩, ⟨0, 14, 0, false⟩, ⟨0, 9, 1, false⟩, ⟨0, 6, 0, false⟩, ⟨0, 5, 1, false⟩, ⟨0, 10, 0, false⟩, ⟨0, 13, 1, false⟩, ⟨0, 2, 0, false⟩, ⟨0, 3, 1, false⟩, ⟨0, 12, 0, false⟩, ⟨0, 11, 1, false⟩, ⟨0, 4, 0, false⟩, ⟨0, 7, 1, false⟩, ⟨0, 8, 0, false⟩, ⟨0, 15, 1, false⟩, ⟨0, 0, 0, false⟩], .str "right", 247705619⟩
theorem ok148 : t148.Ok := ⟨⟨⟨by kernel_rfl, by kernel_rfl, by kernel_rfl⟩, by kernel_rfl, by kernel_rfl, by kernel_rfl, by kernel_rfl, .inr (.inr (.inr rfl)), by kernel_rfl⟩, by kernel_rfl, by kernel_rfl⟩
def t156 : FT := ⟨.tup [.str "right", .str "down", .str "up", .str "right"], [⟨1, 1, 1, false⟩, ⟨1, 2, 0, false⟩, ⟨2, 2, 1, true⟩, ⟨2, 1, 0, true⟩, ⟨3, 1, 1, false⟩, ⟨3, 2, 0, false⟩, ⟨0, 2, 1, true⟩, ⟨0, 1, 0, true⟩, ⟨0, 0, 1, true⟩, ⟨0, 3, 0, true⟩, ⟨3, 3, 1, false⟩, ⟨3, 0, 0, false⟩, ⟨2, 0, 1, true⟩, ⟨2, 3, 0, true⟩, ⟨1, 3, 1, false⟩, ⟨1, 0, 0, false⟩], .str "right", 2013475975⟩
theorem ok156 : t156.Ok := ⟨⟨⟨by kernel_rfl, by kernel_rfl, by kernel_rfl⟩, by kernel_rfl, by kernel_rfl, by kernel_rfl, by kernel_rfl, .inr (.inr (.inr rfl)), by kernel_rfl⟩, by kernel_rfl, by kernel_rfl⟩
def t164 : FT := ⟨.tup [.str "right", .str "right", .str "up", .str "right"], [⟨1, 1, 1, false⟩, ⟨1, 6, 0, false⟩, ⟨1, 5, 1, false⟩, ⟨1, 2, 0, false⟩, ⟨0, 2, 1, true⟩, ⟨0, 5, 0, true⟩, ⟨0, 6, 1, true⟩, ⟨0, 1, 0, true⟩, ⟨0, 0, 1, true⟩, ⟨0, 7, 0, true⟩, ⟨0, 4, 1, true⟩, ⟨0, 3, 0, true⟩, ⟨1, 3, 1, false⟩, ⟨1, 4, 0, false⟩, ⟨1, 7, 1, false⟩, ⟨1, 0, 0, false⟩], .str "right", 1487271465⟩
theorem ok164 : t164.Ok := ⟨⟨⟨by kernel_rfl, by kernel_rfl, by kernel_rfl⟩, by kernel_rfl, by kernel_rfl, by kernel_rfl, by kernel_rfl, .inr (.inr (.inr rfl)), by kernel_rfl⟩, by kernel_rfl, by kernel_rfl⟩
end K27
end
section
set_option Elab.async false
set_option linter.all false
set_option maxRecDepth 100000
set_option maxHeartbeats 4000000
namespace K27
open PySem PySem.Spec PyProof.Rows L2 PL
def t5 : FT := ⟨.tup [.str "up", .str "left"], [⟨1, 0, 1, false⟩, ⟨0, 0, 0, true⟩, ⟨0, 1, 1, true⟩, ⟨1, 1, 0, false⟩], .str "left", 530164301⟩
theorem ok5 : t5.Ok := ⟨⟨⟨by kernel_rfl, by kernel_rfl, by kernel_rfl⟩, by kernel_rfl, by kernel_rfl, by kernel_rfl, by kernel_rfl, .inr (.inl rfl), by kernel_rfl⟩, by kernel_rfl, by kernel_rfl⟩
def t13 : FT := ⟨.tup [.str "up", .str "down", .str "left"], [⟨2, 0, 1, false⟩, ⟨1, 0, 0, true⟩, ⟨0, 0, 1, false⟩, ⟨3, 0, 0, true⟩, ⟨3, 1, 1, true⟩, ⟨0, 1, 0, false⟩, ⟨1, 1, 1, true⟩, ⟨2, 1, 0, false⟩], .str "left", 52991985⟩
theorem ok13 : t13.Ok := ⟨⟨⟨by kernel_rfl, by kernel_rfl, by kernel_rfl⟩, by kernel_rfl, by kernel_rfl, by kernel_rfl, by kernel_rfl, .inr (.inr (.inl rfl)), by kernel_rfl⟩, by kernel_rfl, by kernel_rfl⟩
def t21 : FT := ⟨.tup [.str "up", .str "right", .str "left"], [⟨1, 0, 1, false⟩, ⟨0, 0, 0, true⟩, ⟨0, 3, 1, true⟩, ⟨1, 3, 0, false⟩, ⟨1, 2, 1, false⟩, ⟨0, 2, 0, true⟩, ⟨0, 1, 1, true⟩, ⟨1, 1, 0, false⟩], .str "left", 679704403⟩
theorem ok21 : t21.Ok := ⟨⟨⟨by kernel_rfl, by kernel_rfl, by kernel_rfl⟩, by kernel_rfl, by kernel_rfl, by kernel_rfl, by kernel_rfl, .inr (.inr (.inl rfl)), by kernel_rfl⟩, by kernel_rfl, by kernel_rfl⟩
def t29 : FT := ⟨.tup [.str "up", .str "down", .str "right"], [⟨2, 1, 1, false⟩, ⟨1, 1, 0, true⟩, ⟨0, 1, 1, false⟩, ⟨3, 1, 0, true⟩, ⟨3, 0, 1, true⟩, ⟨0, 0, 0, false⟩, ⟨1, 0, 1, true⟩, ⟨2, 0, 0, false⟩], .str "right", 466812260⟩
theorem ok29 : t29.Ok := ⟨⟨⟨by kernel_rfl, by kernel_rfl, by kernel_rfl⟩, by kernel_rfl, by kernel_rfl, by kernel_rfl, by kernel_rfl, .inr (.inr (.inl rfl)), by kernel_rfl⟩, by kernel_rfl, by kernel_rfl⟩
def t37 : FT := ⟨.tup [.str "up", .str "right", .str "right"], [⟨1, 1, 1, false⟩, ⟨0, 1, 0, true⟩, ⟨0, 2, 1, true⟩, ⟨1, 2, 0, false⟩, ⟨1, 3, 1, false⟩, ⟨0, 3, 0, true⟩, ⟨0, 0, 1, true⟩, ⟨1, 0, 0, false⟩], .str "right", 1218294006⟩
theorem ok37 : t37.Ok := ⟨⟨⟨by kernel_rfl, by kernel_rfl, by kernel_rfl⟩, by kernel_rfl, by kernel_rfl, by kernel_rfl, by kernel_rfl, .inr (.inr (.inl rfl)), by kernel_rfl⟩, by kernel_rfl, by kernel_rfl⟩
def t45 : FT := ⟨.tup [.str "up", .str "down", .str "down", .str "left"], [⟨4, 0, 1, false⟩, ⟨3, 0, 0, true⟩, ⟨0, 0, 1, false⟩, ⟨7, 0, 0, true⟩, ⟨6, 0, 1, false⟩, ⟨1, 0, 0, true⟩, ⟨2, 0, 1, false⟩, ⟨5, 0, 0, true⟩, ⟨5, 1, 1, true⟩, ⟨2, 1, 0, false⟩, ⟨1, 1, 1, true⟩, ⟨6, 1, 0, false⟩, ⟨7, 1, 1, true⟩, ⟨0, 1, 0, false⟩, ⟨3, 1, 1, true⟩, ⟨4, 1, 0, false⟩], .str "left", 2027247552⟩
theorem ok45 : t45.Ok := ⟨⟨⟨by kernel_rfl, by kernel_rfl, by kernel_rfl⟩, by kernel_rfl, by kernel_rfl, by kernel_rfl, by kernel_rfl, .inr (.inr (.inr rfl)), by kernel_rfl⟩, by kernel_rfl, by kernel_rfl⟩
def t53 : FT := ⟨.tup [.str "up", .str "right", .str "down", .str "left"], [⟨2, 0, 1, false⟩, ⟨1, 0, 0, true⟩, ⟨1, 3, 1, true⟩, ⟨2, 3, 0, false⟩, ⟨3, 3, 1, true⟩, ⟨0, 3, 0, false⟩, ⟨0, 0, 1, false⟩, ⟨3, 0, 0, true⟩, ⟨3, 1, 1, true⟩, ⟨0, 1, 0, false⟩, ⟨0, 2, 1, false⟩, ⟨3, 2, 0, true⟩, ⟨2, 2, 1, false⟩, ⟨1, 2, 0, true⟩, ⟨1, 1, 1, true⟩, ⟨2, 1, 0, false⟩], .str "left", 1773610156⟩
theorem ok53 : t53.Ok := ⟨⟨⟨by kernel_rfl, by kernel_rfl, by kernel_rfl⟩, by kernel_rfl, by kernel_rfl, by kernel_rfl, by kernel_rfl, .inr (.inr (.inr rfl)), by kernel_rfl⟩, by kernel_rfl, by kernel_rfl⟩
def t61 : FT := ⟨.tup [.str "up", .str "down", .str "left", .str "left"], [⟨2, 2, 1, false⟩, ⟨1, 2, 0, true⟩, ⟨0, 2, 1, false⟩, ⟨3, 2, 0, true⟩, ⟨3, 1, 1, true⟩, ⟨0, 1, 0, false⟩, ⟨1, 1, 1, true⟩, ⟨2, 1, 0, false⟩, ⟨2, 0, 1, false⟩, ⟨1, 0, 0, true⟩, ⟨0, 0, 1, false⟩, ⟨3, 0, 0, true⟩, ⟨3, 3, 1, true⟩, ⟨0, 3, 0, false⟩, ⟨1, 3, 1, true⟩, ⟨2, 3, 0, false⟩], .str "left", 296604890⟩
theorem ok61 : t61.Ok := ⟨⟨⟨by kernel_rfl, by kernel_rfl, by kernel_rfl⟩, by kernel_rfl, by kernel_rfl, by kernel_rfl, by kernel_rfl, .inr (.inr (.inr rfl)), by kernel_rfl⟩, by kernel_rfl, by kernel_rfl⟩
def t69 : FT := ⟨.tup [.str "up", .str "right", .str "left", .str "left"], [⟨1, 2, 1, false⟩, ⟨0, 2, 0, true⟩, ⟨0, 5, 1, true⟩, ⟨1, 5, 0, false⟩, ⟨1, 6, 1, false⟩, ⟨0, 6, 0, true⟩, ⟨0, 1, 1, true⟩, ⟨1, 1, 0, false⟩, ⟨1, 0, 1, false⟩, ⟨0, 0, 0, true⟩, ⟨0, 7, 1, true⟩, ⟨1, 7, 0, false⟩, ⟨1, 4, 1, false⟩, ⟨0, 4, 0, true⟩, ⟨0, 3, 1, true⟩, ⟨1, 3, 0, false⟩], .str "left", 2020618143⟩
theorem ok69 : t69.Ok := ⟨⟨⟨by kernel_rfl, by kernel_rfl, by kernel_rfl⟩, by kernel_rfl, by kernel_rfl, by kernel_rfl, by kernel_rfl, .inr (.inr (.inr rfl)), by kernel_rfl⟩, by kernel_rfl, by kernel_rfl⟩
def t77 : FT := ⟨.tup [.str "up", .str "down", .str "right", .str "left"], [⟨2, 0, 1, false⟩, ⟨1, 0, 0, true⟩, ⟨0, 0, 1, false⟩, ⟨3, 0, 0, true⟩, ⟨3, 3, 1, true⟩, ⟨0, 3, 0, false⟩, ⟨1, 3, 1, true⟩, ⟨2, 3, 0, false⟩, ⟨2, 2, 1, false⟩, ⟨1, 2, 0, true⟩, ⟨0, 2, 1, false⟩, ⟨3, 2, 0, true⟩, ⟨3, 1, 1, true⟩, ⟨0, 1, 0, false⟩, ⟨1, 1, 1, true⟩, ⟨2, 1, 0, false⟩], .str "left", 2012739900⟩
theorem ok77 : t77.Ok := ⟨⟨⟨by kernel_rfl, by kernel_rfl, by kernel_rfl⟩, by kernel_rfl, by kernel_rfl, by kernel_rfl, by kernel_rfl, .inr (.inr (.inr rfl)), by kernel_rfl⟩, by kernel_rfl, by kernel_rfl⟩
def t85 : FT := ⟨.tup [.str "up", .str "right", .str "right", .str "left"], [⟨1, 0, 1, false⟩, ⟨0, 0, 0, true⟩, ⟨0, 7, 1, true⟩, ⟨1, 7, 0, false⟩, ⟨1, 4, 1, false⟩, ⟨0, 4, 0, true⟩, ⟨0, 3, 1, true⟩, ⟨1, 3, 0, false⟩, ⟨1, 2, 1, false⟩, ⟨0, 2, 0, true⟩, ⟨0, 5, 1, true⟩, ⟨1, 5, 0, false⟩, ⟨1, 6, 1, false⟩, ⟨0, 6, 0, true⟩, ⟨0, 1, 1, true⟩, ⟨1, 1, 0, false⟩], .str "left", 651033793⟩
theorem ok85 : t85.Ok := ⟨⟨⟨by kernel_rfl, by kernel_rfl, by kernel_rfl⟩, by kernel_rfl, by kernel_rfl, by kernel_rfl, by kernel_rfl, .inr (.inr (.inr rfl)), by kernel_rfl⟩, by kernel_rfl, by kernel_rfl⟩
def t93 : FT := ⟨.tup [.str "up", .str "down", .str "up", .str "left"], [⟨5, 0, 1, false⟩, ⟨2, 0, 0, true⟩, ⟨1, 0, 1, false⟩, ⟨6, 0, 0, true⟩, ⟨7, 0, 1, false⟩, ⟨0, 0, 0, true⟩, ⟨3, 0, 1, false⟩, ⟨4, 0, 0, true⟩, ⟨4, 1, 1, true⟩, ⟨3, 1, 0, false⟩, ⟨0, 1, 1, true⟩, ⟨7, 1, 0, false⟩, ⟨6, 1, 1, true⟩, ⟨1, 1, 0, false⟩, ⟨2, 1, 1, true⟩, ⟨5, 1, 0, false⟩], .str "left", 1019633108⟩
theorem ok93 : t93.Ok := ⟨⟨⟨by kernel_rfl, by kernel_rfl, by kernel_rfl⟩, by kernel_rfl, by kernel_rfl, by kernel_rfl, by kernel_rfl, .inr (.inr (.inr rfl)), by kernel_rfl⟩, by kernel_rfl, by kernel_rfl⟩
def t101 : FT := ⟨.tup [.str "up", .str "right", .str "up", .str "left"], [⟨3, 0, 1, false⟩, ⟨0, 0, 0, true⟩, ⟨0, 3, 1, true⟩, ⟨3, 3, 0, false⟩, ⟨2, 3, 1, true⟩, ⟨1, 3, 0, false⟩, ⟨1, 0, 1, false⟩, ⟨2, 0, 0, true⟩, ⟨2, 1, 1, true⟩, ⟨1, 1, 0, false⟩, ⟨1, 2, 1, false⟩, ⟨2, 2, 0, true⟩, ⟨3, 2, 1, false⟩, ⟨0, 2, 0, true⟩, ⟨0, 1, 1, true⟩, ⟨3, 1, 0, false⟩], .str "left", 1837641065⟩
theorem ok101 : t101.Ok := ⟨⟨⟨by kernel_rfl, by kernel_rfl, by kernel_rfl⟩, by kernel_rfl, by kernel_rfl, by kernel_rfl, by kernel_rfl, .inr (.inr (.inr rfl)), by kernel_rfl⟩, by kernel_rfl, by kernel_rfl⟩
def t109 : FT := ⟨.tup [.str "up", .str "down", .str "down", .str "right"], [⟨4, 1, 1, false⟩, ⟨3, 1, 0, true⟩, ⟨0, 1, 1, false⟩, ⟨7, 1, 0, true⟩, ⟨6, 1, 1, false⟩, ⟨1, 1, 0, true⟩, ⟨2, 1, 1, false⟩, ⟨5, 1, 0, true⟩, ⟨5, 0, 1, true⟩, ⟨2, 0, 0, false⟩, ⟨1, 0, 1, true⟩, ⟨6, 0, 0, false⟩, ⟨7, 0, 1, true⟩, ⟨0, 0, 0, false⟩, ⟨3, 0, 1, true⟩, ⟨4, 0, 0, false⟩], .str "right", 196331836⟩
theorem ok109 : t109.Ok := ⟨⟨⟨by kernel_rfl, by kernel_rfl, by kernel_rfl⟩, by kernel_rfl, by kernel_rfl, by kernel_rfl, by kernel_rfl, .inr (.inr (.inr rfl)), by kernel_rfl⟩, by kernel_rfl, by kernel_rfl⟩
def t117 : FT := ⟨.tup [.str "up", .str "right", .str "down", .str "right"], [⟨2, 1, 1, false⟩, ⟨1, 1, 0, true⟩, ⟨1, 2, 1, true⟩, ⟨2, 2, 0, false⟩, ⟨3, 2, 1, true⟩, ⟨0, 2, 0, false⟩, ⟨0, 1, 1, false⟩, ⟨3, 1, 0, true⟩, ⟨3, 0, 1, true⟩, ⟨0, 0, 0, false⟩, ⟨0, 3, 1, false⟩, ⟨3, 3, 0, true⟩, ⟨2, 3, 1, false⟩, ⟨1, 3, 0, true⟩, ⟨1, 0, 1, true⟩, ⟨2, 0, 0, false⟩], .str "right", 1300696307⟩
theorem ok117 : t117.Ok := ⟨⟨⟨by kernel_rfl, by kernel_rfl, by kernel_rfl⟩, by kernel_rfl, by kernel_rfl, by kernel_rfl, by kernel_rfl, .inr (.inr (.inr rfl)), by kernel_rfl⟩, by kernel_rfl, by kernel_rfl⟩
def t125 : FT := ⟨.tup [.str "up", .str "down", .str "left", .str "right"], [⟨2, 3, 1, false⟩, ⟨1, 3, 0, true⟩, ⟨0, 3, 1, false⟩, ⟨3, 3, 0, true⟩, ⟨3, 0, 1, true⟩, ⟨0, 0, 0, false⟩, ⟨1, 0, 1, true⟩, ⟨2, 0, 0, false⟩, ⟨2, 1, 1, false⟩, ⟨1, 1, 0, true⟩, ⟨0, 1, 1, false⟩, ⟨3, 1, 0, true⟩, ⟨3, 2, 1, true⟩, ⟨0, 2, 0, false⟩, ⟨1, 2, 1, true⟩, ⟨2, 2, 0, false⟩], .str "right", 266177935⟩
theorem ok125 : t125.Ok := ⟨⟨⟨by kernel_rfl, by kernel_rfl, by kernel_rfl⟩, by kernel_rfl, by kernel_rfl, by kernel_rfl, by kernel_rfl, .inr (.inr (.inr rfl)), by kernel_rfl⟩, by kernel_rfl, by kernel_rfl⟩
def t133 : FT := ⟨.tup [.str "up", .str "right", .str "left", .str "right"], [⟨1, 3, 1, false⟩, ⟨0, 3, 0, true⟩, ⟨0, 4, 1, true⟩, ⟨1, 4, 0, false⟩, ⟨1, 7, 1, false⟩, ⟨0, 7, 0, true⟩, ⟨0, 0, 1, true⟩, ⟨1, 0, 0, false⟩, ⟨1, 1, 1, false⟩, ⟨0, 1, 0, true⟩, ⟨0, 6, 1, true⟩, ⟨1, 6, 0, false⟩, ⟨1, 5, 1, false⟩, ⟨0, 5, 0, true⟩, ⟨0, 2, 1, true⟩, ⟨1, 2, 0, false⟩], .str "right", 1635105877⟩
theorem ok133 : t133.Ok := ⟨⟨⟨by kernel_rfl, by kernel_rfl, by kernel_rfl⟩, by kernel_rfl, by kernel_rfl, by kernel_rfl, by kernel_rfl, .inr (.inr (.inr rfl)), by kernel_rfl⟩, by kernel_rfl, by kernel_rfl⟩
def t141 : FT := ⟨.tup [.str "up", .str "down", .str "right", .str "right"], [⟨2, 1, 1, false⟩, ⟨1, 1, 0, true⟩, ⟨0, 1, 1, false⟩, ⟨3, 1, 0, true⟩, ⟨3, 2, 1, true⟩, ⟨0, 2, 0, false⟩, ⟨1, 2, 1, true⟩, ⟨2, 2, 0, false⟩, ⟨2, 3, 1, false⟩, ⟨1, 3, 0, true⟩, ⟨0, 3, 1, false⟩, ⟨3, 3, 0, true⟩, ⟨3, 0, 1, true⟩, ⟨0, 0, 0, false⟩, ⟨1, 0, 1, true⟩, ⟨2, 0, 0, false⟩], .str "right", 1982312945⟩
theorem ok141 : t141.Ok := ⟨⟨⟨by kernel_rfl, by kernel_rfl, by kernel_rfl⟩, by kernel_rfl, by kernel_rfl, by kernel_rfl, by kernel_rfl, .inr (.inr (.inr rfl)), by kernel_rfl⟩, by kernel_rfl, by kernel_rfl⟩
def t149 : FT := ⟨.tup [.str "up", .str "right", .str "right", .str "right"], [⟨1, 1, 1, false⟩, ⟨0, 1, 0, true⟩, ⟨0, 6, 1, true⟩, ⟨1, 6, 0, false⟩, ⟨1, 5, 1, false⟩, ⟨0, 5, 0, true⟩, ⟨0, 2, 1, true⟩, ⟨1, 2, 0, false⟩, ⟨1, 3, 1, false⟩, ⟨0, 3, 0, true⟩, ⟨0, 4, 1, true⟩, ⟨1, 4, 0, false⟩, ⟨1, 7, 1, false⟩, ⟨0, 7, 0, true⟩, ⟨0, 0, 1, true⟩, ⟨1, 0, 0, false⟩], .str "right", 265521527⟩
theorem ok149 : t149.Ok := ⟨⟨⟨by kernel_rfl, by kernel_rfl, by kernel_rfl⟩, by kernel_rfl, by kernel_rfl, by kernel_rfl, by kernel_rfl, .inr (.inr (.inr rfl)), by kernel_rfl⟩, by kernel_rfl, by kernel_rfl⟩
def t157 : FT := ⟨.tup [.str "up", .str "down", .str "up", .str "right"], [⟨5, 1, 1, false⟩, ⟨2, 1, 0, true⟩, ⟨1, 1, 1, false⟩, ⟨6, 1, 0, true⟩, ⟨7, 1, 1, false⟩, ⟨0, 1, 0, true⟩, ⟨3, 1, 1, false⟩, ⟨4, 1, 0, true⟩, ⟨4, 0, 1, true⟩, ⟨3, 0, 0, false⟩, ⟨0, 0, 1, true⟩, ⟨7, 0, 0, false⟩, ⟨6, 0, 1, true⟩, ⟨1, 0, 0, false⟩, ⟨2, 0, 1, true⟩, ⟨5, 0, 0, false⟩], .str "right", 1336201039⟩
theorem ok157 : t157.Ok := ⟨⟨⟨by kernel_rfl, by kernel_rfl, by kernel_rfl⟩, by kernel_rfl, by kernel_rfl, by kernel_rfl, by kernel_rfl, .inr (.inr (.inr rfl)), by kernel_rfl⟩, by kernel_rfl, by kernel_rfl⟩
def t165 : FT := ⟨.tup [.str "up", .str "right", .str "up", .str "right"], [⟨3, 1, 1, false⟩, ⟨0, 1, 0, true⟩, ⟨0, 2, 1, true⟩, ⟨3, 2, 0, false⟩, ⟨2, 2, 1, true⟩, ⟨1, 2, 0, false⟩, ⟨1, 1, 1, false⟩, ⟨2, 1, 0, true⟩, ⟨2, 0, 1, true⟩, ⟨1, 0, 0, false⟩, ⟨1, 3, 1, false⟩, ⟨2, 3, 0, true⟩, ⟨3, 3, 1, false⟩, ⟨0, 3, 0, true⟩, ⟨0, 0, 1, true⟩, ⟨3, 0, 0, false⟩], .str "right", 1364727216⟩
theorem ok165 : t165.Ok := ⟨⟨⟨by kernel_rfl, by kernel_rfl, by kernel_rfl⟩, by kernel_rfl, by kernel_rfl, by kernel_rfl, by kernel_rfl, .inr (.inr (.inr rfl)), by kernel_rfl⟩, by kernel_rfl, by kernel_rfl⟩
end K27
end
section
set_option Elab.async false
set_option linter.all false
set_option maxRecDepth 100000
set_option maxHeartbeats 4000000
namespace K27
open PySem PySem.Spec PyProof.Rows L2 PL
def t6 : FT := ⟨.tup [.str "down", .str "right"], [⟨0, 1, 1, false⟩, ⟨1, 1, 0, true⟩, ⟨1, 0, 1, true⟩, ⟨0, 0, 0, false⟩], .str "right", 300543113⟩
theorem ok6 : t6.Ok := ⟨⟨⟨by kernel_rfl, by kernel_rfl, by kernel_rfl⟩, by kernel_rfl, by kernel_rfl, by kernel_rfl, by kernel_rfl, .inr (.inl rfl), by kernel_rfl⟩, by kernel_rfl, by kernel_rfl⟩
def t14 : FT := ⟨.tup [.str "down", .str "left", .str "left"], [⟨0, 2, 1, false⟩, ⟨1, 2, 0, true⟩, ⟨1, 1, 1, true⟩, ⟨0, 1, 0, false⟩, ⟨0, 0, 1, false⟩, ⟨1, 0, 0, true⟩, ⟨1, 3, 1, true⟩, ⟨0, 3, 0, false⟩], .str "left", 473835845⟩
theorem ok14 : t14.Ok := ⟨⟨⟨by kernel_rfl, by kernel_rfl, by kernel_rfl⟩, by kernel_rfl, by kernel_rfl, by kernel_rfl, by kernel_rfl, .inr (.inr (.inl rfl)), by kernel_rfl⟩, by kernel_rfl, by kernel_rfl⟩
def t22 : FT := ⟨.tup [.str "down", .str "up", .str "left"], [⟨1, 0, 1, false⟩, ⟨2, 0, 0, true⟩, ⟨3, 0, 1, false⟩, ⟨0, 0, 0, true⟩, ⟨0, 1, 1, true⟩, ⟨3, 1, 0, false⟩, ⟨2, 1, 1, true⟩, ⟨1, 1, 0, false⟩], .str "left", 1098711657⟩
theorem ok22 : t22.Ok := ⟨⟨⟨by kernel_rfl, by kernel_rfl, by kernel_rfl⟩, by kernel_rfl, by kernel_rfl, by kernel_rfl, by kernel_rfl, .inr (.inr (.inl rfl)), by kernel_rfl⟩, by kernel_rfl, by kernel_rfl⟩
def t30 : FT := ⟨.tup [.str "down", .str "left", .str "right"], [⟨0, 3, 1, false⟩, ⟨1, 3, 0, true⟩, ⟨1, 0, 1, true⟩, ⟨0, 0, 0, false⟩, ⟨0, 1, 1, false⟩, ⟨1, 1, 0, true⟩, ⟨1, 2, 1, true⟩, ⟨0, 2, 0, false⟩], .str "right", 1012425448⟩
theorem ok30 : t30.Ok := ⟨⟨⟨by kernel_rfl, by kernel_rfl, by kernel_rfl⟩, by kernel_rfl, by kernel_rfl, by kernel_rfl, by kernel_rfl, .inr (.inr (.inl rfl)), by kernel_rfl⟩, by kernel_rfl, by kernel_rfl⟩
def t38 : FT := ⟨.tup [.str "down", .str "up", .str "right"], [⟨1, 1, 1, false⟩, ⟨2, 1, 0, true⟩, ⟨3, 1, 1, false⟩, ⟨0, 1, 0, true⟩, ⟨0, 0, 1, true⟩, ⟨3, 0, 0, false⟩, ⟨2, 0, 1, true⟩, ⟨1, 0, 0, false⟩], .str "right", 1512531932⟩
theorem ok38 : t38.Ok := ⟨⟨⟨by kernel_rfl, by kernel_rfl, by kernel_rfl⟩, by kernel_rfl, by kernel_rfl, by kernel_rfl, by kernel_rfl, .inr (.inr (.inl rfl)), by kernel_rfl⟩, by kernel_rfl, by kernel_rfl⟩
def t46 : FT := ⟨.tup [.str "down", .str "left", .str "down", .str "left"], [⟨0, 2, 1, false⟩, ⟨3, 2, 0, true⟩, ⟨3, 1, 1, true⟩, ⟨0, 1, 0, false⟩, ⟨1, 1, 1, true⟩, ⟨2, 1, 0, false⟩, ⟨2, 2, 1, false⟩, ⟨1, 2, 0, true⟩, ⟨1, 3, 1, true⟩, ⟨2, 3, 0, false⟩, ⟨2, 0, 1, false⟩, ⟨1, 0, 0, true⟩, ⟨0, 0, 1, false⟩, ⟨3, 0, 0, true⟩, ⟨3, 3, 1, true⟩, ⟨0, 3, 0, false⟩], .str "left", 74375700⟩
theorem ok46 : t46.Ok := ⟨⟨⟨by kernel_rfl, by kernel_rfl, by kernel_rfl⟩, by kernel_rfl, by kernel_rfl, by kernel_rfl, by kernel_rfl, .inr (.inr (.inr rfl)), by kernel_rfl⟩, by kernel_rfl, by kernel_rfl⟩
def t54 : FT := ⟨.tup [.str "down", .str "up", .str "down", .str "left"], [⟨2, 0, 1, false⟩, ⟨5, 0, 0, true⟩, ⟨6, 0, 1, false⟩, ⟨1, 0, 0, true⟩, ⟨0, 0, 1, false⟩, ⟨7, 0, 0, true⟩, ⟨4, 0, 1, false⟩, ⟨3, 0, 0, true⟩, ⟨3, 1, 1, true⟩, ⟨4, 1, 0, false⟩, ⟨7, 1, 1, true⟩, ⟨0, 1, 0, false⟩, ⟨1, 1, 1, true⟩, ⟨6, 1, 0, false⟩, ⟨5, 1, 1, true⟩, ⟨2, 1, 0, false⟩], .str "left", 1478086667⟩
theorem ok54 : t54.Ok := ⟨⟨⟨by kernel_rfl, by kernel_rfl, by kernel_rfl⟩, by kernel_rfl, by kernel_rfl, by kernel_rfl, by kernel_rfl, .inr (.inr (.inr rfl)), by kernel_rfl⟩, by kernel_rfl, by kernel_rfl⟩
def t62 : FT := ⟨.tup [.str "down", .str "left", .str "left", .str "left"], [⟨0, 6, 1, false⟩, ⟨1, 6, 0, true⟩, ⟨1, 1, 1, true⟩, ⟨0, 1, 0, false⟩, ⟨0, 2, 1, false⟩, ⟨1, 2, 0, true⟩, ⟨1, 5, 1, true⟩, ⟨0, 5, 0, false⟩, ⟨0, 4, 1, false⟩, ⟨1, 4, 0, true⟩, ⟨1, 3, 1, true⟩, ⟨0, 3, 0, false⟩, ⟨0, 0, 1, false⟩, ⟨1, 0, 0, true⟩, ⟨1, 7, 1, true⟩, ⟨0, 7, 0, false⟩], .str "left", 1733454414⟩
theorem ok62 : t62.Ok := ⟨⟨⟨by kernel_rfl, by kernel_rfl, by kernel_rfl⟩, by kernel_rfl, by kernel_rfl, by kernel_rfl, by kernel_rfl, .inr (.inr (.inr rfl)), by kernel_rfl⟩, by kernel_rfl, by kernel_rfl⟩
def t70 : FT := ⟨.tup [.str "down", .str "up", .str "left", .str "left"], [⟨1, 2, 1, false⟩, ⟨2, 2, 0, true⟩, ⟨3, 2, 1, false⟩, ⟨0, 2, 0, true⟩, ⟨0, 1, 1, true⟩, ⟨3, 1, 0, false⟩, ⟨2, 1, 1, true⟩, ⟨1, 1, 0, false⟩, ⟨1, 0, 1, false⟩, ⟨2, 0, 0, true⟩, ⟨3, 0, 1, false⟩, ⟨0, 0, 0, true⟩, ⟨0, 3, 1, true⟩, ⟨3, 3, 0, false⟩, ⟨2, 3, 1, true⟩, ⟨1, 3, 0, false⟩], .str "left", 1095766271⟩
theorem ok70 : t70.Ok := ⟨⟨⟨by kernel_rfl, by kernel_rfl, by kernel_rfl⟩, by kernel_rfl, by kernel_rfl, by kernel_rfl, by kernel_rfl, .inr (.inr (.inr rfl)), by kernel_rfl⟩, by kernel_rfl, by kernel_rfl⟩
def t78 : FT := ⟨.tup [.str "down", .str "left", .str "right", .str "left"], [⟨0, 4, 1, false⟩, ⟨1, 4, 0, true⟩, ⟨1, 3, 1, true⟩, ⟨0, 3, 0, false⟩, ⟨0, 0, 1, false⟩, ⟨1, 0, 0, true⟩, ⟨1, 7, 1, true⟩, ⟨0, 7, 0, false⟩, ⟨0, 6, 1, false⟩, ⟨1, 6, 0, true⟩, ⟨1, 1, 1, true⟩, ⟨0, 1, 0, false⟩, ⟨0, 2, 1, false⟩, ⟨1, 2, 0, true⟩, ⟨1, 5, 1, true⟩, ⟨0, 5, 0, false⟩], .str "left", 363870064⟩
theorem ok78 : t78.Ok := ⟨⟨⟨by kernel_rfl, by kernel_rfl, by kernel_rfl⟩, by kernel_rfl, by kernel_rfl, by kernel_rfl, by kernel_rfl, .inr (.inr (.inr rfl)), by kernel_rfl⟩, by kernel_rfl, by kernel_rfl⟩
def t86 : FT := ⟨.tup [.str "down", .str "up", .str "right", .str "left"], [⟨1, 0, 1, false⟩, ⟨2, 0, 0, true⟩, ⟨3, 0, 1, false⟩, ⟨0, 0, 0, true⟩, ⟨0, 3, 1, true⟩, ⟨3, 3, 0, false⟩, ⟨2, 3, 1, true⟩, ⟨1, 3, 0, false⟩, ⟨1, 2, 1, false⟩, ⟨2, 2, 0, true⟩, ⟨3, 2, 1, false⟩, ⟨0, 2, 0, true⟩, ⟨0, 1, 1, true⟩, ⟨3, 1, 0, false⟩, ⟨2, 1, 1, true⟩, ⟨1, 1, 0, false⟩], .str "left", 664417634⟩
theorem ok86 : t86.Ok := ⟨⟨⟨by kernel_rfl, by kernel_rfl, by kernel_rfl⟩, by kernel_rfl, by kernel_rfl, by kernel_rfl, by kernel_rfl, .inr (.inr (.inr rfl)), by kernel_rfl⟩, by kernel_rfl, by kernel_rfl⟩
def t94 : FT := ⟨.tup [.str "down", .str "left", .str "up", .str "left"], [⟨1, 2, 1, false⟩, ⟨2, 2, 0, true⟩, ⟨2, 1, 1, true⟩, ⟨1, 1, 0, false⟩, ⟨0, 1, 1, true⟩, ⟨3, 1, 0, false⟩, ⟨3, 2, 1, false⟩, ⟨0, 2, 0, true⟩, ⟨0, 3, 1, true⟩, ⟨3, 3, 0, false⟩, ⟨3, 0, 1, false⟩, ⟨0, 0, 0, true⟩, ⟨1, 0, 1, false⟩, ⟨2, 0, 0, true⟩, ⟨2, 3, 1, true⟩, ⟨1, 3, 0, false⟩], .str "left", 138406609⟩
theorem ok94 : t94.Ok := ⟨⟨⟨by kernel_rfl, by kernel_rfl, by kernel_rfl⟩, by kernel_rfl, by kernel_rfl, by kernel_rfl, by kernel_rfl, .inr (.inr (.inr rfl)), by kernel_rfl⟩, by kernel_rfl, by kernel_rfl⟩
def t102 : FT := ⟨.tup [.str "down", .str "up", .str "up", .str "left"], [⟨3, 0, 1, false⟩, ⟨4, 0, 0, true⟩, ⟨7, 0, 1, false⟩, ⟨0, 0, 0, true⟩, ⟨1, 0, 1, false⟩, ⟨6, 0, 0, true⟩, ⟨5, 0, 1, false⟩, ⟨2, 0, 0, true⟩, ⟨2, 1, 1, true⟩, ⟨5, 1, 0, false⟩, ⟨6, 1, 1, true⟩, ⟨1, 1, 0, false⟩, ⟨0, 1, 1, true⟩, ⟨7, 1, 0, false⟩, ⟨4, 1, 1, true⟩, ⟨3, 1, 0, false⟩], .str "left", 470472223⟩
theorem ok102 : t102.Ok := ⟨⟨⟨by kernel_rfl, by kernel_rfl, by kernel_rfl⟩, by kernel_rfl, by kernel_rfl, by kernel_rfl, by kernel_rfl, .inr (.inr (.inr rfl)), by kernel_rfl⟩, by kernel_rfl, by kernel_rfl⟩
def t110 : FT := ⟨.tup [.str "down", .str "left", .str "down", .str "right"], [⟨0, 3, 1, false⟩, ⟨3, 3, 0, true⟩, ⟨3, 0, 1, true⟩, ⟨0, 0, 0, false⟩, ⟨1, 0, 1, true⟩, ⟨2, 0, 0, false⟩, ⟨2, 3, 1, false⟩, ⟨1, 3, 0, true⟩, ⟨1, 2, 1, true⟩, ⟨2, 2, 0, false⟩, ⟨2, 1, 1, false⟩, ⟨1, 1, 0, true⟩, ⟨0, 1, 1, false⟩, ⟨3, 1, 0, true⟩, ⟨3, 2, 1, true⟩, ⟨0, 2, 0, false⟩], .str "right", 1748945498⟩
theorem ok110 : t110.Ok := ⟨⟨⟨by kernel_rfl, by kernel_rfl, by kernel_rfl⟩, by kernel_rfl, by kernel_rfl, by kernel_rfl, by kernel_rfl, .inr (.inr (.inr rfl)), by kernel_rfl⟩, by kernel_rfl, by kernel_rfl⟩
def t118 : FT := ⟨.tup [.str "down", .str "up", .str "down", .str "right"], [⟨2, 1, 1, false⟩, ⟨5, 1, 0, true⟩, ⟨6, 1, 1, false⟩, ⟨1, 1, 0, true⟩, ⟨0, 1, 1, false⟩, ⟨7, 1, 0, true⟩, ⟨4, 1, 1, false⟩, ⟨3, 1, 0, true⟩, ⟨3, 0, 1, true⟩, ⟨4, 0, 0, false⟩, ⟨7, 0, 1, true⟩, ⟨0, 0, 0, false⟩, ⟨1, 0, 1, true⟩, ⟨6, 0, 0, false⟩, ⟨5, 0, 1, true⟩, ⟨2, 0, 0, false⟩], .str "right", 1794654598⟩
theorem ok118 : t118.Ok := ⟨⟨⟨by kernel_rfl, by kernel_rfl, by kernel_rfl⟩, by kernel_rfl, by kernel_rfl, by kernel_rfl, by kernel_rfl, .inr (.inr (.inr rfl)), by kernel_rfl⟩, by kernel_rfl, by kernel_rfl⟩
def t126 : FT := ⟨.tup [.str "down", .str "left", .str "left", .str "right"], [⟨0, 7, 1, false⟩, ⟨1, 7, 0, true⟩, ⟨1, 0, 1, true⟩, ⟨0, 0, 0, false⟩, ⟨0, 3, 1, false⟩, ⟨1, 3, 0, true⟩, ⟨1, 4, 1, true⟩, ⟨0, 4, 0, false⟩, ⟨0, 5, 1, false⟩, ⟨1, 5, 0, true⟩, ⟨1, 2, 1, true⟩, ⟨0, 2, 0, false⟩, ⟨0, 1, 1, false⟩, ⟨1, 1, 0, true⟩, ⟨1, 6, 1, true⟩, ⟨0, 6, 0, false⟩], .str "right", 1347942148⟩
theorem ok126 : t126.Ok := ⟨⟨⟨by kernel_rfl, by kernel_rfl, by kernel_rfl⟩, by kernel_rfl, by kernel_rfl, by kernel_rfl, by kernel_rfl, .inr (.inr (.inr rfl)), by kernel_rfl⟩, by kernel_rfl, by kernel_rfl⟩
def t134 : FT := ⟨.tup [.str "down", .str "up", .str "left", .str "right"], [⟨1, 3, 1, false⟩, ⟨2, 3, 0, true⟩, ⟨3, 3, 1, false⟩, ⟨0, 3, 0, true⟩, ⟨0, 0, 1, true⟩, ⟨3, 0, 0, false⟩, ⟨2, 0, 1, true⟩, ⟨1, 0, 0, false⟩, ⟨1, 1, 1, false⟩, ⟨2, 1, 0, true⟩, ⟨3, 1, 1, false⟩, ⟨0, 1, 0, true⟩, ⟨0, 2, 1, true⟩, ⟨3, 2, 0, false⟩, ⟨2, 2, 1, true⟩, ⟨1, 2, 0, false⟩], .str "right", 1065339316⟩
theorem ok134 : t134.Ok := ⟨⟨⟨by kernel_rfl, by kernel_rfl, by kernel_rfl⟩, by kernel_rfl, by kernel_rfl, by kernel_rfl, by kernel_rfl, .inr (.inr (.inr rfl)), by kernel_rfl⟩, by kernel_rfl, by kernel_rfl⟩
def t142 : FT := ⟨.tup [.str "down", .str "left", .str "right", .str "right"], [⟨0, 5, 1, false⟩, ⟨1, 5, 0, true⟩, ⟨1, 2, 1, true⟩, ⟨0, 2, 0, false⟩, ⟨0, 1, 1, false⟩, ⟨1, 1, 0, true⟩, ⟨1, 6, 1, true⟩, ⟨0, 6, 0, false⟩, ⟨0, 7, 1, false⟩, ⟨1, 7, 0, true⟩, ⟨1, 0, 1, true⟩, ⟨0, 0, 0, false⟩, ⟨0, 3, 1, false⟩, ⟨1, 3, 0, true⟩, ⟨1, 4, 1, true⟩, ⟨0, 4, 0, false⟩], .str "right", 2125841445⟩
theorem ok142 : t142.Ok := ⟨⟨⟨by kernel_rfl, by kernel_rfl, by kernel_rfl⟩, by kernel_rfl, by kernel_rfl, by kernel_rfl, by kernel_rfl, .inr (.inr (.inr rfl)), by kernel_rfl⟩, by kernel_rfl, by kernel_rfl⟩
def t150 : FT := ⟨.tup [.str "down", .str "up", .str "right", .str "right"], [⟨1, 1, 1, false⟩, ⟨2, 1, 0, true⟩, ⟨3, 1, 1, false⟩, ⟨0, 1, 0, true⟩, ⟨0, 2, 1, true⟩, ⟨3, 2, 0, false⟩, ⟨2, 2, 1, true⟩, ⟨1, 2, 0, false⟩, ⟨1, 3, 1, false⟩, ⟨2, 3, 0, true⟩, ⟨3, 3, 1, false⟩, ⟨0, 3, 0, true⟩, ⟨0, 0, 1, true⟩, ⟨3, 0, 0, false⟩, ⟨2, 0, 1, true⟩, ⟨1, 0, 0, false⟩], .str "right", 633990679⟩
theorem ok150 : t150.Ok := ⟨⟨⟨by kernel_rfl, by kernel_rfl, by kernel_rfl⟩, by kernel_rfl, by kernel_rfl, by kernel_rfl, by kernel_rfl, .inr (.inr (.inr rfl)), by kernel_rfl⟩, by kernel_rfl, by kernel_rfl⟩
def t158 : FT := ⟨.tup [.str "down", .str "left", .str "up", .str "right"], [⟨1, 3, 1, false⟩, ⟨2, 3, 0, true⟩, ⟨2, 0, 1, true⟩, ⟨1, 0, 0, false⟩, ⟨0, 0, 1, true⟩, ⟨3, 0, 0, false⟩, ⟨3, 3, 1, false⟩, ⟨0, 3, 0, true⟩, ⟨0, 2, 1, true⟩, ⟨3, 2, 0, false⟩, ⟨3, 1, 1, false⟩, ⟨0, 1, 0, true⟩, ⟨1, 1, 1, false⟩, ⟨2, 1, 0, true⟩, ⟨2, 2, 1, true⟩, ⟨1, 2, 0, false⟩], .str "right", 1812976407⟩
theorem ok158 : t158.Ok := ⟨⟨⟨by kernel_rfl, by kernel_rfl, by kernel_rfl⟩, by kernel_rfl, by kernel_rfl, by kernel_rfl, by kernel_rfl, .inr (.inr (.inr rfl)), by kernel_rfl⟩, by kernel_rfl, by kernel_rfl⟩
def t166 : FT := ⟨.tup [.str "down", .str "up", .str "up", .str "right"], [⟨3, 1, 1, false⟩, ⟨4, 1, 0, true⟩, ⟨7, 1, 1, false⟩, ⟨0, 1, 0, true⟩, ⟨1, 1, 1, false⟩, ⟨6, 1, 0, true⟩, ⟨5, 1, 1, false⟩, ⟨2, 1, 0, true⟩, ⟨2, 0, 1, true⟩, ⟨5, 0, 0, false⟩, ⟨6, 0, 1, true⟩, ⟨1, 0, 0, false⟩, ⟨0, 0, 1, true⟩, ⟨7, 0, 0, false⟩, ⟨4, 0, 1, true⟩, ⟨3, 0, 0, false⟩], .str "right", 787040154⟩
theorem ok166 : t166.Ok := ⟨⟨⟨by kernel_rfl, by kernel_rfl, by kernel_rfl⟩, by kernel_rfl, by kernel_rfl, by kernel_rfl, by kernel_rfl, .inr (.inr (.inr rfl)), by kernel_rfl⟩, by kernel_rfl, by kernel_rfl⟩
end K27
end
section
set_option Elab.async false
set_option linter.all false
set_option maxRecDepth 100000
set_option maxHeartbeats 4000000
namespace K27
open PySem PySem.Spec PyProof.Rows L2 PL
def t7 : FT := ⟨.tup [.str "left", .str "right"], [⟨0, 3, 1, false⟩, ⟨0, 0, 0, false⟩, ⟨0, 1, 1, false⟩, ⟨0, 2, 0, false⟩], .str "right", 1877147605⟩
theorem ok7 : t7.Ok := ⟨⟨⟨by kernel_rfl, by kernel_rfl, by kernel_rfl⟩, by kernel_rfl, by kernel_rfl, by kernel_rfl, by kernel_rfl, .inr (.inl rfl), by kernel_rfl⟩, by kernel_rfl, by kernel_rfl⟩
def t15 : FT := ⟨.tup [.str "left", .str "left", .str "left"], [⟨0, 6, 1, false⟩, ⟨0, 1, 0, false⟩, ⟨0, 2, 1, false⟩, ⟨0, 5, 0, false⟩, ⟨0, 4, 1, false⟩, ⟨0, 3, 0, false⟩, ⟨0, 0, 1, false⟩, ⟨0, 7, 0, false⟩], .str "left", 2128312133⟩
theorem ok15 : t15.Ok := ⟨⟨⟨by kernel_rfl, by kernel_rfl, by kernel_rfl⟩, by kernel_rfl, by kernel_rfl, by kernel_rfl, by kernel_rfl, .inr (.inr (.inl rfl)), by kernel_rfl⟩, by kernel_rfl, by kernel_rfl⟩
def t23 : FT := ⟨.tup [.str "left", .str "up", .str "left"], [⟨1, 2, 1, false⟩, ⟨1, 1, 0, false⟩, ⟨0, 1, 1, true⟩, ⟨0, 2, 0, true⟩, ⟨0, 3, 1, true⟩, ⟨0, 0, 0, true⟩, ⟨1, 0, 1, false⟩, ⟨1, 3, 0, false⟩], .str "left", 1142932024⟩
theorem ok23 : t23.Ok := ⟨⟨⟨by kernel_rfl, by kernel_rfl, by kernel_rfl⟩, by kernel_rfl, by kernel_rfl, by kernel_rfl, by kernel_rfl, .inr (.inr (.inl rfl)), by kernel_rfl⟩, by kernel_rfl, by kernel_rfl⟩
def t31 : FT := ⟨.tup [.str "left", .str "left", .str "right"], [⟨0, 7, 1, false⟩, ⟨0, 0, 0, false⟩, ⟨0, 3, 1, false⟩, ⟨0, 4, 0, false⟩, ⟨0, 5, 1, false⟩, ⟨0, 2, 0, false⟩, ⟨0, 1, 1, false⟩, ⟨0, 6, 0, false⟩], .str "right", 1187969705⟩
theorem ok31 : t31.Ok := ⟨⟨⟨by kernel_rfl, by kernel_rfl, by kernel_rfl⟩, by kernel_rfl, by kernel_rfl, by kernel_rfl, by kernel_rfl, .inr (.inr (.inl rfl)), by kernel_rfl⟩, by kernel_rfl, by kernel_rfl⟩
def t39 : FT := ⟨.tup [.str "left", .str "up", .str "right"], [⟨1, 3, 1, false⟩, ⟨1, 0, 0, false⟩, ⟨0, 0, 1, true⟩, ⟨0, 3, 0, true⟩, ⟨0, 2, 1, true⟩, ⟨0, 1, 0, true⟩, ⟨1, 1, 1, false⟩, ⟨1, 2, 0, false⟩], .str "right", 1551000136⟩
theorem ok39 : t39.Ok := ⟨⟨⟨by kernel_rfl, by kernel_rfl, by kernel_rfl⟩, by kernel_rfl, by kernel_rfl, by kernel_rfl, by kernel_rfl, .inr (.inr (.inl rfl)), by kernel_rfl⟩, by kernel_rfl, by kernel_rfl⟩
def t47 : FT := ⟨.tup [.str "left", .str "left", .str "down", .str "left"], [⟨0, 6, 1, false⟩, ⟨0, 1, 0, false⟩, ⟨0, 2, 1, false⟩, ⟨0, 5, 0, false⟩, ⟨1, 5, 1, true⟩, ⟨1, 2, 0, true⟩, ⟨1, 1, 1, true⟩, ⟨1, 6, 0, true⟩, ⟨1, 7, 1, true⟩, ⟨1, 0, 0, true⟩, ⟨1, 3, 1, true⟩, ⟨1, 4, 0, true⟩, ⟨0, 4, 1, false⟩, ⟨0, 3, 0, false⟩, ⟨0, 0, 1, false⟩, ⟨0, 7, 0, false⟩], .str "left", 1703193867⟩
theorem ok47 : t47.Ok := ⟨⟨⟨by kernel_rfl, by kernel_rfl, by kernel_rfl⟩, by kernel_rfl, by kernel_rfl, by kernel_rfl, by kernel_rfl, .inr (.inr (.inr rfl)), by kernel_rfl⟩, by kernel_rfl, by kernel_rfl⟩
def t55 : FT := ⟨.tup [.str "left", .str "up", .str "down", .str "left"], [⟨2, 2, 1, false⟩, ⟨2, 1, 0, false⟩, ⟨1, 1, 1, true⟩, ⟨1, 2, 0, true⟩, ⟨0, 2, 1, false⟩, ⟨0, 1, 0, false⟩, ⟨3, 1, 1, true⟩, ⟨3, 2, 0, true⟩, ⟨3, 3, 1, true⟩, ⟨3, 0, 0, true⟩, ⟨0, 0, 1, false⟩, ⟨0, 3, 0, false⟩, ⟨1, 3, 1, true⟩, ⟨1, 0, 0, true⟩, ⟨2, 0, 1, false⟩, ⟨2, 3, 0, false⟩], .str "left", 1849436227⟩
theorem ok55 : t55.Ok := ⟨⟨⟨by kernel_rfl, by kernel_rfl, by kernel_rfl⟩, by kernel_rfl, by kernel_rfl, by kernel_rfl, by kernel_rfl, .inr (.inr (.inr rfl)), by kernel_rfl⟩, by kernel_rfl, by kernel_rfl⟩
def t63 : FT := ⟨.tup [.str "left", .str "left", .str "left", .str "left"], [⟨0, 14, 1, false⟩, ⟨0, 1, 0, false⟩, ⟨0, 6, 1, false⟩, ⟨0, 9, 0, false⟩, ⟨0, 10, 1, false⟩, ⟨0, 5, 0, false⟩, ⟨0, 2, 1, false⟩, ⟨0, 13, 0, false⟩, ⟨0, 12, 1, false⟩, ⟨0, 3, 0, false⟩, ⟨0, 4, 1, false⟩, ⟨0, 11, 0, false⟩, ⟨0, 8, 1, false⟩, ⟨0, 7, 0, false⟩, ⟨0, 0, 1, false⟩, ⟨0, 15, 0, false⟩], .str "left", 1413658693⟩
theorem ok63 : t63.Ok := ⟨⟨⟨by kernel_rfl, by kernel_rfl, by kernel_rfl⟩, by kernel_rfl, by kernel_rfl, by kernel_rfl, by kernel_rfl, .inr (.inr (.inr rfl)), by kernel_rfl⟩, by kernel_rfl, by kernel_rfl⟩
def t71 : FT := ⟨.tup [.str "left", .str "up", .str "left", .str "left"], [⟨1, 6, 1, false⟩, ⟨1, 1, 0, false⟩, ⟨0, 1, 1, true⟩, ⟨0, 6, 0, true⟩, ⟨0, 5, 1, true⟩, ⟨0, 2, 0, true⟩, ⟨1, 2, 1, false⟩, ⟨1, 5, 0, false⟩, ⟨1, 4, 1, false⟩, ⟨1, 3, 0, false⟩, ⟨0, 3, 1, true⟩, ⟨0, 4, 0, true⟩, ⟨0, 7, 1, true⟩, ⟨0, 0, 0, true⟩, ⟨1, 0, 1, false⟩, ⟨1, 7, 0, false⟩], .str "left", 1197529263⟩
theorem ok71 : t71.Ok := ⟨⟨⟨by kernel_rfl, by kernel_rfl, by kernel_rfl⟩, by kernel_rfl, by kernel_rfl, by kernel_rfl, by kernel_rfl, .inr (.inr (.inr rfl)), by kernel_rfl⟩, by kernel_rfl, by kernel_rfl⟩
def t79 : FT := ⟨.tup [.str "left", .str "left", .str "right", .str "left"], [⟨0, 12, 1, false⟩, ⟨0, 3, 0, false⟩, ⟨0, 4, 1, false⟩, ⟨0, 11, 0, false⟩, ⟨0, 8, 1, false⟩, ⟨0, 7, 0, false⟩, ⟨0, 0, 1, false⟩, ⟨0, 15, 0, false⟩, ⟨0, 14, 1, false⟩, ⟨0, 1, 0, false⟩, ⟨0, 6, 1, false⟩, ⟨0, 9, 0, false⟩, ⟨0, 10, 1, false⟩, ⟨0, 5, 0, false⟩, ⟨0, 2, 1, false⟩, ⟨0, 13, 0, false⟩], .str "left", 723949012⟩
theorem ok79 : t79.Ok := ⟨⟨⟨by kernel_rfl, by kernel_rfl, by kernel_rfl⟩, by kernel_rfl, by kernel_rfl, by kernel_rfl, by kernel_rfl, .inr (.inr (.inr rfl)), by kernel_rfl⟩, by kernel_rfl, by kernel_rfl⟩
def t87 : FT := ⟨.tup [.str "left", .str "up", .str "right", .str "left"], [⟨1, 4, 1, false⟩, ⟨1, 3, 0, false⟩, ⟨0, 3, 1, true⟩, ⟨0, 4, 0, true⟩, ⟨0, 7, 1, true⟩, ⟨0, 0, 0, true⟩, ⟨1, 0, 1, false⟩, ⟨1, 7, 0, false⟩, ⟨1, 6, 1, false⟩, ⟨1, 1, 0, false⟩, ⟨0, 1, 1, true⟩, ⟨0, 6, 0, true⟩, ⟨0, 5, 1, true⟩, ⟨0, 2, 0, true⟩, ⟨1, 2, 1, false⟩, ⟨1, 5, 0, false⟩], .str "left", 1808546529⟩
theorem ok87 : t87.Ok := ⟨⟨⟨by kernel_rfl, by kernel_rfl, by kernel_rfl⟩, by kernel_rfl, by kernel_rfl, by kernel_rfl, by kernel_rfl, .inr (.inr (.inr rfl)), by kernel_rfl⟩, by kernel_rfl, by kernel_rfl⟩
def t95 : FT := ⟨.tup [.str "left", .str "left", .str "up", .str "left"], [⟨1, 6, 1, false⟩, ⟨1, 1, 0, false⟩, ⟨1, 2, 1, false⟩, ⟨1, 5, 0, false⟩, ⟨0, 5, 1, true⟩, ⟨0, 2, 0, true⟩, ⟨0, 1, 1, true⟩, ⟨0, 6, 0, true⟩, ⟨0, 7, 1, true⟩, ⟨0, 0, 0, true⟩, ⟨0, 3, 1, true⟩, ⟨0, 4, 0, true⟩, ⟨1, 4, 1, false⟩, ⟨1, 3, 0, false⟩, ⟨1, 0, 1, false⟩, ⟨1, 7, 0, false⟩], .str "left", 1664823142⟩
theorem ok95 : t95.Ok := ⟨⟨⟨by kernel_rfl, by kernel_rfl, by kernel_rfl⟩, by kernel_rfl, by kernel_rfl, by kernel_rfl, by kernel_rfl, .inr (.inr (.inr rfl)), by kernel_rfl⟩, by kernel_rfl, by kernel_rfl⟩
def t103 : FT := ⟨.tup [.str "left", .str "up", .str "up", .str "left"], [⟨3, 2, 1, false⟩, ⟨3, 1, 0, false⟩, ⟨0, 1, 1, true⟩, ⟨0, 2, 0, true⟩, ⟨1, 2, 1, false⟩, ⟨1, 1, 0, false⟩, ⟨2, 1, 1, true⟩, ⟨2, 2, 0, true⟩, ⟨2, 3, 1, true⟩, ⟨2, 0, 0, true⟩, ⟨1, 0, 1, false⟩, ⟨1, 3, 0, false⟩, ⟨0, 3, 1, true⟩, ⟨0, 0, 0, true⟩, ⟨3, 0, 1, false⟩, ⟨3, 3, 0, false⟩], .str "left", 51006451⟩
theorem ok103 : t103.Ok := ⟨⟨⟨by kernel_rfl, by kernel_rfl, by kernel_rfl⟩, by kernel_rfl, by kernel_rfl, by kernel_rfl, by kernel_rfl, .inr (.inr (.inr rfl)), by kernel_rfl⟩, by kernel_rfl, by kernel_rfl⟩
def t111 : FT := ⟨.tup [.str "left", .str "left", .str "down", .str "right"], [⟨0, 7, 1, false⟩, ⟨0, 0, 0, false⟩, ⟨0, 3, 1, false⟩, ⟨0, 4, 0, false⟩, ⟨1, 4, 1, true⟩, ⟨1, 3, 0, true⟩, ⟨1, 0, 1, true⟩, ⟨1, 7, 0, true⟩, ⟨1, 6, 1, true⟩, ⟨1, 1, 0, true⟩, ⟨1, 2, 1, true⟩, ⟨1, 5, 0, true⟩, ⟨0, 5, 1, false⟩, ⟨0, 2, 0, false⟩, ⟨0, 1, 1, false⟩, ⟨0, 6, 0, false⟩], .str "right", 458977967⟩
theorem ok111 : t111.Ok := ⟨⟨⟨by kernel_rfl, by kernel_rfl, by kernel_rfl⟩, by kernel_rfl, by kernel_rfl, by kernel_rfl, by kernel_rfl, .inr (.inr (.inr rfl)), by kernel_rfl⟩, by kernel_rfl, by kernel_rfl⟩
def t119 : FT := ⟨.tup [.str "left", .str "up", .str "down", .str "right"], [⟨2, 3, 1, false⟩, ⟨2, 0, 0, false⟩, ⟨1, 0, 1, true⟩, ⟨1, 3, 0, true⟩, ⟨0, 3, 1, false⟩, ⟨0, 0, 0, false⟩, ⟨3, 0, 1, true⟩, ⟨3, 3, 0, true⟩, ⟨3, 2, 1, true⟩, ⟨3, 1, 0, true⟩, ⟨0, 1, 1, false⟩, ⟨0, 2, 0, false⟩, ⟨1, 2, 1, true⟩, ⟨1, 1, 0, true⟩, ⟨2, 1, 1, false⟩, ⟨2, 2, 0, false⟩], .str "right", 21852258⟩
theorem ok119 : t119.Ok := ⟨⟨⟨by kernel_rfl, by kernel_rfl, by kernel_rfl⟩, by kernel_rfl, by kernel_rfl, by kernel_rfl, by kernel_rfl, .inr (.inr (.inr rfl)), by kernel_rfl⟩, by kernel_rfl, by kernel_rfl⟩
def t127 : FT := ⟨.tup [.str "left", .str "left", .str "left", .str "right"], [⟨0, 15, 1, false⟩, ⟨0, 0, 0, false⟩, ⟨0, 7, 1, false⟩, ⟨0, 8, 0, false⟩, ⟨0, 11, 1, false⟩, ⟨0, 4, 0, false⟩, ⟨0, 3, 1, false⟩, ⟨0, 12, 0, false⟩, ⟨0, 13, 1, false⟩, ⟨0, 2, 0, false⟩, ⟨0, 5, 1, false⟩, ⟨0, 10, 0, false⟩, ⟨0, 9, 1, false⟩, ⟨0, 6, 0, false⟩, ⟨0, 1, 1, false⟩, ⟨0, 14, 0, false⟩], .str "right", 951570501⟩
theorem ok127 : t127.Ok := ⟨⟨⟨by kernel_rfl, by kernel_rfl, by kernel_rfl⟩, by kernel_rfl, by kernel_rfl, by kernel_rfl, by kernel_rfl, .inr (.inr (.inr rfl)), by kernel_rfl⟩, by kernel_rfl, by kernel_rfl⟩
def t135 : FT := ⟨.tup [.str "left", .str "up", .str "left", .str "right"], [⟨1, 7, 1, false⟩, ⟨1, 0, 0, false⟩, ⟨0, 0, 1, true⟩, ⟨0, 7, 0, true⟩, ⟨0, 4, 1, true⟩, ⟨0, 3, 0, true⟩, ⟨1, 3, 1, false⟩, ⟨1, 4, 0, false⟩, ⟨1, 5, 1, false⟩, ⟨1, 2, 0, false⟩, ⟨0, 2, 1, true⟩, ⟨0, 5, 0, true⟩, ⟨0, 6, 1, true⟩, ⟨0, 1, 0, true⟩, ⟨1, 1, 1, false⟩, ⟨1, 6, 0, false⟩], .str "right", 1708156854⟩
theorem ok135 : t135.Ok := ⟨⟨⟨by kernel_rfl, by kernel_rfl, by kernel_rfl⟩, by kernel_rfl, by kernel_rfl, by kernel_rfl, by kernel_rfl, .inr (.inr (.inr rfl)), by kernel_rfl⟩, by kernel_rfl, by kernel_rfl⟩
def t143 : FT := ⟨.tup [.str "left", .str "left", .str "right", .str "right"], [⟨0, 13, 1, false⟩, ⟨0, 2, 0, false⟩, ⟨0, 5, 1, false⟩, ⟨0, 10, 0, false⟩, ⟨0, 9, 1, false⟩, ⟨0, 6, 0, false⟩, ⟨0, 1, 1, false⟩, ⟨0, 14, 0, false⟩, ⟨0, 15, 1, false⟩, ⟨0, 0, 0, false⟩, ⟨0, 7, 1, false⟩, ⟨0, 8, 0, false⟩, ⟨0, 11, 1, false⟩, ⟨0, 4, 0, false⟩, ⟨0, 3, 1, false⟩, ⟨0, 12, 0, false⟩], .str "right", 261860820⟩
theorem ok143 : t143.Ok := ⟨⟨⟨by kernel_rfl, by kernel_rfl, by kernel_rfl⟩, by kernel_rfl, by kernel_rfl, by kernel_rfl, by kernel_rfl, .inr (.inr (.inr rfl)), by kernel_rfl⟩, by kernel_rfl, by kernel_rfl⟩
def t151 : FT := ⟨.tup [.str "left", .str "up", .str "right", .str "right"], [⟨1, 5, 1, false⟩, ⟨1, 2, 0, false⟩, ⟨0, 2, 1, true⟩, ⟨0, 5, 0, true⟩, ⟨0, 6, 1, true⟩, ⟨0, 1, 0, true⟩, ⟨1, 1, 1, false⟩, ⟨1, 6, 0, false⟩, ⟨1, 7, 1, false⟩, ⟨1, 0, 0, false⟩, ⟨0, 0, 1, true⟩, ⟨0, 7, 0, true⟩, ⟨0, 4, 1, true⟩, ⟨0, 3, 0, true⟩, ⟨1, 3, 1, false⟩, ⟨1, 4, 0, false⟩], .str "right", 171690473⟩
theorem ok151 : t151.Ok := ⟨⟨⟨by kernel_rfl, by kernel_rfl, by kernel_rfl⟩, by kernel_rfl, by kernel_rfl, by kernel_rfl, by kernel_rfl, .inr (.inr (.inr rfl)), by kernel_rfl⟩, by kernel_rfl, by kernel_rfl⟩
def t159 : FT := ⟨.tup [.str "left", .str "left", .str "up", .str "right"], [⟨1, 7, 1, false⟩, ⟨1, 0, 0, false⟩, ⟨1, 3, 1, false⟩, ⟨1, 4, 0, false⟩, ⟨0, 4, 1, true⟩, ⟨0, 3, 0, true⟩, ⟨0, 0, 1, true⟩, ⟨0, 7, 0, true⟩, ⟨0, 6, 1, true⟩, ⟨0, 1, 0, true⟩, ⟨0, 2, 1, true⟩, ⟨0, 5, 0, true⟩, ⟨1, 5, 1, false⟩, ⟨1, 2, 0, false⟩, ⟨1, 1, 1, false⟩, ⟨1, 6, 0, false⟩], .str "right", 420607242⟩
theorem ok159 : t159.Ok := ⟨⟨⟨by kernel_rfl, by kernel_rfl, by kernel_rfl⟩, by kernel_rfl, by kernel_rfl, by kernel_rfl, by kernel_rfl, .inr (.inr (.inr rfl)), by kernel_rfl⟩, by kernel_rfl, by kernel_rfl⟩
def t167 : FT := ⟨.tup [.str "left", .str "up", .str "up", .str "right"], [⟨3, 3, 1, false⟩, ⟨3, 0, 0, false⟩, ⟨0, 0, 1, true⟩, ⟨0, 3, 0, true⟩, ⟨1, 3, 1, false⟩, ⟨1, 0, 0, false⟩, ⟨2, 0, 1, true⟩, ⟨2, 3, 0, true⟩, ⟨2, 2, 1, true⟩, ⟨2, 1, 0, true⟩, ⟨1, 1, 1, false⟩, ⟨1, 2, 0, false⟩, ⟨0, 2, 1, true⟩, ⟨0, 1, 0, true⟩, ⟨3, 1, 1, false⟩, ⟨3, 2, 0, false⟩], .str "right", 370906129⟩
theorem ok167 : t167.Ok := ⟨⟨⟨by kernel_rfl, by kernel_rfl, by kernel_rfl⟩, by kernel_rfl, by kernel_rfl, by kernel_rfl, by kernel_rfl, .inr (.inr (.inr rfl)), by kernel_rfl⟩, by kernel_rfl, by kernel_rfl⟩
end K27
end
section
set_option Elab.async false
set_option linter.all false
set_option maxRecDepth 100000
set_option maxHeartbeats 4000000
namespace K27
open PySem PySem.Spec PyProof.Rows L2 PL
def tab1 : List FT := [t0, t1]
theorem tab1_ok : ∀ x ∈ tab1, x.Ok := by
  unfold tab1
  refine List.forall_mem_cons.mpr ⟨ok0, ?_⟩
  refine List.forall_mem_cons.mpr ⟨ok1, ?_⟩
  exact List.forall_mem_nil _
theorem all1 : f__law_all_folds none [.int 1] = .ok (.d (.lst (tab1.map FT.F))) none := by kernel_rfl
def tab2 : List FT := [t2, t3, t4, t5, t6, t7, t8, t9]
theorem tab2_ok : ∀ x ∈ tab2, x.Ok := by
  unfold tab2
  refine List.forall_mem_cons.mpr ⟨ok2, ?_⟩
  refine List.forall_mem_cons.mpr ⟨ok3, ?_⟩
  refine List.forall_mem_cons.mpr ⟨ok4, ?_⟩
  refine List.forall_mem_cons.mpr ⟨ok5, ?_⟩
  refine List.forall_mem_cons.mpr ⟨ok6, ?_⟩
  refine List.forall_mem_cons.mpr ⟨ok7, ?_⟩
  refine List.forall_mem_cons.mpr ⟨ok8, ?_⟩
  refine List.forall_mem_cons.mpr ⟨ok9, ?_⟩
  exact List.forall_mem_nil _
theorem all2 : f__law_all_folds none [.int 2] = .ok (.d (.lst (tab2.map FT.F))) none := by kernel_rfl
def tab3 : List FT := [t10, t11, t12, t13, t14, t15, t16, t17, t18, t19, t20, t21, t22, t23, t24, t25, t26, t27, t28, t29, t30, t31, t32, t33, t34, t35, t36, t37, t38, t39, t40, t41]
theorem tab3_ok : ∀ x ∈ tab3, x.Ok := by
  unfold tab3
  refine List.forall_mem_cons.mpr ⟨ok10, ?_⟩
  refine List.forall_mem_cons.mpr ⟨ok11, ?_⟩
  refine List.forall_mem_cons.mpr ⟨ok12, ?_⟩
  refine List.forall_mem_cons.mpr ⟨ok13, ?_⟩
  refine List.forall_mem_cons.mpr ⟨ok14, ?_⟩
  refine List.forall_mem_cons.mpr ⟨ok15, ?_⟩
  refine List.forall_mem_cons.mpr ⟨ok16, ?_⟩
  refine List.forall_mem_cons.mpr ⟨ok17, ?_⟩
  refine List.forall_mem_cons.mpr ⟨ok18, ?_⟩
  refine List.forall_mem_cons.mpr ⟨ok19, ?_⟩
  refine List.forall_mem_cons.mpr ⟨ok20, ?_⟩
  refine List.forall_mem_cons.mpr ⟨ok21, ?_⟩
  refine List.forall_mem_cons.mpr ⟨ok22, ?_⟩
  refine List.forall_mem_cons.mpr ⟨ok23, ?_⟩
  refine List.forall_mem_cons.mpr ⟨ok24, ?_⟩
  refine List.forall_mem_cons.mpr ⟨ok25, ?_⟩
  refine List.forall_mem_cons.mpr ⟨ok26, ?_⟩
  refine List.forall_mem_cons.mpr ⟨ok27, ?_⟩
  refine List.forall_mem_cons.mpr ⟨ok28, ?_⟩
  refine List.forall_mem_cons.mpr ⟨ok29, ?_⟩
  refine List.forall_mem_cons.mpr ⟨ok30, ?_⟩
  refine List.forall_mem_cons.mpr ⟨ok31, ?_⟩
  refine List.forall_mem_cons.mpr ⟨ok32, ?_⟩
  refine List.forall_mem_cons.mpr ⟨ok33, ?_⟩
  refine List.forall_mem_cons.mpr ⟨ok34, ?_⟩
  refine List.forall_mem_cons.mpr ⟨ok35, ?_⟩
  refine List.forall_mem_cons.mpr ⟨ok36, ?_⟩
  refine List.forall_mem_cons.mpr ⟨ok37, ?_⟩
  refine List.forall_mem_cons.mpr ⟨ok38, ?_⟩
  refine List.forall_mem_cons.mpr ⟨ok39, ?_⟩
  refine List.forall_mem_cons.mpr ⟨ok40, ?_⟩
  refine List.forall_mem_cons.mpr ⟨ok41, ?_⟩
  exact List.forall_mem_nil _
theorem all3 : f__law_all_folds none [.int 3] = .ok (.d (.lst (tab3.map FT.F))) none := by kernel_rfl
def tab4 : List FT := [t42, t43, t44, t45, t46, t47, t48, t49, t50, t51, t52, t53, t54, t55, t56, t57, t58, t59, t60, t61, t62, t63, t64, t65, t66, t67, t68, t69, t70, t71, t72, t73, t74, t75, t76, t77, t78, t79, t80, t81, t82, t83, t84, t85, t86, t87, t88, t89, t90, t91, t92, t93, t94, t95, t96, t97, t98, t99, t100, t101, t102, t103, t104, t105, t106, t107, t108, t109, t110, t111, t112, t113, t114, t115, t116, t117, t118, t119, t120, t121, t122, t123, t124, t125, t126, t127, t128, t129, t130, t131, t132, t133, t134, t135, t136, t137, t138, t139, t140, t141, t142, t143, t144, t145, t146, t147, t148, t149, t150, t151, t152, t153, t154, t155, t156, t157, t158, t159, t160, t161, t162, t163, t164, t165, t166, t167, t168, t169]
theorem tab4_ok : ∀ x ∈ tab4, x.Ok := by
  unfold tab4
  refine List.forall_mem_cons.mpr ⟨ok42, ?_⟩
  refine List.forall_mem_cons.mpr ⟨ok43, ?_⟩
  refine List.forall_mem_cons.mpr ⟨ok44, ?_⟩
  refine List.forall_mem_cons.mpr ⟨ok45, ?_⟩
  refine List.forall_mem_cons.mpr ⟨ok46, ?_⟩
  refine List.forall_mem_cons.mpr ⟨ok47, ?_⟩
  refine List.forall_mem_cons.mpr ⟨ok48, ?_⟩
  refine List.forall_mem_cons.mpr ⟨ok49, ?_⟩
  refine List.forall_mem_cons.mpr ⟨ok50, ?_⟩
  refine List.forall_mem_cons.mpr ⟨ok51, ?_⟩
  refine List.forall_mem_cons.mpr ⟨ok52, ?_⟩
  refine List.forall_mem_cons.mpr ⟨ok53, ?_⟩
  refine List.forall_mem_cons.mpr ⟨ok54, ?_⟩
  refine List.forall_mem_cons.mpr ⟨ok55, ?_⟩
  refine List.forall_mem_cons.mpr ⟨ok56, ?_⟩
  refine List.forall_mem_cons.mpr ⟨ok57, ?_⟩
  refine List.forall_mem_cons.mpr ⟨ok58, ?_⟩
  refine List.forall_mem_cons.mpr ⟨ok59, ?_⟩
  refine List.forall_mem_cons.mpr ⟨ok60, ?_⟩
  refine List.forall_mem_cons.mpr ⟨ok61, ?_⟩
  refine List.forall_mem_cons.mpr ⟨ok62, ?_⟩
  refine List.forall_mem_cons.mpr ⟨ok63, ?_⟩
  refine List.forall_mem_cons.mpr ⟨ok64, ?_⟩
  refine List.forall_mem_cons.mpr ⟨ok65, ?_⟩
  refine List.forall_mem_cons.mpr ⟨ok66, ?_⟩
  refine List.forall_mem_cons.mpr ⟨ok67, ?_⟩
  refine List.forall_mem_cons.mpr ⟨ok68, ?_⟩
  refine List.forall_mem_cons.mpr ⟨ok69, ?_⟩
  refine List.forall_mem_cons.mpr ⟨ok70, ?_⟩
  refine List.forall_mem_cons.mpr ⟨ok71, ?_⟩
  refine List.forall_mem_cons.mpr ⟨ok72, ?_⟩
  refine List.forall_mem_cons.mpr ⟨ok73, ?_⟩
  refine List.forall_mem_cons.mpr ⟨ok74, ?_⟩
  refine List.forall_mem_cons.mpr ⟨ok75, ?_⟩
  refine List.forall_mem_cons.mpr ⟨ok76, ?_⟩
  refine List.forall_mem_cons.mpr ⟨ok77, ?_⟩
  refine List.forall_mem_cons.mpr ⟨ok78, ?_⟩
  refine List.forall_mem_cons.mpr ⟨ok79, ?_⟩
  refine List.forall_mem_cons.mpr ⟨ok80, ?_⟩
  refine List.forall_mem_cons.mpr ⟨ok81, ?_⟩
  refine List.forall_mem_cons.mpr ⟨ok82, ?_⟩
  refine List.forall_mem_cons.mpr ⟨ok83, ?_⟩
  refine List.forall_mem_cons.mpr ⟨ok84, ?_⟩
  refine List.forall_mem_cons.mpr ⟨ok85, ?_⟩
  refine List.forall_mem_cons.mpr ⟨ok86, ?_⟩
  refine List.forall_mem_cons.mpr ⟨ok87, ?_⟩
  refine List.forall_mem_cons.mpr ⟨ok88, ?_⟩
  refine List.forall_mem_cons.mpr ⟨ok89, ?_⟩
  refine List.forall_mem_cons.mpr ⟨ok90, ?_⟩
  refine List.forall_mem_cons.mpr ⟨ok91, ?_⟩
  refine List.forall_mem_cons.mpr ⟨ok92, ?_⟩
  refine List.forall_mem_cons.mpr ⟨ok93, ?_⟩
  refine List.forall_mem_cons.mpr ⟨ok94, ?_⟩
  refine List.forall_mem_cons.mpr ⟨ok95, ?_⟩
  refine List.forall_mem_cons.mpr ⟨ok96, ?_⟩
  refine List.forall_mem_cons.mpr ⟨ok97, ?_⟩
  refine List.forall_mem_cons.mpr ⟨ok98, ?_⟩
  refine List.forall_mem_cons.mpr ⟨ok99, ?_⟩
  refine List.forall_mem_cons.mpr ⟨ok100, ?_⟩
  refine List.forall_mem_cons.mpr ⟨ok101, ?_⟩
  refine List.forall_mem_cons.mpr ⟨ok102, ?_⟩
  refine List.forall_mem_cons.mpr ⟨ok103, ?_⟩
  refine List.forall_mem_cons.mpr ⟨ok104, ?_⟩
  refine List.forall_mem_cons.mpr ⟨ok105, ?_⟩
  refine List.forall_mem_cons.mpr ⟨ok106, ?_⟩
  refine List.forall_mem_cons.mpr ⟨ok107, ?_⟩
  refine List.forall_mem_cons.mpr ⟨ok108, ?_⟩
  refine List.forall_mem_cons.mpr ⟨ok109, ?_⟩
  refine List.forall_mem_cons.mpr ⟨ok110, ?_⟩
  refine List.forall_mem_cons.mpr ⟨ok111, ?_⟩
  refine List.forall_mem_cons.mpr ⟨ok112, ?_⟩
  refine List.forall_mem_cons.mpr ⟨ok113, ?_⟩
  refine List.forall_mem_cons.mpr ⟨ok114, ?_⟩
  refine List.forall_mem_cons.mpr ⟨ok115, ?_⟩
  refine List.forall_mem_cons.mpr ⟨ok116, ?_⟩
  refine List.forall_mem_cons.mpr ⟨ok117, ?_⟩
  refine List.forall_mem_cons.mpr ⟨ok118, ?_⟩
  refine List.forall_mem_cons.mpr ⟨ok119, ?_⟩
  refine List.forall_mem_cons.mpr ⟨ok120, ?_⟩
  refine List.forall_mem_cons.mpr ⟨ok121, ?_⟩
  refine List.forall_mem_cons.mpr ⟨ok122, ?_⟩
  refine List.forall_mem_cons.mpr ⟨ok123, ?_⟩
  refine List.forall_mem_cons.mpr ⟨ok124, ?_⟩
  refine List.forall_mem_cons.mpr ⟨ok125, ?_⟩
  refine List.forall_mem_cons.mpr ⟨ok126, ?_⟩
  refine List.forall_mem_cons.mpr ⟨ok127, ?_⟩
  refine List.forall_mem_cons.mpr ⟨ok128, ?_⟩
  refine List.forall_mem_cons.mpr ⟨ok129, ?_⟩
  refine List.forall_mem_cons.mpr ⟨ok130, ?_⟩
  refine List.forall_mem_cons.mpr ⟨ok131, ?_⟩
  refine List.forall_mem_cons.mpr ⟨ok132, ?_⟩
  refine List.forall_mem_cons.mpr ⟨ok133, ?_⟩
  refine List.forall_mem_cons.mpr ⟨ok134, ?_⟩
  refine List.forall_mem_cons.mpr ⟨ok135, ?_⟩
  refine List.forall_mem_cons.mpr ⟨ok136, ?_⟩
  refine List.forall_mem_cons.mpr ⟨ok137, ?_⟩
  refine List.forall_mem_cons.mpr ⟨ok138, ?_⟩
  refine List.forall_mem_cons.mpr ⟨ok139, ?_⟩
  refine List.forall_mem_cons.mpr ⟨ok140, ?_⟩
  refine List.forall_mem_cons.mpr ⟨ok141, ?_⟩
  refine List.forall_mem_cons.mpr ⟨ok142, ?_⟩
  refine List.forall_mem_cons.mpr ⟨ok143, ?_⟩
  refine List.forall_mem_cons.mpr ⟨ok144, ?_⟩
  refine List.forall_mem_cons.mpr ⟨ok145, ?_⟩
  refine List.forall_mem_cons.mpr ⟨ok146, ?_⟩
  refine List.forall_mem_cons.mpr ⟨ok147, ?_⟩
  refine List.forall_mem_cons.mpr ⟨ok148, ?_⟩
  refine List.forall_mem_cons.mpr ⟨ok149, ?_⟩
  refine List.forall_mem_cons.mpr ⟨ok150, ?_⟩
  refine List.forall_mem_cons.mpr ⟨ok151, ?_⟩
  refine List.forall_mem_cons.mpr ⟨ok152, ?_⟩
  refine List.forall_mem_cons.mpr ⟨ok153, ?_⟩
  refine List.forall_mem_cons.mpr ⟨ok154, ?_⟩
  refine List.forall_mem_cons.mpr ⟨ok155, ?_⟩
  refine List.forall_mem_cons.mpr ⟨ok156, ?_⟩
  refine List.forall_mem_cons.mpr ⟨ok157, ?_⟩
  refine List.forall_mem_cons.mpr ⟨ok158, ?_⟩
  refine List.forall_mem_cons.mpr ⟨ok159, ?_⟩
  refine List.forall_mem_cons.mpr ⟨ok160, ?_⟩
  refine List.forall_mem_cons.mpr ⟨ok161, ?_⟩
  refine List.forall_mem_cons.mpr ⟨ok162, ?_⟩
  refine List.forall_mem_cons.mpr ⟨ok163, ?_⟩
  refine List.forall_mem_cons.mpr ⟨ok164, ?_⟩
  refine List.forall_mem_cons.mpr ⟨ok165, ?_⟩
  refine List.forall_mem_cons.mpr ⟨ok166, ?_⟩
  refine List.forall_mem_cons.mpr ⟨ok167, ?_⟩
  refine List.forall_mem_cons.mpr ⟨ok168, ?_⟩
  refine List.forall_mem_cons.mpr ⟨ok169, ?_⟩
  exact List.forall_mem_nil _
theorem all4 : f__law_all_folds none [.int 4] = .ok (.d (.lst (tab4.map FT.F))) none := by kernel_rfl
def tab : List FT := tab1 ++ (tab2 ++ (tab3 ++ tab4))
theorem tab_ok : ∀ x ∈ tab, x.Ok := by
  intro x h
  rcases List.mem_append.mp h with h | h
  · exact tab1_ok x h
  rcases List.mem_append.mp h with h | h
  · exact tab2_ok x h
  rcases List.mem_append.mp h with h | h
  · exact tab3_ok x h
  · exact tab4_ok x h
theorem tab_nd : (tab.map FT.n).Nodup := nodupN_ok (by kernel_rfl)
end K27
end
section
set_option Elab.async false
set_option linter.all false
set_option maxRecDepth 100000
set_option maxHeartbeats 4000000
/-! K27i: the loop over the folds, the four wrong values, the law. -/
namespace K27
open PySem PySem.Spec PyProof.Rows L2 PL
theorem plain_shaped {d : D} (h : plainB d = true) : ∃ p, d.py = some p ∧ p.canLay0 = true ∧ p.depth ≤ 60 := by
  unfold plainB at h
  cases e : D.py d with
  | none => rw [e] at h; cases h
  | some p =>
    rw [e, Bool.and_eq_true, decide_eq_true_eq] at h
    exact ⟨p, rfl, h.1, h.2⟩
theorem ne_self {d : D} (h : plainB d = true) : opNe d d = some (.d (.bl false)) := by
  obtain ⟨p, e, h1, h2⟩ := plain_shaped h
  have hs : SeqAt.shaped p = true := by
    unfold SeqAt.shaped
    rw [Bool.and_eq_true, decide_eq_true_eq]
    exact ⟨h1, by omega⟩
  unfold opNe eqD
  rw [e]
  show (if SeqAt.shaped p = true ∧ SeqAt.shaped p = true then some (PyData.eqv p p) else none).map (fun b => O.d (.bl (!b))) = _
  rw [if_pos ⟨hs, hs⟩, PySem.SeqAt.eqv_refl p h1]
  rfl
theorem eq_int2 (i j : Int) : opEq (.int i) (.int j) = some (.d (.bl (decide (i = j)))) := by
  show (if SeqAt.shaped (.int i) = true ∧ SeqAt.shaped (.int j) = true then some (PyData.eqv (.int i) (.int j)) else none).map (fun b => O.d (.bl b)) = _
  have h : ∀ i, SeqAt.shaped (.int i) = true := fun _ => rfl
  rw [if_pos ⟨h i, h j⟩]
  simp only [PyData.eqv, Option.map_some]
  by_cases e : i = j <;> simp [e]
/-! ### met -/
theorem nodup_map_inj {α β : Type} (f : α → β) : ∀ {xs : List α}, (xs.map f).Nodup → ∀ {x y : α}, x ∈ xs → y ∈ xs → f x = f y → x = y
  | [], _, _, _, h, _, _ => by cases h
  | z :: zs, hn, x, y, hx, hy, e => by
    rw [List.map_cons] at hn
    obtain ⟨h1, h2⟩ := List.nodup_cons.mp hn
    rcases List.mem_cons.mp hx with hx | hx
    · rcases List.mem_cons.mp hy with hy | hy
      · rw [hx, hy]
      · exact absurd (List.mem_map.mpr ⟨y, hy, by rw [← e, hx]⟩) h1
    · rcases List.mem_cons.mp hy with hy | hy
      · exact absurd (List.mem_map.mpr ⟨x, hx, by rw [e, hy]⟩) h1
      · exact nodup_map_inj f h2 hx hy e
theorem keyL_inj {t u : FT} (ht : t ∈ tab) (hu : u ∈ tab) (h : nkey (.tup (layQ 0 t.B)) = nkey (.tup (layQ 0 u.B))) : t = u := by
  have e1 := (tab_ok t ht).key
  have e2 := (tab_ok u hu).key
  have e3 : keyL t.B = keyL u.B := by unfold keyL; rw [h]
  have e4 : t.n = u.n := by rw [e1, e2] at e3; exact Option.some.inj e3
  exact nodup_map_inj FT.n tab_nd ht hu e4
/-- what is in met -/
def Met (kvs : List (D × D)) : Prop := ∀ p ∈ kvs, ∃ t ∈ tab, p = (.tup (layQ 0 t.B), t.F)
theorem setd_ok {kvs : List (D × D)} {t : FT} (hm : Met kvs) (ht : t ∈ tab) (hl : kvs.length < SZ) : ∃ ys, fSetd kvs [.tup (layQ 0 t.B), t.F] = some (ys, t.F) ∧ Met ys ∧ ys.length ≤ kvs.length + 1 := by
  have e1 := (tab_ok t ht).key
  obtain ⟨k, k1, k2⟩ := Option.bind_eq_some_iff.mp (show ((nkey (.tup (layQ 0 t.B))).bind fun k => if k.depth ≤ 8 then some (hk k) else none) = some t.n from e1)
  have kd : k.depth ≤ 8 := by
    by_cases h : k.depth ≤ 8
    · exact h
    · rw [if_neg h] at k2; cases k2
  have e2 : fSetd kvs [.tup (layQ 0 t.B), t.F] = (nkey (.tup (layQ 0 t.B))).bind fun k => if k.depth ≤ 8 ∧ kvs.length < SZ then (match fndN kvs k with
    | some d => some (kvs, d)
    | none => some (kvs ++ [(.tup (layQ 0 t.B), t.F)], t.F)) else none := rfl
  rw [e2, k1, Option.bind_some, if_pos ⟨kd, hl⟩]
  cases ef : fndN kvs k with
  | none =>
    refine ⟨_, rfl, fun p hp => ?_, by simp⟩
    rcases List.mem_append.mp hp with hp | hp
    · exact hm p hp
    · exact ⟨t, ht, List.mem_singleton.mp hp⟩
  | some d =>
    unfold fndN at ef
    obtain ⟨p, p1, p2⟩ := Option.map_eq_some_iff.mp ef
    obtain ⟨u, hu, e⟩ := hm p (List.mem_of_find?_eq_some p1)
    have pk : nkey p.1 = some k := of_decide_eq_true (List.find?_some (p := fun p : D × D => decide (nkey p.1 = some k)) p1)
    rw [e] at pk
    have : u = t := keyL_inj hu ht (by rw [pk, k1])
    subst this
    rw [e] at p2
    subst p2
    exact ⟨kvs, rfl, hm, Nat.le_succ _⟩
theorem setd_ap {P : Program} {w : World} {Γ Γ1 : Fr} {i : Nat} {m : M (List D)} {kvs ys : List (D × D)} {ds : List D} {y : D} (h0 : Γ[i]? = some (some (.on P w kvs))) (hm : m Γ = .ok ds Γ1) (h1 : Γ1[i]? = some (some (.on P w kvs))) (hf : fSetd kvs ds = some (ys, y)) :
    mSetd P w i m Γ = .ok (.d y) (Γ1.set i (some (.on P w ys))) := by
  have e0 : mOwnN P w i Γ = .ok (.bor i) Γ := by
    unfold mOwnN
    rw [h0]
    exact if_pos ⟨rfl, rfl⟩
  show ((M.pair (mOwnN P w i) m) Γ).bind _ = _
  rw [Mpair_ap, e0, bind_ok, hm, bind_ok, bind_ok]
  show kSetd P w (.bor i, ds) Γ1 = _
  unfold kSetd
  dsimp only
  rw [h1]
  dsimp only
  rw [if_pos ⟨rfl, rfl⟩, hf]
/-! ### the loop -/
noncomputable def loopB (P : Program) (w : World) : M Fl := (mSeq (mIf (mIf (M.map (!·) (mTruth (M.map Opd.sol (mCallP 2 f__law_is_folded_right (M.map (fun p => p.1 :: p.2) (M.pair (mName 6) (M.map (fun p => p.1 :: p.2) (M.pair (M.frz (mBin opEq (M.map Opd.sol (mBin opAnd (mBor 5) (M.map (fun x => .sol (.d x)) (M.pure (.int 1))))) (M.map (fun x => .sol (.d x)) (M.pure (.int 0))))) (M.pure []))))))))) (M.pure true) (M.map (!·) (mTruth (M.map Opd.sol (mCallP 1 f__law_are_twins_right (M.map (fun p => p.1 :: p.2) (M.pair (mName 6) (M.pure [])))))))) (mSeq (M.map Fl.rt (M.map O.d (M.pure (.bl false))))
  (M.pure .nx)) (M.pure .nx))
  (mSeq (mIf (mB (mBin opNe (M.map Opd.sol (mSetd P w 4 (M.map (fun p => p.1 :: p.2) (M.pair (M.frz (mCallP 1 f_layout (M.map (fun p => p.1 :: p.2) (M.pair (mName 6) (M.pure []))))) (M.map (fun p => p.1 :: p.2) (M.pair (mName 6) (M.pure []))))))) (mBor 6))) (mSeq (M.map Fl.rt (M.map O.d (M.pure (.bl false))))
  (M.pure .nx)) (M.pure .nx))
  (M.pure .nx)))
theorem fold_loop (P : Program) (w : World) (o0 o1 : O) (X : List D) (v3 v7 v8 v9 : Option O) : ∀ (xs : List FT) (i : Nat) (kvs : List (D × D)) (v5 v6 : Option O), (∀ t ∈ xs, t ∈ tab) → Met kvs → kvs.length + xs.length < 1000 →
    ∃ kvs' v5' v6', forL (gT 2 (gC (gN 5) (gC (gN 6) g0))) (loopB P w) (enumD i (xs.map FT.F)) [some o0, some o1, some (.d (.lst X)), v3, some (.on P w kvs), v5, v6, v7, v8, v9] = .ok .nx [some o0, some o1, some (.d (.lst X)), v3, some (.on P w kvs'), v5', v6', v7, v8, v9]
  | [], i, kvs, v5, v6, _, _, _ => ⟨kvs, v5, v6, rfl⟩
  | t :: xs, i, kvs, v5, v6, ht, hm, hl => by
    have hi := ht t List.mem_cons_self
    have ok := tab_ok t hi
    obtain ⟨ys, e1, hm2, hl2⟩ := setd_ok hm hi (by have : SZ = 16777216 := rfl; omega)
    have hlB : t.B.length ≤ 100 := by rcases ok.ok.len with e | e | e | e <;> omega
    have e2 : ∀ b, f__law_is_folded_right none [t.F, .bl b] = .ok (.d (.bl true)) none := ok.ok.right
    have e3 := ok.ok.twins
    have e4 := ok.ok.ok.layout hlB
    have e5 := ne_self ok.pl
    have e6 : ∀ a b : Int, opAnd (.int a) (.int b) = some (.d (.int (Builtin.bitAnd a b))) := fun _ _ => rfl
    have hg : gT 2 (gC (gN 5) (gC (gN 6) g0)) (.tup [.int i, t.F]) [some o0, some o1, some (.d (.lst X)), v3, some (.on P w kvs), v5, v6, v7, v8, v9] = some [some o0, some o1, some (.d (.lst X)), v3, some (.on P w kvs), some (.d (.int i)), some (.d t.F), v7, v8, v9] := rfl
    have hs : mSetd P w 4 (M.map (fun p => p.1 :: p.2) (M.pair (M.frz (mCallP 1 f_layout (M.map (fun p => p.1 :: p.2) (M.pair (mName 6) (M.pure []))))) (M.map (fun p => p.1 :: p.2) (M.pair (mName 6) (M.pure []))))) [some o0, some o1, some (.d (.lst X)), v3, some (.on P w kvs), some (.d (.int i)), some (.d t.F), v7, v8, v9] = .ok (.d t.F) [some o0, some o1, some (.d (.lst X)), v3, some (.on P w ys), some (.d (.int i)), some (.d t.F), v7, v8, v9] := by
      refine setd_ap (kvs := kvs) (ys := ys) (ds := [.tup (layQ 0 t.B), t.F]) (Γ1 := [some o0, some o1, some (.d (.lst X)), v3, some (.on P w kvs), some (.d (.int i)), some (.d t.F), v7, v8, v9]) rfl ?_ rfl e1
      (simp (config := { maxSteps := 1000000, decide := true }) only [PL.bind_ok, PL.bind_err, PL.bind_stuck, PL.Mbind_ap, PL.Mpure_ap, PL.Mmap_ap, PL.Mpair_ap, PL.Mfrz_ap, PL.optR_s, PL.optR_n, PL.mSeq_ap, PL.seqK_nx, PL.seqK_rt, PL.mSet_ap, PL.mIf_ap, PL.mB_ap, PL.tr_bl, PL.mBin_ap, PL.mUn_ap, PL.mCall_ap, PL.op2_ap, PL.op1_ap, PL.opn_ap,
  PL.rsv_sol, PL.rsv_bor, PL.rsvK_s, PL.borK_s, PL.nameK_d, PL.nameK_ol, PL.callDK_s, PL.dkGetK_s, PL.dkPutK_s, PL.view_d, PL.view_ol, PL.rsvs_nil, PL.rsvs_cons, PL.mBor_ap, PL.mName_ap, PL.setFr_ap, PL.mTup_ap, PL.mLst_ap, PL.mTruth_ap, PL.mSel_ap, PL.mCallP_ap, PL.mCallD_ap, PL.kCallD_ap, PL.mDkGet_ap, PL.fnSem_ap, PL.fnEnd_rt, PL.fnEnd_nx, PL.fnEnd_err, PL.argO_none, PL.argO_some, PL.opAdd_i, PL.opSub_i, PL.opMod_i, PL.opFdiv_i, PL.opGe_i, PL.opLt_i, PL.fInt_i, PL.fMax_i, PL.fLen_l, PL.fLen_t, PL.mDkPut_ap, PL.kDkPut_ap, List.map_cons, List.map_nil, List.cons_append, List.nil_append, List.replicate_succ, List.replicate_zero, Nat.reduceSub, Nat.reduceAdd, Nat.reduceLT, Nat.reduceLeDiff, List.set_cons_zero, List.set_cons_succ, List.getElem?_cons_zero, List.getElem?_cons_succ, List.length_cons, List.length_nil, Option.bind_some, Option.map_some, Option.bind_none, if_true, if_false, e4])
    have hb : loopB P w [some o0, some o1, some (.d (.lst X)), v3, some (.on P w kvs), some (.d (.int i)), some (.d t.F), v7, v8, v9] = .ok .nx [some o0, some o1, some (.d (.lst X)), v3, some (.on P w ys), some (.d (.int i)), some (.d t.F), v7, v8, v9] := by
      unfold loopB
      (simp (config := { maxSteps := 1000000, decide := true }) only [PL.bind_ok, PL.bind_err, PL.bind_stuck, PL.Mbind_ap, PL.Mpure_ap, PL.Mmap_ap, PL.Mpair_ap, PL.Mfrz_ap, PL.optR_s, PL.optR_n, PL.mSeq_ap, PL.seqK_nx, PL.seqK_rt, PL.mSet_ap, PL.mIf_ap, PL.mB_ap, PL.tr_bl, PL.mBin_ap, PL.mUn_ap, PL.mCall_ap, PL.op2_ap, PL.op1_ap, PL.opn_ap,
  PL.rsv_sol, PL.rsv_bor, PL.rsvK_s, PL.borK_s, PL.nameK_d, PL.nameK_ol, PL.callDK_s, PL.dkGetK_s, PL.dkPutK_s, PL.view_d, PL.view_ol, PL.rsvs_nil, PL.rsvs_cons, PL.mBor_ap, PL.mName_ap, PL.setFr_ap, PL.mTup_ap, PL.mLst_ap, PL.mTruth_ap, PL.mSel_ap, PL.mCallP_ap, PL.mCallD_ap, PL.kCallD_ap, PL.mDkGet_ap, PL.fnSem_ap, PL.fnEnd_rt, PL.fnEnd_nx, PL.fnEnd_err, PL.argO_none, PL.argO_some, PL.opAdd_i, PL.opSub_i, PL.opMod_i, PL.opFdiv_i, PL.opGe_i, PL.opLt_i, PL.fInt_i, PL.fMax_i, PL.fLen_l, PL.fLen_t, PL.mDkPut_ap, PL.kDkPut_ap, List.map_cons, List.map_nil, List.cons_append, List.nil_append, List.replicate_succ, List.replicate_zero, Nat.reduceSub, Nat.reduceAdd, Nat.reduceLT, Nat.reduceLeDiff, List.set_cons_zero, List.set_cons_succ, List.getElem?_cons_zero, List.getElem?_cons_succ, List.length_cons, List.length_nil, Option.bind_some, Option.map_some, Option.bind_none, if_true, if_false, e2, e3, e5, e6, eq_int2, hs, truthD, Bool.not_true, Bool.false_eq_true])
    obtain ⟨kvs', a5, a6, e⟩ := fold_loop P w o0 o1 X v3 v7 v8 v9 xs (i + 1) ys _ _ (fun u hu => ht u (List.mem_cons_of_mem _ hu)) hm2 (by simp at hl; omega)
    exact ⟨kvs', a5, a6, (forL_nx hg hb).trans e⟩
end K27
end
section
set_option Elab.async false
set_option linter.all false
set_option maxRecDepth 100000
set_option maxHeartbeats 4000000
/-! K27j: the wrong values, the law. -/
namespace K27
open PySem PySem.Spec PyProof.Rows L2 PL
theorem comp_draw {i : Nat} {me : M D} {fr : Deck → Option O → Fr} (Pd : D → Prop) (hg : ∀ s x v, gN i x (fr s v) = some (fr s (some (.d x)))) (hc : ∀ s v, clr [i] (fr s v) = fr s none)
    (hme : ∀ s x, s.left.length < 1000 → ∃ y s', me (fr s (some (.d x))) = .ok y (fr s' (some (.d x))) ∧ Pd y ∧ s'.left.length ≤ s.left.length) :
    ∀ (ks acc : List D) (s : Deck), s.left.length < 1000 → acc.length + ks.length ≤ 1000 → ∃ ys s', compL [i] (gN i) (M.pure true) me ks acc (fr s none) = .ok (acc ++ ys) (fr s' none) ∧ ys.length = ks.length ∧ (∀ y ∈ ys, Pd y) ∧ s'.left.length ≤ s.left.length
  | [], acc, s, _, _ => ⟨[], s, by rw [List.append_nil]; rfl, rfl, fun y h => (by cases h), Nat.le_refl _⟩
  | k :: ks, acc, s, hl, ha => by
    obtain ⟨y, s1, e1, p1, l1⟩ := hme s k hl
    obtain ⟨ys, s2, e2, n2, p2, l2⟩ := comp_draw (i := i) (fr := fr) Pd hg hc hme ks (acc ++ [y]) s1 (by omega) (by simp at ha ⊢; omega)
    refine ⟨y :: ys, s2, ?_, by simp [n2], fun z hz => ?_, by omega⟩
    · have hz : acc.length < SZ := by have : SZ = 16777216 := rfl; simp at ha; omega
      have e3 : compL [i] (gN i) (M.pure true) me (k :: ks) acc (fr s none) = (match gN i k (fr s none) with
        | none => .stuck
        | some Γ1 => match me Γ1 with
          | .ok y Γ3 => if acc.length < SZ then compL [i] (gN i) (M.pure true) me ks (acc ++ [y]) (clr [i] Γ3) else .stuck
          | _ => .stuck) := rfl
      rw [e3, hg]
      dsimp only
      rw [e1]
      dsimp only
      rw [if_pos hz, hc, e2, List.append_assoc]
      rfl
    · rcases List.mem_cons.mp hz with rfl | hz
      · exact p1
      · exact p2 z hz
theorem lift_tab : ∀ (ds : List D), (∀ d ∈ ds, d ∈ tab.map FT.F) → ∃ ts : List FT, (∀ t ∈ ts, t ∈ tab) ∧ ds = ts.map FT.F
  | [], _ => ⟨[], fun t h => (by cases h), rfl⟩
  | d :: ds, h => by
    obtain ⟨ts, e1, e2⟩ := lift_tab ds fun x hx => h x (List.mem_cons_of_mem _ hx)
    obtain ⟨t, ht, e⟩ := List.mem_map.mp (h d List.mem_cons_self)
    refine ⟨t :: ts, fun u hu => ?_, by rw [List.map_cons, e, e2]⟩
    rcases List.mem_cons.mp hu with rfl | hu
    · exact ht
    · exact e1 u hu
theorem cut_mem (xs : List D) (lo hi : Option Int) : (∀ x ∈ PL.cutD xs lo hi, x ∈ xs) ∧ (PL.cutD xs lo hi).length ≤ xs.length := by
  unfold PL.cutD
  constructor
  · intro x hx
    exact List.mem_of_mem_drop (List.mem_of_mem_take hx)
  · rw [List.length_take, List.length_drop]
    omega
theorem tab_sub {m : List FT} (h : ∀ t ∈ m, t ∈ tab) : ∀ d ∈ m.map FT.F, d ∈ tab.map FT.F := by
  intro d hd
  obtain ⟨t, ht, rfl⟩ := List.mem_map.mp hd
  exact List.mem_map.mpr ⟨t, h t ht, rfl⟩
theorem in1 : ∀ t ∈ tab1, t ∈ tab := fun t h => List.mem_append_left _ h
theorem in2 : ∀ t ∈ tab2, t ∈ tab := fun t h => List.mem_append_right _ (List.mem_append_left _ h)
theorem in3 : ∀ t ∈ tab3, t ∈ tab := fun t h => List.mem_append_right _ (List.mem_append_right _ (List.mem_append_left _ h))
theorem in4 : ∀ t ∈ tab4, t ∈ tab := fun t h => List.mem_append_right _ (List.mem_append_right _ (List.mem_append_right _ h))
/-! ### the wrong values -/
def okB (x : D) : Bool := match okN x with
  | some k => Nat.ble k 3
  | none => false
theorem okB_ok {x : D} (h : okB x = true) : ∃ k, okN x = some k ∧ k ≤ 3 := by
  unfold okB at h
  cases e : okN x with
  | none => rw [e] at h; cases h
  | some k => rw [e] at h; exact ⟨k, rfl, Nat.le_of_ble_eq_true h⟩
structure BadOk (x : D) : Prop where
  bundle : f_bundle none [x] = .err "BadFolds" x none
  layout : f_layout none [x] = .err "BadFolds" x none
  spine : f_spine none [x] = .err "BadFolds" x none
  twins : f_twins none [x] = .err "BadFolds" x none
  okb : okB (.tup [.str "folds", x]) = true
theorem bad_ok : ∀ x ∈ badL, BadOk x := by
  unfold badL
  repeat (first | exact List.forall_mem_nil _ | refine List.forall_mem_cons.mpr ⟨⟨by kernel_rfl, by kernel_rfl, by kernel_rfl, by kernel_rfl, by kernel_rfl⟩, ?_⟩)
theorem okNs_of : ∀ (n : Nat) (xs : List D), (∀ x ∈ xs, ∃ k, okN x = some k ∧ k ≤ n) → ∃ m, okNs xs = some m ∧ m ≤ n
  | n, [], _ => ⟨0, rfl, Nat.zero_le _⟩
  | n, x :: xs, h => by
    obtain ⟨k, e1, k1⟩ := h x List.mem_cons_self
    obtain ⟨m, e2, m1⟩ := okNs_of n xs fun y hy => h y (List.mem_cons_of_mem _ hy)
    refine ⟨max k m, ?_, by omega⟩
    show ((okN x).bind fun a => (okNs xs).map fun b => max a b) = _
    rw [e1, e2]
    rfl
theorem tag_comp {fr : Option O → Fr} (hg : ∀ x v, gN 9 x (fr v) = some (fr (some (.d x)))) (hc : ∀ v, clr [9] (fr v) = fr none) (hn : ∀ x, mName 9 (fr (some (.d x))) = .ok x (fr (some (.d x)))) : ∀ (xs acc : List D), acc.length + xs.length ≤ 1000 →
    compL [9] (gN 9) (M.pure true) (mTup (M.map (fun p => p.1 :: p.2) (M.pair (M.pure (.str "folds")) (M.map (fun p => p.1 :: p.2) (M.pair (mName 9) (M.pure [])))))) xs acc (fr none) = .ok (acc ++ xs.map fun x => D.tup [.str "folds", x]) (fr none)
  | [], acc, _ => by rw [List.map_nil, List.append_nil]; rfl
  | x :: xs, acc, ha => by
    have hz : acc.length < SZ := by have : SZ = 16777216 := rfl; simp at ha; omega
    have hme : (mTup (M.map (fun p => p.1 :: p.2) (M.pair (M.pure (.str "folds")) (M.map (fun p => p.1 :: p.2) (M.pair (mName 9) (M.pure [])))))) (fr (some (.d x))) = .ok (.tup [.str "folds", x]) (fr (some (.d x))) := by
      simp only [mTup_ap, Mmap_ap, Mpair_ap, Mpure_ap, bind_ok, hn]
      rfl
    have ih := tag_comp hg hc hn xs (acc ++ [.tup [.str "folds", x]]) (by simp at ha ⊢; omega)
    have e3 : ∀ me : M D, compL [9] (gN 9) (M.pure true) me (x :: xs) acc (fr none) = (match gN 9 x (fr none) with
      | none => .stuck
      | some Γ1 => match me Γ1 with
        | .ok y Γ3 => if acc.length < SZ then compL [9] (gN 9) (M.pure true) me xs (acc ++ [y]) (clr [9] Γ3) else .stuck
        | _ => .stuck) := fun _ => rfl
    rw [e3, hg]
    dsimp only
    rw [hme]
    dsimp only
    rw [if_pos hz, hc, ih, List.append_assoc]
    rfl
theorem mRange_ap {Γ : Fr} (f : List D → Option (List D)) (m : M (List Opd)) : mRange f m Γ = (m Γ).bind fun ps Γ1 => optR ((rsvs ps Γ1).bind f) Γ1 := rfl
theorem callPF_ap (n : Nat) (f : Addr → Addr → FSem) (m : M (List D)) (p b : Addr) : mCallPF n f m p b = mCallP n (f p b) m := rfl
/-! ### the law -/
def hK (S0 S1 e : Str) : Res O → Res O
  | .ok o Γ' => optR (o.view.map fun x => .d (.tup [.str S0, x])) Γ'
  | .err x d Γ' => if x = e then .ok (.d (.tup [.str S1, d])) Γ' else .stuck
  | .stuck => .stuck
theorem heard_ap {Γ : Fr} (S0 S1 e : Str) (mb : M O) : mHeard S0 S1 e mb Γ = hK S0 S1 e (mb Γ) := by
  unfold mHeard hK
  cases mb Γ <;> rfl
theorem hK_err {Γ : Fr} (S0 S1 e : Str) (d : D) : hK S0 S1 e (.err e d Γ) = .ok (.d (.tup [.str S1, d])) Γ := if_pos rfl
theorem okN_lst {n : Nat} {xs : List D} (h : ∀ x ∈ xs, ∃ k, okN x = some k ∧ k ≤ n) : ∃ m, okN (.lst xs) = some m ∧ m ≤ n + 1 := by
  obtain ⟨m, e, l⟩ := okNs_of n xs h
  refine ⟨m + 1, ?_, by omega⟩
  show (okNs xs).map (· + 1) = _
  rw [e]
  rfl
theorem add_ll (xs ys : List D) (h : xs.length + ys.length ≤ 1000) : opAdd (.lst xs) (.lst ys) = some (.ol (xs ++ ys)) := if_pos (by have : SZ = 16777216 := rfl; omega)
theorem len12 : tab1.length = 2 ∧ tab2.length = 8 ∧ tab3.length = 32 ∧ tab4.length = 128 := ⟨rfl, rfl, rfl, rfl⟩
theorem plain_tab : ∀ d ∈ tab.map FT.F, plainB d = true := by
  intro d hd
  obtain ⟨t, ht, rfl⟩ := List.mem_map.mp hd
  exact (tab_ok t ht).pl
theorem right (P : Program) (w : World) (p b : Addr) (ns : List Int) (hn : ns.length ≤ 63) : f__law_is_right P w p b none [.scr ns] = .ok (.d (.bl true)) none := by
  obtain ⟨l1, l2, l3, l4⟩ := len12
  obtain ⟨s0, d0, dl0⟩ := deck_ok p b ns 2150127 hn
  have hz : (1000 : Nat) ≤ SZ := by decide
  -- the mixed ones
  obtain ⟨zs, s1, d1, zm, zl, _, dl1⟩ := mixed_ok s0 (tab3.map FT.F) (by rw [List.length_map]; omega) (by omega) (fun y hy => plain_tab y (tab_sub in3 y hy))
  obtain ⟨cm, cl⟩ := cut_mem zs none (some 6)
  have es : opSl (.lst zs) none (some 6) = some (.ol (PL.cutD zs none (some 6))) := rfl
  generalize PL.cutD zs none (some 6) = cs at cm cl es
  have zl2 : zs.length = 32 := by rw [zl, List.length_map]; exact l3
  -- the picked ones
  let fr1 : Deck → Option O → Fr := fun s v => [some (.d (.scr ns)), some (.dk s), some (.ol (tab1.map FT.F ++ tab2.map FT.F ++ cs)), v, none, none, none, none, none, none]
  obtain ⟨ps, s2, d2, pl2, pm2, dl2⟩ := comp_draw (i := 3) (me := M.frz (mCallD 2 f__law_pick 1 (M.map (fun p => p.1 :: p.2) (M.pair (M.frz (mCallP 1 f__law_all_folds (M.map (fun p => p.1 :: p.2) (M.pair (M.pure (.int 4)) (M.pure []))))) (M.pure []))))) (fr := fr1) (fun y => y ∈ tab.map FT.F) (fun _ _ _ => rfl) (fun _ _ => rfl) (by
      intro s x hs
      obtain ⟨y, s', e, hy, _, hl⟩ := pick_ok s (tab4.map FT.F) (by intro h; have h2 := congrArg List.length h; rw [List.length_map, l4] at h2; cases h2) (by rw [List.length_map]; omega) (by omega)
      refine ⟨y, s', ?_, tab_sub in4 y hy, hl⟩
      (simp (config := { maxSteps := 1000000, decide := true }) only [PL.bind_ok, PL.bind_err, PL.bind_stuck, PL.Mbind_ap, PL.Mpure_ap, PL.Mmap_ap, PL.Mpair_ap, PL.Mfrz_ap, PL.optR_s, PL.optR_n, PL.mSeq_ap, PL.seqK_nx, PL.seqK_rt, PL.mSet_ap, PL.mIf_ap, PL.mB_ap, PL.tr_bl, PL.mBin_ap, PL.mUn_ap, PL.mCall_ap, PL.op2_ap, PL.op1_ap, PL.opn_ap,
  PL.rsv_sol, PL.rsv_bor, PL.rsvK_s, PL.borK_s, PL.nameK_d, PL.nameK_ol, PL.callDK_s, PL.dkGetK_s, PL.dkPutK_s, PL.view_d, PL.view_ol, PL.rsvs_nil, PL.rsvs_cons, PL.mBor_ap, PL.mName_ap, PL.setFr_ap, PL.mTup_ap, PL.mLst_ap, PL.mTruth_ap, PL.mSel_ap, PL.mCallP_ap, PL.mCallD_ap, PL.kCallD_ap, PL.mDkGet_ap, PL.fnSem_ap, PL.fnEnd_rt, PL.fnEnd_nx, PL.fnEnd_err, PL.argO_none, PL.argO_some, PL.opAdd_i, PL.opSub_i, PL.opMod_i, PL.opFdiv_i, PL.opGe_i, PL.opLt_i, PL.fInt_i, PL.fMax_i, PL.fLen_l, PL.fLen_t, PL.mDkPut_ap, PL.kDkPut_ap, List.map_cons, List.map_nil, List.cons_append, List.nil_append, List.replicate_succ, List.replicate_zero, Nat.reduceSub, Nat.reduceAdd, Nat.reduceLT, Nat.reduceLeDiff, List.set_cons_zero, List.set_cons_succ, List.getElem?_cons_zero, List.getElem?_cons_succ, List.length_cons, List.length_nil, Option.bind_some, Option.map_some, Option.bind_none, if_true, if_false, fr1, all4, kCallD_ap, callDK_s, e])) [.int 0, .int 1, .int 2, .int 3] [] s1 (by omega) (by simp)
  have er : fRange1 [.int 4] = some [.int 0, .int 1, .int 2, .int 3] := rfl
  obtain ⟨ts, tm, te⟩ := lift_tab (tab1.map FT.F ++ tab2.map FT.F ++ cs ++ ps) (by
    intro d hd
    rcases List.mem_append.mp hd with hd | hd
    · rcases List.mem_append.mp hd with hd | hd
      · rcases List.mem_append.mp hd with hd | hd
        · exact tab_sub in1 d hd
        · exact tab_sub in2 d hd
      · exact tab_sub in3 d (zm d (cm d hd))
    · exact pm2 d hd)
  have tl : ts.length ≤ 100 := by
    have h := congrArg List.length te
    simp only [List.length_append, List.length_map] at h
    simp at pl2
    omega
  -- the loop
  obtain ⟨kvs, v5, v6, d3⟩ := fold_loop P w (.d (.scr ns)) (.dk s2) (ts.map FT.F) none none none none ts 0 [] none none tm (fun p hp => by cases hp) (by simp; omega)
  -- the wrong ones
  let fr2 : Deck → Option O → Fr := fun s v => [some (.d (.scr ns)), some (.dk s), some (.d (.lst (ts.map FT.F))), v, some (.on P w kvs), v5, v6, none, none, none]
  obtain ⟨bs, s3, d4, bl, bm, _⟩ := comp_draw (i := 3) (me := M.frz (mCallD 1 f__law_no_folds 1 (M.pure []))) (fr := fr2) (fun y => y ∈ badL) (fun _ _ _ => rfl) (fun _ _ => rfl) (by
      intro s x hs
      obtain ⟨y, s', e, hy, _, hl⟩ := nofolds_ok s (by omega)
      refine ⟨y, s', ?_, hy, hl⟩
      (simp (config := { maxSteps := 1000000, decide := true }) only [PL.bind_ok, PL.bind_err, PL.bind_stuck, PL.Mbind_ap, PL.Mpure_ap, PL.Mmap_ap, PL.Mpair_ap, PL.Mfrz_ap, PL.optR_s, PL.optR_n, PL.mSeq_ap, PL.seqK_nx, PL.seqK_rt, PL.mSet_ap, PL.mIf_ap, PL.mB_ap, PL.tr_bl, PL.mBin_ap, PL.mUn_ap, PL.mCall_ap, PL.op2_ap, PL.op1_ap, PL.opn_ap,
  PL.rsv_sol, PL.rsv_bor, PL.rsvK_s, PL.borK_s, PL.nameK_d, PL.nameK_ol, PL.callDK_s, PL.dkGetK_s, PL.dkPutK_s, PL.view_d, PL.view_ol, PL.rsvs_nil, PL.rsvs_cons, PL.mBor_ap, PL.mName_ap, PL.setFr_ap, PL.mTup_ap, PL.mLst_ap, PL.mTruth_ap, PL.mSel_ap, PL.mCallP_ap, PL.mCallD_ap, PL.kCallD_ap, PL.mDkGet_ap, PL.fnSem_ap, PL.fnEnd_rt, PL.fnEnd_nx, PL.fnEnd_err, PL.argO_none, PL.argO_some, PL.opAdd_i, PL.opSub_i, PL.opMod_i, PL.opFdiv_i, PL.opGe_i, PL.opLt_i, PL.fInt_i, PL.fMax_i, PL.fLen_l, PL.fLen_t, PL.mDkPut_ap, PL.kDkPut_ap, List.map_cons, List.map_nil, List.cons_append, List.nil_append, List.replicate_succ, List.replicate_zero, Nat.reduceSub, Nat.reduceAdd, Nat.reduceLT, Nat.reduceLeDiff, List.set_cons_zero, List.set_cons_succ, List.getElem?_cons_zero, List.getElem?_cons_succ, List.length_cons, List.length_nil, Option.bind_some, Option.map_some, Option.bind_none, if_true, if_false, fr2, kCallD_ap, callDK_s, e])) [.int 0, .int 1, .int 2, .int 3] [] s2 (by omega) (by simp)
  obtain ⟨b0, b1, b2, b3, rfl⟩ : ∃ b0 b1 b2 b3, bs = [b0, b1, b2, b3] := by
    rcases bs with _ | ⟨b0, _ | ⟨b1, _ | ⟨b2, _ | ⟨b3, _ | ⟨b4, bs⟩⟩⟩⟩⟩ <;> simp at bl
    exact ⟨b0, b1, b2, b3, rfl⟩
  have k0 := bad_ok b0 (bm b0 (by simp))
  have k1 := bad_ok b1 (bm b1 (by simp))
  have k2 := bad_ok b2 (bm b2 (by simp))
  have k3 := bad_ok b3 (bm b3 (by simp))
  have g0 : opIx (.lst [b0, b1, b2, b3]) (.int 0) = some (.d b0) := rfl
  have g1 : opIx (.lst [b0, b1, b2, b3]) (.int 1) = some (.d b1) := rfl
  have g2 : opIx (.lst [b0, b1, b2, b3]) (.int 2) = some (.d b2) := rfl
  have g3 : opIx (.lst [b0, b1, b2, b3]) (.int 3) = some (.d b3) := rfl
  obtain ⟨m, sm, sl⟩ := okN_lst (n := 3) (xs := [b0, b1, b2, b3].map fun x => D.tup [.str "folds", x]) (by
    intro x hx
    obtain ⟨y, hy, rfl⟩ := List.mem_map.mp hx
    exact okB_ok (bad_ok y (bm y hy)).okb)
  have same := same_refl 11 _ m sm (by omega)
  have same2 : f__law_same 12 none [.lst [.tup [.str "folds", b0], .tup [.str "folds", b1], .tup [.str "folds", b2], .tup [.str "folds", b3]], .lst [.tup [.str "folds", b0], .tup [.str "folds", b1], .tup [.str "folds", b2], .tup [.str "folds", b3]]] = .ok (.d (.bl true)) none := same
  let frE : Fr := [some (.d (.scr ns)), some (.dk s3), some (.d (.lst (ts.map FT.F))), none, some (.on P w kvs), v5, v6, some (.d (.lst [b0, b1, b2, b3])), some (.d (.lst [.tup [.str "folds", b0], .tup [.str "folds", b1], .tup [.str "folds", b2], .tup [.str "folds", b3]])), none]
  have tc := tag_comp (fr := fun v => [some (.d (.scr ns)), some (.dk s3), some (.d (.lst (ts.map FT.F))), none, some (.on P w kvs), v5, v6, some (.d (.lst [b0, b1, b2, b3])), some (.d (.lst [.tup [.str "folds", b0], .tup [.str "folds", b1], .tup [.str "folds", b2], .tup [.str "folds", b3]])), v]) (fun _ _ => rfl) (fun _ => rfl) (fun _ => rfl) [b0, b1, b2, b3] [] (by simp)
  unfold f__law_is_right
  refine fn_rt (Γ0 := [some (.d (.scr ns)), none, none, none, none, none, none, none, none, none]) rfl ⟨frE, ?_⟩
  unfold m__law_is_right
  refine seq_go (Γ1 := [some (.d (.scr ns)), some (.dk s0), none, none, none, none, none, none, none, none]) (by (simp (config := { maxSteps := 1000000, decide := true }) only [PL.bind_ok, PL.bind_err, PL.bind_stuck, PL.Mbind_ap, PL.Mpure_ap, PL.Mmap_ap, PL.Mpair_ap, PL.Mfrz_ap, PL.optR_s, PL.optR_n, PL.mSeq_ap, PL.seqK_nx, PL.seqK_rt, PL.mSet_ap, PL.mIf_ap, PL.mB_ap, PL.tr_bl, PL.mBin_ap, PL.mUn_ap, PL.mCall_ap, PL.op2_ap, PL.op1_ap, PL.opn_ap,
  PL.rsv_sol, PL.rsv_bor, PL.rsvK_s, PL.borK_s, PL.nameK_d, PL.nameK_ol, PL.callDK_s, PL.dkGetK_s, PL.dkPutK_s, PL.view_d, PL.view_ol, PL.rsvs_nil, PL.rsvs_cons, PL.mBor_ap, PL.mName_ap, PL.setFr_ap, PL.mTup_ap, PL.mLst_ap, PL.mTruth_ap, PL.mSel_ap, PL.mCallP_ap, PL.mCallD_ap, PL.kCallD_ap, PL.mDkGet_ap, PL.fnSem_ap, PL.fnEnd_rt, PL.fnEnd_nx, PL.fnEnd_err, PL.argO_none, PL.argO_some, PL.opAdd_i, PL.opSub_i, PL.opMod_i, PL.opFdiv_i, PL.opGe_i, PL.opLt_i, PL.fInt_i, PL.fMax_i, PL.fLen_l, PL.fLen_t, PL.mDkPut_ap, PL.kDkPut_ap, List.map_cons, List.map_nil, List.cons_append, List.nil_append, List.replicate_succ, List.replicate_zero, Nat.reduceSub, Nat.reduceAdd, Nat.reduceLT, Nat.reduceLeDiff, List.set_cons_zero, List.set_cons_succ, List.getElem?_cons_zero, List.getElem?_cons_succ, List.length_cons, List.length_nil, Option.bind_some, Option.map_some, Option.bind_none, if_true, if_false, callPF_ap, d0])) ?_
  refine seq_go (Γ1 := [some (.d (.scr ns)), some (.dk s1), some (.ol (tab1.map FT.F ++ tab2.map FT.F ++ cs)), none, none, none, none, none, none, none]) (by
    (simp (config := { maxSteps := 1000000, decide := true }) only [PL.bind_ok, PL.bind_err, PL.bind_stuck, PL.Mbind_ap, PL.Mpure_ap, PL.Mmap_ap, PL.Mpair_ap, PL.Mfrz_ap, PL.optR_s, PL.optR_n, PL.mSeq_ap, PL.seqK_nx, PL.seqK_rt, PL.mSet_ap, PL.mIf_ap, PL.mB_ap, PL.tr_bl, PL.mBin_ap, PL.mUn_ap, PL.mCall_ap, PL.op2_ap, PL.op1_ap, PL.opn_ap,
  PL.rsv_sol, PL.rsv_bor, PL.rsvK_s, PL.borK_s, PL.nameK_d, PL.nameK_ol, PL.callDK_s, PL.dkGetK_s, PL.dkPutK_s, PL.view_d, PL.view_ol, PL.rsvs_nil, PL.rsvs_cons, PL.mBor_ap, PL.mName_ap, PL.setFr_ap, PL.mTup_ap, PL.mLst_ap, PL.mTruth_ap, PL.mSel_ap, PL.mCallP_ap, PL.mCallD_ap, PL.kCallD_ap, PL.mDkGet_ap, PL.fnSem_ap, PL.fnEnd_rt, PL.fnEnd_nx, PL.fnEnd_err, PL.argO_none, PL.argO_some, PL.opAdd_i, PL.opSub_i, PL.opMod_i, PL.opFdiv_i, PL.opGe_i, PL.opLt_i, PL.fInt_i, PL.fMax_i, PL.fLen_l, PL.fLen_t, PL.mDkPut_ap, PL.kDkPut_ap, List.map_cons, List.map_nil, List.cons_append, List.nil_append, List.replicate_succ, List.replicate_zero, Nat.reduceSub, Nat.reduceAdd, Nat.reduceLT, Nat.reduceLeDiff, List.set_cons_zero, List.set_cons_succ, List.getElem?_cons_zero, List.getElem?_cons_succ, List.length_cons, List.length_nil, Option.bind_some, Option.map_some, Option.bind_none, if_true, if_false, all1, all2, all3, kCallD_ap, callDK_s, d1, mSlice_ap, mInt_ap, intD_i, es, add_ll (tab1.map FT.F) (tab2.map FT.F) (by simp only [List.length_map]; omega), add_ll (tab1.map FT.F ++ tab2.map FT.F) cs (by simp only [List.length_append, List.length_map]; omega)])) ?_
  dsimp only [fr1, List.nil_append] at d2
  refine seq_go (Γ1 := [some (.d (.scr ns)), some (.dk s2), some (.ol (ts.map FT.F)), none, none, none, none, none, none, none]) (by
    rw [← te]
    (simp (config := { maxSteps := 1000000, decide := true }) only [PL.bind_ok, PL.bind_err, PL.bind_stuck, PL.Mbind_ap, PL.Mpure_ap, PL.Mmap_ap, PL.Mpair_ap, PL.Mfrz_ap, PL.optR_s, PL.optR_n, PL.mSeq_ap, PL.seqK_nx, PL.seqK_rt, PL.mSet_ap, PL.mIf_ap, PL.mB_ap, PL.tr_bl, PL.mBin_ap, PL.mUn_ap, PL.mCall_ap, PL.op2_ap, PL.op1_ap, PL.opn_ap,
  PL.rsv_sol, PL.rsv_bor, PL.rsvK_s, PL.borK_s, PL.nameK_d, PL.nameK_ol, PL.callDK_s, PL.dkGetK_s, PL.dkPutK_s, PL.view_d, PL.view_ol, PL.rsvs_nil, PL.rsvs_cons, PL.mBor_ap, PL.mName_ap, PL.setFr_ap, PL.mTup_ap, PL.mLst_ap, PL.mTruth_ap, PL.mSel_ap, PL.mCallP_ap, PL.mCallD_ap, PL.kCallD_ap, PL.mDkGet_ap, PL.fnSem_ap, PL.fnEnd_rt, PL.fnEnd_nx, PL.fnEnd_err, PL.argO_none, PL.argO_some, PL.opAdd_i, PL.opSub_i, PL.opMod_i, PL.opFdiv_i, PL.opGe_i, PL.opLt_i, PL.fInt_i, PL.fMax_i, PL.fLen_l, PL.fLen_t, PL.mDkPut_ap, PL.kDkPut_ap, List.map_cons, List.map_nil, List.cons_append, List.nil_append, List.replicate_succ, List.replicate_zero, Nat.reduceSub, Nat.reduceAdd, Nat.reduceLT, Nat.reduceLeDiff, List.set_cons_zero, List.set_cons_succ, List.getElem?_cons_zero, List.getElem?_cons_succ, List.length_cons, List.length_nil, Option.bind_some, Option.map_some, Option.bind_none, if_true, if_false, mComp_ap, mRange_ap, er, clr, d2, add_ll (tab1.map FT.F ++ tab2.map FT.F ++ cs) ps (by simp only [List.length_append, List.length_map]; simp at pl2; omega)])) ?_
  refine seq_go (Γ1 := [some (.d (.scr ns)), some (.dk s2), some (.ol (ts.map FT.F)), none, some (.on P w []), none, none, none, none, none]) (by (simp (config := { maxSteps := 1000000, decide := true }) only [PL.bind_ok, PL.bind_err, PL.bind_stuck, PL.Mbind_ap, PL.Mpure_ap, PL.Mmap_ap, PL.Mpair_ap, PL.Mfrz_ap, PL.optR_s, PL.optR_n, PL.mSeq_ap, PL.seqK_nx, PL.seqK_rt, PL.mSet_ap, PL.mIf_ap, PL.mB_ap, PL.tr_bl, PL.mBin_ap, PL.mUn_ap, PL.mCall_ap, PL.op2_ap, PL.op1_ap, PL.opn_ap,
  PL.rsv_sol, PL.rsv_bor, PL.rsvK_s, PL.borK_s, PL.nameK_d, PL.nameK_ol, PL.callDK_s, PL.dkGetK_s, PL.dkPutK_s, PL.view_d, PL.view_ol, PL.rsvs_nil, PL.rsvs_cons, PL.mBor_ap, PL.mName_ap, PL.setFr_ap, PL.mTup_ap, PL.mLst_ap, PL.mTruth_ap, PL.mSel_ap, PL.mCallP_ap, PL.mCallD_ap, PL.kCallD_ap, PL.mDkGet_ap, PL.fnSem_ap, PL.fnEnd_rt, PL.fnEnd_nx, PL.fnEnd_err, PL.argO_none, PL.argO_some, PL.opAdd_i, PL.opSub_i, PL.opMod_i, PL.opFdiv_i, PL.opGe_i, PL.opLt_i, PL.fInt_i, PL.fMax_i, PL.fLen_l, PL.fLen_t, PL.mDkPut_ap, PL.kDkPut_ap, List.map_cons, List.map_nil, List.cons_append, List.nil_append, List.replicate_succ, List.replicate_zero, Nat.reduceSub, Nat.reduceAdd, Nat.reduceLT, Nat.reduceLeDiff, List.set_cons_zero, List.set_cons_succ, List.getElem?_cons_zero, List.getElem?_cons_succ, List.length_cons, List.length_nil, Option.bind_some, Option.map_some, Option.bind_none, if_true, if_false])) ?_
  unfold loopB at d3
  have ee : fEnum [.lst (ts.map FT.F)] = some (enumD 0 (ts.map FT.F)) := rfl
  refine seq_go (Γ1 := [some (.d (.scr ns)), some (.dk s2), some (.d (.lst (ts.map FT.F))), none, some (.on P w kvs), v5, v6, none, none, none]) (by (simp (config := { maxSteps := 1000000, decide := true }) only [PL.bind_ok, PL.bind_err, PL.bind_stuck, PL.Mbind_ap, PL.Mpure_ap, PL.Mmap_ap, PL.Mpair_ap, PL.Mfrz_ap, PL.optR_s, PL.optR_n, PL.mSeq_ap, PL.seqK_nx, PL.seqK_rt, PL.mSet_ap, PL.mIf_ap, PL.mB_ap, PL.tr_bl, PL.mBin_ap, PL.mUn_ap, PL.mCall_ap, PL.op2_ap, PL.op1_ap, PL.opn_ap,
  PL.rsv_sol, PL.rsv_bor, PL.rsvK_s, PL.borK_s, PL.nameK_d, PL.nameK_ol, PL.callDK_s, PL.dkGetK_s, PL.dkPutK_s, PL.view_d, PL.view_ol, PL.rsvs_nil, PL.rsvs_cons, PL.mBor_ap, PL.mName_ap, PL.setFr_ap, PL.mTup_ap, PL.mLst_ap, PL.mTruth_ap, PL.mSel_ap, PL.mCallP_ap, PL.mCallD_ap, PL.kCallD_ap, PL.mDkGet_ap, PL.fnSem_ap, PL.fnEnd_rt, PL.fnEnd_nx, PL.fnEnd_err, PL.argO_none, PL.argO_some, PL.opAdd_i, PL.opSub_i, PL.opMod_i, PL.opFdiv_i, PL.opGe_i, PL.opLt_i, PL.fInt_i, PL.fMax_i, PL.fLen_l, PL.fLen_t, PL.mDkPut_ap, PL.kDkPut_ap, List.map_cons, List.map_nil, List.cons_append, List.nil_append, List.replicate_succ, List.replicate_zero, Nat.reduceSub, Nat.reduceAdd, Nat.reduceLT, Nat.reduceLeDiff, List.set_cons_zero, List.set_cons_succ, List.getElem?_cons_zero, List.getElem?_cons_succ, List.length_cons, List.length_nil, Option.bind_some, Option.map_some, Option.bind_none, if_true, if_false, mFor_ap, walk_ap, ee, d3])) ?_
  dsimp only [fr2, List.nil_append] at d4
  refine seq_go (Γ1 := [some (.d (.scr ns)), some (.dk s3), some (.d (.lst (ts.map FT.F))), none, some (.on P w kvs), v5, v6, some (.ol [b0, b1, b2, b3]), none, none]) (by (simp (config := { maxSteps := 1000000, decide := true }) only [PL.bind_ok, PL.bind_err, PL.bind_stuck, PL.Mbind_ap, PL.Mpure_ap, PL.Mmap_ap, PL.Mpair_ap, PL.Mfrz_ap, PL.optR_s, PL.optR_n, PL.mSeq_ap, PL.seqK_nx, PL.seqK_rt, PL.mSet_ap, PL.mIf_ap, PL.mB_ap, PL.tr_bl, PL.mBin_ap, PL.mUn_ap, PL.mCall_ap, PL.op2_ap, PL.op1_ap, PL.opn_ap,
  PL.rsv_sol, PL.rsv_bor, PL.rsvK_s, PL.borK_s, PL.nameK_d, PL.nameK_ol, PL.callDK_s, PL.dkGetK_s, PL.dkPutK_s, PL.view_d, PL.view_ol, PL.rsvs_nil, PL.rsvs_cons, PL.mBor_ap, PL.mName_ap, PL.setFr_ap, PL.mTup_ap, PL.mLst_ap, PL.mTruth_ap, PL.mSel_ap, PL.mCallP_ap, PL.mCallD_ap, PL.kCallD_ap, PL.mDkGet_ap, PL.fnSem_ap, PL.fnEnd_rt, PL.fnEnd_nx, PL.fnEnd_err, PL.argO_none, PL.argO_some, PL.opAdd_i, PL.opSub_i, PL.opMod_i, PL.opFdiv_i, PL.opGe_i, PL.opLt_i, PL.fInt_i, PL.fMax_i, PL.fLen_l, PL.fLen_t, PL.mDkPut_ap, PL.kDkPut_ap, List.map_cons, List.map_nil, List.cons_append, List.nil_append, List.replicate_succ, List.replicate_zero, Nat.reduceSub, Nat.reduceAdd, Nat.reduceLT, Nat.reduceLeDiff, List.set_cons_zero, List.set_cons_succ, List.getElem?_cons_zero, List.getElem?_cons_succ, List.length_cons, List.length_nil, Option.bind_some, Option.map_some, Option.bind_none, if_true, if_false, mComp_ap, mRange_ap, er, clr, d4])) ?_
  refine seq_go (Γ1 := [some (.d (.scr ns)), some (.dk s3), some (.d (.lst (ts.map FT.F))), none, some (.on P w kvs), v5, v6, some (.ol [b0, b1, b2, b3]), some (.ol [.tup [.str "folds", b0]]), none]) (by (simp (config := { maxSteps := 1000000, decide := true }) only [PL.bind_ok, PL.bind_err, PL.bind_stuck, PL.Mbind_ap, PL.Mpure_ap, PL.Mmap_ap, PL.Mpair_ap, PL.Mfrz_ap, PL.optR_s, PL.optR_n, PL.mSeq_ap, PL.seqK_nx, PL.seqK_rt, PL.mSet_ap, PL.mIf_ap, PL.mB_ap, PL.tr_bl, PL.mBin_ap, PL.mUn_ap, PL.mCall_ap, PL.op2_ap, PL.op1_ap, PL.opn_ap,
  PL.rsv_sol, PL.rsv_bor, PL.rsvK_s, PL.borK_s, PL.nameK_d, PL.nameK_ol, PL.callDK_s, PL.dkGetK_s, PL.dkPutK_s, PL.view_d, PL.view_ol, PL.rsvs_nil, PL.rsvs_cons, PL.mBor_ap, PL.mName_ap, PL.setFr_ap, PL.mTup_ap, PL.mLst_ap, PL.mTruth_ap, PL.mSel_ap, PL.mCallP_ap, PL.mCallD_ap, PL.kCallD_ap, PL.mDkGet_ap, PL.fnSem_ap, PL.fnEnd_rt, PL.fnEnd_nx, PL.fnEnd_err, PL.argO_none, PL.argO_some, PL.opAdd_i, PL.opSub_i, PL.opMod_i, PL.opFdiv_i, PL.opGe_i, PL.opLt_i, PL.fInt_i, PL.fMax_i, PL.fLen_l, PL.fLen_t, PL.mDkPut_ap, PL.kDkPut_ap, List.map_cons, List.map_nil, List.cons_append, List.nil_append, List.replicate_succ, List.replicate_zero, Nat.reduceSub, Nat.reduceAdd, Nat.reduceLT, Nat.reduceLeDiff, List.set_cons_zero, List.set_cons_succ, List.getElem?_cons_zero, List.getElem?_cons_succ, List.length_cons, List.length_nil, Option.bind_some, Option.map_some, Option.bind_none, if_true, if_false, heard_ap, hK_err, g0, k0.bundle])) ?_
  have a1 : ∀ x y : D, fAppend [x] [y] = some ([x, y], .non) := fun x y => fApp_s [x] y (by show 1 < SZ; decide)
  have a2 : ∀ x y z : D, fAppend [x, y] [z] = some ([x, y, z], .non) := fun x y z => fApp_s [x, y] z (by show 2 < SZ; decide)
  have a3 : ∀ x y z u : D, fAppend [x, y, z] [u] = some ([x, y, z, u], .non) := fun x y z u => fApp_s [x, y, z] u (by show 3 < SZ; decide)
  refine seq_go (Γ1 := [some (.d (.scr ns)), some (.dk s3), some (.d (.lst (ts.map FT.F))), none, some (.on P w kvs), v5, v6, some (.ol [b0, b1, b2, b3]), some (.ol [.tup [.str "folds", b0], .tup [.str "folds", b1]]), none]) (by (simp (config := { maxSteps := 1000000, decide := true }) only [PL.bind_ok, PL.bind_err, PL.bind_stuck, PL.Mbind_ap, PL.Mpure_ap, PL.Mmap_ap, PL.Mpair_ap, PL.Mfrz_ap, PL.optR_s, PL.optR_n, PL.mSeq_ap, PL.seqK_nx, PL.seqK_rt, PL.mSet_ap, PL.mIf_ap, PL.mB_ap, PL.tr_bl, PL.mBin_ap, PL.mUn_ap, PL.mCall_ap, PL.op2_ap, PL.op1_ap, PL.opn_ap,
  PL.rsv_sol, PL.rsv_bor, PL.rsvK_s, PL.borK_s, PL.nameK_d, PL.nameK_ol, PL.callDK_s, PL.dkGetK_s, PL.dkPutK_s, PL.view_d, PL.view_ol, PL.rsvs_nil, PL.rsvs_cons, PL.mBor_ap, PL.mName_ap, PL.setFr_ap, PL.mTup_ap, PL.mLst_ap, PL.mTruth_ap, PL.mSel_ap, PL.mCallP_ap, PL.mCallD_ap, PL.kCallD_ap, PL.mDkGet_ap, PL.fnSem_ap, PL.fnEnd_rt, PL.fnEnd_nx, PL.fnEnd_err, PL.argO_none, PL.argO_some, PL.opAdd_i, PL.opSub_i, PL.opMod_i, PL.opFdiv_i, PL.opGe_i, PL.opLt_i, PL.fInt_i, PL.fMax_i, PL.fLen_l, PL.fLen_t, PL.mDkPut_ap, PL.kDkPut_ap, List.map_cons, List.map_nil, List.cons_append, List.nil_append, List.replicate_succ, List.replicate_zero, Nat.reduceSub, Nat.reduceAdd, Nat.reduceLT, Nat.reduceLeDiff, List.set_cons_zero, List.set_cons_succ, List.getElem?_cons_zero, List.getElem?_cons_succ, List.length_cons, List.length_nil, Option.bind_some, Option.map_some, Option.bind_none, if_true, if_false, heard_ap, hK_err, g1, callK0_ap, kCallK_1, k1.layout, meth_ap, own_ap, ownK_s, kMeth_ap, methK_s, a1])) ?_
  refine seq_go (Γ1 := [some (.d (.scr ns)), some (.dk s3), some (.d (.lst (ts.map FT.F))), none, some (.on P w kvs), v5, v6, some (.ol [b0, b1, b2, b3]), some (.ol [.tup [.str "folds", b0], .tup [.str "folds", b1], .tup [.str "folds", b2]]), none]) (by (simp (config := { maxSteps := 1000000, decide := true }) only [PL.bind_ok, PL.bind_err, PL.bind_stuck, PL.Mbind_ap, PL.Mpure_ap, PL.Mmap_ap, PL.Mpair_ap, PL.Mfrz_ap, PL.optR_s, PL.optR_n, PL.mSeq_ap, PL.seqK_nx, PL.seqK_rt, PL.mSet_ap, PL.mIf_ap, PL.mB_ap, PL.tr_bl, PL.mBin_ap, PL.mUn_ap, PL.mCall_ap, PL.op2_ap, PL.op1_ap, PL.opn_ap,
  PL.rsv_sol, PL.rsv_bor, PL.rsvK_s, PL.borK_s, PL.nameK_d, PL.nameK_ol, PL.callDK_s, PL.dkGetK_s, PL.dkPutK_s, PL.view_d, PL.view_ol, PL.rsvs_nil, PL.rsvs_cons, PL.mBor_ap, PL.mName_ap, PL.setFr_ap, PL.mTup_ap, PL.mLst_ap, PL.mTruth_ap, PL.mSel_ap, PL.mCallP_ap, PL.mCallD_ap, PL.kCallD_ap, PL.mDkGet_ap, PL.fnSem_ap, PL.fnEnd_rt, PL.fnEnd_nx, PL.fnEnd_err, PL.argO_none, PL.argO_some, PL.opAdd_i, PL.opSub_i, PL.opMod_i, PL.opFdiv_i, PL.opGe_i, PL.opLt_i, PL.fInt_i, PL.fMax_i, PL.fLen_l, PL.fLen_t, PL.mDkPut_ap, PL.kDkPut_ap, List.map_cons, List.map_nil, List.cons_append, List.nil_append, List.replicate_succ, List.replicate_zero, Nat.reduceSub, Nat.reduceAdd, Nat.reduceLT, Nat.reduceLeDiff, List.set_cons_zero, List.set_cons_succ, List.getElem?_cons_zero, List.getElem?_cons_succ, List.length_cons, List.length_nil, Option.bind_some, Option.map_some, Option.bind_none, if_true, if_false, heard_ap, hK_err, g2, k2.spine, meth_ap, own_ap, ownK_s, kMeth_ap, methK_s, a2])) ?_
  refine seq_go (Γ1 := [some (.d (.scr ns)), some (.dk s3), some (.d (.lst (ts.map FT.F))), none, some (.on P w kvs), v5, v6, some (.ol [b0, b1, b2, b3]), some (.ol [.tup [.str "folds", b0], .tup [.str "folds", b1], .tup [.str "folds", b2], .tup [.str "folds", b3]]), none]) (by (simp (config := { maxSteps := 1000000, decide := true }) only [PL.bind_ok, PL.bind_err, PL.bind_stuck, PL.Mbind_ap, PL.Mpure_ap, PL.Mmap_ap, PL.Mpair_ap, PL.Mfrz_ap, PL.optR_s, PL.optR_n, PL.mSeq_ap, PL.seqK_nx, PL.seqK_rt, PL.mSet_ap, PL.mIf_ap, PL.mB_ap, PL.tr_bl, PL.mBin_ap, PL.mUn_ap, PL.mCall_ap, PL.op2_ap, PL.op1_ap, PL.opn_ap,
  PL.rsv_sol, PL.rsv_bor, PL.rsvK_s, PL.borK_s, PL.nameK_d, PL.nameK_ol, PL.callDK_s, PL.dkGetK_s, PL.dkPutK_s, PL.view_d, PL.view_ol, PL.rsvs_nil, PL.rsvs_cons, PL.mBor_ap, PL.mName_ap, PL.setFr_ap, PL.mTup_ap, PL.mLst_ap, PL.mTruth_ap, PL.mSel_ap, PL.mCallP_ap, PL.mCallD_ap, PL.kCallD_ap, PL.mDkGet_ap, PL.fnSem_ap, PL.fnEnd_rt, PL.fnEnd_nx, PL.fnEnd_err, PL.argO_none, PL.argO_some, PL.opAdd_i, PL.opSub_i, PL.opMod_i, PL.opFdiv_i, PL.opGe_i, PL.opLt_i, PL.fInt_i, PL.fMax_i, PL.fLen_l, PL.fLen_t, PL.mDkPut_ap, PL.kDkPut_ap, List.map_cons, List.map_nil, List.cons_append, List.nil_append, List.replicate_succ, List.replicate_zero, Nat.reduceSub, Nat.reduceAdd, Nat.reduceLT, Nat.reduceLeDiff, List.set_cons_zero, List.set_cons_succ, List.getElem?_cons_zero, List.getElem?_cons_succ, List.length_cons, List.length_nil, Option.bind_some, Option.map_some, Option.bind_none, if_true, if_false, heard_ap, hK_err, g3, callK0_ap, kCallK_1, k3.twins, meth_ap, own_ap, ownK_s, kMeth_ap, methK_s, a3])) ?_
  have ib : (D.lst [b0, b1, b2, b3]).items = some [b0, b1, b2, b3] := rfl
  dsimp only [List.nil_append] at tc
  exact seq_rt (by (simp (config := { maxSteps := 1000000, decide := true }) only [PL.bind_ok, PL.bind_err, PL.bind_stuck, PL.Mbind_ap, PL.Mpure_ap, PL.Mmap_ap, PL.Mpair_ap, PL.Mfrz_ap, PL.optR_s, PL.optR_n, PL.mSeq_ap, PL.seqK_nx, PL.seqK_rt, PL.mSet_ap, PL.mIf_ap, PL.mB_ap, PL.tr_bl, PL.mBin_ap, PL.mUn_ap, PL.mCall_ap, PL.op2_ap, PL.op1_ap, PL.opn_ap,
  PL.rsv_sol, PL.rsv_bor, PL.rsvK_s, PL.borK_s, PL.nameK_d, PL.nameK_ol, PL.callDK_s, PL.dkGetK_s, PL.dkPutK_s, PL.view_d, PL.view_ol, PL.rsvs_nil, PL.rsvs_cons, PL.mBor_ap, PL.mName_ap, PL.setFr_ap, PL.mTup_ap, PL.mLst_ap, PL.mTruth_ap, PL.mSel_ap, PL.mCallP_ap, PL.mCallD_ap, PL.kCallD_ap, PL.mDkGet_ap, PL.fnSem_ap, PL.fnEnd_rt, PL.fnEnd_nx, PL.fnEnd_err, PL.argO_none, PL.argO_some, PL.opAdd_i, PL.opSub_i, PL.opMod_i, PL.opFdiv_i, PL.opGe_i, PL.opLt_i, PL.fInt_i, PL.fMax_i, PL.fLen_l, PL.fLen_t, PL.mDkPut_ap, PL.kDkPut_ap, List.map_cons, List.map_nil, List.cons_append, List.nil_append, List.replicate_succ, List.replicate_zero, Nat.reduceSub, Nat.reduceAdd, Nat.reduceLT, Nat.reduceLeDiff, List.set_cons_zero, List.set_cons_succ, List.getElem?_cons_zero, List.getElem?_cons_succ, List.length_cons, List.length_nil, Option.bind_some, Option.map_some, Option.bind_none, if_true, if_false, frE, mComp_ap, mItems_ap, ib, clr, tc, same2]))
theorem LAW (P : Program) (w : World) (ns : List Int) (hn : ns.length ≤ 63) (p b : Addr) : f_law P w p b none [.scr ns] = .ok (.d (.bl true)) none := by
  have e := right P w p b ns hn
  unfold f_law
  refine fn_rt (Γ0 := [some (.d (.scr ns))]) rfl ⟨[some (.d (.scr ns))], ?_⟩
  have e1 : M.map Fl.rt (mCallPF 1 (f__law_is_right P w) (M.map (fun p => p.1 :: p.2) (M.pair (mName 0) (M.pure []))) p b) [some (.d (.scr ns))] = .ok (.rt (.d (.bl true))) [some (.d (.scr ns))] := by
    (simp (config := { maxSteps := 1000000, decide := true }) only [PL.bind_ok, PL.bind_err, PL.bind_stuck, PL.Mbind_ap, PL.Mpure_ap, PL.Mmap_ap, PL.Mpair_ap, PL.Mfrz_ap, PL.optR_s, PL.optR_n, PL.mSeq_ap, PL.seqK_nx, PL.seqK_rt, PL.mSet_ap, PL.mIf_ap, PL.mB_ap, PL.tr_bl, PL.mBin_ap, PL.mUn_ap, PL.mCall_ap, PL.op2_ap, PL.op1_ap, PL.opn_ap,
  PL.rsv_sol, PL.rsv_bor, PL.rsvK_s, PL.borK_s, PL.nameK_d, PL.nameK_ol, PL.callDK_s, PL.dkGetK_s, PL.dkPutK_s, PL.view_d, PL.view_ol, PL.rsvs_nil, PL.rsvs_cons, PL.mBor_ap, PL.mName_ap, PL.setFr_ap, PL.mTup_ap, PL.mLst_ap, PL.mTruth_ap, PL.mSel_ap, PL.mCallP_ap, PL.mCallD_ap, PL.kCallD_ap, PL.mDkGet_ap, PL.fnSem_ap, PL.fnEnd_rt, PL.fnEnd_nx, PL.fnEnd_err, PL.argO_none, PL.argO_some, PL.opAdd_i, PL.opSub_i, PL.opMod_i, PL.opFdiv_i, PL.opGe_i, PL.opLt_i, PL.fInt_i, PL.fMax_i, PL.fLen_l, PL.fLen_t, PL.mDkPut_ap, PL.kDkPut_ap, List.map_cons, List.map_nil, List.cons_append, List.nil_append, List.replicate_succ, List.replicate_zero, Nat.reduceSub, Nat.reduceAdd, Nat.reduceLT, Nat.reduceLeDiff, List.set_cons_zero, List.set_cons_succ, List.getElem?_cons_zero, List.getElem?_cons_succ, List.length_cons, List.length_nil, Option.bind_some, Option.map_some, Option.bind_none, if_true, if_false, callPF_ap, e])
  unfold m_law mOnly
  dsimp only
  rw [e1]
end K27
end
section
set_option Elab.async false
set_option linter.all false
set_option maxRecDepth 100000
open PySem PySem.W PyProof.Rows
set_option maxHeartbeats 0 in
theorem PySem.Challenge.cw_everypageset_k27_whole_folded_sheets_holds : PySem.Challenge.rw_everypageset_k27_whole_folded_sheets.Holds := by
  w_on; o_law; k_head; (case hw => w_witness2)
  k_fill
  refine Att.attach_callB rfl rfl fun w s0 s1 mg mb fa o pm cd doc a vs ns G Y ho hd hcd hmg hobj hints hlen hbits hg => ?_
  have KX := PySem.W.km_in_of Y
  have TB := PySem.W.km_tabs_of Y
  have LAW : ∀ (P : Program) (w : World) (ns : List Int), ns.length ≤ 63 → (∀ k ∈ ns, Builtin.Int.intBits k ≤ 1048576) → ∀ p b, K27.f_law P w p b none [.scr ns] = .ok (.d (.bl true)) none := fun P w ns hn _ p b => K27.LAW P w ns hn p b
  refine' K27.fin KX G.T.g G.X.2 G.T.b G.T.builtins G.T.nolimit hg (TB _ (List.mem_singleton.mpr rfl)) G.T.bmain hobj hints hlen hbits hmg (LAW _ _) ?n_abs ?n_all ?n_bool ?n_dict ?n_enumerate ?n_int ?n_isinstance ?n_len ?n_list ?n_max ?n_range ?n_str ?n_sum ?n_tuple ?n_zip ?k_LEFT ?k_MOST_FOLDS ?k_POWERS ?k_UP ?x_BadFolds ?d_is_one_word ?d_is_folds_value ?d_need_folds ?d_sheet_size ?d_turned_over ?d_folded ?d_bundle_of ?d_layout_of ?d_bundle ?d_layout ?d_spine ?d_twins ?d__law_deck ?d__law_draw ?d__law_pick ?d__law_mixed ?d__law_same ?d__law_turned_over ?d__law_bundle ?d__law_layout ?d__law_all_folds ?d__law_no_folds ?d__law_heard ?d__law_is_folded_right ?d__law_are_twins_right ?d__law_is_right ?d_law ?hdL ?nPT ?p_PageError ?s_PageError_BadFolds
  (case n_abs => k_is)
  (case n_all => k_is)
  (case n_bool => k_is)
  (case n_dict => k_is)
  (case n_enumerate => k_is)
  (case n_int => k_is)
  (case n_isinstance => k_is)
  (case n_len => k_is)
  (case n_list => k_is)
  (case n_max => k_is)
  (case n_range => k_is)
  (case n_str => k_is)
  (case n_sum => k_is)
  (case n_tuple => k_is)
  (case n_zip => k_is)
  (case k_LEFT => k_is)
  (case k_MOST_FOLDS => k_is)
  (case k_POWERS => ((refine' PL.tup_mk ?a_104 ?l_104 ?z_104 ?r_104; (case a_104 => k_is); (case l_104 => k_is); (case z_104 => (rw [PySem.sizeLine_eq]; exact (by decide))); (case r_104 => (repeat (first | exact PL.ItsD.nil | refine PL.ItsD.int _ _ ?_ | refine PL.ItsD.str _ _ ?_))))))
  (case k_UP => k_is)
  (case x_BadFolds => ((refine' PL.err_mk ?aC_105 ?xL_105 ?ov_105 ?sa_105 ?ga_105 ?gg_105 ?nN_105 ?iC_105 ?tI_105 ?kC_105 ?eC_105 ?tC_105 ?hC_105 ?jC_105 ?sC_105 ?l_105 ?cd_105; (case aC_105 => k_is); (case xL_105 => k_is); (case ov_105 => rfl); (case sa_105 => k_is); (case ga_105 => k_is); (case gg_105 => k_is); (case nN_105 => k_is); (case iC_105 => k_is); (case tI_105 => k_is); (case kC_105 => k_is); (case eC_105 => k_is); (case tC_105 => k_is); (case hC_105 => k_is); (case jC_105 => k_is); (case sC_105 => (first | rfl | k_is)); (case l_105 => k_is); (case cd_105 => k_is))))
  (case d_is_one_word => ((refine' PL.def_mk ?a_77 ?l_77 ?c_77 ?k_77; (case a_77 => k_is); (case l_77 => k_is); (case c_77 => k_is); (case k_77 => k_is))))
  (case d_is_folds_value => ((refine' PL.def_mk ?a_78 ?l_78 ?c_78 ?k_78; (case a_78 => k_is); (case l_78 => k_is); (case c_78 => k_is); (case k_78 => k_is))))
  (case d_need_folds => ((refine' PL.def_mk ?a_79 ?l_79 ?c_79 ?k_79; (case a_79 => k_is); (case l_79 => k_is); (case c_79 => k_is); (case k_79 => k_is))))
  (case d_sheet_size => ((refine' PL.def_mk ?a_80 ?l_80 ?c_80 ?k_80; (case a_80 => k_is); (case l_80 => k_is); (case c_80 => k_is); (case k_80 => k_is))))
  (case d_turned_over => ((refine' PL.def_mk ?a_81 ?l_81 ?c_81 ?k_81; (case a_81 => k_is); (case l_81 => k_is); (case c_81 => k_is); (case k_81 => k_is))))
  (case d_folded => ((refine' PL.def_mk ?a_82 ?l_82 ?c_82 ?k_82; (case a_82 => k_is); (case l_82 => k_is); (case c_82 => k_is); (case k_82 => k_is))))
  (case d_bundle_of => ((refine' PL.def_mk ?a_83 ?l_83 ?c_83 ?k_83; (case a_83 => k_is); (case l_83 => k_is); (case c_83 => k_is); (case k_83 => k_is))))
  (case d_layout_of => ((refine' PL.def_mk ?a_84 ?l_84 ?c_84 ?k_84; (case a_84 => k_is); (case l_84 => k_is); (case c_84 => k_is); (case k_84 => k_is))))
  (case d_bundle => ((refine' PL.def_mk ?a_85 ?l_85 ?c_85 ?k_85; (case a_85 => k_is); (case l_85 => k_is); (case c_85 => k_is); (case k_85 => k_is))))
  (case d_layout => ((refine' PL.def_mk ?a_86 ?l_86 ?c_86 ?k_86; (case a_86 => k_is); (case l_86 => k_is); (case c_86 => k_is); (case k_86 => k_is))))
  (case d_spine => ((refine' PL.def_mk ?a_87 ?l_87 ?c_87 ?k_87; (case a_87 => k_is); (case l_87 => k_is); (case c_87 => k_is); (case k_87 => k_is))))
  (case d_twins => ((refine' PL.def_mk ?a_88 ?l_88 ?c_88 ?k_88; (case a_88 => k_is); (case l_88 => k_is); (case c_88 => k_is); (case k_88 => k_is))))
  (case d__law_deck => ((refine' PL.def_mk ?a_89 ?l_89 ?c_89 ?k_89; (case a_89 => k_is); (case l_89 => k_is); (case c_89 => k_is); (case k_89 => k_is))))
  (case d__law_draw => ((refine' PL.def_mk ?a_90 ?l_90 ?c_90 ?k_90; (case a_90 => k_is); (case l_90 => k_is); (case c_90 => k_is); (case k_90 => k_is))))
  (case d__law_pick => ((refine' PL.def_mk ?a_91 ?l_91 ?c_91 ?k_91; (case a_91 => k_is); (case l_91 => k_is); (case c_91 => k_is); (case k_91 => k_is))))
  (case d__law_mixed => ((refine' PL.def_mk ?a_92 ?l_92 ?c_92 ?k_92; (case a_92 => k_is); (case l_92 => k_is); (case c_92 => k_is); (case k_92 => k_is))))
  (case d__law_same => ((refine' PL.def_mk ?a_93 ?l_93 ?c_93 ?k_93; (case a_93 => k_is); (case l_93 => k_is); (case c_93 => k_is); (case k_93 => k_is))))
  (case d__law_turned_over => ((refine' PL.def_mk ?a_94 ?l_94 ?c_94 ?k_94; (case a_94 => k_is); (case l_94 => k_is); (case c_94 => k_is); (case k_94 => k_is))))
  (case d__law_bundle => ((refine' PL.def_mk ?a_95 ?l_95 ?c_95 ?k_95; (case a_95 => k_is); (case l_95 => k_is); (case c_95 => k_is); (case k_95 => k_is))))
  (case d__law_layout => ((refine' PL.def_mk ?a_96 ?l_96 ?c_96 ?k_96; (case a_96 => k_is); (case l_96 => k_is); (case c_96 => k_is); (case k_96 => k_is))))
  (case d__law_all_folds => ((refine' PL.def_mk ?a_97 ?l_97 ?c_97 ?k_97; (case a_97 => k_is); (case l_97 => k_is); (case c_97 => k_is); (case k_97 => k_is))))
  (case d__law_no_folds => ((refine' PL.def_mk ?a_98 ?l_98 ?c_98 ?k_98; (case a_98 => k_is); (case l_98 => k_is); (case c_98 => k_is); (case k_98 => k_is))))
  (case d__law_heard => ((refine' PL.def_mk ?a_99 ?l_99 ?c_99 ?k_99; (case a_99 => k_is); (case l_99 => k_is); (case c_99 => k_is); (case k_99 => k_is))))
  (case d__law_is_folded_right => ((refine' PL.def_mk ?a_100 ?l_100 ?c_100 ?k_100; (case a_100 => k_is); (case l_100 => k_is); (case c_100 => k_is); (case k_100 => k_is))))
  (case d__law_are_twins_right => ((refine' PL.def_mk ?a_101 ?l_101 ?c_101 ?k_101; (case a_101 => k_is); (case l_101 => k_is); (case c_101 => k_is); (case k_101 => k_is))))
  (case d__law_is_right => ((refine' PL.defC_mk ?a_103 ?l_103 ?c_103 ?k_103; (case a_103 => k_is); (case l_103 => k_is); (case c_103 => k_is); (case k_103 => k_is))))
  (case d_law => ((refine' PL.def_mk ?a_102 ?l_102 ?c_102 ?k_102; (case a_102 => k_is); (case l_102 => k_is); (case c_102 => k_is); (case k_102 => k_is))))
  (case hdL => ((refine' PL.code_mk ?l_106 ?q_106; (case l_106 => k_is); (case q_106 => rfl))))
  (case nPT => (first | rfl | decide +kernel))
  (case p_PageError => k_is)
  (case s_PageError_BadFolds => ((refine' PL.exm_mk ?e_108 ?j_108 ?t_108 ?s_108; (case e_108 => k_is); (case j_108 => k_is); (case t_108 => k_is); (case s_108 => (first | rfl | k_is)))))
end
