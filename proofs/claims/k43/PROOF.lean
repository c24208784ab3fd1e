import PyProof.Rows.All
import Wide.All
import OpenK.AllK
import Wide.FinOn
import HandS.ForMost
import HandS.Walk
import HandS.TupAny
import HandS.Style
import HandS.Wide
import KE.KRevSl
import HandS.Iter
import KE.GoesMore
import HandS.Defaults
import HandS.Head0
import HandS.Head1
import HandS.Head2
import HandS.HeadEnd
import HandS.HeadHook1
import HandS.HeadHook2
import HandS.Deep
import PySem.Challenge.RW_machinehall_k43_whole_codes_of_moving_po
section
set_option Elab.async false
set_option linter.all false
set_option maxRecDepth 100000
namespace QL
open PySem PySem.Spec PyProof.Rows L2

/-! ### pure data, mutable data, slots -/
inductive D where
  | non | bl (b : Bool) | int (i : Int) | str (s : Str) | tup (xs : List D)
inductive M where
  | lst (xs : List D)
  | st (ns : List Int) (pos cur seed : Int)
/-- what a slot holds: data, an owned mutable thing, a locked (read only) one -/
inductive S where
  | d (x : D) | m (x : M) | lk (x : M)
abbrev Sl := L2.St
abbrev En := List (Option S)
inductive Arg where
  | slot (i : Nat) | val (s : S)
abbrev Fn1 (α : Type) := En → Option (α × En)

mutual
inductive RD (K : PySem.W.Frag) (H : Hp) : D → V → Prop
  | non : RD K H .non .non
  | bl (b : Bool) : RD K H (.bl b) (.bl b)
  | int (i : Int) : RD K H (.int i) (.int i)
  | str (s : Str) : RD K H (.str s) (.str s)
  | tup {a : Addr} {vs : List V} {ds : List D} : SqT K H a vs → RDs K H ds vs → RD K H (.tup ds) (.ref a)
inductive RDs (K : PySem.W.Frag) (H : Hp) : List D → List V → Prop
  | nil : RDs K H [] []
  | cons {x : D} {v : V} {ds : List D} {vs : List V} : RD K H x v → RDs K H ds vs → RDs K H (x :: ds) (v :: vs)
end
/-- tuples stay -/
def Pst (H H' : Hp) : Prop := ∀ a xs, Rd H a (.tup xs) → Rd H' a (.tup xs)
theorem Pst.seq {K : PySem.W.Frag} {H H' : Hp} {a : Addr} {xs : List V} (p : Pst H H') (h : SqT K H a xs) : SqT K H' a xs := by
  rcases h with h | h
  · exact .inl (p a xs h)
  · exact .inr h
mutual
theorem RD.pst {K : PySem.W.Frag} {H H' : Hp} (p : Pst H H') : ∀ {x : D} {v : V}, RD K H x v → RD K H' x v
  | _, _, .non => .non
  | _, _, .bl b => .bl b
  | _, _, .int i => .int i
  | _, _, .str s => .str s
  | _, _, .tup h hs => .tup (p.seq h) (RDs.pst p hs)
theorem RDs.pst {K : PySem.W.Frag} {H H' : Hp} (p : Pst H H') : ∀ {x : List D} {v : List V}, RDs K H x v → RDs K H' x v
  | _, _, .nil => .nil
  | _, _, .cons h hs => .cons (RD.pst p h) (RDs.pst p hs)
end
theorem RDs.length {K : PySem.W.Frag} {H : Hp} : ∀ {ds : List D} {vs : List V}, RDs K H ds vs → ds.length = vs.length
  | _, _, .nil => rfl
  | _, _, .cons _ t => by rw [List.length_cons, List.length_cons, RDs.length t]
theorem RDs.get {K : PySem.W.Frag} {H : Hp} : ∀ {ds : List D} {vs : List V} {i : Nat} {x : D}, RDs K H ds vs → ds[i]? = some x → ∃ v, vs[i]? = some v ∧ RD K H x v
  | _, _, _, _, .nil, e => by simp at e
  | _, _, 0, _, .cons r _, e => by simp at e; subst e; exact ⟨_, rfl, r⟩
  | _, _, i + 1, x, .cons _ t, e => by
    obtain ⟨u, h1, h2⟩ := RDs.get (i := i) (x := x) t (by simpa using e)
    exact ⟨u, by simpa using h1, h2⟩
theorem RDs.getV {K : PySem.W.Frag} {H : Hp} : ∀ {ds : List D} {vs : List V} {i : Nat} {v : V}, RDs K H ds vs → vs[i]? = some v → ∃ x, ds[i]? = some x ∧ RD K H x v
  | _, _, _, _, .nil, e => by simp at e
  | _, _, 0, _, .cons r _, e => by simp at e; subst e; exact ⟨_, rfl, r⟩
  | _, _, i + 1, x, .cons _ t, e => by
    obtain ⟨u, h1, h2⟩ := RDs.getV (i := i) (v := x) t (by simpa using e)
    exact ⟨u, by simpa using h1, h2⟩
theorem RDs.append {K : PySem.W.Frag} {H : Hp} : ∀ {xs ys : List D} {us ws : List V}, RDs K H xs us → RDs K H ys ws → RDs K H (xs ++ ys) (us ++ ws)
  | _, _, _, _, .nil, s => s
  | _, _, _, _, .cons r t, s => .cons r (RDs.append t s)
theorem RDs.take {K : PySem.W.Frag} {H : Hp} : ∀ {xs : List D} {us : List V} (n : Nat), RDs K H xs us → RDs K H (xs.take n) (us.take n)
  | _, _, 0, _ => .nil
  | _, _, _ + 1, .nil => .nil
  | _, _, n + 1, .cons r t => .cons r (RDs.take n t)
theorem RDs.drop {K : PySem.W.Frag} {H : Hp} : ∀ {xs : List D} {us : List V} (n : Nat), RDs K H xs us → RDs K H (xs.drop n) (us.drop n)
  | _, _, 0, r => r
  | _, _, _ + 1, .nil => .nil
  | _, _, n + 1, .cons _ t => RDs.drop n t
theorem RDs.reverse {K : PySem.W.Frag} {H : Hp} : ∀ {xs : List D} {us : List V}, RDs K H xs us → RDs K H xs.reverse us.reverse
  | _, _, .nil => .nil
  | _, _, .cons r t => by
    rw [List.reverse_cons, List.reverse_cons]
    exact RDs.append (RDs.reverse t) (.cons r .nil)
theorem RDs.set {K : PySem.W.Frag} {H : Hp} {x : D} {u : V} (r : RD K H x u) : ∀ {xs : List D} {us : List V} (i : Nat), RDs K H xs us → RDs K H (xs.set i x) (us.set i u)
  | _, _, _, .nil => .nil
  | _, _, 0, .cons _ t => .cons r t
  | _, _, i + 1, .cons q t => .cons q (RDs.set r i t)
theorem RDs.ints {K : PySem.W.Frag} {H : Hp} : ∀ (ns : List Int), RDs K H (ns.map D.int) (ns.map V.int)
  | [] => .nil
  | n :: ns => .cons (.int n) (RDs.ints ns)
theorem RDs.of_ints {K : PySem.W.Frag} {H : Hp} : ∀ {ns : List Int} {vs : List V}, RDs K H (ns.map D.int) vs → vs = ns.map V.int
  | [], _, .nil => rfl
  | n :: ns, _, .cons r t => by
    cases r
    rw [RDs.of_ints t]
    rfl

/-- a list that cannot be written: locked by an object, or of the module -/
def FzL (K : PySem.W.Frag) (H : Hp) (a : Addr) (vs : List V) : Prop := (∃ o, H a = some (.frz o (.lst vs))) ∨
    ∃ (o : Obj) (its : Array Value) (n : Nat), K.lookup a = some o ∧ o.cls = .type "list" ∧ o.dict = none ∧ o.data = .seq its n ∧ its.size ≤ sizeLine ∧ Vals vs its.toList
theorem FzL.sq {K : PySem.W.Frag} {H : Hp} {a : Addr} {vs : List V} (h : FzL K H a vs) : SqL K H a vs := by
  rcases h with h | h
  · exact .inl (.inr h)
  · exact .inr h

def RM (K : PySem.W.Frag) (H : Hp) (x : M) (v : V) (P : Addr → Prop) : Prop := match x with
  | .lst ds => ∃ a vs, v = .ref a ∧ P a ∧ H a = some (.lst vs) ∧ RDs K H ds vs
  | .st ns p c z => ∃ a b, v = .ref a ∧ P a ∧ P b ∧ H a = some (.lst [.ref b, .int p, .int c, .int z]) ∧ H b = some (.lst (ns.map V.int))
def RL (K : PySem.W.Frag) (H : Hp) (x : M) (v : V) : Prop := match x with
  | .lst ds => ∃ a vs, v = .ref a ∧ FzL K H a vs ∧ RDs K H ds vs
  | .st .. => False
def RS (K : PySem.W.Frag) (H : Hp) (s : S) (v : V) (P : Addr → Prop) : Prop := match s with
  | .d x => RD K H x v
  | .m x => RM K H x v P
  | .lk x => RL K H x v

abbrev Ow := Nat → Addr → Prop
def Own (W : Ow) (b : Addr) : Prop := ∃ i, W i b
structure RE (K : PySem.W.Frag) (H : Hp) (σ : Sl) (env : En) (W : Ow) : Prop where
  slots : ∀ (i : Nat) (s : S), env[i]? = some (some s) → ∃ v, σ[i]? = some (some v) ∧ RS K H s v (W i)
  apart : ∀ i j b, W i b → W j b → i = j
  mu : ∀ i b, W i b → Mut (H b)
  len : env.length = σ.length

structure Tr (W : Ow) (H : Hp) (W' : Ow) (H' : Hp) (F : Addr → Prop) : Prop where
  frame : ∀ b o, H b = some o → ¬ Own W b → H' b = some o
  dom : ∀ b, H b ≠ none → H' b ≠ none
  out : ∀ b, H b ≠ none → ¬ Own W b → ¬ Own W' b ∧ ¬ F b
def Tm (W : Ow) (H : Hp) (F : Addr → Prop) : Prop := ∀ b, F b → ¬ Own W b ∧ Mut (H b)
abbrev F0 : Addr → Prop := fun _ => False
theorem Tm.zero {W : Ow} {H : Hp} : Tm W H F0 := fun _ h => h.elim
theorem mut_some {H : Hp} {b : Addr} (h : Mut (H b)) : H b ≠ none := fun e => by rw [e] at h; exact h
theorem Tr.refl {W : Ow} {H : Hp} : Tr W H W H F0 := ⟨fun _ _ h _ => h, fun _ h => h, fun _ _ h => ⟨h, fun z => z⟩⟩
theorem Tr.trans {W W1 W2 : Ow} {H H1 H2 : Hp} {F1 F2 : Addr → Prop} (a : Tr W H W1 H1 F1) (b : Tr W1 H1 W2 H2 F2) : Tr W H W2 H2 (fun x => F1 x ∨ F2 x) where
  frame := fun c o e n => b.frame c o (a.frame c o e n) (a.out c (by rw [e]; simp) n).1
  dom := fun c e => b.dom c (a.dom c e)
  out := fun c e n => by
    have h1 := a.out c e n
    have h2 := b.out c (a.dom c e) h1.1
    exact ⟨h2.1, fun z => z.elim h1.2 h2.2⟩
theorem Tr.less {W W' : Ow} {H H' : Hp} {F G : Addr → Prop} (a : Tr W H W' H' F) (h : ∀ b, G b → F b) : Tr W H W' H' G :=
  ⟨a.frame, a.dom, fun b e n => ⟨(a.out b e n).1, fun z => (a.out b e n).2 (h b z)⟩⟩
theorem Tr.trans0 {W W1 W2 : Ow} {H H1 H2 : Hp} {F1 F2 : Addr → Prop} (a : Tr W H W1 H1 F1) (b : Tr W1 H1 W2 H2 F2) : Tr W H W2 H2 F2 := (a.trans b).less fun _ h => .inr h
theorem Tr.left {W W1 W2 : Ow} {H H1 H2 : Hp} {F1 F2 : Addr → Prop} (a : Tr W H W1 H1 F1) (b : Tr W1 H1 W2 H2 F2) : Tr W H W2 H2 F1 := (a.trans b).less fun _ h => .inl h
theorem RE.fresh {K : PySem.W.Frag} {H : Hp} {σ : Sl} {env : En} {W : Ow} (r : RE K H σ env W) {b : Addr} (h : H b = none) : ¬ Own W b := fun ⟨i, z⟩ => mut_some (r.mu i b z) h
/-- what is locked, a tuple: not owned -/
theorem RE.nomut {K : PySem.W.Frag} {H : Hp} {σ : Sl} {env : En} {W : Ow} (r : RE K H σ env W) {b : Addr} {o : HO} (h : H b = some o) (n : ¬ Mut (some o)) : ¬ Own W b := fun ⟨i, z⟩ => by
  have := r.mu i b z
  rw [h] at this
  exact n this
theorem RE.pst {K : PySem.W.Frag} {H H' : Hp} {σ : Sl} {env : En} {W W' : Ow} {F : Addr → Prop} (r : RE K H σ env W) (t : Tr W H W' H' F) : Pst H H' := fun a xs h => by
  rcases h with h | ⟨o, h⟩
  · exact .inl (t.frame a _ h (r.nomut h fun z => z))
  · exact .inr ⟨o, t.frame a _ h (r.nomut h fun z => z)⟩
/-- a value that nobody of the slots owns stays -/
theorem RS.keep {K : PySem.W.Frag} {H H' : Hp} {W W' : Ow} {F P : Addr → Prop} (pm : ∀ i b, W i b → Mut (H b)) (t : Tr W H W' H' F) {s : S} {v : V} (h : RS K H s v P) (hP : ∀ b, P b → ¬ Own W b) : RS K H' s v P := by
  have nm : ∀ {b : Addr} {o : HO}, H b = some o → ¬ Mut (some o) → ¬ Own W b := fun {b o} h n ⟨i, z⟩ => by
    have := pm i b z
    rw [h] at this
    exact n this
  have p : Pst H H' := fun a xs h => by
    rcases h with h | ⟨o, h⟩
    · exact .inl (t.frame a _ h (nm h fun z => z))
    · exact .inr ⟨o, t.frame a _ h (nm h fun z => z)⟩
  cases s with
  | d x => exact RD.pst p h
  | m x =>
    cases x with
    | lst ds =>
      obtain ⟨a, vs, e, pa, ha, r⟩ := h
      exact ⟨a, vs, e, pa, t.frame a _ ha (hP a pa), RDs.pst p r⟩
    | st ns q c z =>
      obtain ⟨a, b, e, pa, pb, ha, hb⟩ := h
      exact ⟨a, b, e, pa, pb, t.frame a _ ha (hP a pa), t.frame b _ hb (hP b pb)⟩
  | lk x =>
    cases x with
    | lst ds =>
      obtain ⟨a, vs, e, ha, r⟩ := h
      refine ⟨a, vs, e, ?_, RDs.pst p r⟩
      rcases ha with ⟨o, ha⟩ | ha
      · exact .inl ⟨o, t.frame a _ ha (nm ha fun z => z)⟩
      · exact .inr ha
    | st ns q c z => exact h
/-- with all objects kept -/
theorem RS.same {K : PySem.W.Frag} {H H' : Hp} {P : Addr → Prop} (t : Same H H') {s : S} {v : V} (h : RS K H s v P) : RS K H' s v P := by
  refine RS.keep (W := fun _ _ => False) (W' := fun _ _ => False) (F := F0) (fun _ _ z => z.elim) ⟨fun b o e _ => t b o e, fun b e => ?_, fun b _ _ => ⟨fun ⟨_, z⟩ => z, fun z => z⟩⟩ h fun b _ ⟨_, z⟩ => z
  cases q : H b with
  | none => exact absurd q e
  | some o => rw [t b o q]; simp
theorem RS.imp {K : PySem.W.Frag} {H : Hp} {P P' : Addr → Prop} {s : S} {v : V} (h : RS K H s v P) (hP : ∀ b, P b → P' b) : RS K H s v P' := by
  cases s with
  | d x => exact h
  | m x =>
    cases x with
    | lst ds =>
      obtain ⟨a, vs, e, pa, r⟩ := h
      exact ⟨a, vs, e, hP _ pa, r⟩
    | st ns q c z =>
      obtain ⟨a, b, e, pa, pb, r⟩ := h
      exact ⟨a, b, e, hP _ pa, hP _ pb, r⟩
  | lk x => exact h
theorem RE.same {K : PySem.W.Frag} {H H' : Hp} {σ : Sl} {env : En} {W : Ow} (r : RE K H σ env W) (t : Same H H') : RE K H' σ env W :=
  ⟨fun i s e => let ⟨v, h1, h2⟩ := r.slots i s e; ⟨v, h1, h2.same t⟩, r.apart, fun i b z => by
    have := r.mu i b z
    cases q : H b with
    | none => rw [q] at this; exact this.elim
    | some o => rw [t b o q]; rw [q] at this; exact this, r.len⟩
theorem Tr.same {W : Ow} {H H' : Hp} {F : Addr → Prop} (t : Same H H') (hF : ∀ b, F b → H b = none) : Tr W H W H' F :=
  ⟨fun b o e _ => t b o e, fun b e => by
    cases q : H b with
    | none => exact absurd q e
    | some o => rw [t b o q]; simp, fun b e n => ⟨n, fun z => e (hF b z)⟩⟩

/-! ### arguments -/
def Arg.get (a : Arg) (env : En) : Option S := match a with
  | .slot i => (env[i]?).join
  | .val s => some s
def RA (K : PySem.W.Frag) (H : Hp) (σ : Sl) (a : Arg) (v : V) (F : Addr → Prop) : Prop := match a with
  | .slot i => σ[i]? = some (some v)
  | .val s => RS K H s v F
theorem join_some {α : Type} {x : Option (Option α)} {s : α} (h : x.join = some s) : x = some (some s) := by
  cases x with
  | none => cases h
  | some y => exact congrArg some h
/-- what an argument is worth: P, what it leans on -/
theorem RA.read {K : PySem.W.Frag} {H : Hp} {σ : Sl} {env : En} {W : Ow} {a : Arg} {v : V} {F : Addr → Prop} {s : S} (r : RE K H σ env W) (h : RA K H σ a v F) (e : a.get env = some s) :
    ∃ P, RS K H s v P := by
  cases a with
  | slot i =>
    obtain ⟨w, h1, h2⟩ := r.slots i s (join_some e)
    have h' : σ[i]? = some (some v) := h
    rw [h1] at h'
    cases h'
    exact ⟨_, h2⟩
  | val t =>
    cases e
    exact ⟨_, h⟩
theorem RA.keep {K : PySem.W.Frag} {H H' : Hp} {W W' : Ow} {F G : Addr → Prop} {σ : Sl} (pm : ∀ i b, W i b → Mut (H b)) (t : Tr W H W' H' G) {a : Arg} {v : V} (h : RA K H σ a v F) (hP : Tm W H F) : RA K H' σ a v F := by
  cases a with
  | slot i => exact h
  | val s => exact RS.keep pm t h fun b z => (hP b z).1
theorem Tm.keep {H H' : Hp} {W W' : Ow} {F G : Addr → Prop} (t : Tr W H W' H' G) (hP : Tm W H F) : Tm W' H' F := fun b z => by
  obtain ⟨n, mu⟩ := hP b z
  have hs := mut_some mu
  refine ⟨(t.out b hs n).1, ?_⟩
  cases q : H b with
  | none => exact absurd q hs
  | some o => rw [t.frame b o q n]; rw [q] at mu; exact mu

/-! ### expressions -/
def tE (K : PySem.W.Frag) (f : Fn1 Arg) : TE := fun σ H Q => ∃ env W a env', RE K H σ env W ∧ f env = some (a, env') ∧
  ∀ v H' W' F, RE K H' σ env' W' → RA K H' σ a v F → Tm W' H' F → Tr W H W' H' F → Q v H'
abbrev PX (X : Cx) (e : Expr) (f : Fn1 Arg) : Prop := PE X e (tE X.K f)
theorem PE.imp {X : Cx} {e : Expr} {t t' : TE} (h : PE X e t) (i : ∀ σ H Q, t' σ H Q → t σ H Q) : PE X e t' := ⟨fun pins s σ H Q I q => h.run pins s σ H Q I (i σ H Q q)⟩

def fC (x : D) : Fn1 Arg := fun env => some (.val (.d x), env)
def fVar (i : Nat) : Fn1 Arg := fun env => match env[i]? with
  | some (some _) => some (.slot i, env)
  | _ => none
section
variable {X : Cx}
theorem tE_C {K : PySem.W.Frag} {x : D} {v : V} {σ : Sl} {H : Hp} {Q : VK} (hv : ∀ H, RD K H x v) (h : tE K (fC x) σ H Q) : Q v H := by
  obtain ⟨env, W, a, env', r, e, k⟩ := h
  cases e
  exact k v H W F0 r (hv H) Tm.zero Tr.refl
theorem qx_int {n : Int} {k pos} : PX X (.Constant (.int n) k pos) (fC (.int n)) := PE.imp pe_int fun σ H Q h => tE_C (fun H => .int n) h
theorem qx_str {z : String} {k pos} : PX X (.Constant (.str z) k pos) (fC (.str (Str.ofString z))) := PE.imp pe_str fun σ H Q h => tE_C (fun H => .str _) h
theorem qx_var (i : Nat) {x : Str} {pos : Pos} (hN : X.N[i]? = some x := by rfl) (hv : Vis X.env.scope x := by first | exact Or.inl rfl | exact Or.inr (Or.inl rfl) | exact Or.inr (Or.inr rfl)) (hd : (x == ("__debug__" : Str)) = false := by decide)
    (hcd : (x == ("__classdict__" : Str)) = false := by decide) : PX X (.Name x pos) (fVar i) := PE.imp (pe_var hN hv hd hcd) fun σ H Q h => by
  obtain ⟨env, W, a, env', r, e, k⟩ := h
  unfold fVar at e
  split at e
  · rename_i s hs
    cases e
    obtain ⟨v, h1, h2⟩ := r.slots i s hs
    exact ⟨v, h1, k v H W F0 r h1 Tm.zero Tr.refl⟩
  · cases e
end
end QL
end

section
set_option Elab.async false
set_option linter.all false
set_option maxRecDepth 100000
namespace QL
open PySem PySem.Spec PyProof.Rows L2

/-! ### sequences of parts -/
def bnd {α β : Type} (x : Option (α × En)) (k : α → En → Option (β × En)) : Option (β × En) := match x with
  | some p => k p.1 p.2
  | none => none
@[simp] theorem bnd_some {α β : Type} {a : α} {e : En} {k : α → En → Option (β × En)} : bnd (some (a, e)) k = k a e := rfl
@[simp] theorem bnd_none {α β : Type} {k : α → En → Option (β × En)} : bnd (none : Option (α × En)) k = none := rfl
theorem bnd_eq {α β : Type} {x : Option (α × En)} {k : α → En → Option (β × En)} {r : β × En} (h : bnd x k = some r) : ∃ a e, x = some (a, e) ∧ k a e = some r := by
  cases x with
  | none => cases h
  | some p => exact ⟨p.1, p.2, rfl, h⟩
/-- hand back a value -/
def ret (z : Option S) (e : En) : Option (Arg × En) := match z with
  | some s => some (.val s, e)
  | none => none
@[simp] theorem ret_some {s : S} {e : En} : ret (some s) e = some (.val s, e) := rfl
theorem ret_eq {z : Option S} {e : En} {r : Arg × En} (h : ret z e = some r) : ∃ s, z = some s ∧ r = (.val s, e) := by
  cases z with
  | none => cases h
  | some s => cases h; exact ⟨s, rfl, rfl⟩
@[simp] theorem get_val {s : S} {e : En} : (Arg.val s).get e = some s := rfl
@[simp] theorem get_slot {i : Nat} {e : En} : (Arg.slot i).get e = (e[i]?).join := rfl

/-! ### operations by values -/
def Rd1 (K : PySem.W.Frag) (H : Hp) (s : S) (v : V) : Prop := ∃ P, RS K H s v P
/-- the end of an operation that makes s and changes nothing -/
def Fin (K : PySem.W.Frag) (H : Hp) (s : S) (Q : VK) : Prop := ∀ v H' F, Same H H' → (∀ b, F b → H b = none ∧ Mut (H' b)) → RS K H' s v F → Q v H'
section
variable {K : PySem.W.Frag} {H : Hp} {s : S} {Q : VK}
theorem Fin.imm {x : D} {v : V} (f : Fin K H (.d x) Q) (r : RD K H x v) : Q v H := f v H F0 (Same.refl H) (fun _ z => z.elim) r
theorem Fin.bl {b : Bool} (f : Fin K H (.d (.bl b)) Q) : Q (.bl b) H := f.imm (.bl b)
theorem Fin.int {i : Int} (f : Fin K H (.d (.int i)) Q) : Q (.int i) H := f.imm (.int i)
theorem Fin.str {i : Str} (f : Fin K H (.d (.str i)) Q) : Q (.str i) H := f.imm (.str i)
theorem same_new {p : Addr} {o : HO} (h : H p = none) : Same H (upd H p o) := fun b x e => by
  rw [upd_ne (ne_of_none e h)]
  exact e
theorem Same.pst {H H' : Hp} (t : Same H H') : Pst H H' := fun a xs h => by
  rcases h with h | ⟨o, h⟩
  · exact .inl (t a _ h)
  · exact .inr ⟨o, t a _ h⟩
theorem Fin.tup {ds : List D} {vs : List V} (f : Fin K H (.d (.tup ds)) Q) (r : RDs K H ds vs) {p : Addr} (h : H p = none) : Q (.ref p) (upd H p (.tup vs)) :=
  f (.ref p) _ F0 (same_new h) (fun _ z => z.elim) (.tup (SqT.of upd_same) (RDs.pst (Same.pst (same_new h)) r))
theorem Fin.lst {ds : List D} {vs : List V} (f : Fin K H (.m (.lst ds)) Q) (r : RDs K H ds vs) {p : Addr} (h : H p = none) : Q (.ref p) (upd H p (.lst vs)) :=
  f (.ref p) _ (fun b => b = p) (same_new h) (fun b z => by subst z; rw [upd_same]; exact ⟨h, trivial⟩) ⟨p, vs, rfl, rfl, upd_same, RDs.pst (Same.pst (same_new h)) r⟩
end
def Op2 (K : PySem.W.Frag) (r : R2) (o : S → S → Option S) : Prop := ∀ H x y sx sy s Q, o sx sy = some s → Rd1 K H sx x → Rd1 K H sy y → Fin K H s Q → r x y H Q
def Op1 (K : PySem.W.Frag) (r : V → Hp → VK → Prop) (o : S → Option S) : Prop := ∀ H x sx s Q, o sx = some s → Rd1 K H sx x → Fin K H s Q → r x H Q

/-- an operation's end within an expression -/
theorem fin_of {K : PySem.W.Frag} {H H2 : Hp} {σ : Sl} {env2 : En} {W W2 : Ow} {s : S} {Q : VK} {G : Addr → Prop} (r2 : RE K H2 σ env2 W2) (t : Tr W H W2 H2 G)
    (k : ∀ v H' W' F, RE K H' σ env2 W' → RA K H' σ (.val s) v F → Tm W' H' F → Tr W H W' H' F → Q v H') : Fin K H2 s Q := fun v H3 F sm hF rs =>
  k v H3 W2 F (r2.same sm) rs (fun b z => ⟨r2.fresh (hF b z).1, (hF b z).2⟩) (t.trans0 (Tr.same sm fun b z => (hF b z).1))

def op2 (o : S → S → Option S) (x y : Option S) : Option S := match x, y with
  | some x, some y => o x y
  | _, _ => none
@[simp] theorem op2_some {o : S → S → Option S} {x y : S} : op2 o (some x) (some y) = o x y := rfl
theorem op2_eq {o : S → S → Option S} {x y : Option S} {z : S} (h : op2 o x y = some z) : ∃ a b, x = some a ∧ y = some b ∧ o a b = some z := by
  unfold op2 at h
  split at h
  · exact ⟨_, _, rfl, rfl, h⟩
  · cases h
def fBin2 (o : S → S → Option S) (a b : Arg) (e : En) : Option (Arg × En) := ret (op2 o (a.get e) (b.get e)) e
def fBin1 (o : S → S → Option S) (fb : Fn1 Arg) (a : Arg) (e : En) : Option (Arg × En) := bnd (fb e) (fBin2 o a)
def fBin (o : S → S → Option S) (fa fb : Fn1 Arg) : Fn1 Arg := fun e => bnd (fa e) (fBin1 o fb)

/-- two parts, then an end R -/
theorem two_parts {K : PySem.W.Frag} {σ : Sl} {H : Hp} {env env1 env2 : En} {W : Ow} {fa fb : Fn1 Arg} {a b : Arg} {R : V → V → Hp → Prop} (r : RE K H σ env W) (ea : fa env = some (a, env1)) (eb : fb env1 = some (b, env2))
    (k : ∀ x y H2 W2 Fa Fb, RE K H2 σ env2 W2 → RA K H2 σ a x Fa → RA K H2 σ b y Fb → Tm W2 H2 Fa → Tm W2 H2 Fb → (∀ c, Fa c → ¬ Fb c) → Tr W H W2 H2 (fun c => Fa c ∨ Fb c) → R x y H2) :
    tE K fa σ H fun x H1 => tE K fb σ H1 fun y H2 => R x y H2 :=
  ⟨env, W, a, env1, r, ea, fun x H1 W1 Fa r1 ra tma t1 => ⟨env1, W1, b, env2, r1, eb, fun y H2 W2 Fb r2 rb tmb t2 =>
    k x y H2 W2 Fa Fb r2 (ra.keep r1.mu t2 tma) rb (Tm.keep t2 tma) tmb (fun c z => (t2.out c (mut_some (tma c z).2) (tma c z).1).2) (t1.trans t2)⟩⟩
section
variable {X : Cx} {a b c : Expr} {fa fb fc : Fn1 Arg} {pos : Pos}
theorem bin_read {r : R2} {o : S → S → Option S} {K : PySem.W.Frag} (hr : Op2 K r o) {σ : Sl} {H : Hp} {Q : VK} (h : tE K (fBin o fa fb) σ H Q) : tOp r (tE K fa) (tE K fb) σ H Q := by
  obtain ⟨env, W, z, env2, re, e, k⟩ := h
  obtain ⟨a, env1, ea, e⟩ := bnd_eq e
  obtain ⟨b, env2', eb, e⟩ := bnd_eq e
  obtain ⟨s, eq1, er⟩ := ret_eq e
  cases er
  obtain ⟨sx, sy, e1, e2, eo⟩ := op2_eq eq1
  refine two_parts re ea eb fun x y H2 W2 Fa Fb r2 ra rb _ _ _ t => ?_
  exact hr H2 x y sx sy s Q eo (ra.read r2 e1) (rb.read r2 e2) (fin_of r2 t k)
theorem qx_bin {op : Operator} {r : R2} {o : S → S → Option S} (ho : OpR X (binaryOp op) r) (hr : Op2 X.K r o) (ha : PX X a fa) (hb : PX X b fb) : PX X (.BinOp a op b pos) (fBin o fa fb) :=
  PE.imp (pe_op ho ha hb) fun σ H Q h => bin_read hr h
theorem qx_cmp {op : CmpOp} {r : R2} {o : S → S → Option S} (ho : OpR X (compareOp op) r) (hr : Op2 X.K r o) (ha : PX X a fa) (hb : PX X b fb) (hm : behindInMarks op b = false) : PX X (.Compare a [op] [b] pos) (fBin o fa fb) :=
  PE.imp (pe_cmpR ho ha hb hm) fun σ H Q h => bin_read hr h

/-! unary -/
def op1 (o : S → Option S) (x : Option S) : Option S := match x with
  | some x => o x
  | none => none
@[simp] theorem op1_some {o : S → Option S} {x : S} : op1 o (some x) = o x := rfl
theorem op1_eq {o : S → Option S} {x : Option S} {z : S} (h : op1 o x = some z) : ∃ a, x = some a ∧ o a = some z := by
  cases x with
  | none => cases h
  | some a => exact ⟨a, rfl, h⟩
def fUn1 (o : S → Option S) (a : Arg) (e : En) : Option (Arg × En) := ret (op1 o (a.get e)) e
def fUn (o : S → Option S) (fa : Fn1 Arg) : Fn1 Arg := fun e => bnd (fa e) (fUn1 o)
theorem un_read {r : V → Hp → VK → Prop} {o : S → Option S} {K : PySem.W.Frag} (hr : Op1 K r o) {σ : Sl} {H : Hp} {Q : VK} (h : tE K (fUn o fa) σ H Q) : tE K fa σ H fun x H1 => r x H1 Q := by
  obtain ⟨env, W, z, env2, re, e, k⟩ := h
  obtain ⟨a, env1, ea, e⟩ := bnd_eq e
  obtain ⟨s, eq1, er⟩ := ret_eq e
  cases er
  obtain ⟨sx, e1, eo⟩ := op1_eq eq1
  exact ⟨env, W, a, _, re, ea, fun x H1 W1 Fa r1 ra _ t1 => hr H1 x sx s Q eo (ra.read r1 e1) (fin_of r1 t1 k)⟩
theorem qx_un {op : UnaryOp} {r : V → Hp → VK → Prop} {o : S → Option S} (ho : UnR X (unaryOp op) r) (hr : Op1 X.K r o) (ha : PX X a fa) : PX X (.UnaryOp op a pos) (fUn o fa) :=
  PE.imp (pe_un ho ha) fun σ H Q h => un_read hr h
end

/-! ### the operators' values -/
def iOp (g : Int → Int → D) : S → S → Option S
  | .d (.int i), .d (.int j) => some (.d (g i j))
  | _, _ => none
@[simp] theorem iOp_int {g : Int → Int → D} {i j : Int} : iOp g (.d (.int i)) (.d (.int j)) = some (.d (g i j)) := rfl
def iOpC (c : Int → Int → Bool) (g : Int → Int → D) : S → S → Option S
  | .d (.int i), .d (.int j) => if c i j = true then some (.d (g i j)) else none
  | _, _ => none
@[simp] theorem iOpC_int {c : Int → Int → Bool} {g : Int → Int → D} {i j : Int} : iOpC c g (.d (.int i)) (.d (.int j)) = if c i j = true then some (.d (g i j)) else none := rfl
theorem rd_int {K : PySem.W.Frag} {H : Hp} {i : Int} {v : V} (h : Rd1 K H (.d (.int i)) v) : v = .int i := by
  obtain ⟨P, h⟩ := h
  cases (show RD K H (.int i) v from h)
  rfl
theorem rd_bl {K : PySem.W.Frag} {H : Hp} {i : Bool} {v : V} (h : Rd1 K H (.d (.bl i)) v) : v = .bl i := by
  obtain ⟨P, h⟩ := h
  cases (show RD K H (.bl i) v from h)
  rfl
theorem rd_str {K : PySem.W.Frag} {H : Hp} {i : Str} {v : V} (h : Rd1 K H (.d (.str i)) v) : v = .str i := by
  obtain ⟨P, h⟩ := h
  cases (show RD K H (.str i) v from h)
  rfl
theorem rd_non {K : PySem.W.Frag} {H : Hp} {v : V} (h : Rd1 K H (.d .non) v) : v = .non := by
  obtain ⟨P, h⟩ := h
  cases (show RD K H .non v from h)
  rfl
theorem rd_tup {K : PySem.W.Frag} {H : Hp} {ds : List D} {v : V} (h : Rd1 K H (.d (.tup ds)) v) : ∃ a vs, v = .ref a ∧ SqT K H a vs ∧ RDs K H ds vs := by
  obtain ⟨P, h⟩ := h
  cases (show RD K H (.tup ds) v from h) with
  | tup h1 h2 => exact ⟨_, _, rfl, h1, h2⟩
theorem rd_lst {K : PySem.W.Frag} {H : Hp} {ds : List D} {v : V} (h : Rd1 K H (.m (.lst ds)) v) : ∃ a vs, v = .ref a ∧ H a = some (.lst vs) ∧ RDs K H ds vs := by
  obtain ⟨P, a, vs, e, _, h1, h2⟩ := h
  exact ⟨a, vs, e, h1, h2⟩
theorem rd_lk {K : PySem.W.Frag} {H : Hp} {ds : List D} {v : V} (h : Rd1 K H (.lk (.lst ds)) v) : ∃ a vs, v = .ref a ∧ FzL K H a vs ∧ RDs K H ds vs := by
  obtain ⟨P, a, vs, e, h1, h2⟩ := h
  exact ⟨a, vs, e, h1, h2⟩
/-- the items of a list or a tuple -/
def seqOf : S → Option (List D)
  | .d (.tup ds) => some ds
  | .m (.lst ds) => some ds
  | .lk (.lst ds) => some ds
  | _ => none
@[simp] theorem seqOf_tup {ds : List D} : seqOf (.d (.tup ds)) = some ds := rfl
@[simp] theorem seqOf_lst {ds : List D} : seqOf (.m (.lst ds)) = some ds := rfl
@[simp] theorem seqOf_lk {ds : List D} : seqOf (.lk (.lst ds)) = some ds := rfl
theorem rd_seq {K : PySem.W.Frag} {H : Hp} {s : S} {ds : List D} {v : V} (e : seqOf s = some ds) (h : Rd1 K H s v) : ∃ a vs, v = .ref a ∧ RDs K H ds vs ∧ (SqL K H a vs ∨ SqT K H a vs) := by
  cases s with
  | d x =>
    cases x with
    | tup xs =>
      cases e
      obtain ⟨a, vs, e, h1, h2⟩ := rd_tup h
      exact ⟨a, vs, e, h2, .inr h1⟩
    | _ => cases e
  | m x =>
    cases x with
    | lst xs =>
      cases e
      obtain ⟨a, vs, e, h1, h2⟩ := rd_lst h
      exact ⟨a, vs, e, h2, .inl (SqL.of h1)⟩
    | _ => cases e
  | lk x =>
    cases x with
    | lst xs =>
      cases e
      obtain ⟨a, vs, e, h1, h2⟩ := rd_lk h
      exact ⟨a, vs, e, h2, .inl h1.sq⟩
    | _ => cases e
section
variable {X : Cx}
theorem op2_int {g : Int → Int → V} {g' : Int → Int → D} {K : PySem.W.Frag} (h : ∀ H i j, RD K H (g' i j) (g i j)) : Op2 K (rI0 g) (iOp g') := by
  intro H x y sx sy s Q e hx hy f
  unfold iOp at e
  split at e
  · cases e
    exact ⟨_, _, rd_int hx, rd_int hy, f.imm (h H _ _)⟩
  · cases e
theorem op2_intC {C : Int → Int → Prop} {c : Int → Int → Bool} {g : Int → Int → V} {g' : Int → Int → D} {K : PySem.W.Frag} (h : ∀ H i j, RD K H (g' i j) (g i j)) (hc : ∀ i j, c i j = true → C i j) : Op2 K (rI C g) (iOpC c g') := by
  intro H x y sx sy s Q e hx hy f
  unfold iOpC at e
  split at e
  · split at e
    · cases e
      rename_i hcc
      exact ⟨_, _, rd_int hx, rd_int hy, hc _ _ hcc, f.imm (h H _ _)⟩
    · cases e
  · cases e
theorem Op2.or {K : PySem.W.Frag} {r r' : R2} {o o' : S → S → Option S} (h : Op2 K r o) (h' : Op2 K r' o') : Op2 K (fun x y H Q => r x y H Q ∨ r' x y H Q) (fun x y => (o x y).or (o' x y)) := by
  intro H x y sx sy s Q e hx hy f
  have e : (o sx sy).or (o' sx sy) = some s := e
  cases q : o sx sy with
  | some z =>
    rw [q] at e
    have e : some z = some s := e
    cases e
    exact .inl (h H x y sx sy _ Q q hx hy f)
  | none =>
    rw [q, Option.none_or] at e
    exact .inr (h' H x y sx sy s Q e hx hy f)
/-- a + b -/
def oCatT : S → S → Option S
  | .d (.tup xs), .d (.tup ys) => if xs.length + ys.length ≤ sizeLine then some (.d (.tup (xs ++ ys))) else none
  | _, _ => none
def oCatL : S → S → Option S
  | .m (.lst xs), .m (.lst ys) => if xs.length + ys.length ≤ sizeLine then some (.m (.lst (xs ++ ys))) else none
  | _, _ => none
def oCatS : S → S → Option S
  | .d (.str x), .d (.str y) => if x.length + y.length ≤ sizeLine then some (.d (.str (x ++ y))) else none
  | _, _ => none
theorem op2_catT {K : PySem.W.Frag} : Op2 K (rCatA K) oCatT := by
  intro H x y sx sy s Q e hx hy f
  unfold oCatT at e
  split at e
  · rename_i xs ys
    split at e
    · rename_i hz
      cases e
      obtain ⟨a, vs, rfl, hs, rs⟩ := rd_tup hx
      obtain ⟨b, ws, rfl, hs', rs'⟩ := rd_tup hy
      refine ⟨a, b, vs, ws, rfl, rfl, hs, hs', by rw [← rs.length, ← rs'.length]; exact hz, fun e => ?_, fun _ e => ?_, fun _ _ p hp => f.tup (rs.append rs') hp⟩
      · subst e
        cases rs
        exact f.imm (.tup hs' rs')
      · subst e
        cases rs'
        refine f.imm ?_
        rw [List.append_nil]
        exact .tup hs rs
    · cases e
  · cases e
theorem op2_catL {K : PySem.W.Frag} : Op2 K rCat oCatL := by
  intro H x y sx sy s Q e hx hy f
  unfold oCatL at e
  split at e
  · rename_i xs ys
    split at e
    · rename_i hz
      cases e
      obtain ⟨a, vs, rfl, hs, rs⟩ := rd_lst hx
      obtain ⟨b, ws, rfl, hs', rs'⟩ := rd_lst hy
      exact ⟨a, b, vs, ws, rfl, rfl, hs, hs', by rw [← rs.length, ← rs'.length]; exact hz, fun p hp => f.lst (rs.append rs') hp⟩
    · cases e
  · cases e
theorem op2_catS {K : PySem.W.Frag} : Op2 K (fun x y H Q => ∃ i j, x = V.str i ∧ y = V.str j ∧ i.length + j.length ≤ sizeLine ∧ Q (V.str (i ++ j)) H) oCatS := by
  intro H x y sx sy s Q e hx hy f
  unfold oCatS at e
  split at e
  · split at e
    · rename_i hz
      cases e
      exact ⟨_, _, rd_str hx, rd_str hy, hz, f.str⟩
    · cases e
  · cases e
def oAdd : S → S → Option S := fun x y => (iOp (fun i j => .int (i + j)) x y).or ((oCatT x y).or ((oCatL x y).or (oCatS x y)))
@[simp] theorem oAdd_int {i j : Int} : oAdd (.d (.int i)) (.d (.int j)) = some (.d (.int (i + j))) := rfl
@[simp] theorem oAdd_tup {i j : List D} : oAdd (.d (.tup i)) (.d (.tup j)) = if i.length + j.length ≤ sizeLine then some (.d (.tup (i ++ j))) else none := by
  unfold oAdd iOp oCatT oCatL oCatS
  simp
@[simp] theorem oAdd_lst {i j : List D} : oAdd (.m (.lst i)) (.m (.lst j)) = if i.length + j.length ≤ sizeLine then some (.m (.lst (i ++ j))) else none := by
  unfold oAdd iOp oCatT oCatL oCatS
  simp
theorem qo_add {pos : Pos} {a b : Expr} {fa fb : Fn1 Arg} (ha : PX X a fa) (hb : PX X b fb) : PX X (.BinOp a .Add b pos) (fBin oAdd fa fb) :=
  qx_bin (OpR.or op_add (OpR.or op_catA (OpR.or op_cat op_add_str))) ((op2_int fun H i j => .int _).or (op2_catT.or (op2_catL.or op2_catS))) ha hb
def oSub : S → S → Option S := iOp fun i j => .int (i - j)
@[simp] theorem oSub_int {i j : Int} : oSub (.d (.int i)) (.d (.int j)) = some (.d (.int (i - j))) := rfl
theorem qo_sub {pos : Pos} {a b : Expr} {fa fb : Fn1 Arg} (ha : PX X a fa) (hb : PX X b fb) : PX X (.BinOp a .Sub b pos) (fBin oSub fa fb) := qx_bin op_sub (op2_int fun H i j => .int _) ha hb
/-- the product of numbers whose bits are few -/
def mulC (i j : Int) : Bool := decide (i.natAbs.log2 + j.natAbs.log2 < 1000000)
def oMul : S → S → Option S := iOpC mulC fun i j => .int (i * j)
@[simp] theorem oMul_int {i j : Int} : oMul (.d (.int i)) (.d (.int j)) = if mulC i j = true then some (.d (.int (i * j))) else none := rfl
theorem qo_mul {pos : Pos} {a b : Expr} {fa fb : Fn1 Arg} (ha : PX X a fa) (hb : PX X b fb) : PX X (.BinOp a .Mult b pos) (fBin oMul fa fb) := qx_bin op_mulW (op2_intC (fun H i j => .int _) fun i j h => (show CMulW i j from of_decide_eq_true (p := i.natAbs.log2 + j.natAbs.log2 < 1000000) h)) ha hb
def divC (_ j : Int) : Bool := decide (0 < j ∧ j.natAbs.log2 < 9000)
def oDiv : S → S → Option S := iOpC divC fun i j => .int (i / j)
@[simp] theorem oDiv_int {i j : Int} : oDiv (.d (.int i)) (.d (.int j)) = if divC i j = true then some (.d (.int (i / j))) else none := rfl
theorem qo_div {pos : Pos} {a b : Expr} {fa fb : Fn1 Arg} (ha : PX X a fa) (hb : PX X b fb) : PX X (.BinOp a .FloorDiv b pos) (fBin oDiv fa fb) := qx_bin op_fdivW (op2_intC (fun H i j => .int _) fun i j h => (show CDivW i j from of_decide_eq_true (p := 0 < j ∧ j.natAbs.log2 < 9000) h)) ha hb
def oMod : S → S → Option S := iOpC (fun _ j => decide (0 < j)) fun i j => .int (i % j)
@[simp] theorem oMod_int {i j : Int} : oMod (.d (.int i)) (.d (.int j)) = if 0 < j then some (.d (.int (i % j))) else none := by
  show (if decide (0 < j) = true then _ else _) = _
  by_cases h : 0 < j <;> simp [h]
theorem qo_mod {pos : Pos} {a b : Expr} {fa fb : Fn1 Arg} (ha : PX X a fa) (hb : PX X b fb) : PX X (.BinOp a .Mod b pos) (fBin oMod fa fb) := qx_bin op_mod (op2_intC (fun H i j => .int _) fun i j h => of_decide_eq_true h) ha hb
def oPow : S → S → Option S := iOpC (fun i j => decide (0 ≤ j ∧ j ≤ 1000000 ∧ i.natAbs < 2 ^ 64)) fun i j => .int (i ^ j.toNat)
@[simp] theorem oPow_int {i j : Int} : oPow (.d (.int i)) (.d (.int j)) = if decide (0 ≤ j ∧ j ≤ 1000000 ∧ i.natAbs < 2 ^ 64) = true then some (.d (.int (i ^ j.toNat))) else none := rfl
theorem qo_pow {pos : Pos} {a b : Expr} {fa fb : Fn1 Arg} (ha : PX X a fa) (hb : PX X b fb) : PX X (.BinOp a .Pow b pos) (fBin oPow fa fb) := qx_bin op_pow (op2_intC (fun H i j => .int _) fun i j h => (show CPow i j from of_decide_eq_true (p := 0 ≤ j ∧ j ≤ 1000000 ∧ i.natAbs < 2 ^ 64) h)) ha hb
def oAnd : S → S → Option S := iOp fun i j => .int (Builtin.bitAnd i j)
@[simp] theorem oAnd_int {i j : Int} : oAnd (.d (.int i)) (.d (.int j)) = some (.d (.int (Builtin.bitAnd i j))) := rfl
theorem qo_and {pos : Pos} {a b : Expr} {fa fb : Fn1 Arg} (ha : PX X a fa) (hb : PX X b fb) : PX X (.BinOp a .BitAnd b pos) (fBin oAnd fa fb) := qx_bin op_and (op2_int fun H i j => .int _) ha hb
def oOr : S → S → Option S := iOp fun i j => .int (Builtin.bitOr i j)
@[simp] theorem oOr_int {i j : Int} : oOr (.d (.int i)) (.d (.int j)) = some (.d (.int (Builtin.bitOr i j))) := rfl
theorem qo_or {pos : Pos} {a b : Expr} {fa fb : Fn1 Arg} (ha : PX X a fa) (hb : PX X b fb) : PX X (.BinOp a .BitOr b pos) (fBin oOr fa fb) := qx_bin op_or (op2_int fun H i j => .int _) ha hb
def oXor : S → S → Option S := iOp fun i j => .int (Builtin.bitXor i j)
@[simp] theorem oXor_int {i j : Int} : oXor (.d (.int i)) (.d (.int j)) = some (.d (.int (Builtin.bitXor i j))) := rfl
theorem qo_xor {pos : Pos} {a b : Expr} {fa fb : Fn1 Arg} (ha : PX X a fa) (hb : PX X b fb) : PX X (.BinOp a .BitXor b pos) (fBin oXor fa fb) := qx_bin op_xor (op2_int fun H i j => .int _) ha hb
/-- comparisons of ints -/
def oLt : S → S → Option S := iOp fun i j => .bl (decide (i < j))
def oLe : S → S → Option S := iOp fun i j => .bl (decide (i ≤ j))
def oGt : S → S → Option S := iOp fun i j => .bl (decide (j < i))
def oGe : S → S → Option S := iOp fun i j => .bl (decide (j ≤ i))
@[simp] theorem oLt_int {i j : Int} : oLt (.d (.int i)) (.d (.int j)) = some (.d (.bl (decide (i < j)))) := rfl
@[simp] theorem oLe_int {i j : Int} : oLe (.d (.int i)) (.d (.int j)) = some (.d (.bl (decide (i ≤ j)))) := rfl
@[simp] theorem oGt_int {i j : Int} : oGt (.d (.int i)) (.d (.int j)) = some (.d (.bl (decide (j < i)))) := rfl
@[simp] theorem oGe_int {i j : Int} : oGe (.d (.int i)) (.d (.int j)) = some (.d (.bl (decide (j ≤ i)))) := rfl
/-- a comparison's rule -/
structure CmpOk (X : Cx) (op : CmpOp) (o : S → S → Option S) : Prop where
  ex : ∃ r, OpR X (compareOp op) r ∧ Op2 X.K r o
theorem qc_lt : CmpOk X .Lt oLt := ⟨_, op_lt, op2_int fun H i j => .bl _⟩
theorem qc_le : CmpOk X .LtE oLe := ⟨_, op_le, op2_int fun H i j => .bl _⟩
theorem qc_gt : CmpOk X .Gt oGt := ⟨_, op_gt, op2_int fun H i j => .bl _⟩
theorem qc_ge : CmpOk X .GtE oGe := ⟨_, op_ge, op2_int fun H i j => .bl _⟩
end

/-! ### equality of data -/
mutual
def toPy : D → PyData
  | .non => .none
  | .bl b => .bool b
  | .int i => .int i
  | .str s => .str s
  | .tup xs => .tuple (toPys xs)
def toPys : List D → List PyData
  | [] => []
  | x :: xs => toPy x :: toPys xs
end
mutual
theorem RD.dp {K : PySem.W.Frag} {H : Hp} : ∀ {x : D} {v : V}, RD K H x v → Dp K H v (toPy x)
  | _, _, .non => .non
  | _, _, .bl b => .bl b
  | _, _, .int i => .int i
  | _, _, .str s => .str s
  | _, _, .tup h hs => .tup h (RDs.dp hs)
theorem RDs.dp {K : PySem.W.Frag} {H : Hp} : ∀ {x : List D} {v : List V}, RDs K H x v → DpAll K H v (toPys x)
  | _, _, .nil => .nil
  | _, _, .cons h hs => .cons (RD.dp h) (RDs.dp hs)
end
def pyOf : S → Option PyData
  | .d x => some (toPy x)
  | .m (.lst xs) => some (.list (toPys xs))
  | .lk (.lst xs) => some (.list (toPys xs))
  | _ => none
theorem rd_py {K : PySem.W.Frag} {H : Hp} {s : S} {v : V} {d : PyData} (e : pyOf s = some d) (h : Rd1 K H s v) : Dp K H v d := by
  cases s with
  | d x =>
    cases e
    obtain ⟨P, h⟩ := h
    exact RD.dp h
  | m x =>
    cases x with
    | lst xs =>
      cases e
      obtain ⟨a, vs, rfl, h1, h2⟩ := rd_lst h
      exact .lst (SqL.of h1) (RDs.dp h2)
    | _ => cases e
  | lk x =>
    cases x with
    | lst xs =>
      cases e
      obtain ⟨a, vs, rfl, h1, h2⟩ := rd_lk h
      exact .lst h1.sq (RDs.dp h2)
    | _ => cases e
def oEqB (neg : Bool) (x y : S) : Option S := match pyOf x, pyOf y with
  | some d, some e => if SeqAt.shaped d = true ∧ SeqAt.shaped e = true then some (.d (.bl (if neg then !PyData.eqv d e else PyData.eqv d e))) else none
  | _, _ => none
def oEq : S → S → Option S := oEqB false
def oNe : S → S → Option S := oEqB true
theorem oEqB_eq {neg : Bool} {x y s : S} (h : oEqB neg x y = some s) : ∃ d e, pyOf x = some d ∧ pyOf y = some e ∧ SeqAt.shaped d = true ∧ SeqAt.shaped e = true ∧ s = .d (.bl (if neg then !PyData.eqv d e else PyData.eqv d e)) := by
  unfold oEqB at h
  split at h
  · split at h
    · rename_i h1 h2 h3
      cases h
      exact ⟨_, _, h1, h2, h3.1, h3.2, rfl⟩
    · cases h
  · cases h
section
variable {X : Cx}
theorem qc_eq (hu : X.A.units + 64 < cLine) : CmpOk X .Eq oEq := ⟨_, op_eqD hu, fun H x y sx sy s Q e hx hy f => by
  obtain ⟨d, e', h1, h2, h3, h4, rfl⟩ := oEqB_eq e
  exact ⟨d, e', rd_py h1 hx, rd_py h2 hy, h3, h4, f.bl⟩⟩
theorem qc_ne (hu : X.A.units + 64 < cLine) : CmpOk X .NotEq oNe := ⟨_, op_neD hu, fun H x y sx sy s Q e hx hy f => by
  obtain ⟨d, e', h1, h2, h3, h4, rfl⟩ := oEqB_eq e
  exact ⟨d, e', rd_py h1 hx, rd_py h2 hy, h3, h4, f.bl⟩⟩
/-- is None -/
def isNon : S → Bool
  | .d .non => true
  | _ => false
theorem isNon_dec {K : PySem.W.Frag} {H : Hp} {s : S} {v : V} (h : Rd1 K H s v) : decide (v = .non) = isNon s := by
  cases s with
  | d x =>
    cases x with
    | non => rw [rd_non h]; rfl
    | bl b => rw [rd_bl h]; rfl
    | int b => rw [rd_int h]; rfl
    | str b => rw [rd_str h]; rfl
    | tup b => obtain ⟨a, vs, rfl, _⟩ := rd_tup h; rfl
  | m x =>
    obtain ⟨P, h⟩ := h
    cases x with
    | lst xs => obtain ⟨a, vs, rfl, _⟩ := h; rfl
    | st _ _ _ _ => obtain ⟨a, vs, rfl, _⟩ := h; rfl
  | lk x =>
    obtain ⟨P, h⟩ := h
    cases x with
    | lst xs => obtain ⟨a, vs, rfl, _⟩ := h; rfl
    | st _ _ _ _ => exact h.elim
def oIsN (x y : S) : Option S := match y with
  | .d .non => some (.d (.bl (isNon x)))
  | _ => none
def oNotN (x y : S) : Option S := match y with
  | .d .non => some (.d (.bl (!isNon x)))
  | _ => none
@[simp] theorem oIsN_non {x : S} : oIsN x (.d .non) = some (.d (.bl (isNon x))) := rfl
@[simp] theorem oNotN_non {x : S} : oNotN x (.d .non) = some (.d (.bl (!isNon x))) := rfl
theorem qc_isN : CmpOk X .Is oIsN := ⟨_, op_isN, fun H x y sx sy s Q e hx hy f => by
  unfold oIsN at e
  split at e
  · cases e
    refine ⟨rd_non hy, ?_⟩
    rw [isNon_dec hx]
    exact f.bl
  · cases e⟩
theorem qc_notN : CmpOk X .IsNot oNotN := ⟨_, op_notN, fun H x y sx sy s Q e hx hy f => by
  unfold oNotN at e
  split at e
  · cases e
    refine ⟨rd_non hy, ?_⟩
    rw [isNon_dec hx]
    exact f.bl
  · cases e⟩
theorem qo_cmp {op : CmpOp} {o : S → S → Option S} {pos : Pos} {a b : Expr} {fa fb : Fn1 Arg} (c : CmpOk X op o) (ha : PX X a fa) (hb : PX X b fb) (hm : behindInMarks op b = false) : PX X (.Compare a [op] [b] pos) (fBin o fa fb) :=
  let ⟨_, h1, h2⟩ := c.ex; qx_cmp h1 h2 ha hb hm
theorem qx_bl {b : Bool} {k pos} : PX X (.Constant (.bool b) k pos) (fC (.bl b)) := PE.imp pe_bl fun σ H Q h => tE_C (fun H => .bl b) h
theorem qx_non {k pos} : PX X (.Constant .none k pos) (fC .non) := PE.imp pe_non fun σ H Q h => tE_C (fun H => .non) h
theorem qx_glob {n : Int} {x : Str} {u : Value} {pos : Pos} (hg : Gl X x) (hm : X.mg x = some u) (r : RelV (.int n) u) (hd : (x == ("__debug__" : Str)) = false := by decide) : PX X (.Name x pos) (fC (.int n)) := PE.imp (pe_glob hg hm r hd) fun σ H Q h => tE_C (fun H => .int n) h
def oNeg : S → Option S
  | .d (.int i) => some (.d (.int (-i)))
  | _ => none
@[simp] theorem oNeg_int {i : Int} : oNeg (.d (.int i)) = some (.d (.int (-i))) := rfl
theorem qo_neg {pos : Pos} {a : Expr} {fa : Fn1 Arg} (ha : PX X a fa) : PX X (.UnaryOp .USub a pos) (fUn oNeg fa) := qx_un un_neg (fun H x sx s Q e hx f => by
  unfold oNeg at e
  split at e
  · cases e
    exact ⟨_, rd_int hx, f.int⟩
  · cases e) ha
end
end QL
end

section
set_option Elab.async false
set_option linter.all false
set_option maxRecDepth 100000
namespace QL
open PySem PySem.Spec PyProof.Rows L2

/-! ### chains -/
def chK (z : Option S) (o' : S → S → Option S) (fc : Fn1 Arg) (b : Arg) (e : En) : Option (Arg × En) := match z with
  | some (.d (.bl true)) => bnd (fc e) (fBin2 o' b)
  | some (.d (.bl false)) => some (.val (.d (.bl false)), e)
  | _ => none
@[simp] theorem chK_bl {k : Bool} {o' : S → S → Option S} {fc : Fn1 Arg} {b : Arg} {e : En} : chK (some (.d (.bl k))) o' fc b e = if k = true then bnd (fc e) (fBin2 o' b) else some (.val (.d (.bl false)), e) := by
  cases k <;> rfl
theorem chK_eq {z : Option S} {o' : S → S → Option S} {fc : Fn1 Arg} {b : Arg} {e : En} {r : Arg × En} (h : chK z o' fc b e = some r) :
    (z = some (.d (.bl true)) ∧ bnd (fc e) (fBin2 o' b) = some r) ∨ (z = some (.d (.bl false)) ∧ r = (.val (.d (.bl false)), e)) := by
  unfold chK at h
  split at h
  · exact .inl ⟨rfl, h⟩
  · cases h
    exact .inr ⟨rfl, rfl⟩
  · cases h
def fChain2 (o o' : S → S → Option S) (fc : Fn1 Arg) (a b : Arg) (e : En) : Option (Arg × En) := chK (op2 o (a.get e) (b.get e)) o' fc b e
def fChain1 (o o' : S → S → Option S) (fb fc : Fn1 Arg) (a : Arg) (e : En) : Option (Arg × En) := bnd (fb e) (fChain2 o o' fc a)
def fChain (o o' : S → S → Option S) (fa fb fc : Fn1 Arg) : Fn1 Arg := fun e => bnd (fa e) (fChain1 o o' fb fc)
theorem Tm.same {W : Ow} {H H' : Hp} {F : Addr → Prop} (t : Same H H') (h : Tm W H F) : Tm W H' F := fun b z => ⟨(h b z).1, by
  have mu := (h b z).2
  cases q : H b with
  | none => rw [q] at mu; exact mu.elim
  | some o => rw [t b o q]; rw [q] at mu; exact mu⟩
theorem RA.same {K : PySem.W.Frag} {H H' : Hp} {σ : Sl} {a : Arg} {v : V} {F : Addr → Prop} (t : Same H H') (h : RA K H σ a v F) : RA K H' σ a v F := by
  cases a with
  | slot i => exact h
  | val s => exact RS.same t h
theorem chain_read {fa fb fc : Fn1 Arg} {r r' : R2} {o o' : S → S → Option S} {K : PySem.W.Frag} (hr : Op2 K r o) (hr' : Op2 K r' o') {σ : Sl} {H : Hp} {Q : VK} (h : tE K (fChain o o' fa fb fc) σ H Q) :
    tChain r r' (tE K fa) (tE K fb) (tE K fc) σ H Q := by
  obtain ⟨env, W, z, env3, re, e, k⟩ := h
  obtain ⟨a, env1, ea, e⟩ := bnd_eq e
  obtain ⟨b, env2, eb, e⟩ := bnd_eq e
  refine two_parts (R := fun x y H2 => r x y H2 fun z H3 => ∃ k, z = .bl k ∧ (if k = true then tE K fc σ H3 fun w' H4 => r' y w' H4 Q else Q (.bl false) H3)) re ea eb fun x y H2 W2 Fa Fb r2 ra rb _ tmb _ t => ?_
  rcases chK_eq e with ⟨ez, e⟩ | ⟨ez, er⟩
  · obtain ⟨sx, sy, e1, e2, eo⟩ := op2_eq ez
    refine hr H2 x y sx sy _ _ eo (ra.read r2 e1) (rb.read r2 e2) fun v H3 F sm hF rs => ?_
    have ev : v = .bl true := rd_bl ⟨F, rs⟩
    refine ⟨true, ev, ?_⟩
    rw [if_pos rfl]
    obtain ⟨c, env3', ec, e⟩ := bnd_eq e
    obtain ⟨s, eq1, er⟩ := ret_eq e
    cases er
    obtain ⟨ty, tz, f1, f2, fo⟩ := op2_eq eq1
    refine ⟨env2, W2, c, _, r2.same sm, ec, fun w H4 W4 Fc r4 rc tmc t4 => ?_⟩
    have rb4 : RA K H4 σ b y Fb := (rb.same sm).keep (r2.same sm).mu t4 (tmb.same sm)
    refine hr' H4 y w ty tz s Q fo (rb4.read r4 f1) (rc.read r4 f2) ?_
    exact fin_of r4 ((t.trans0 (Tr.same sm fun b (z : F0 b) => z.elim)).trans0 t4) k
  · cases er
    obtain ⟨sx, sy, e1, e2, eo⟩ := op2_eq ez
    refine hr H2 x y sx sy _ _ eo (ra.read r2 e1) (rb.read r2 e2) fun v H3 F sm hF rs => ?_
    have ev : v = .bl false := rd_bl ⟨F, rs⟩
    refine ⟨false, ev, ?_⟩
    rw [if_neg (by decide)]
    exact k _ H3 W2 F0 (r2.same sm) (.bl false) Tm.zero (t.trans0 (Tr.same sm fun b (z : F0 b) => z.elim))

/-! ### tests -/
def tT (K : PySem.W.Frag) (f : Fn1 Bool) : TT := fun σ H Q => ∃ env W b env', RE K H σ env W ∧ f env = some (b, env') ∧
  ∀ H' W', RE K H' σ env' W' → Tr W H W' H' F0 → Q b H'
abbrev PXT (X : Cx) (e : Expr) (f : Fn1 Bool) : Prop := PT X e (tT X.K f)
theorem PT.imp {X : Cx} {e : Expr} {t t' : TT} (h : PT X e t) (i : ∀ σ H Q, t' σ H Q → t σ H Q) : PT X e t' := ⟨fun pins s σ H Q I q => h.run pins s σ H Q I (i σ H Q q)⟩
theorem PW.imp {X : Cx} {e : Expr} {t t' : TT} (h : PW X e t) (i : ∀ σ H Q, t' σ H Q → t σ H Q) : PW X e t' := ⟨fun wh pins s σ H Q I q => h.run wh pins s σ H Q I (i σ H Q q)⟩
def tstK (z : Option S) (e : En) : Option (Bool × En) := match z with
  | some (.d (.bl b)) => some (b, e)
  | _ => none
@[simp] theorem tstK_bl {b : Bool} {e : En} : tstK (some (.d (.bl b))) e = some (b, e) := rfl
def fTB1 (a : Arg) (e : En) : Option (Bool × En) := tstK (a.get e) e
def fTB (fa : Fn1 Arg) : Fn1 Bool := fun e => bnd (fa e) fTB1
def truth : S → Option Bool
  | .d .non => some false
  | .d (.bl b) => some b
  | .d (.int i) => some (i != 0)
  | .d (.str x) => if x.length ≤ sizeLine then some ((x.length : Int) != 0) else none
  | .d (.tup xs) => some (!xs.isEmpty)
  | .m (.lst xs) => some (!xs.isEmpty)
  | .lk (.lst xs) => some (!xs.isEmpty)
  | _ => none
@[simp] theorem truth_non : truth (.d .non) = some false := rfl
@[simp] theorem truth_bl {b : Bool} : truth (.d (.bl b)) = some b := rfl
@[simp] theorem truth_int {b : Int} : truth (.d (.int b)) = some (b != 0) := rfl
@[simp] theorem truth_tup {b : List D} : truth (.d (.tup b)) = some (!b.isEmpty) := rfl
@[simp] theorem truth_lst {b : List D} : truth (.m (.lst b)) = some (!b.isEmpty) := rfl
def truK (z : Option S) (e : En) : Option (Bool × En) := match z with
  | some s => (truth s).map fun b => (b, e)
  | _ => none
@[simp] theorem truK_some {s : S} {e : En} : truK (some s) e = (truth s).map fun b => (b, e) := rfl
def fTru1 (a : Arg) (e : En) : Option (Bool × En) := truK (a.get e) e
def fTru (fa : Fn1 Arg) : Fn1 Bool := fun e => bnd (fa e) fTru1
theorem isEmpty_rds {K : PySem.W.Frag} {H : Hp} {ds : List D} {vs : List V} (h : RDs K H ds vs) : ds.isEmpty = vs.isEmpty := by
  cases h <;> rfl
theorem truth_ok {K : PySem.W.Frag} {H : Hp} {s : S} {v : V} {b : Bool} (h : Rd1 K H s v) (e : truth s = some b) : TruV K v H b := by
  cases s with
  | d x =>
    cases x with
    | non => rw [rd_non h]; cases e; rfl
    | bl b => rw [rd_bl h]; cases e; rfl
    | int b => rw [rd_int h]; cases e; rfl
    | str z =>
      rw [rd_str h]
      have e : (if z.length ≤ sizeLine then some ((z.length : Int) != 0) else none) = some b := e
      split at e
      · cases e
        exact ⟨by assumption, rfl⟩
      · cases e
    | tup ds =>
      obtain ⟨a, vs, rfl, h1, h2⟩ := rd_tup h
      cases e
      exact .inr (.inl ⟨vs, h1, by rw [isEmpty_rds h2]⟩)
  | m x =>
    cases x with
    | lst ds =>
      obtain ⟨a, vs, rfl, h1, h2⟩ := rd_lst h
      cases e
      exact .inl ⟨vs, SqL.of h1, by rw [isEmpty_rds h2]⟩
    | st _ _ _ _ => cases e
  | lk x =>
    cases x with
    | lst ds =>
      obtain ⟨a, vs, rfl, h1, h2⟩ := rd_lk h
      cases e
      exact .inl ⟨vs, h1.sq, by rw [isEmpty_rds h2]⟩
    | st _ _ _ _ => cases e
/-- a test's value within: from a bool -/
theorem tb_read {K : PySem.W.Frag} {fa : Fn1 Arg} {σ : Sl} {H : Hp} {Q : Bool → Hp → Prop} (h : tT K (fTB fa) σ H Q) : tE K fa σ H fun x H' => ∃ k, x = .bl k ∧ Q k H' := by
  obtain ⟨env, W, b, env', re, e, k⟩ := h
  obtain ⟨a, env1, ea, e⟩ := bnd_eq e
  unfold fTB1 tstK at e
  split at e
  · rename_i b' hb
    cases e
    exact ⟨env, W, a, _, re, ea, fun v H' W' F r ra tm t => ⟨_, rd_bl (ra.read r hb), k H' W' r (t.less fun _ z => z.elim)⟩⟩
  · cases e
theorem tru_read {K : PySem.W.Frag} {fa : Fn1 Arg} {σ : Sl} {H : Hp} {Q : Bool → Hp → Prop} (h : tT K (fTru fa) σ H Q) : tE K fa σ H fun x H' => ∃ k, TruV K x H' k ∧ Q k H' := by
  obtain ⟨env, W, b, env', re, e, k⟩ := h
  obtain ⟨a, env1, ea, e⟩ := bnd_eq e
  unfold fTru1 truK at e
  split at e
  · rename_i s hs
    cases q : truth s with
    | none => rw [q] at e; cases e
    | some c =>
      rw [q] at e
      cases e
      exact ⟨env, W, a, _, re, ea, fun v H' W' F r ra tm t => ⟨_, truth_ok (ra.read r hs) q, k H' W' r (t.less fun _ z => z.elim)⟩⟩
  · cases e
def fAndT1 (tb : Fn1 Bool) (b : Bool) (e : En) : Option (Bool × En) := if b = true then tb e else some (false, e)
def fAndT (ta tb : Fn1 Bool) : Fn1 Bool := fun e => bnd (ta e) (fAndT1 tb)
def fOrT1 (tb : Fn1 Bool) (b : Bool) (e : En) : Option (Bool × En) := if b = true then some (true, e) else tb e
def fOrT (ta tb : Fn1 Bool) : Fn1 Bool := fun e => bnd (ta e) (fOrT1 tb)
def fNotT1 (b : Bool) (e : En) : Option (Bool × En) := some (!b, e)
def fNotT (ta : Fn1 Bool) : Fn1 Bool := fun e => bnd (ta e) fNotT1
def fIf1 (fa fb : Fn1 Arg) (b : Bool) (e : En) : Option (Arg × En) := if b = true then fa e else fb e
def fIf (tc : Fn1 Bool) (fa fb : Fn1 Arg) : Fn1 Arg := fun e => bnd (tc e) (fIf1 fa fb)
def andK (z : Option S) (fb : Fn1 Arg) (e : En) : Option (Arg × En) := match z with
  | some (.d (.bl b)) => if b = true then fb e else some (.val (.d (.bl false)), e)
  | _ => none
def orK (z : Option S) (fb : Fn1 Arg) (e : En) : Option (Arg × En) := match z with
  | some (.d (.bl b)) => if b = true then some (.val (.d (.bl true)), e) else fb e
  | _ => none
@[simp] theorem andK_bl {b : Bool} {fb : Fn1 Arg} {e : En} : andK (some (.d (.bl b))) fb e = if b = true then fb e else some (.val (.d (.bl false)), e) := rfl
@[simp] theorem orK_bl {b : Bool} {fb : Fn1 Arg} {e : En} : orK (some (.d (.bl b))) fb e = if b = true then some (.val (.d (.bl true)), e) else fb e := rfl
def fAnd1 (fb : Fn1 Arg) (a : Arg) (e : En) : Option (Arg × En) := andK (a.get e) fb e
def fAnd (fa fb : Fn1 Arg) : Fn1 Arg := fun e => bnd (fa e) (fAnd1 fb)
def fOr1 (fb : Fn1 Arg) (a : Arg) (e : En) : Option (Arg × En) := orK (a.get e) fb e
def fOr (fa fb : Fn1 Arg) : Fn1 Arg := fun e => bnd (fa e) (fOr1 fb)
def oNotB : S → Option S
  | .d (.bl b) => some (.d (.bl (!b)))
  | _ => none
@[simp] theorem oNotB_bl {b : Bool} : oNotB (.d (.bl b)) = some (.d (.bl (!b))) := rfl
section
variable {X : Cx} {a b c : Expr} {fa fb fc : Fn1 Arg} {ta tb tc : Fn1 Bool} {pos : Pos} {rest : List Expr}
theorem qt_cmp {op : CmpOp} {o : S → S → Option S} (h : CmpOk X op o) (ha : PX X a fa) (hb : PX X b fb) (hm : behindInMarks op b = false) : PXT X (.Compare a [op] [b] pos) (fTB (fBin o fa fb)) :=
  let ⟨_, h1, h2⟩ := h.ex
  PT.imp (pt_cmpR h1 ha hb hm) fun σ H Q h => bin_read h2 (tb_read h)
theorem qx_chain {op op' : CmpOp} {o o' : S → S → Option S} (h : CmpOk X op o) (h' : CmpOk X op' o') (ha : PX X a fa) (hb : PX X b fb) (hc : PX X c fc) (hm : lastMarks [op, op'] [b, c] = false := by with_unfolding_all rfl) :
    PX X (.Compare a [op, op'] [b, c] pos) (fChain o o' fa fb fc) :=
  let ⟨_, h1, h2⟩ := h.ex
  let ⟨_, h3, h4⟩ := h'.ex
  PE.imp (pe_chain h1 h3 ha hb hc hm) fun σ H Q h => chain_read h2 h4 h
theorem qt_chain {op op' : CmpOp} {o o' : S → S → Option S} (h : CmpOk X op o) (h' : CmpOk X op' o') (ha : PX X a fa) (hb : PX X b fb) (hc : PX X c fc) (hm : lastMarks [op, op'] [b, c] = false := by with_unfolding_all rfl) :
    PXT X (.Compare a [op, op'] [b, c] pos) (fTB (fChain o o' fa fb fc)) :=
  let ⟨_, h1, h2⟩ := h.ex
  let ⟨_, h3, h4⟩ := h'.ex
  PT.imp (pt_chain h1 h3 ha hb hc hm) fun σ H Q h => chain_read h2 h4 (tb_read h)
theorem qt_tru (ha : PX X a fa) (he : ∀ whole, isTrue a X.env whole = (do let v ← whole; standAt a.pos; holding [v] (truthy v)) := by intro _; rfl) : PXT X a (fTru fa) :=
  PT.imp (pt_truth ha he) fun σ H Q h => tru_read h
theorem qw_and1 (ha : PXT X a ta) : PW X (.BoolOp .And [a] pos) (tT X.K ta) := pw_and1 ha
theorem qw_or1 (ha : PXT X a ta) : PW X (.BoolOp .Or [a] pos) (tT X.K ta) := pw_or1 ha
theorem qw_and (ha : PXT X a ta) (hb : PW X (.BoolOp .And (b :: rest) pos) (tT X.K tb)) : PW X (.BoolOp .And (a :: b :: rest) pos) (tT X.K (fAndT ta tb)) :=
  PW.imp (pw_and ha hb) fun σ H Q h => by
    obtain ⟨env, W, z, env', re, e, k⟩ := h
    obtain ⟨c, env1, ec, e⟩ := bnd_eq e
    refine ⟨env, W, c, env1, re, ec, fun H1 W1 r1 t1 => ?_⟩
    unfold fAndT1 at e
    split at e
    · rename_i hc
      rw [if_pos hc]
      exact ⟨env1, W1, z, env', r1, e, fun H2 W2 r2 t2 => k H2 W2 r2 (t1.trans0 t2)⟩
    · rename_i hc
      cases e
      rw [if_neg hc]
      exact k H1 W1 r1 t1
theorem qw_or (ha : PXT X a ta) (hb : PW X (.BoolOp .Or (b :: rest) pos) (tT X.K tb)) : PW X (.BoolOp .Or (a :: b :: rest) pos) (tT X.K (fOrT ta tb)) :=
  PW.imp (pw_or ha hb) fun σ H Q h => by
    obtain ⟨env, W, z, env', re, e, k⟩ := h
    obtain ⟨c, env1, ec, e⟩ := bnd_eq e
    refine ⟨env, W, c, env1, re, ec, fun H1 W1 r1 t1 => ?_⟩
    unfold fOrT1 at e
    split at e
    · rename_i hc
      cases e
      rw [if_pos hc]
      exact k H1 W1 r1 t1
    · rename_i hc
      rw [if_neg hc]
      exact ⟨env1, W1, z, env', r1, e, fun H2 W2 r2 t2 => k H2 W2 r2 (t1.trans0 t2)⟩
theorem qt_bool {op} {vs : List Expr} (h : PW X (.BoolOp op vs pos) (tT X.K ta)) : PXT X (.BoolOp op vs pos) ta := PW.pt h
theorem qt_not (ha : PXT X a ta) : PXT X (.UnaryOp .Not a pos) (fNotT ta) :=
  PT.imp (pt_not ha) fun σ H Q h => by
    obtain ⟨env, W, z, env', re, e, k⟩ := h
    obtain ⟨c, env1, ec, e⟩ := bnd_eq e
    cases e
    exact ⟨env, W, c, _, re, ec, fun H1 W1 r1 t1 => k H1 W1 r1 t1⟩
theorem qx_if (hc : PXT X c tc) (ha : PX X a fa) (hb : PX X b fb) : PX X (.IfExp c a b pos) (fIf tc fa fb) :=
  PE.imp (pe_ifExp hc ha hb) fun σ H Q h => by
    obtain ⟨env, W, z, env', re, e, k⟩ := h
    obtain ⟨c, env1, ec, e⟩ := bnd_eq e
    refine ⟨env, W, c, env1, re, ec, fun H1 W1 r1 t1 => ?_⟩
    unfold fIf1 at e
    split at e
    · rename_i hc
      rw [if_pos hc]
      exact ⟨env1, W1, z, env', r1, e, fun v H2 W2 F r2 ra tm t2 => k v H2 W2 F r2 ra tm (t1.trans0 t2)⟩
    · rename_i hc
      rw [if_neg hc]
      exact ⟨env1, W1, z, env', r1, e, fun v H2 W2 F r2 ra tm t2 => k v H2 W2 F r2 ra tm (t1.trans0 t2)⟩
theorem qx_one {op} (h : PX X a fa) : PX X (.BoolOp op [a] pos) fa := pe_one h
theorem qx_and (ha : PX X a fa) (hb : PX X (.BoolOp .And (b :: rest) pos) fb) : PX X (.BoolOp .And (a :: b :: rest) pos) (fAnd fa fb) :=
  PE.imp (pe_and ha hb) fun σ H Q h => by
    obtain ⟨env, W, z, env', re, e, k⟩ := h
    obtain ⟨c, env1, ec, e⟩ := bnd_eq e
    refine ⟨env, W, c, env1, re, ec, fun x H1 W1 F1 r1 ra tm t1 => ?_⟩
    unfold fAnd1 andK at e
    split at e
    · rename_i kb hk
      refine ⟨kb, rd_bl (ra.read r1 hk), ?_⟩
      split at e
      · rename_i hc
        rw [if_pos hc]
        exact ⟨env1, W1, z, env', r1, e, fun v H2 W2 F r2 ra tm t2 => k v H2 W2 F r2 ra tm (t1.trans0 t2)⟩
      · rename_i hc
        cases e
        rw [if_neg hc]
        exact k _ H1 W1 F0 r1 (.bl false) Tm.zero (t1.less fun _ z => z.elim)
    · cases e
theorem qx_or (ha : PX X a fa) (hb : PX X (.BoolOp .Or (b :: rest) pos) fb) : PX X (.BoolOp .Or (a :: b :: rest) pos) (fOr fa fb) :=
  PE.imp (pe_or ha hb) fun σ H Q h => by
    obtain ⟨env, W, z, env', re, e, k⟩ := h
    obtain ⟨c, env1, ec, e⟩ := bnd_eq e
    refine ⟨env, W, c, env1, re, ec, fun x H1 W1 F1 r1 ra tm t1 => ?_⟩
    unfold fOr1 orK at e
    split at e
    · rename_i kb hk
      refine ⟨kb, rd_bl (ra.read r1 hk), ?_⟩
      split at e
      · rename_i hc
        cases e
        rw [if_pos hc]
        exact k _ H1 W1 F0 r1 (.bl true) Tm.zero (t1.less fun _ z => z.elim)
      · rename_i hc
        rw [if_neg hc]
        exact ⟨env1, W1, z, env', r1, e, fun v H2 W2 F r2 ra tm t2 => k v H2 W2 F r2 ra tm (t1.trans0 t2)⟩
    · cases e
theorem qx_not (ha : PX X a fa) : PX X (.UnaryOp .Not a pos) (fUn oNotB fa) :=
  PE.imp (pe_not ha) fun σ H Q h => un_read (r := fun x H1 Q => ∃ c, x = .bl c ∧ Q (.bl (!c)) H1) (fun H x sx s Q e hx f => by
    unfold oNotB at e
    split at e
    · cases e
      exact ⟨_, rd_bl hx, f.bl⟩
    · cases e) h
end

/-! ### lists of arguments -/
def Fany : List (Addr → Prop) → Addr → Prop
  | [], _ => False
  | F :: Fs, b => F b ∨ Fany Fs b
inductive RAs (K : PySem.W.Frag) (H : Hp) (σ : Sl) (W : Ow) : List Arg → List V → List (Addr → Prop) → Prop
  | nil : RAs K H σ W [] [] []
  | cons {a as v vs F Fs} : RA K H σ a v F → Tm W H F → (∀ b, F b → ¬ Fany Fs b) → RAs K H σ W as vs Fs → RAs K H σ W (a :: as) (v :: vs) (F :: Fs)
def tA (K : PySem.W.Frag) (f : Fn1 (List Arg)) : TA := fun σ H Q => ∃ env W as env', RE K H σ env W ∧ f env = some (as, env') ∧
  ∀ vs H' W' Fs, RE K H' σ env' W' → RAs K H' σ W' as vs Fs → Tr W H W' H' (Fany Fs) → Q vs H'
abbrev PXA (X : Cx) (es : List Expr) (f : Fn1 (List Arg)) : Prop := PA X es (tA X.K f)
theorem PA.imp {X : Cx} {e : List Expr} {t t' : TA} (h : PA X e t) (i : ∀ σ H Q, t' σ H Q → t σ H Q) : PA X e t' := ⟨fun pos pins s σ H Q I q => h.run pos pins s σ H Q I (i σ H Q q)⟩
def fNil : Fn1 (List Arg) := fun e => some ([], e)
def fCons2 (a : Arg) (as : List Arg) (e : En) : Option (List Arg × En) := some (a :: as, e)
def fCons1 (fs : Fn1 (List Arg)) (a : Arg) (e : En) : Option (List Arg × En) := bnd (fs e) (fCons2 a)
def fCons (fa : Fn1 Arg) (fs : Fn1 (List Arg)) : Fn1 (List Arg) := fun e => bnd (fa e) (fCons1 fs)
section
variable {X : Cx} {e : Expr} {es : List Expr} {fa : Fn1 Arg} {fs : Fn1 (List Arg)} {pos : Pos}
theorem qa_nil : PXA X [] fNil := PA.imp pa_nil fun σ H Q h => by
  obtain ⟨env, W, z, env', re, e, k⟩ := h
  cases e
  exact k [] H W [] re .nil (Tr.refl.less fun b z => z)
theorem qa_cons (ha : PX X e fa) (hr : PXA X es fs) (hs : starEach (e :: es) X.env = (false, eval e X.env) :: starEach es X.env := by rfl) : PXA X (e :: es) (fCons fa fs) := PA.imp (pa_cons ha hr hs) fun σ H Q h => by
  obtain ⟨env, W, z, env', re, e, k⟩ := h
  obtain ⟨a, env1, ea, e⟩ := bnd_eq e
  obtain ⟨as, env2, eas, e⟩ := bnd_eq e
  cases e
  refine ⟨env, W, a, env1, re, ea, fun v H1 W1 F r1 ra tm t1 => ⟨env1, W1, as, _, r1, eas, fun vs H2 W2 Fs r2 ras t2 => ?_⟩⟩
  exact k (v :: vs) H2 W2 (F :: Fs) r2 (.cons (ra.keep r1.mu t2 tm) (Tm.keep t2 tm) (fun c z => (t2.out c (mut_some (tm c z).2) (tm c z).1).2) ras) (t1.trans t2)
end
def gets : List Arg → En → Option (List S)
  | [], _ => some []
  | a :: as, e => match a.get e, gets as e with
    | some s, some ss => some (s :: ss)
    | _, _ => none
inductive RR (K : PySem.W.Frag) (H : Hp) : List S → List V → Prop
  | nil : RR K H [] []
  | cons {s v ss vs} : Rd1 K H s v → RR K H ss vs → RR K H (s :: ss) (v :: vs)
theorem gets_cons {a : Arg} {as : List Arg} {e : En} {ss : List S} (h : gets (a :: as) e = some ss) : ∃ s ss', ss = s :: ss' ∧ a.get e = some s ∧ gets as e = some ss' := by
  unfold gets at h
  split at h
  · cases h
    exact ⟨_, _, rfl, by assumption, by assumption⟩
  · cases h
@[simp] theorem gets_nil {e : En} : gets [] e = some [] := rfl
def cons? (s : Option S) (ss : Option (List S)) : Option (List S) := match s, ss with
  | some s, some ss => some (s :: ss)
  | _, _ => none
@[simp] theorem cons?_some {s : S} {ss : List S} : cons? (some s) (some ss) = some (s :: ss) := rfl
@[simp] theorem gets_cons' {a : Arg} {as : List Arg} {e : En} : gets (a :: as) e = cons? (a.get e) (gets as e) := rfl
theorem RAs.read {K : PySem.W.Frag} {H : Hp} {σ : Sl} {env : En} {W : Ow} (r : RE K H σ env W) : ∀ {as : List Arg} {vs : List V} {Fs : List (Addr → Prop)} {ss : List S}, RAs K H σ W as vs Fs → gets as env = some ss → RR K H ss vs
  | _, _, _, _, .nil, e => by cases e; exact .nil
  | _, _, _, _, .cons ra _ _ t, e => by
    obtain ⟨s, ss', rfl, e1, e2⟩ := gets_cons e
    exact .cons (ra.read r e1) (RAs.read r t e2)
def OpN (K : PySem.W.Frag) (r : List V → Hp → VK → Prop) (o : List S → Option S) : Prop := ∀ H vs ss s Q, o ss = some s → RR K H ss vs → Fin K H s Q → r vs H Q
def opN (o : List S → Option S) (x : Option (List S)) : Option S := match x with
  | some x => o x
  | none => none
@[simp] theorem opN_some {o : List S → Option S} {x : List S} : opN o (some x) = o x := rfl
theorem opN_eq {o : List S → Option S} {x : Option (List S)} {z : S} (h : opN o x = some z) : ∃ a, x = some a ∧ o a = some z := by
  cases x with
  | none => cases h
  | some a => exact ⟨a, rfl, h⟩
def fOp1 (o : List S → Option S) (as : List Arg) (e : En) : Option (Arg × En) := ret (opN o (gets as e)) e
def fOp (o : List S → Option S) (fs : Fn1 (List Arg)) : Fn1 Arg := fun e => bnd (fs e) (fOp1 o)
theorem opN_read {K : PySem.W.Frag} {r : List V → Hp → VK → Prop} {o : List S → Option S} {fs : Fn1 (List Arg)} (hr : OpN K r o) {σ : Sl} {H : Hp} {Q : VK} (h : tE K (fOp o fs) σ H Q) : tA K fs σ H fun vs H1 => r vs H1 Q := by
  obtain ⟨env, W, z, env2, re, e, k⟩ := h
  obtain ⟨as, env1, ea, e⟩ := bnd_eq e
  obtain ⟨s, eq1, er⟩ := ret_eq e
  cases er
  obtain ⟨ss, e1, eo⟩ := opN_eq eq1
  exact ⟨env, W, as, _, re, ea, fun vs H1 W1 Fs r1 ras t1 => hr H1 vs ss s Q eo (ras.read r1 e1) (fin_of r1 t1 k)⟩

/-! ### displays -/
def allD : List S → Option (List D)
  | [] => some []
  | .d x :: ss => (allD ss).map (x :: ·)
  | _ :: _ => none
@[simp] theorem allD_nil : allD [] = some [] := rfl
@[simp] theorem allD_cons {x : D} {ss : List S} : allD (.d x :: ss) = (allD ss).map (x :: ·) := rfl
theorem allD_rds {K : PySem.W.Frag} {H : Hp} : ∀ {ss : List S} {vs : List V} {ds : List D}, RR K H ss vs → allD ss = some ds → RDs K H ds vs
  | _, _, _, .nil, e => by cases e; exact .nil
  | .d x :: ss, _, ds, .cons ⟨P, h⟩ t, e => by
    have e : (allD ss).map (x :: ·) = some ds := e
    cases q : allD ss with
    | none => rw [q] at e; cases e
    | some ds' =>
      rw [q] at e
      cases e
      exact .cons h (allD_rds t q)
  | .m x :: ss, _, ds, .cons _ t, e => by cases e
  | .lk x :: ss, _, ds, .cons _ t, e => by cases e
def oTup (ss : List S) : Option S := (allD ss).bind fun ds => if ds.length ≤ sizeLine then some (.d (.tup ds)) else none
def oLst (ss : List S) : Option S := (allD ss).bind fun ds => if ds.length ≤ sizeLine then some (.m (.lst ds)) else none
section
variable {X : Cx} {es : List Expr} {fs : Fn1 (List Arg)} {pos : Pos}
theorem qx_tup {x1} (h : PXA X es fs) : PX X (.Tuple es x1 pos) (fOp oTup fs) := PE.imp (pe_tup h) fun σ H Q h =>
  opN_read (r := fun xs H1 Q => xs.length ≤ sizeLine ∧ ∀ p, H1 p = none → Q (.ref p) (upd H1 p (.tup xs))) (fun H vs ss s Q e rr f => by
    unfold oTup at e
    cases q : allD ss with
    | none => rw [q] at e; cases e
    | some ds =>
      rw [q] at e
      have e : (if ds.length ≤ sizeLine then some (S.d (.tup ds)) else none) = some s := e
      split at e
      · rename_i hz
        cases e
        have rd := allD_rds rr q
        exact ⟨by rw [← rd.length]; exact hz, fun p hp => f.tup rd hp⟩
      · cases e) h
theorem qx_lst (h : PXA X es fs) : PX X (.List es pos) (fOp oLst fs) := PE.imp (pe_lst h) fun σ H Q h =>
  opN_read (r := fun xs H1 Q => xs.length ≤ sizeLine ∧ ∀ p, H1 p = none → Q (.ref p) (upd H1 p (.lst xs))) (fun H vs ss s Q e rr f => by
    unfold oLst at e
    cases q : allD ss with
    | none => rw [q] at e; cases e
    | some ds =>
      rw [q] at e
      have e : (if ds.length ≤ sizeLine then some (S.m (.lst ds)) else none) = some s := e
      split at e
      · rename_i hz
        cases e
        have rd := allD_rds rr q
        exact ⟨by rw [← rd.length]; exact hz, fun p hp => f.lst rd hp⟩
      · cases e) h

/-! ### builtins by name -/
structure CallOk (X : Cx) (f : Value) (o : List S → Option S) : Prop where
  ex : ∃ r, CallR X f r ∧ OpN X.K r o
variable {x : Str} {p : Pos} {e : Expr} {id T : String} {o : List S → Option S}
theorem qx_callB (c : CallOk X (.builtin id) o) (hg : Gl X x) (hm : X.mg x = none) (hv : bootBuiltins x = some (.builtin id)) (ha : PXA X (e :: es) fs) (hn : x ≠ "__name__" := by decide) (hdb : (x == ("__debug__" : Str)) = false := by decide)
    (he : starEach (e :: es) X.env = (false, eval e X.env) :: starEach es X.env := by rfl) (hpl : (backTo pos (starEach es X.env)).any (·.1) = false := by rfl) : PX X (.Call (.Name x p) (e :: es) [] pos) (fOp o fs) :=
  let ⟨_, h1, h2⟩ := c.ex
  PE.imp (pe_callB h1 hg hm hv ha hn hdb he hpl) fun σ H Q h => opN_read h2 h
theorem qx_callTy (c : CallOk X (.type T) o) (hg : Gl X x) (hm : X.mg x = none) (hv : bootBuiltins x = some (.type T)) (ha : PXA X (e :: es) fs) (hn : x ≠ "__name__" := by decide) (hdb : (x == ("__debug__" : Str)) = false := by decide)
    (he : starEach (e :: es) X.env = (false, eval e X.env) :: starEach es X.env := by rfl) (hpl : (backTo pos (starEach es X.env)).any (·.1) = false := by rfl) : PX X (.Call (.Name x p) (e :: es) [] pos) (fOp o fs) :=
  let ⟨_, h1, h2⟩ := c.ex
  PE.imp (pe_callTy h1 hg hm hv ha hn hdb he hpl) fun σ H Q h => opN_read h2 h
end
end QL
end

section
set_option Elab.async false
set_option linter.all false
set_option maxRecDepth 100000
namespace QL
open PySem PySem.Spec PyProof.Rows L2

/-! ### statements -/
inductive Res where
  | nx (e : En) | rt (s : S) (e : En) | bk (e : En) | ct (e : En)
abbrev FS := En → Option Res
def Eqs (A : List Nat) (σ σ' : Sl) : Prop := σ'.length = σ.length ∧ ∀ j, j ∉ A → σ'[j]? = σ[j]?
def Post (K : PySem.W.Frag) (A : List Nat) (W : Ow) (σ : Sl) (H : Hp) (Dn : Ends) : Res → Prop
  | .nx e => ∀ σ' H' W', RE K H' σ' e W' → Tr W H W' H' F0 → Eqs A σ σ' → Dn.nx σ' H'
  | .rt s e => ∀ v σ' H' W' F, RE K H' σ' e W' → RS K H' s v F → Tm W' H' F → Tr W H W' H' F → Eqs A σ σ' → Dn.rt v H'
  | .bk e => ∀ σ' H' W', RE K H' σ' e W' → Tr W H W' H' F0 → Eqs A σ σ' → Dn.bk σ' H'
  | .ct e => ∀ σ' H' W', RE K H' σ' e W' → Tr W H W' H' F0 → Eqs A σ σ' → Dn.ct σ' H'
def tS (K : PySem.W.Frag) (A : List Nat) (f : FS) : TS := fun Dn σ H => ∃ env W r, RE K H σ env W ∧ f env = some r ∧ Post K A W σ H Dn r
abbrev PXS (X : Cx) (st : Stmt) (A : List Nat) (f : FS) : Prop := PS X st (tS X.K A f)
abbrev PXSs (X : Cx) (st : List Stmt) (A : List Nat) (f : FS) : Prop := PSs X st (tS X.K A f)
theorem PS.imp {X : Cx} {e : Stmt} {t t' : TS} (h : PS X e t) (i : ∀ D σ H, t' D σ H → t D σ H) : PS X e t' := ⟨fun pins s σ H D I q => h.run pins s σ H D I (i D σ H q)⟩
theorem PSs.imp {X : Cx} {e : List Stmt} {t t' : TS} (h : PSs X e t) (i : ∀ D σ H, t' D σ H → t D σ H) : PSs X e t' := ⟨fun pins s σ H D I q => h.run pins s σ H D I (i D σ H q)⟩
theorem Eqs.refl {A : List Nat} {σ : Sl} : Eqs A σ σ := ⟨rfl, fun _ _ => rfl⟩
theorem Eqs.trans {A B C : List Nat} {σ σ1 σ2 : Sl} (a : Eqs A σ σ1) (b : Eqs B σ1 σ2) (h1 : ∀ j ∈ A, j ∈ C) (h2 : ∀ j ∈ B, j ∈ C) : Eqs C σ σ2 := ⟨b.1.trans a.1, fun j n => (b.2 j fun z => n (h2 j z)).trans (a.2 j fun z => n (h1 j z))⟩
theorem Eqs.more {A B : List Nat} {σ σ1 : Sl} (a : Eqs A σ σ1) (h : ∀ j ∈ A, j ∈ B) : Eqs B σ σ1 := ⟨a.1, fun j n => a.2 j fun z => n (h j z)⟩
theorem Post.after {K : PySem.W.Frag} {A B C : List Nat} {W W1 : Ow} {σ σ1 : Sl} {H H1 : Hp} {Dn : Ends} {r : Res} (p : Post K C W σ H Dn r) (t : Tr W H W1 H1 F0) (q : Eqs A σ σ1) (h1 : ∀ j ∈ A, j ∈ C) (h2 : ∀ j ∈ B, j ∈ C) : Post K B W1 σ1 H1 Dn r := by
  cases r with
  | nx e => exact fun σ' H' W' r t' q' => p σ' H' W' r (t.trans0 t') (q.trans q' h1 h2)
  | rt s e => exact fun v σ' H' W' F r rs tm t' q' => p v σ' H' W' F r rs tm (t.trans0 t') (q.trans q' h1 h2)
  | bk e => exact fun σ' H' W' r t' q' => p σ' H' W' r (t.trans0 t') (q.trans q' h1 h2)
  | ct e => exact fun σ' H' W' r t' q' => p σ' H' W' r (t.trans0 t') (q.trans q' h1 h2)
def sNext : FS := fun e => some (.nx e)
def sqK (r : Option Res) (g : FS) : Option Res := match r with
  | some (.nx e) => g e
  | r => r
@[simp] theorem sqK_nx {e : En} {g : FS} : sqK (some (.nx e)) g = g e := rfl
@[simp] theorem sqK_rt {s : S} {e : En} {g : FS} : sqK (some (.rt s e)) g = some (.rt s e) := rfl
@[simp] theorem sqK_bk {e : En} {g : FS} : sqK (some (.bk e)) g = some (.bk e) := rfl
@[simp] theorem sqK_ct {e : En} {g : FS} : sqK (some (.ct e)) g = some (.ct e) := rfl
def sSeq (f g : FS) : FS := fun e => sqK (f e) g
section
variable {X : Cx} {st : Stmt} {rest : List Stmt} {A B : List Nat} {f g : FS} {pos : Pos}
theorem qs_nil : PXSs X [] [] sNext := PSs.imp pss_nil fun D σ H h => by
  obtain ⟨env, W, r, re, e, p⟩ := h
  cases e
  exact p σ H W re Tr.refl Eqs.refl
theorem qs_cons (h1 : PXS X st A f) (h2 : PXSs X rest B g) : PXSs X (st :: rest) (A ++ B) (sSeq f g) := PSs.imp (pss_cons h1 h2) fun D σ H h => by
  obtain ⟨env, W, r, re, e, p⟩ := h
  have inA : ∀ j ∈ A, j ∈ A ++ B := fun j z => List.mem_append_left _ z
  have inB : ∀ j ∈ B, j ∈ A ++ B := fun j z => List.mem_append_right _ z
  unfold sSeq at e
  cases q : f env with
  | none => rw [q] at e; cases e
  | some r1 =>
    rw [q] at e
    refine ⟨env, W, r1, re, q, ?_⟩
    cases r1 with
    | nx e1 => exact fun σ1 H1 W1 r1 t1 q1 => ⟨e1, W1, r, r1, e, p.after t1 q1 inA inB⟩
    | rt s e1 =>
      cases e
      exact fun v σ' H' W' F r rs tm t' q' => p v σ' H' W' F r rs tm t' (q'.more inA)
    | bk e1 =>
      cases e
      exact fun σ' H' W' r t' q' => p σ' H' W' r t' (q'.more inA)
    | ct e1 =>
      cases e
      exact fun σ' H' W' r t' q' => p σ' H' W' r t' (q'.more inA)
theorem qs_one (h1 : PXS X st A f) : PXSs X [st] A f := pss_one h1
theorem qs_pass : PXS X (.Pass pos) [] sNext := PS.imp ps_pass fun D σ H h => by
  obtain ⟨env, W, r, re, e, p⟩ := h
  cases e
  exact p σ H W re Tr.refl Eqs.refl
def sBreak : FS := fun e => some (.bk e)
def sCont : FS := fun e => some (.ct e)
theorem qs_break : PXS X (.Break pos) [] sBreak := PS.imp ps_break fun D σ H h => by
  obtain ⟨env, W, r, re, e, p⟩ := h
  cases e
  exact p σ H W re Tr.refl Eqs.refl
theorem qs_cont : PXS X (.Continue pos) [] sCont := PS.imp ps_continue fun D σ H h => by
  obtain ⟨env, W, r, re, e, p⟩ := h
  cases e
  exact p σ H W re Tr.refl Eqs.refl
/-- what is never reached (a raise) -/
def sNever : FS := fun _ => none
theorem qs_never : PXS X st [] sNever := PS.imp ps_never fun D σ H h => by
  obtain ⟨env, W, r, re, e, p⟩ := h
  cases e
end

/-! ### storing -/
theorem RE.set {K : PySem.W.Frag} {H : Hp} {σ : Sl} {env : En} {W : Ow} {i : Nat} {s : S} {v : V} {F : Addr → Prop} (r : RE K H σ env W) (h : RS K H s v F) (tm : Tm W H F) :
    RE K H (σ.set i (some v)) (env.set i (some s)) (fun k b => if k = i then F b else W k b) where
  slots := fun j t e => by
    by_cases hj : j = i
    · subst hj
      rw [List.getElem?_set] at e
      rw [if_pos rfl] at e
      split at e
      · cases e
        rename_i hl
        refine ⟨v, ?_, ?_⟩
        · rw [List.getElem?_set_self (by rw [← r.len]; exact hl)]
        · exact h.imp fun b z => by rw [if_pos rfl]; exact z
      · cases e
    · rw [List.getElem?_set_ne (Ne.symm hj)] at e
      obtain ⟨w, h1, h2⟩ := r.slots j t e
      refine ⟨w, by rw [List.getElem?_set_ne (Ne.symm hj)]; exact h1, h2.imp fun b z => ?_⟩
      rw [if_neg hj]
      exact z
  apart := fun j k b h1 h2 => by
    by_cases hj : j = i
    · rw [if_pos hj] at h1
      by_cases hk : k = i
      · rw [hj, hk]
      · rw [if_neg hk] at h2
        exact absurd ⟨k, h2⟩ (tm b h1).1
    · rw [if_neg hj] at h1
      by_cases hk : k = i
      · rw [if_pos hk] at h2
        exact absurd ⟨j, h1⟩ (tm b h2).1
      · rw [if_neg hk] at h2
        exact r.apart j k b h1 h2
  mu := fun j b h1 => by
    by_cases hj : j = i
    · rw [if_pos hj] at h1
      exact (tm b h1).2
    · rw [if_neg hj] at h1
      exact r.mu j b h1
  len := by rw [List.length_set, List.length_set]; exact r.len
/-- behind a store -/
theorem Tr.set {W W1 : Ow} {H H1 : Hp} {F : Addr → Prop} {i : Nat} (t : Tr W H W1 H1 F) : Tr W H (fun k b => if k = i then F b else W1 k b) H1 F0 :=
  ⟨t.frame, t.dom, fun b e n => ⟨fun ⟨k, z⟩ => by
    have h := t.out b e n
    have z : if k = i then F b else W1 k b := z
    by_cases hk : k = i
    · rw [if_pos hk] at z
      exact h.2 z
    · rw [if_neg hk] at z
      exact h.1 ⟨k, z⟩, fun z => z⟩⟩
theorem eqs_set {σ : Sl} {i : Nat} {v : Option V} : Eqs [i] σ (σ.set i v) := ⟨List.length_set, fun j n => by
  rw [List.getElem?_set_ne]
  intro e
  exact n (by rw [e]; exact List.mem_singleton.mpr rfl)⟩
/-- the value that a store takes -/
def valK (i : Nat) (a : Arg) (e : En) : Option Res := match a with
  | .val (.lk _) => none
  | .val s => some (.nx (e.set i (some s)))
  | .slot j => match e[j]? with
    | some (some (.d x)) => some (.nx (e.set i (some (.d x))))
    | _ => none
def bndS {α : Type} (x : Option (α × En)) (k : α → En → Option Res) : Option Res := match x with
  | some p => k p.1 p.2
  | none => none
@[simp] theorem bndS_some {α : Type} {a : α} {e : En} {k : α → En → Option Res} : bndS (some (a, e)) k = k a e := rfl
theorem bndS_eq {α : Type} {x : Option (α × En)} {k : α → En → Option Res} {r : Res} (h : bndS x k = some r) : ∃ a e, x = some (a, e) ∧ k a e = some r := by
  cases x with
  | none => cases h
  | some p => exact ⟨p.1, p.2, rfl, h⟩
@[simp] theorem valK_d {i : Nat} {x : D} {e : En} : valK i (.val (.d x)) e = some (.nx (e.set i (some (.d x)))) := rfl
@[simp] theorem valK_m {i : Nat} {x : M} {e : En} : valK i (.val (.m x)) e = some (.nx (e.set i (some (.m x)))) := rfl
def slotK (i : Nat) (z : Option (Option S)) (e : En) : Option Res := match z with
  | some (some (.d x)) => some (.nx (e.set i (some (.d x))))
  | _ => none
@[simp] theorem slotK_d {i : Nat} {x : D} {e : En} : slotK i (some (some (.d x))) e = some (.nx (e.set i (some (.d x)))) := rfl
@[simp] theorem valK_slot {i j : Nat} {e : En} : valK i (.slot j) e = slotK i e[j]? e := by
  unfold valK slotK
  rfl
theorem valK_ok {K : PySem.W.Frag} {i : Nat} {a : Arg} {e : En} {r : Res} {H H1 : Hp} {σ : Sl} {W W1 : Ow} {v : V} {F : Addr → Prop} {D : Ends} (h : valK i a e = some r) (re : RE K H1 σ e W1) (ra : RA K H1 σ a v F) (tm : Tm W1 H1 F) (t : Tr W H W1 H1 F) (p : Post K [i] W σ H D r) :
    D.nx (σ.set i (some v)) H1 := by
  cases a with
  | val s =>
    cases s with
    | lk x => cases h
    | d x =>
      cases h
      exact p _ H1 _ (re.set ra tm) t.set eqs_set
    | m x =>
      cases h
      exact p _ H1 _ (re.set ra tm) t.set eqs_set
  | slot j =>
    rw [valK_slot] at h
    unfold slotK at h
    split at h
    · rename_i x hx
      cases h
      obtain ⟨w, h1, h2⟩ := re.slots j _ hx
      have h' : σ[j]? = some (some v) := ra
      rw [h1] at h'
      cases h'
      exact p _ H1 _ (re.set (F := F0) h2 Tm.zero) (t.less fun _ z => z.elim).set eqs_set
    · cases h
def sSet (i : Nat) (fa : Fn1 Arg) : FS := fun e => bndS (fa e) (valK i)
section
variable {X : Cx} {i : Nat} {x : Str} {e : Expr} {fa : Fn1 Arg} {pos pos' : Pos}
theorem asg_read {K : PySem.W.Frag} {D : Ends} {σ : Sl} {H : Hp} (h : tS K [i] (sSet i fa) D σ H) : tAsg (tE K fa) (gName i) D σ H := by
  obtain ⟨env, W, r, re, e, p⟩ := h
  obtain ⟨a, env1, ea, e⟩ := bndS_eq e
  exact ⟨env, W, a, env1, re, ea, fun v H1 W1 F r1 ra tm t => valK_ok e r1 ra tm t p⟩
theorem qs_set (hN : X.N.Nodup) (he : PX X e fa) (hi : X.N[i]? = some x := by rfl) (hx : Loc X.env.scope x := by first | exact Or.inl rfl | exact Or.inr rfl) (hs : swapsWith e (some (.Name x pos')) pos.line X.env = pure false := by rfl)
    (hf : X.fn x = true ∨ X.env.scope.names.lookup x = some .local := by first | exact .inl rfl | exact .inr rfl | assumption) :
    PXS X (.Assign [.Name x pos'] e pos) [i] (sSet i fa) := PS.imp (ps_set hN hi hx he hs hf) fun D σ H h => asg_read h
def sAug1 (i : Nat) (o : S → S → Option S) (x : Option (Option S)) (b : Arg) (e : En) : Option Res := bndS (ret (op2 o x.join (b.get e)) e) (valK i)
def augK (i : Nat) (o : S → S → Option S) (fb : Fn1 Arg) (x : Option (Option S)) (e : En) : Option Res := match x with
  | some (some (.d x)) => bndS (fb e) (sAug1 i o (some (some (.d x))))
  | _ => none
@[simp] theorem augK_d {i : Nat} {o : S → S → Option S} {fb : Fn1 Arg} {x : D} {e : En} : augK i o fb (some (some (.d x))) e = bndS (fb e) (sAug1 i o (some (some (.d x)))) := rfl
def sAug (i : Nat) (o : S → S → Option S) (fb : Fn1 Arg) : FS := fun e => augK i o fb e[i]? e
structure AugOk (X : Cx) (op : Operator) (o : S → S → Option S) : Prop where
  ex : ∃ r, OpR X (inplaceOp op) r ∧ Op2 X.K r o
theorem qs_aug {op : Operator} {o : S → S → Option S} (c : AugOk X op o) (hN : X.N.Nodup) (he : PX X e fa) (hi : X.N[i]? = some x := by rfl) (hx : Loc X.env.scope x := by first | exact Or.inl rfl | exact Or.inr rfl)
    (hf : X.fn x = true ∨ X.env.scope.names.lookup x = some .local := by first | exact .inl rfl | exact .inr rfl | assumption) :
    PXS X (.AugAssign (.Name x pos') op e pos) [i] (sAug i o fa) := by
  obtain ⟨r, h1, h2⟩ := c.ex
  refine PS.imp (ps_aug (ti := r) hN hi hx he (fun pins s σ H x y v u Q I rx ry q => h1 pins s σ H x y v u Q I rx ry q) hf) fun D σ H h => ?_
  obtain ⟨env, W, rr, re, e, p⟩ := h
  unfold sAug augK at e
  split at e
  · rename_i x hx
    obtain ⟨b, env1, eb, e⟩ := bndS_eq e
    obtain ⟨a, env2, e1, e⟩ := bndS_eq e
    obtain ⟨s, e2, er⟩ := ret_eq e1
    cases er
    obtain ⟨v, s1, s2⟩ := re.slots i _ hx
    refine ⟨v, s1, env, W, b, _, re, eb, fun y H1 W1 F1 r1 ra tm t => ?_⟩
    obtain ⟨sx, sy, e3, e4, eo⟩ := op2_eq e2
    cases e3
    have rx : Rd1 X.K H1 (.d x) v := ⟨F0, RD.pst (re.pst t) s2⟩
    exact h2 H1 v y _ sy s _ eo rx (ra.read r1 e4) (fin_of r1 t fun v H' W' F r ra tm t => valK_ok e r ra tm t p)
  · cases e
def oIAdd : S → S → Option S := fun x y => (iOp (fun i j => .int (i + j)) x y).or (oCatS x y)
@[simp] theorem oIAdd_int {i j : Int} : oIAdd (.d (.int i)) (.d (.int j)) = some (.d (.int (i + j))) := rfl
theorem qg_add : AugOk X .Add oIAdd := ⟨_, OpR.or iop_add iop_add_str, (op2_int fun H i j => .int _).or op2_catS⟩
theorem qg_sub : AugOk X .Sub oSub := ⟨_, iop_sub, op2_int fun H i j => .int _⟩
def mulC64 (i j : Int) : Bool := decide (i.natAbs < 2 ^ 64 ∨ j.natAbs < 2 ^ 64)
def oIMul : S → S → Option S := iOpC mulC64 fun i j => .int (i * j)
@[simp] theorem oIMul_int {i j : Int} : oIMul (.d (.int i)) (.d (.int j)) = if mulC64 i j = true then some (.d (.int (i * j))) else none := rfl
theorem qg_mul : AugOk X .Mult oIMul := ⟨_, iop_mul, op2_intC (fun H i j => .int _) fun i j h => by
  have h : i.natAbs < 2 ^ 64 ∨ j.natAbs < 2 ^ 64 := of_decide_eq_true h
  unfold CMul
  omega⟩
def divC30 (_ j : Int) : Bool := decide (0 < j ∧ j < 1073741824)
def oIDiv : S → S → Option S := iOpC divC30 fun i j => .int (i / j)
@[simp] theorem oIDiv_int {i j : Int} : oIDiv (.d (.int i)) (.d (.int j)) = if divC30 i j = true then some (.d (.int (i / j))) else none := rfl
theorem qg_div : AugOk X .FloorDiv oIDiv := ⟨_, iop_fdiv, op2_intC (fun H i j => .int _) fun i j h => (show CDiv i j from of_decide_eq_true (p := 0 < j ∧ j < 1073741824) h)⟩
theorem qg_mod : AugOk X .Mod oMod := ⟨_, iop_mod, op2_intC (fun H i j => .int _) fun i j h => of_decide_eq_true h⟩
def sExpr1 (_ : Arg) (e : En) : Option Res := some (.nx e)
def sExpr (fa : Fn1 Arg) : FS := fun e => bndS (fa e) sExpr1
theorem qs_expr (he : PX X e fa) (hs : swapsWith e none pos.line X.env = pure false := by rfl) : PXS X (.Expr e pos) [] (sExpr fa) := PS.imp (ps_expr he hs) fun D σ H h => by
  obtain ⟨env, W, r, re, e, p⟩ := h
  obtain ⟨a, env1, ea, e⟩ := bndS_eq e
  cases e
  exact ⟨env, W, a, _, re, ea, fun v H1 W1 F r1 ra tm t => p σ H1 W1 r1 (t.less fun _ z => z.elim) Eqs.refl⟩
/-- what a return hands back: a list of a slot leaves the slot -/
def rtK (a : Arg) (e : En) : Option Res := match a with
  | .val (.lk _) => none
  | .val s => some (.rt s e)
  | .slot j => match e[j]? with
    | some (some (.d x)) => some (.rt (.d x) e)
    | some (some (.m x)) => some (.rt (.m x) (e.set j none))
    | _ => none
def rtS (j : Nat) (z : Option (Option S)) (e : En) : Option Res := match z with
    | some (some (.d x)) => some (.rt (.d x) e)
    | some (some (.m x)) => some (.rt (.m x) (e.set j none))
    | _ => none
@[simp] theorem rtK_d {x : D} {e : En} : rtK (.val (.d x)) e = some (.rt (.d x) e) := rfl
@[simp] theorem rtK_m {x : M} {e : En} : rtK (.val (.m x)) e = some (.rt (.m x) e) := rfl
@[simp] theorem rtK_slot {j : Nat} {e : En} : rtK (.slot j) e = rtS j e[j]? e := rfl
@[simp] theorem rtS_d {j : Nat} {x : D} {e : En} : rtS j (some (some (.d x))) e = some (.rt (.d x) e) := rfl
@[simp] theorem rtS_m {j : Nat} {x : M} {e : En} : rtS j (some (some (.m x))) e = some (.rt (.m x) (e.set j none)) := rfl
theorem RE.forget {K : PySem.W.Frag} {H : Hp} {σ : Sl} {env : En} {W : Ow} {i : Nat} (r : RE K H σ env W) : RE K H σ (env.set i none) (fun k b => if k = i then False else W k b) where
  slots := fun j t e => by
    by_cases hj : j = i
    · subst hj
      rw [List.getElem?_set, if_pos rfl] at e
      split at e <;> cases e
    · rw [List.getElem?_set_ne (Ne.symm hj)] at e
      obtain ⟨w, h1, h2⟩ := r.slots j t e
      refine ⟨w, h1, h2.imp fun b z => ?_⟩
      rw [if_neg hj]
      exact z
  apart := fun j k b h1 h2 => by
    by_cases hj : j = i
    · rw [if_pos hj] at h1
      exact h1.elim
    · rw [if_neg hj] at h1
      by_cases hk : k = i
      · rw [if_pos hk] at h2
        exact h2.elim
      · rw [if_neg hk] at h2
        exact r.apart j k b h1 h2
  mu := fun j b h1 => by
    by_cases hj : j = i
    · rw [if_pos hj] at h1
      exact h1.elim
    · rw [if_neg hj] at h1
      exact r.mu j b h1
  len := by rw [List.length_set]; exact r.len
def sRet (fa : Fn1 Arg) : FS := fun e => bndS (fa e) rtK
theorem qs_ret (he : PX X e fa) : PXS X (.Return (some e) pos) [] (sRet fa) := PS.imp (ps_ret he) fun D σ H h => by
  obtain ⟨env, W, r, re, e, p⟩ := h
  obtain ⟨a, env1, ea, e⟩ := bndS_eq e
  refine ⟨env, W, a, env1, re, ea, fun v H1 W1 F r1 ra tm t => ?_⟩
  cases a with
  | val s =>
    cases s with
    | lk x => cases e
    | d x =>
      cases e
      exact p v σ H1 W1 F r1 ra tm t Eqs.refl
    | m x =>
      cases e
      exact p v σ H1 W1 F r1 ra tm t Eqs.refl
  | slot j =>
    rw [rtK_slot] at e
    unfold rtS at e
    split at e
    · rename_i x hx
      cases e
      obtain ⟨w, h1, h2⟩ := r1.slots j _ hx
      have h' : σ[j]? = some (some v) := ra
      rw [h1] at h'
      cases h'
      exact p _ σ H1 W1 F0 r1 h2 Tm.zero (t.less fun _ z => z.elim) Eqs.refl
    · rename_i x hx
      cases e
      obtain ⟨w, h1, h2⟩ := r1.slots j _ hx
      have h' : σ[j]? = some (some v) := ra
      rw [h1] at h'
      cases h'
      refine p _ σ H1 _ (W1 j) r1.forget h2 (fun b z => ⟨fun ⟨k, y⟩ => ?_, r1.mu j b z⟩) ⟨t.frame, t.dom, fun b e n => ⟨fun ⟨k, y⟩ => ?_, fun z => (t.out b e n).1 ⟨j, z⟩⟩⟩ Eqs.refl
      · have y : if k = j then False else W1 k b := y
        by_cases hk : k = j
        · rw [if_pos hk] at y
          exact y
        · rw [if_neg hk] at y
          exact hk (r1.apart k j b y z)
      · have y : if k = j then False else W1 k b := y
        by_cases hk : k = j
        · rw [if_pos hk] at y
          exact y
        · rw [if_neg hk] at y
          exact (t.out b e n).1 ⟨k, y⟩
    · cases e
def sRetN : FS := fun e => some (.rt (.d .non) e)
theorem qs_retN : PXS X (.Return none pos) [] sRetN := PS.imp ps_retN fun D σ H h => by
  obtain ⟨env, W, r, re, e, p⟩ := h
  cases e
  exact p .non σ H W F0 re .non Tm.zero Tr.refl Eqs.refl
def sIf1 (f g : FS) (b : Bool) (e : En) : Option Res := if b = true then f e else g e
def sIf (tc : Fn1 Bool) (f g : FS) : FS := fun e => bndS (tc e) (sIf1 f g)
theorem qs_if {c : Expr} {a b : List Stmt} {tc : Fn1 Bool} {A B : List Nat} {f g : FS} (hc : PXT X c tc) (ha : PXSs X a A f) (hb : PXSs X b B g) : PXS X (.If c a b pos) (A ++ B) (sIf tc f g) := PS.imp (ps_if hc ha hb) fun D σ H h => by
  obtain ⟨env, W, r, re, e, p⟩ := h
  obtain ⟨c, env1, ec, e⟩ := bndS_eq e
  have inA : ∀ j ∈ A, j ∈ A ++ B := fun j z => List.mem_append_left _ z
  have inB : ∀ j ∈ B, j ∈ A ++ B := fun j z => List.mem_append_right _ z
  refine ⟨env, W, c, env1, re, ec, fun H1 W1 r1 t1 => ?_⟩
  unfold sIf1 at e
  split at e
  · rename_i hc
    rw [if_pos hc]
    exact ⟨env1, W1, r, r1, e, p.after t1 (A := []) Eqs.refl (fun _ z => nomatch z) inA⟩
  · rename_i hc
    rw [if_neg hc]
    exact ⟨env1, W1, r, r1, e, p.after t1 (A := []) Eqs.refl (fun _ z => nomatch z) inB⟩

/-! ### while -/
def whileK (g : En → Option Res) : Option Res → Option Res
  | some (.nx e) => g e
  | some (.ct e) => g e
  | some (.bk e) => some (.nx e)
  | r => r
@[simp] theorem whileK_nx {g : En → Option Res} {e : En} : whileK g (some (.nx e)) = g e := rfl
@[simp] theorem whileK_ct {g : En → Option Res} {e : En} : whileK g (some (.ct e)) = g e := rfl
@[simp] theorem whileK_bk {g : En → Option Res} {e : En} : whileK g (some (.bk e)) = some (.nx e) := rfl
@[simp] theorem whileK_rt {g : En → Option Res} {s : S} {e : En} : whileK g (some (.rt s e)) = some (.rt s e) := rfl
def whileT (g : En → Option Res) (f : FS) (b : Bool) (e : En) : Option Res := if b = true then whileK g (f e) else some (.nx e)
def whileN (tc : Fn1 Bool) (f : FS) : Nat → En → Option Res
  | 0, _ => none
  | n + 1, e => bndS (tc e) (whileT (whileN tc f n) f)
def sWhile (fuel : En → Nat) (tc : Fn1 Bool) (f : FS) : FS := fun e => whileN tc f (fuel e) e
theorem qs_while {c : Expr} {body : List Stmt} {tc : Fn1 Bool} {A : List Nat} {f : FS} (fuel : En → Nat) (hp : PassesOwn (model X.prog X.w) X.A X.env X.xe) (hc : PXT X c tc) (hb : PXSs X body A f) : PXS X (.While c body [] pos) A (sWhile fuel tc f) :=
  PS.imp (ps_while hp hc hb) fun D σ H h => by
  obtain ⟨env, W, r, re, e, p⟩ := h
  refine ⟨fun m σ1 H1 => ∃ env1 W1, RE X.K H1 σ1 env1 W1 ∧ Tr W H W1 H1 F0 ∧ Eqs A σ σ1 ∧ whileN tc f m env1 = some r, ⟨_, env, W, re, Tr.refl, Eqs.refl, e⟩, ?_⟩
  rintro m σ1 H1 ⟨env1, W1, r1, t1, q1, e1⟩
  cases m with
  | zero => cases e1
  | succ m =>
    obtain ⟨b, env2, eb, e2⟩ := bndS_eq e1
    refine ⟨env1, W1, b, env2, r1, eb, fun H2 W2 r2 t2 => ?_⟩
    have t12 := t1.trans0 t2
    unfold whileT at e2
    split at e2
    · rename_i hb
      subst hb
      refine iteT ?_
      refine ⟨fun σ3 H3 => ∃ env3 W3, RE X.K H3 σ3 env3 W3 ∧ Tr W H W3 H3 F0 ∧ Eqs A σ σ3 ∧ whileN tc f m env3 = some r, fun σ3 H3 h => ⟨m, Nat.lt_succ_self m, h⟩, ?_⟩
      cases q : f env2 with
      | none => rw [q] at e2; cases e2
      | some r3 =>
        rw [q] at e2
        refine ⟨env2, W2, r3, r2, q, ?_⟩
        have same : ∀ {j}, j ∈ A → j ∈ A := fun z => z
        cases r3 with
        | nx e3 => exact fun σ' H' W' r' t' q' => ⟨e3, W', r', t12.trans0 t', q1.trans q' (fun _ => same) (fun _ => same), e2⟩
        | ct e3 => exact fun σ' H' W' r' t' q' => ⟨e3, W', r', t12.trans0 t', q1.trans q' (fun _ => same) (fun _ => same), e2⟩
        | bk e3 =>
          cases e2
          exact fun σ' H' W' r' t' q' => p σ' H' W' r' (t12.trans0 t') (q1.trans q' (fun _ => same) (fun _ => same))
        | rt s e3 =>
          cases e2
          exact fun v σ' H' W' F r' rs tm t' q' => p v σ' H' W' F r' rs tm (t12.trans0 t') (q1.trans q' (fun _ => same) (fun _ => same))
    · rename_i hb
      have hb : b = false := by cases b; rfl; exact absurd rfl hb
      subst hb
      cases e2
      refine iteF ?_
      exact p σ1 H2 W2 r2 t12 q1
end

/-! ### defs -/
abbrev FnS := List S → Option (S × List S)
def spF (K : PySem.W.Frag) (n : Nat) (fn : FnS) : Sp := fun vs H Q _ => vs.length = n ∧ ∃ ss W r fin, RE K H (vs.map some) (ss.map some) W ∧ fn ss = some (r, fin) ∧
  ∀ v H' W' F, RE K H' (vs.map some) (fin.map some) W' → RS K H' r v F → Tm W' H' F → Tr W H W' H' F → Q v H'
/-- what stands in a parameter at the end -/
def fin1 (A : List Nat) (i : Nat) (s : S) (e : En) : Option S := match s with
  | .m _ => if A.contains i = true then none else match e[i]? with
    | some (some (.m y)) => some (.m y)
    | _ => none
  | s => some s
def fins (A : List Nat) : Nat → List S → En → Option (List S)
  | _, [], _ => some []
  | i, s :: ss, e => cons? (fin1 A i s e) (fins A (i + 1) ss e)
@[simp] theorem fins_nil {A : List Nat} {i : Nat} {e : En} : fins A i [] e = some [] := rfl
@[simp] theorem fins_d {A : List Nat} {i : Nat} {x : D} {ss : List S} {e : En} : fins A i (.d x :: ss) e = cons? (some (.d x)) (fins A (i + 1) ss e) := rfl
@[simp] theorem fins_lk {A : List Nat} {i : Nat} {x : M} {ss : List S} {e : En} : fins A i (.lk x :: ss) e = cons? (some (.lk x)) (fins A (i + 1) ss e) := rfl
def fnEnd (A : List Nat) (ss : List S) : Option Res → Option (S × List S)
  | some (.rt r e) => (fins A 0 ss e).map fun l => (r, l)
  | some (.nx e) => (fins A 0 ss e).map fun l => (.d .non, l)
  | _ => none
@[simp] theorem fnEnd_rt {A : List Nat} {ss : List S} {r : S} {e : En} : fnEnd A ss (some (.rt r e)) = (fins A 0 ss e).map fun l => (r, l) := rfl
@[simp] theorem fnEnd_nx {A : List Nat} {ss : List S} {e : En} : fnEnd A ss (some (.nx e)) = (fins A 0 ss e).map fun l => (.d .non, l) := rfl
/-- a def's value: n parameters, N names, A the slots that are stored -/
def mkFn (n N : Nat) (A : List Nat) (f : FS) : FnS := fun ss => if ss.length = n then fnEnd A ss (f (ss.map some ++ List.replicate (N - n) none)) else none
end QL
end

section
set_option Elab.async false
set_option linter.all false
set_option maxRecDepth 100000
namespace QL
open PySem PySem.Spec PyProof.Rows L2

/-! ### a def's body keeps its promise -/
theorem cons?_eq {s : Option S} {ss : Option (List S)} {l : List S} (h : cons? s ss = some l) : ∃ a as, s = some a ∧ ss = some as ∧ l = a :: as := by
  unfold cons? at h
  split at h
  · cases h
    exact ⟨_, _, rfl, rfl, rfl⟩
  · cases h
theorem fins_at {A : List Nat} {e : En} : ∀ {ss fin : List S} {k : Nat}, fins A k ss e = some fin → fin.length = ss.length ∧ ∀ (i : Nat) (s : S), fin[i]? = some s → ∃ t, ss[i]? = some t ∧ fin1 A (k + i) t e = some s
  | [], fin, k, h => by
    cases h
    exact ⟨rfl, fun i s h => by simp at h⟩
  | t :: ss, fin, k, h => by
    have h : cons? (fin1 A k t e) (fins A (k + 1) ss e) = some fin := h
    obtain ⟨a, as, e1, e2, rfl⟩ := cons?_eq h
    obtain ⟨hl, ih⟩ := fins_at e2
    refine ⟨by rw [List.length_cons, List.length_cons, hl], fun i s hi => ?_⟩
    cases i with
    | zero =>
      simp at hi
      subst hi
      exact ⟨t, rfl, e1⟩
    | succ i =>
      obtain ⟨t', h1, h2⟩ := ih i s (by simpa using hi)
      exact ⟨t', by simpa using h1, by rw [show k + (i + 1) = k + 1 + i by omega]; exact h2⟩
theorem map_some_get {α : Type} {l : List α} {i : Nat} {x : α} : (l.map some)[i]? = some (some x) ↔ l[i]? = some x := by
  rw [List.getElem?_map]
  cases l[i]? <;> simp
theorem fin_re {K : PySem.W.Frag} {A : List Nat} {ss fin : List S} {vs : List V} {W W' : Ow} {H H' : Hp} {σ σ' : Sl} {e : En} {F : Addr → Prop}
    (r : RE K H (vs.map some) (ss.map some) W) (hσ : ∀ i, i < vs.length → σ[i]? = some vs[i]?) (h : fins A 0 ss e = some fin) (r' : RE K H' σ' e W') (t : Tr W H W' H' F) (q : Eqs A σ σ') :
    RE K H' (vs.map some) (fin.map some) (fun i b => (∃ m, ss[i]? = some (S.m m)) ∧ W' i b) := by
  obtain ⟨hl, hf⟩ := fins_at h
  have hlen : ss.length = vs.length := by have := r.len; simpa using this
  refine ⟨fun i s hs => ?_, fun i j b h1 h2 => r'.apart i j b h1.2 h2.2, fun i b h1 => r'.mu i b h1.2, by rw [List.length_map, List.length_map, hl, hlen]⟩
  obtain ⟨t', h1, h2⟩ := hf i s (map_some_get.mp hs)
  obtain ⟨v, h3, h4⟩ := r.slots i t' (map_some_get.mpr h1)
  refine ⟨v, h3, ?_⟩
  rw [Nat.zero_add] at h2
  cases t' with
  | d x =>
    cases h2
    exact RD.pst (r.pst t) h4
  | lk x =>
    cases h2
    exact RS.keep (P := F0) r.mu t (s := .lk x) h4 fun b z => z.elim
  | m x =>
    have h2 : (if A.contains i = true then none else match e[i]? with
      | some (some (S.m y)) => some (S.m y)
      | _ => none) = some s := h2
    split at h2
    · cases h2
    · rename_i hA
      split at h2
      · rename_i y hy
        cases h2
        obtain ⟨w, h5, h6⟩ := r'.slots i _ hy
        have hi : i < vs.length := by
          have := (List.getElem?_eq_some_iff.mp h1).1
          omega
        have e1 := q.2 i (fun z => hA (by simpa using z))
        rw [h5, hσ i hi, map_some_get.mp h3] at e1
        cases e1
        exact RS.imp (s := .m y) h6 fun b z => ⟨⟨x, h1⟩, z⟩
      · cases h2
section
variable {P : Program} {w : World} {K : PySem.W.Frag} {mg : Str → Option Value} {base : Heap}
/-- THE RULE for a def: its body as a derivation -/
theorem fn_ok {x qual : Str} {st : Stmt} {f : Addr} {fd : FuncData} {N ps : List Str} {k : Nat} {A : List Nat} {body : FS} (F : Fun K x qual st f fd) (Sc : FnScope N ps (defScope st))
    (hb : ∀ (cdv : Value) (Ar : Around) (outer : List Env) (s : Shared) (H : Hp) (E : XK), Room k (Ar.deeper (envOfC qual (defScope st) s.heap.objs.size f cdv)) →
      PXSs (cxOf CX0 P w K mg base N qual (defScope st) f cdv Ar outer s H E).nox (defBody st) A body) : FnOk P w K mg base CX0 (k + 1) f fd ps (spF K ps.length (mkFn ps.length N.length A body)) := by
  refine F.ok Sc (fun vs H Q E h => h.1) fun cdv Ar outer s H vs Q E hr h => ⟨_, hb cdv Ar outer s H E hr, ?_⟩
  obtain ⟨hl, ss, W, r, fin, re, e, kk⟩ := h
  have hss : ss.length = vs.length := by have := re.len; simpa using this
  have hpl : ps.length ≤ N.length := by have := congrArg List.length Sc.pre; rw [List.length_take] at this; omega
  have e' : (if ss.length = ps.length then fnEnd A ss (body (ss.map some ++ List.replicate (N.length - ps.length) none)) else none) = some (r, fin) := e
  rw [if_pos (by omega)] at e'
  have re0 : RE K H (L2.start N vs) (ss.map some ++ List.replicate (N.length - ps.length) none) W := by
    refine ⟨fun i s hs => ?_, re.apart, re.mu, ?_⟩
    · by_cases hi : i < ss.length
      · rw [List.getElem?_append_left (by simpa using hi)] at hs
        obtain ⟨v, h1, h2⟩ := re.slots i s hs
        refine ⟨v, ?_, h2⟩
        unfold L2.start
        rw [List.getElem?_append_left (by simpa [← hss] using hi)]
        exact h1
      · rw [List.getElem?_append_right (by simpa using hi), List.getElem?_replicate] at hs
        split at hs <;> cases hs
    · unfold L2.start
      simp only [List.length_append, List.length_map, List.length_replicate]
      omega
  have hσ : ∀ i, i < vs.length → (L2.start N vs)[i]? = some vs[i]? := fun i hi => by
    unfold L2.start
    rw [List.getElem?_append_left (by simpa using hi), List.getElem?_map, List.getElem?_eq_getElem hi]
    rfl
  have less : ∀ {W' : Ow} {H' : Hp} {F : Addr → Prop}, Tr W H W' H' F → Tr W H (fun i b => (∃ m, ss[i]? = some (S.m m)) ∧ W' i b) H' F := fun t =>
    ⟨t.frame, t.dom, fun b e n => ⟨fun ⟨i, z⟩ => (t.out b e n).1 ⟨i, z.2⟩, (t.out b e n).2⟩⟩
  cases q : body (ss.map some ++ List.replicate (N.length - ps.length) none) with
  | none => rw [q] at e'; cases e'
  | some rr =>
    rw [q] at e'
    refine ⟨_, W, rr, re0, q, ?_⟩
    cases rr with
    | bk e1 => cases e'
    | ct e1 => cases e'
    | nx e1 =>
      rw [fnEnd_nx] at e'
      cases hf : fins A 0 ss e1 with
      | none => rw [hf] at e'; cases e'
      | some fin' =>
        rw [hf] at e'
        cases e'
        intro σ' H' W' r' t' q'
        exact kk .non H' _ F0 (fin_re re hσ hf r' t' q') .non Tm.zero (less t')
    | rt s1 e1 =>
      rw [fnEnd_rt] at e'
      cases hf : fins A 0 ss e1 with
      | none => rw [hf] at e'; cases e'
      | some fin' =>
        rw [hf] at e'
        cases e'
        intro v σ' H' W' F r' rs tm t' q'
        exact kk v H' _ F (fin_re re hσ hf r' t' q') rs (fun b z => ⟨fun ⟨i, y⟩ => (tm b z).1 ⟨i, y.2⟩, (tm b z).2⟩) (less t')
end

/-! ### calls of defs -/
def mslots : List Arg → List S → List Nat
  | .slot j :: as, .m _ :: ss => j :: mslots as ss
  | _ :: as, _ :: ss => mslots as ss
  | _, _ => []
def wb : List Arg → List S → List S → En → Option En
  | [], _, _, e => some e
  | .slot j :: as, .m _ :: ss, .m y :: fs, e => wb as ss fs (e.set j (some (S.m y)))
  | .slot _ :: _, .m _ :: _, _, _ => none
  | _ :: as, _ :: ss, _ :: fs, e => wb as ss fs e
  | _, _, _, _ => none
@[simp] theorem mslots_nil {ss : List S} : mslots [] ss = [] := rfl
@[simp] theorem mslots_m {j : Nat} {x : M} {as : List Arg} {ss : List S} : mslots (.slot j :: as) (.m x :: ss) = j :: mslots as ss := rfl
@[simp] theorem mslots_d {a : Arg} {x : D} {as : List Arg} {ss : List S} : mslots (a :: as) (.d x :: ss) = mslots as ss := by cases a <;> rfl
@[simp] theorem mslots_lk {a : Arg} {x : M} {as : List Arg} {ss : List S} : mslots (a :: as) (.lk x :: ss) = mslots as ss := by cases a <;> rfl
@[simp] theorem mslots_val {s s' : S} {as : List Arg} {ss : List S} : mslots (.val s :: as) (s' :: ss) = mslots as ss := rfl
@[simp] theorem wb_nil {ss fs : List S} {e : En} : wb [] ss fs e = some e := rfl
@[simp] theorem wb_m {j : Nat} {x y : M} {as : List Arg} {ss fs : List S} {e : En} : wb (.slot j :: as) (.m x :: ss) (.m y :: fs) e = wb as ss fs (e.set j (some (S.m y))) := rfl
@[simp] theorem wb_d {a : Arg} {x : D} {s : S} {as : List Arg} {ss fs : List S} {e : En} : wb (a :: as) (.d x :: ss) (s :: fs) e = wb as ss fs e := by cases a <;> rfl
@[simp] theorem wb_lk {a : Arg} {x : M} {s : S} {as : List Arg} {ss fs : List S} {e : En} : wb (a :: as) (.lk x :: ss) (s :: fs) e = wb as ss fs e := by cases a <;> rfl
@[simp] theorem wb_val {t u s : S} {as : List Arg} {ss fs : List S} {e : En} : wb (.val t :: as) (u :: ss) (s :: fs) e = wb as ss fs e := rfl
theorem mslots_at : ∀ {as : List Arg} {ss : List S} {i j : Nat} {m : M}, as[i]? = some (Arg.slot j) → ss[i]? = some (S.m m) → j ∈ mslots as ss
  | [], _, i, _, _, h, _ => by simp at h
  | _ :: _, [], i, _, _, _, h => by simp at h
  | a :: as, s :: ss, 0, j, m, h1, h2 => by
    simp at h1 h2
    subst h1 h2
    exact List.mem_cons_self
  | a :: as, s :: ss, i + 1, j, m, h1, h2 => by
    have ih := mslots_at (as := as) (ss := ss) (i := i) (j := j) (m := m) (by simpa using h1) (by simpa using h2)
    cases a with
    | val t => exact ih
    | slot k => cases s with
      | m x => exact List.mem_cons_of_mem _ ih
      | d x => exact ih
      | lk x => exact ih
theorem mslots_in : ∀ {as : List Arg} {ss : List S} {j : Nat}, j ∈ mslots as ss → ∃ (i : Nat) (m : M), as[i]? = some (Arg.slot j) ∧ ss[i]? = some (S.m m)
  | [], _, _, h => by cases h
  | a :: as, [], _, h => by cases a <;> cases h
  | a :: as, s :: ss, j, h => by
    have tail : j ∈ mslots as ss → ∃ (i : Nat) (m : M), (a :: as)[i]? = some (Arg.slot j) ∧ (s :: ss)[i]? = some (S.m m) := fun h => by
      obtain ⟨i, m, h1, h2⟩ := mslots_in h
      exact ⟨i + 1, m, by simpa using h1, by simpa using h2⟩
    cases a with
    | val t => exact tail h
    | slot k => cases s with
      | d x => exact tail h
      | lk x => exact tail h
      | m x =>
        rcases List.mem_cons.mp h with e | h
        · subst e
          exact ⟨0, x, rfl, rfl⟩
        · exact tail h
theorem mslots_inj : ∀ {as : List Arg} {ss : List S} {i i' j : Nat} {m m' : M}, (mslots as ss).Nodup → as[i]? = some (Arg.slot j) → ss[i]? = some (S.m m) → as[i']? = some (Arg.slot j) → ss[i']? = some (S.m m') → i = i'
  | [], _, i, _, _, _, _, _, h, _, _, _ => by simp at h
  | _ :: _, [], i, _, _, _, _, _, _, h, _, _ => by simp at h
  | a :: as, s :: ss, 0, 0, j, m, m', nd, h1, h2, h3, h4 => rfl
  | a :: as, s :: ss, i + 1, 0, j, m, m', nd, h1, h2, h3, h4 => by
    simp at h3 h4
    subst h3 h4
    have := mslots_at (as := as) (ss := ss) (i := i) (j := j) (m := m) (by simpa using h1) (by simpa using h2)
    exact absurd this (List.nodup_cons.mp nd).1
  | a :: as, s :: ss, 0, i' + 1, j, m, m', nd, h1, h2, h3, h4 => by
    simp at h1 h2
    subst h1 h2
    have := mslots_at (as := as) (ss := ss) (i := i') (j := j) (m := m') (by simpa using h3) (by simpa using h4)
    exact absurd this (List.nodup_cons.mp nd).1
  | a :: as, s :: ss, i + 1, i' + 1, j, m, m', nd, h1, h2, h3, h4 => by
    have nd' : (mslots as ss).Nodup := by
      cases a with
      | val t => exact nd
      | slot k => cases s with
        | d x => exact nd
        | lk x => exact nd
        | m x => exact (List.nodup_cons.mp nd).2
    rw [mslots_inj (i := i) (i' := i') nd' (by simpa using h1) (by simpa using h2) (by simpa using h3) (by simpa using h4)]
theorem wb_spec : ∀ {as : List Arg} {ss fs : List S} {e e' : En}, wb as ss fs e = some e' → (mslots as ss).Nodup → e'.length = e.length ∧ (∀ j, j ∉ mslots as ss → e'[j]? = e[j]?) ∧
    ∀ (i j : Nat) (m : M), as[i]? = some (Arg.slot j) → ss[i]? = some (S.m m) → j < e.length → ∃ y, fs[i]? = some (S.m y) ∧ e'[j]? = some (some (S.m y))
  | [], _, _, e, e', h, _ => by
    cases h
    exact ⟨rfl, fun _ _ => rfl, fun i j m h => by simp at h⟩
  | a :: as, [], fs, e, e', h, _ => by cases a <;> cases fs <;> cases h
  | a :: as, s :: ss, fs, e, e', h, nd => by
    have plain : ∀ {f' : S} {fs' : List S}, fs = f' :: fs' → mslots (a :: as) (s :: ss) = mslots as ss → (∀ j m, ¬ (a = .slot j ∧ s = .m m)) → wb as ss fs' e = some e' → e'.length = e.length ∧ (∀ j, j ∉ mslots (a :: as) (s :: ss) → e'[j]? = e[j]?) ∧
        ∀ (i j : Nat) (m : M), (a :: as)[i]? = some (Arg.slot j) → (s :: ss)[i]? = some (S.m m) → j < e.length → ∃ y, fs[i]? = some (S.m y) ∧ e'[j]? = some (some (S.m y)) := fun {f' fs'} ef em hn h => by
      rw [em] at nd ⊢
      obtain ⟨h1, h2, h3⟩ := wb_spec h nd
      refine ⟨h1, h2, fun i j m q1 q2 hj => ?_⟩
      cases i with
      | zero =>
        simp at q1 q2
        exact absurd ⟨q1, q2⟩ (hn j m)
      | succ i =>
        rw [ef]
        obtain ⟨y, z1, z2⟩ := h3 i j m (by simpa using q1) (by simpa using q2) hj
        exact ⟨y, by simpa using z1, z2⟩
    cases a with
    | val t =>
      cases fs with
      | nil => cases h
      | cons f fs => exact plain rfl rfl (fun _ _ z => nomatch z.1) h
    | slot k =>
      cases s with
      | d x =>
        cases fs with
        | nil => cases h
        | cons f fs => exact plain rfl rfl (fun _ _ z => nomatch z.2) h
      | lk x =>
        cases fs with
        | nil => cases h
        | cons f fs => exact plain rfl rfl (fun _ _ z => nomatch z.2) h
      | m x =>
        cases fs with
        | nil => cases h
        | cons f fs =>
          cases f with
          | d y => cases h
          | lk y => cases h
          | m y =>
            have h : wb as ss fs (e.set k (some (S.m y))) = some e' := h
            have nd2 := List.nodup_cons.mp nd
            obtain ⟨h1, h2, h3⟩ := wb_spec h nd2.2
            rw [List.length_set] at h1 h3
            refine ⟨h1, fun j hj => ?_, fun i j m q1 q2 hj => ?_⟩
            · have hj2 : j ≠ k ∧ j ∉ mslots as ss := ⟨fun z => hj (by rw [z]; exact List.mem_cons_self), fun z => hj (List.mem_cons_of_mem _ z)⟩
              rw [h2 j hj2.2, List.getElem?_set_ne (Ne.symm hj2.1)]
            · cases i with
              | zero =>
                simp at q1
                subst q1
                exact ⟨y, rfl, by rw [h2 _ nd2.1, List.getElem?_set_self hj]⟩
              | succ i =>
                obtain ⟨y', z1, z2⟩ := h3 i j m (by simpa using q1) (by simpa using q2) hj
                exact ⟨y', by simpa using z1, z2⟩
theorem gets_at : ∀ {as : List Arg} {e : En} {ss : List S}, gets as e = some ss → ss.length = as.length ∧ ∀ (i : Nat) (a : Arg), as[i]? = some a → ∃ s, ss[i]? = some s ∧ a.get e = some s
  | [], _, _, h => by
    cases h
    exact ⟨rfl, fun i a h => by simp at h⟩
  | a :: as, e, ss, h => by
    obtain ⟨s, ss', rfl, e1, e2⟩ := gets_cons h
    obtain ⟨hl, ih⟩ := gets_at e2
    refine ⟨by rw [List.length_cons, List.length_cons, hl], fun i b hb => ?_⟩
    cases i with
    | zero =>
      simp at hb
      subst hb
      exact ⟨s, rfl, e1⟩
    | succ i =>
      obtain ⟨t, h1, h2⟩ := ih i b (by simpa using hb)
      exact ⟨t, by simpa using h1, h2⟩
theorem fany_at : ∀ {Fs : List (Addr → Prop)} {i : Nat} {F : Addr → Prop} {b : Addr}, Fs[i]? = some F → F b → Fany Fs b
  | [], _, _, _, h, _ => by simp at h
  | G :: Fs, 0, F, b, h, z => by
    simp at h
    subst h
    exact .inl z
  | G :: Fs, i + 1, F, b, h, z => .inr (fany_at (by simpa using h) z)
section
variable {K : PySem.W.Frag} {H : Hp} {σ : Sl} {W : Ow}
theorem RAs.length : ∀ {as : List Arg} {vs : List V} {Fs : List (Addr → Prop)}, RAs K H σ W as vs Fs → vs.length = as.length ∧ Fs.length = as.length
  | _, _, _, .nil => ⟨rfl, rfl⟩
  | _, _, _, .cons _ _ _ t => by
    obtain ⟨h1, h2⟩ := RAs.length t
    exact ⟨by rw [List.length_cons, List.length_cons, h1], by rw [List.length_cons, List.length_cons, h2]⟩
theorem RAs.at : ∀ {as : List Arg} {vs : List V} {Fs : List (Addr → Prop)} {i : Nat} {a : Arg}, RAs K H σ W as vs Fs → as[i]? = some a → ∃ v F, vs[i]? = some v ∧ Fs[i]? = some F ∧ RA K H σ a v F ∧ Tm W H F
  | _, _, _, i, _, .nil, h => by simp at h
  | _, _, _, 0, _, .cons ra tm _ _, h => by
    simp at h
    subst h
    exact ⟨_, _, rfl, rfl, ra, tm⟩
  | _, _, _, i + 1, _, .cons _ _ _ t, h => by
    obtain ⟨v, F, h1, h2, h3⟩ := RAs.at (i := i) t (by simpa using h)
    exact ⟨v, F, by simpa using h1, by simpa using h2, h3⟩
theorem RAs.apart : ∀ {as : List Arg} {vs : List V} {Fs : List (Addr → Prop)} {i j : Nat} {F G : Addr → Prop} {b : Addr}, RAs K H σ W as vs Fs → Fs[i]? = some F → Fs[j]? = some G → F b → G b → i = j
  | _, _, _, i, _, _, _, _, .nil, h, _, _, _ => by simp at h
  | _, _, _, 0, 0, _, _, _, .cons _ _ _ _, _, _, _, _ => rfl
  | _, _, _, 0, j + 1, _, _, b, .cons _ _ d _, h1, h2, z1, z2 => by
    simp at h1
    subst h1
    exact absurd (fany_at (by simpa using h2) z2) (d b z1)
  | _, _, _, i + 1, 0, _, _, b, .cons _ _ d _, h1, h2, z1, z2 => by
    simp at h2
    subst h2
    exact absurd (fany_at (by simpa using h1) z1) (d b z2)
  | _, _, _, i + 1, j + 1, _, _, b, .cons _ _ _ t, h1, h2, z1, z2 => by
    rw [RAs.apart (i := i) (j := j) t (by simpa using h1) (by simpa using h2) z1 z2]
end
def callK2 (as : List Arg) (ss : List S) (z : Option (S × List S)) (e : En) : Option (Arg × En) := match z with
  | some (r, fin) => (wb as ss fin e).map fun e' => (.val r, e')
  | none => none
@[simp] theorem callK2_some {as : List Arg} {ss : List S} {r : S} {fin : List S} {e : En} : callK2 as ss (some (r, fin)) e = (wb as ss fin e).map fun e' => (.val r, e') := rfl
def callK (fn : FnS) (as : List Arg) (z : Option (List S)) (e : En) : Option (Arg × En) := match z with
  | some ss => if (mslots as ss).Nodup then callK2 as ss (fn ss) e else none
  | none => none
@[simp] theorem callK_some {fn : FnS} {as : List Arg} {ss : List S} {e : En} : callK fn as (some ss) e = if (mslots as ss).Nodup then callK2 as ss (fn ss) e else none := rfl
def fCall1 (fn : FnS) (as : List Arg) (e : En) : Option (Arg × En) := callK fn as (gets as e) e
def fCall (fn : FnS) (fs : Fn1 (List Arg)) : Fn1 Arg := fun e => bnd (fs e) (fCall1 fn)
/-- who owns what in a callee -/
def ownA (W : Ow) : Arg → S → (Addr → Prop) → Addr → Prop
  | .slot j, .m _, _, b => W j b
  | .slot _, _, _, _ => False
  | .val _, _, F, b => F b
theorem call_read {K : PySem.W.Frag} {fn : FnS} {fs : Fn1 (List Arg)} {n : Nat} {E : XK} {σ : Sl} {H : Hp} {Q : VK} (h : tE K (fCall fn fs) σ H Q) (hn : ∀ ss r, fn ss = some r → ss.length = n) : tA K fs σ H fun vs H1 => spF K n fn (vs ++ []) H1 Q E := by
  obtain ⟨env, W, z, env3, re, e, k⟩ := h
  obtain ⟨as, env2, eas, e⟩ := bnd_eq e
  refine ⟨env, W, as, env2, re, eas, fun vs H2 W2 Fs r2 ras t2 => ?_⟩
  show spF K n fn (vs ++ []) H2 Q E
  rw [List.append_nil]
  unfold fCall1 callK at e
  split at e
  · rename_i ss hss
    split at e
    · rename_i nd
      unfold callK2 at e
      split at e
      · rename_i r fin hfn
        cases hwb : wb as ss fin env2 with
        | none => rw [hwb] at e; cases e
        | some e3 =>
          rw [hwb] at e
          cases e
          obtain ⟨hl1, hl2⟩ := ras.length
          obtain ⟨hl3, hg⟩ := gets_at hss
          obtain ⟨wl, w1, w2⟩ := wb_spec hwb nd
          have hsl : ss.length = n := hn ss _ hfn
          -- who owns what within
          let Wc : Ow := fun i b => ∃ (a : Arg) (s : S) (F : Addr → Prop), as[i]? = some a ∧ ss[i]? = some s ∧ Fs[i]? = some F ∧ ownA W2 a s F b
          have wcOut : ∀ b, H2 b ≠ none → ¬ Own W2 b → ¬ Fany Fs b → ¬ Own Wc b := fun b _ n1 n2 ⟨i, a, s, F, _, _, hF, z⟩ => by
            cases a with
            | slot j => cases s with
              | m x => exact n1 ⟨j, z⟩
              | d x => exact z
              | lk x => exact z
            | val t => exact n2 (fany_at hF z)
          have reC : RE K H2 (vs.map some) (ss.map some) Wc := by
            refine ⟨fun i s hs => ?_, fun i i' b ⟨a, s, F, q1, q2, q3, z⟩ ⟨a', s', F', q1', q2', q3', z'⟩ => ?_, fun i b ⟨a, s, F, q1, q2, q3, z⟩ => ?_, by rw [List.length_map, List.length_map]; omega⟩
            · have hs := map_some_get.mp hs
              have hi : i < as.length := by
                have := (List.getElem?_eq_some_iff.mp hs).1
                omega
              have ha : as[i]? = some as[i] := List.getElem?_eq_getElem hi
              obtain ⟨v, F, q1, q2, q3, q4⟩ := ras.at ha
              obtain ⟨s', q5, q6⟩ := hg i _ ha
              rw [hs] at q5
              cases q5
              refine ⟨v, map_some_get.mpr q1, ?_⟩
              cases ea : as[i] with
              | val t =>
                rw [ea] at q3 q6 ha
                cases q6
                exact RS.imp q3 fun b z => ⟨_, _, F, ha, hs, q2, z⟩
              | slot j =>
                rw [ea] at q3 q6 ha
                obtain ⟨w, h1, h2⟩ := r2.slots j s (join_some q6)
                have h' : σ[j]? = some (some v) := q3
                rw [h1] at h'
                cases h'
                cases s with
                | d x => exact h2
                | lk x => exact h2
                | m x => exact RS.imp (s := .m x) h2 fun b z => ⟨_, _, F, ha, hs, q2, z⟩
            · cases a with
              | val t =>
                cases a' with
                | val t' => exact ras.apart q3 q3' z z'
                | slot j' => cases s' with
                  | m x' =>
                    obtain ⟨v, G, _, g2, _, g4⟩ := ras.at q1
                    rw [q3] at g2
                    cases g2
                    exact absurd ⟨j', z'⟩ (g4 b z).1
                  | d x' => exact z'.elim
                  | lk x' => exact z'.elim
              | slot j =>
                cases s with
                | d x => exact z.elim
                | lk x => exact z.elim
                | m x =>
                  cases a' with
                  | val t' =>
                    obtain ⟨v, G, _, g2, _, g4⟩ := ras.at q1'
                    rw [q3'] at g2
                    cases g2
                    exact absurd ⟨j, z⟩ (g4 b z').1
                  | slot j' => cases s' with
                    | d x' => exact z'.elim
                    | lk x' => exact z'.elim
                    | m x' =>
                      have ej : j = j' := r2.apart j j' b z z'
                      subst ej
                      exact mslots_inj nd q1 q2 q1' q2'
            · cases a with
              | val t =>
                obtain ⟨v, G, _, g2, _, g4⟩ := ras.at q1
                rw [q3] at g2
                cases g2
                exact (g4 b z).2
              | slot j => cases s with
                | m x => exact r2.mu j b z
                | d x => exact z.elim
                | lk x => exact z.elim
          refine ⟨by omega, ss, Wc, r, fin, reC, hfn, fun v H3 W3 F r3 rs tm t3 => ?_⟩
          -- back at the caller
          let Wb : Ow := fun j b => (∃ (i : Nat) (m : M), as[i]? = some (Arg.slot j) ∧ ss[i]? = some (S.m m) ∧ W3 i b) ∨ (j ∉ mslots as ss ∧ W2 j b)
          have notC : ∀ j b, j ∉ mslots as ss → W2 j b → ¬ Own Wc b := fun j b hj hw ⟨i, a, s, F', q1, q2, q3, z⟩ => by
            cases a with
            | slot j' => cases s with
              | m x =>
                have ej : j = j' := r2.apart j j' b hw z
                subst ej
                exact hj (mslots_at q1 q2)
              | d x => exact z
              | lk x => exact z
            | val t =>
              obtain ⟨v, G, _, g2, _, g4⟩ := ras.at q1
              rw [q3] at g2
              cases g2
              exact (g4 b z).1 ⟨j, hw⟩
          have reB : RE K H3 σ env3 Wb := by
            refine ⟨fun j s hs => ?_, fun j j' b h1 h2 => ?_, fun j b h1 => ?_, by rw [wl]; exact r2.len⟩
            · by_cases hj : j ∈ mslots as ss
              · obtain ⟨i, m, q1, q2⟩ := mslots_in hj
                obtain ⟨s', q5, q6⟩ := hg i _ q1
                have hlt : j < env2.length := (List.getElem?_eq_some_iff.mp (join_some q6)).1
                obtain ⟨y, q3, q4⟩ := w2 i j m q1 q2 hlt
                rw [q4] at hs
                cases hs
                obtain ⟨v', g1, g2⟩ := r3.slots i _ (map_some_get.mpr q3)
                obtain ⟨v'', G, g3, _, g5, _⟩ := ras.at q1
                rw [map_some_get.mp g1] at g3
                cases g3
                exact ⟨v', g5, RS.imp (s := .m y) g2 fun b z => .inl ⟨i, m, q1, q2, z⟩⟩
              · rw [w1 j hj] at hs
                obtain ⟨v', g1, g2⟩ := r2.slots j s hs
                exact ⟨v', g1, (RS.keep reC.mu t3 g2 fun b z => notC j b hj z).imp fun b z => .inr ⟨hj, z⟩⟩
            · rcases h1 with ⟨i, m, q1, q2, z1⟩ | ⟨n1, z1⟩
              · rcases h2 with ⟨i', m', q1', q2', z2⟩ | ⟨n2, z2⟩
                · have ei := r3.apart i i' b z1 z2
                  subst ei
                  rw [q1] at q1'
                  cases q1'
                  rfl
                · exact absurd ⟨i, z1⟩ (t3.out b (mut_some (r2.mu _ b z2)) (notC _ b n2 z2)).1
              · rcases h2 with ⟨i', m', q1', q2', z2⟩ | ⟨n2, z2⟩
                · exact absurd ⟨i', z2⟩ (t3.out b (mut_some (r2.mu _ b z1)) (notC _ b n1 z1)).1
                · exact r2.apart _ _ b z1 z2
            · rcases h1 with ⟨i, m, q1, q2, z1⟩ | ⟨n1, z1⟩
              · exact r3.mu i b z1
              · have mu := r2.mu j b z1
                cases q : H2 b with
                | none => rw [q] at mu; exact mu.elim
                | some o => rw [t3.frame b o q (notC j b n1 z1)]; rw [q] at mu; exact mu
          have tmB : Tm Wb H3 F := fun b z => ⟨fun ⟨j, h1⟩ => by
            rcases h1 with ⟨i, m, q1, q2, z1⟩ | ⟨n1, z1⟩
            · exact (tm b z).1 ⟨i, z1⟩
            · exact (t3.out b (mut_some (r2.mu j b z1)) (notC j b n1 z1)).2 z, (tm b z).2⟩
          refine k v H3 Wb F reB rs tmB ⟨fun b o e n => ?_, fun b e => t3.dom b (t2.dom b e), fun b e n => ?_⟩
          · have h2 := t2.out b (by rw [e]; simp) n
            have e2 := t2.frame b o e n
            exact t3.frame b o e2 (wcOut b (by rw [e2]; simp) h2.1 h2.2)
          · have h2 := t2.out b e n
            have h3 := t3.out b (t2.dom b e) (wcOut b (t2.dom b e) h2.1 h2.2)
            refine ⟨fun ⟨j, h1⟩ => ?_, h3.2⟩
            rcases h1 with ⟨i, m, q1, q2, z1⟩ | ⟨n1, z1⟩
            · exact h3.1 ⟨i, z1⟩
            · exact h2.1 ⟨j, z1⟩
      · cases e
    · cases e
  · cases e
theorem mkFn_len {n N : Nat} {A : List Nat} {f : FS} {ss : List S} {r : S × List S} (h : mkFn n N A f ss = some r) : ss.length = n := by
  unfold mkFn at h
  split at h
  · assumption
  · cases h
section
variable {X : Cx} {k : Nat} {f : Addr} {fd : FuncData} {ps : List Str} {n : Nat} {fn : FnS} {x : Str} {p pos : Pos} {e : Expr} {es : List Expr} {fs : Fn1 (List Arg)}
theorem qx_call (F : FnOk X.prog X.w X.K X.mg X.base CX0 k f fd ps (spF X.K n fn)) (hn : ∀ ss r, fn ss = some r → ss.length = n) (hr : Room k X.A) (hg : Gl X x) (hm : X.mg x = some (.ref f)) (hk : PySem.W.keepIn X.K (.ref f) = true) (hb : Binds X.K fd ps [])
    (ha : PXA X (e :: es) fs) (hdb : (x == ("__debug__" : Str)) = false := by decide) (he : starEach (e :: es) X.env = (false, eval e X.env) :: starEach es X.env := by rfl) (hpl : (backTo pos (starEach es X.env)).any (·.1) = false := by rfl) :
    PX X (.Call (.Name x p) (e :: es) [] pos) (fCall fn fs) :=
  PE.imp (pe_call (E := E0) F hr hg hm hk hb .nil pass0 ha hdb he hpl) fun σ H Q h => call_read h hn
theorem qx_call0 (F : FnOk X.prog X.w X.K X.mg X.base CX0 k f fd ps (spF X.K n fn)) (hn : ∀ ss r, fn ss = some r → ss.length = n) (hr : Room k X.A) (hg : Gl X x) (hm : X.mg x = some (.ref f)) (hk : PySem.W.keepIn X.K (.ref f) = true) (hb : Binds X.K fd ps [])
    (hdb : (x == ("__debug__" : Str)) = false := by decide) :
    PX X (.Call (.Name x p) [] [] pos) (fCall fn fNil) :=
  PE.imp (pe_call0 (E := E0) F hr hg hm hk hb .nil pass0 hdb) fun σ H Q h => by
    obtain ⟨env, W, as, env', re, e, k⟩ := call_read (E := E0) h hn
    cases e
    exact k [] H W [] re .nil (Tr.refl.less fun b z => z)
end
end QL
end

section
set_option Elab.async false
set_option linter.all false
set_option maxRecDepth 100000
namespace QL
open PySem PySem.Spec PyProof.Rows L2

/-! ### targets -/
def tP (K : PySem.W.Frag) (A : List Nat) (b : D → En → Option En) : TG := fun v σ H Q => ∃ x env W env', RE K H σ env W ∧ RD K H x v ∧ b x env = some env' ∧ ∀ σ', RE K H σ' env' W → Eqs A σ σ' → Q σ' H
def tPs (K : PySem.W.Frag) (A : List Nat) (b : List D → En → Option En) : TGs := fun vs σ H Q => ∃ xs env W env', RE K H σ env W ∧ RDs K H xs vs ∧ b xs env = some env' ∧ ∀ σ', RE K H σ' env' W → Eqs A σ σ' → Q σ' H
abbrev PXG (X : Cx) (tg : Expr) (A : List Nat) (b : D → En → Option En) : Prop := PG X tg (tP X.K A b)
abbrev PXGs (X : Cx) (tg : List Expr) (A : List Nat) (b : List D → En → Option En) : Prop := PGs X tg (tPs X.K A b)
theorem PG.imp {X : Cx} {e : Expr} {t t' : TG} (h : PG X e t) (i : ∀ v σ H Q, t' v σ H Q → t v σ H Q) : PG X e t' := ⟨fun pins s σ H v u Q I r q => h.run pins s σ H v u Q I r (i v σ H Q q)⟩
theorem PGs.imp {X : Cx} {e : List Expr} {t t' : TGs} (h : PGs X e t) (i : ∀ v σ H Q, t' v σ H Q → t v σ H Q) : PGs X e t' := ⟨fun pins s σ H v u Q I r q => h.run pins s σ H v u Q I r (i v σ H Q q)⟩
def bName (i : Nat) (x : D) (e : En) : Option En := some (e.set i (some (.d x)))
@[simp] theorem bName_eq {i : Nat} {x : D} {e : En} : bName i x e = some (e.set i (some (.d x))) := rfl
def bNil (xs : List D) (e : En) : Option En := match xs with
  | [] => some e
  | _ => none
@[simp] theorem bNil_nil {e : En} : bNil [] e = some e := rfl
def bNext (bs : List D → En → Option En) (xs : List D) : Option En → Option En
  | some e => bs xs e
  | none => none
@[simp] theorem bNext_some {bs : List D → En → Option En} {xs : List D} {e : En} : bNext bs xs (some e) = bs xs e := rfl
def bCons (b : D → En → Option En) (bs : List D → En → Option En) (xs : List D) (e : En) : Option En := match xs with
  | x :: xs => bNext bs xs (b x e)
  | [] => none
@[simp] theorem bCons_cons {b : D → En → Option En} {bs : List D → En → Option En} {x : D} {xs : List D} {e : En} : bCons b bs (x :: xs) e = bNext bs xs (b x e) := rfl
def bTup (n : Nat) (bs : List D → En → Option En) (x : D) (e : En) : Option En := match x with
  | .tup xs => if xs.length = n then bs xs e else none
  | _ => none
@[simp] theorem bTup_tup {n : Nat} {bs : List D → En → Option En} {xs : List D} {e : En} : bTup n bs (.tup xs) e = if xs.length = n then bs xs e else none := rfl
theorem RE.setd {K : PySem.W.Frag} {H : Hp} {σ : Sl} {env : En} {W : Ow} {i : Nat} {x : D} {v : V} (r : RE K H σ env W) (h : RD K H x v) : RE K H (σ.set i (some v)) (env.set i (some (.d x))) W where
  slots := fun j t e => by
    by_cases hj : j = i
    · subst hj
      rw [List.getElem?_set, if_pos rfl] at e
      split at e
      · cases e
        rename_i hl
        exact ⟨v, by rw [List.getElem?_set_self (by rw [← r.len]; exact hl)], h⟩
      · cases e
    · rw [List.getElem?_set_ne (Ne.symm hj)] at e
      obtain ⟨w, h1, h2⟩ := r.slots j t e
      exact ⟨w, by rw [List.getElem?_set_ne (Ne.symm hj)]; exact h1, h2⟩
  apart := r.apart
  mu := r.mu
  len := by rw [List.length_set, List.length_set]; exact r.len
section
variable {X : Cx} {pos : Pos}
theorem qg_name {i : Nat} {x : Str} (hN : X.N.Nodup) (hi : X.N[i]? = some x := by rfl) (hx : Loc X.env.scope x := by first | exact Or.inl rfl | exact Or.inr rfl) (hf : X.fn x = true ∨ X.env.scope.names.lookup x = some .local := by first | exact .inl rfl | exact .inr rfl | assumption) :
    PXG X (.Name x pos) [i] (bName i) := PG.imp (pg_name hN hi hx hf) fun v σ H Q h => by
  obtain ⟨x, env, W, env', r, rd, e, k⟩ := h
  cases e
  exact k _ (r.setd rd) eqs_set
theorem qg_nil : PXGs X [] [] bNil := PGs.imp pgs_nil fun v σ H Q h => by
  obtain ⟨xs, env, W, env', r, rd, e, k⟩ := h
  unfold bNil at e
  split at e
  · cases e
    cases rd
    exact ⟨rfl, k σ r Eqs.refl⟩
  · cases e
theorem qg_cons {e : Expr} {es : List Expr} {A B : List Nat} {b : D → En → Option En} {bs : List D → En → Option En} (h1 : PXG X e A b) (h2 : PXGs X es B bs)
    (hs : (assignEach (e :: es) X.env).map (·.2) = assign e X.env :: (assignEach es X.env).map (·.2) := by rfl) : PXGs X (e :: es) (A ++ B) (bCons b bs) := PGs.imp (pgs_cons h1 h2 hs) fun v σ H Q h => by
  obtain ⟨xs, env, W, env', r, rd, e, k⟩ := h
  unfold bCons at e
  split at e
  · rename_i x xs
    cases rd with
    | cons rx rxs =>
      cases q : b x env with
      | none => rw [q] at e; cases e
      | some e1 =>
        rw [q] at e
        refine ⟨_, _, rfl, x, env, W, e1, r, rx, q, fun σ1 r1 q1 => ⟨xs, e1, W, env', r1, rxs, e, fun σ2 r2 q2 => k σ2 r2 (q1.trans q2 (fun j z => List.mem_append_left _ z) (fun j z => List.mem_append_right _ z))⟩⟩
  · cases e
theorem qg_tup {es : List Expr} {k : Nat} {A : List Nat} {bs : List D → En → Option En} {n : Nat} (hc : X.calm = true) (h : PXGs X es A bs)
    (hn : (assignEach es X.env).length = n := by rfl) (hst : (assignEach es X.env).findIdx? (·.1) = none := by rfl) : PXG X (.Tuple es k pos) A (bTup n bs) := PG.imp (pg_tup hc h hn hst) fun v σ H Q h => by
  obtain ⟨x, env, W, env', r, rd, e, k⟩ := h
  unfold bTup at e
  split at e
  · rename_i xs
    split at e
    · rename_i hl
      cases rd with
      | tup h1 h2 => exact ⟨_, _, rfl, h1, by rw [← h2.length]; exact hl, xs, env, W, env', r, h2, e, k⟩
    · cases e
  · cases e
/-- pattern = value -/
def patK1 : Option En → Option Res
  | some e => some (.nx e)
  | none => none
@[simp] theorem patK1_some {e : En} : patK1 (some e) = some (.nx e) := rfl
def patK (b : D → En → Option En) (z : Option S) (e : En) : Option Res := match z with
  | some (.d x) => patK1 (b x e)
  | _ => none
@[simp] theorem patK_d {b : D → En → Option En} {x : D} {e : En} : patK b (some (.d x)) e = patK1 (b x e) := rfl
def sPat1 (b : D → En → Option En) (a : Arg) (e : En) : Option Res := patK b (a.get e) e
def sPat (b : D → En → Option En) (fa : Fn1 Arg) : FS := fun e => bndS (fa e) (sPat1 b)
theorem qs_pat {tg e : Expr} {fa : Fn1 Arg} {A : List Nat} {b : D → En → Option En} (hg : PXG X tg A b) (he : PX X e fa) (hs : swapsWithSole [tg] e pos.line X.env = pure false := by rfl) (hw : swappedStores [tg] e X.env = pure none := by rfl)
    (h1 : (assignEach [tg] X.env).map (·.2) = [assign tg X.env] := by rfl) : PXS X (.Assign [tg] e pos) A (sPat b fa) := PS.imp (ps_asg he hg hs hw h1) fun D σ H h => by
  obtain ⟨env, W, r, re, e, p⟩ := h
  obtain ⟨a, env1, ea, e⟩ := bndS_eq e
  refine ⟨env, W, a, env1, re, ea, fun v H1 W1 F r1 ra tm t => ?_⟩
  unfold sPat1 patK at e
  split at e
  · rename_i x hx
    obtain ⟨P, rd⟩ := ra.read r1 hx
    cases q : b x env1 with
    | none => rw [q] at e; cases e
    | some e2 =>
      rw [q] at e
      cases e
      exact ⟨x, env1, W1, e2, r1, rd, q, fun σ' r' q' => p σ' H1 W1 r' (t.less fun _ z => z.elim) q'⟩
  · cases e
end

/-! ### what is walked -/
/-- what the slots do not own stands as at (H0, W0) -/
def Gd (H0 : Hp) (W0 : Ow) (H : Hp) : Prop := ∀ b o, H0 b = some o → ¬ Own W0 b → H b = some o
def WalkD (K : PySem.W.Frag) (J : It) (xs : List D) (H0 : Hp) (W0 : Ow) : Prop :=
  ∃ Y, Walk J xs.length (Gd H0 W0) Y ∧ ∀ i H x H', i < xs.length → Gd H0 W0 H → Y i H x H' → Same H H' ∧ ∃ d, xs[i]? = some d ∧ RD K H' d x
def tIt (K : PySem.W.Frag) (f : Fn1 (List D)) : TI := fun σ H R => ∃ env W xs env', RE K H σ env W ∧ f env = some (xs, env') ∧
  ∀ J H' W', RE K H' σ env' W' → Tr W H W' H' F0 → WalkD K J xs H' W' → R J H'
abbrev PXI (X : Cx) (tg e : Expr) (f : Fn1 (List D)) : Prop := PI X tg e (tIt X.K f)
theorem PI.imp {X : Cx} {tg e : Expr} {t t' : TI} (h : PI X tg e t) (i : ∀ σ H Q, t' σ H Q → t σ H Q) : PI X tg e t' := ⟨fun pins s σ H Q I q => h.run pins s σ H Q I (i σ H Q q)⟩
theorem Gd.pst {K : PySem.W.Frag} {H0 H : Hp} {σ : Sl} {env : En} {W0 : Ow} (r : RE K H0 σ env W0) (g : Gd H0 W0 H) : Pst H0 H := fun a xs h => by
  rcases h with h | ⟨o, h⟩
  · exact .inl (g a _ h (r.nomut h fun z => z))
  · exact .inr ⟨o, g a _ h (r.nomut h fun z => z)⟩
theorem Gd.of {W0 W : Ow} {H0 H : Hp} {F : Addr → Prop} (t : Tr W0 H0 W H F) : Gd H0 W0 H := fun b o e n => t.frame b o e n
/-! a list or a tuple -/
def iSeq (K : PySem.W.Frag) (tl : TE) : TI := fun σ H R => tl σ H fun x H1 => ∃ a, x = .ref a ∧ (((∃ xs, SqL K H1 a xs) ∧ R (Itl K a) H1) ∨ ((∃ xs, SqT K H1 a xs) ∧ R (Itt K a) H1))
theorem pi_seq {X : Cx} {tg l : Expr} {tl : TE} (hl : PE X l tl) : PI X tg l (iSeq X.K tl) := by
  refine ⟨fun pins s σ H R I h => ?_⟩
  refine thn (hl.run pins s σ H _ I h) fun v s1 ⟨x, H1, I1, r1, q1⟩ => ?_
  obtain ⟨a, e, q1⟩ := q1
  subst e
  cases r1
  rcases q1 with ⟨⟨xs, hq⟩, q⟩ | ⟨⟨xs, hq⟩, q⟩
  · obtain ⟨its, rv, p, hz⟩ := I1.list hq
    refine wpAny_pyIter_list p.isList ?_
    refine ⟨s1.heap.objs.size, [s1.heap.objs.size], _, _, H1, rfl, I1.kept (t' := s1.toks) fun b o e => Heap.get?_push_of_some _ e, turn_list a _, ⟨_, Heap.get?_push_size _ rfl, rfl, rfl⟩, fun b hb => ?_, q⟩
    have e : b = s1.heap.objs.size := by simpa using hb
    subst e
    exact I1.fpOk (Nat.le_refl _) (I1.hok.fresh (Nat.le_refl _))
  · obtain ⟨its, rv, p, hz⟩ := I1.tuple hq
    refine wpAny_pyIter_tuple (show s1.heap.IsTuple a its.toArray from p) ?_
    refine ⟨s1.heap.objs.size, [s1.heap.objs.size], _, _, H1, rfl, I1.kept (t' := s1.toks) fun b o e => Heap.get?_push_of_some _ e, turn_tuple a _, ⟨_, Heap.get?_push_size _ rfl, rfl, rfl⟩, fun b hb => ?_, q⟩
    have e : b = s1.heap.objs.size := by simpa using hb
    subst e
    exact I1.fpOk (Nat.le_refl _) (I1.hok.fresh (Nat.le_refl _))
/-- the items of an argument that stands still while it is walked: a tuple, a locked list of a slot, any sequence just made -/
def itemsS : Option (Option S) → Option (List D)
  | some (some (.d (.tup ds))) => some ds
  | some (some (.lk (.lst ds))) => some ds
  | _ => none
@[simp] theorem itemsS_tup {ds : List D} : itemsS (some (some (.d (.tup ds)))) = some ds := rfl
@[simp] theorem itemsS_lk {ds : List D} : itemsS (some (some (.lk (.lst ds)))) = some ds := rfl
def itemsA (a : Arg) (e : En) : Option (List D) := match a with
  | .slot j => itemsS e[j]?
  | .val s => seqOf s
@[simp] theorem itemsA_slot {j : Nat} {e : En} : itemsA (.slot j) e = itemsS e[j]? := rfl
@[simp] theorem itemsA_val {s : S} {e : En} : itemsA (.val s) e = seqOf s := rfl
def itK (z : Option (List D)) (e : En) : Option (List D × En) := match z with
  | some xs => some (xs, e)
  | none => none
@[simp] theorem itK_some {xs : List D} {e : En} : itK (some xs) e = some (xs, e) := rfl
def itSeq1 (a : Arg) (e : En) : Option (List D × En) := itK (itemsA a e) e
def itSeq (fa : Fn1 Arg) : Fn1 (List D) := fun e => bnd (fa e) itSeq1
theorem walkD_list {K : PySem.W.Frag} {a : Addr} {vs : List V} {xs : List D} {H0 : Hp} {σ : Sl} {env : En} {W0 : Ow} (r : RE K H0 σ env W0) (h : ∀ H, Gd H0 W0 H → SqL K H a vs) (rs : RDs K H0 xs vs) : WalkD K (Itl K a) xs H0 W0 := by
  refine ⟨_, (by rw [rs.length]; exact walk_list.mono h (fun i H x H' _ _ y => y) : Walk (Itl K a) xs.length (Gd H0 W0) (YAt vs)), fun i H x H' hi g y => ?_⟩
  obtain ⟨e, hx⟩ := y
  subst e
  obtain ⟨d, h1, h2⟩ := rs.getV hx
  exact ⟨Same.refl _, d, h1, RD.pst (Gd.pst r g) h2⟩
theorem walkD_tup {K : PySem.W.Frag} {a : Addr} {vs : List V} {xs : List D} {H0 : Hp} {σ : Sl} {env : En} {W0 : Ow} (r : RE K H0 σ env W0) (h : SqT K H0 a vs) (rs : RDs K H0 xs vs) : WalkD K (Itt K a) xs H0 W0 := by
  refine ⟨_, (by rw [rs.length]; exact walk_tup.mono (fun H g => (Gd.pst r g).seq h) (fun i H x H' _ _ y => y) : Walk (Itt K a) xs.length (Gd H0 W0) (YAt vs)), fun i H x H' hi g y => ?_⟩
  obtain ⟨e, hx⟩ := y
  subst e
  obtain ⟨d, h1, h2⟩ := rs.getV hx
  exact ⟨Same.refl _, d, h1, RD.pst (Gd.pst r g) h2⟩
theorem FzL.gd {K : PySem.W.Frag} {a : Addr} {vs : List V} {H0 H : Hp} {σ : Sl} {env : En} {W0 : Ow} (r : RE K H0 σ env W0) (h : FzL K H0 a vs) (g : Gd H0 W0 H) : SqL K H a vs := by
  rcases h with ⟨o, h⟩ | h
  · exact .inl (.inr ⟨o, g a _ h (r.nomut h fun z => z)⟩)
  · exact .inr h
/-- an argument's items, where they stand -/
theorem items_read {K : PySem.W.Frag} {H1 : Hp} {σ : Sl} {env1 : En} {W1 : Ow} {a : Arg} {v : V} {F : Addr → Prop} {xs : List D} (r1 : RE K H1 σ env1 W1) (ra : RA K H1 σ a v F) (tm : Tm W1 H1 F) (e : itemsA a env1 = some xs) :
    ∃ p vs, v = .ref p ∧ RDs K H1 xs vs ∧ ((∀ H, Gd H1 W1 H → SqL K H p vs) ∨ SqT K H1 p vs) := by
  cases a with
  | slot j =>
    rw [itemsA_slot] at e
    unfold itemsS at e
    split at e
    · rename_i ds hs
      cases e
      obtain ⟨w, h1, h2⟩ := r1.slots j _ hs
      have h' : σ[j]? = some (some v) := ra
      rw [h1] at h'
      cases h'
      obtain ⟨p, vs, e, q1, q2⟩ := rd_tup ⟨_, h2⟩
      exact ⟨p, vs, e, q2, .inr q1⟩
    · rename_i ds hs
      cases e
      obtain ⟨w, h1, h2⟩ := r1.slots j _ hs
      have h' : σ[j]? = some (some v) := ra
      rw [h1] at h'
      cases h'
      obtain ⟨p, vs, e, q1, q2⟩ := rd_lk ⟨_, h2⟩
      exact ⟨p, vs, e, q2, .inl fun H g => q1.gd r1 g⟩
    · cases e
  | val s =>
    have e : seqOf s = some xs := e
    cases s with
    | d x =>
      cases x with
      | tup ds =>
        cases e
        obtain ⟨p, vs, e, q1, q2⟩ := rd_tup ⟨F, ra⟩
        exact ⟨p, vs, e, q2, .inr q1⟩
      | _ => cases e
    | m x =>
      cases x with
      | lst ds =>
        cases e
        obtain ⟨p, vs, e, q1, q2, q3⟩ := ra
        exact ⟨p, vs, e, q3, .inl fun H g => SqL.of (g p _ q2 (tm p q1).1)⟩
      | _ => cases e
    | lk x =>
      cases x with
      | lst ds =>
        cases e
        obtain ⟨p, vs, e, q1, q2⟩ := rd_lk ⟨F, ra⟩
        exact ⟨p, vs, e, q2, .inl fun H g => q1.gd r1 g⟩
      | _ => cases e
theorem qi_seq {X : Cx} {tg l : Expr} {fa : Fn1 Arg} (hl : PX X l fa) : PXI X tg l (itSeq fa) := PI.imp (pi_seq hl) fun σ H R h => by
  obtain ⟨env, W, xs, env', re, e, k⟩ := h
  obtain ⟨a, env1, ea, e⟩ := bnd_eq e
  unfold itSeq1 itK at e
  split at e
  · rename_i xs' hx
    cases e
    refine ⟨env, W, a, _, re, ea, fun v H1 W1 F r1 ra tm t => ?_⟩
    obtain ⟨p, vs, ev, rs, q⟩ := items_read r1 ra tm hx
    have t0 := t.less (G := F0) fun _ z => z.elim
    refine ⟨p, ev, ?_⟩
    rcases q with q | q
    · exact .inl ⟨⟨vs, q H1 fun _ _ e _ => e⟩, k _ H1 W1 r1 t0 (walkD_list r1 q rs)⟩
    · exact .inr ⟨⟨vs, q⟩, k _ H1 W1 r1 t0 (walkD_tup r1 q rs)⟩
  · cases e
/-! ranges -/
def rngL (lo : Int) (n : Nat) : List D := (List.range n).map fun (k : Nat) => D.int (lo + (k : Int))
def smallI (i : Int) : Bool := decide (-(2 ^ 62) ≤ i ∧ i < 2 ^ 62)
def rngK : Option (List S) → Option (List D)
  | some [.d (.int j)] => if smallI j = true then some (rngL 0 j.toNat) else none
  | some [.d (.int i), .d (.int j)] => if smallI i = true ∧ smallI j = true then some (rngL i (j - i).toNat) else none
  | _ => none
@[simp] theorem rngK_1 {j : Int} : rngK (some [.d (.int j)]) = if smallI j = true then some (rngL 0 j.toNat) else none := rfl
@[simp] theorem rngK_2 {i j : Int} : rngK (some [.d (.int i), .d (.int j)]) = if smallI i = true ∧ smallI j = true then some (rngL i (j - i).toNat) else none := rfl
def itRng1 (as : List Arg) (e : En) : Option (List D × En) := itK (rngK (gets as e)) e
def itRng (fs : Fn1 (List Arg)) : Fn1 (List D) := fun e => bnd (fs e) itRng1
theorem rngL_at {lo : Int} {n i : Nat} (h : i < n) : (rngL lo n)[i]? = some (D.int (lo + (i : Int))) := by
  unfold rngL
  rw [List.getElem?_map, List.getElem?_range h]
  rfl
theorem rngL_length {lo : Int} {n : Nat} : (rngL lo n).length = n := by unfold rngL; simp
theorem walkD_rng {K : PySem.W.Frag} {lo : Int} {n : Nat} {H0 : Hp} {W0 : Ow} : WalkD K (Itr lo n) (rngL lo n) H0 W0 := by
  refine ⟨_, (by rw [rngL_length]; exact walk_range.mono (fun _ _ => trivial) (fun i H x H' _ _ y => y) : Walk (Itr lo n) (rngL lo n).length (Gd H0 W0) (YFn fun i => .int (lo + i))), fun i H x H' hi g y => ?_⟩
  obtain ⟨e, hx⟩ := y
  subst e hx
  rw [rngL_length] at hi
  exact ⟨Same.refl _, _, rngL_at hi, .int _⟩
section
variable {X : Cx} {tg a b : Expr} {fa fb : Fn1 Arg} {p pos : Pos}
theorem qi_rng1 (hg : Gl X "range") (hm : X.mg "range" = none) (ha : PXA X [a] (fCons fa fNil)) (hs : starEach [a] X.env = [(false, eval a X.env)] := by rfl) : PXI X tg (.Call (.Name "range" p) [a] [] pos) (itRng (fCons fa fNil)) := PI.imp (pi_range1 hg hm ha hs) fun σ H R h => by
  obtain ⟨env, W, xs, env', re, e, k⟩ := h
  obtain ⟨as, env1, ea, e⟩ := bnd_eq e
  unfold itRng1 itK at e
  split at e
  · rename_i xs' hx
    cases e
    refine ⟨env, W, as, _, re, ea, fun vs H1 W1 Fs r1 ras t => ?_⟩
    obtain ⟨a, e1, ea1, ea⟩ := bnd_eq ea
    obtain ⟨as', e2, ea2, ea⟩ := bnd_eq ea
    cases ea2
    cases ea
    cases ras with
    | cons ra tm d ras =>
      cases ras
      cases hg : (Arg.get a env') with
      | none => rw [gets_cons', hg] at hx; cases hx
      | some s =>
        rw [gets_cons', hg, gets_nil, cons?_some] at hx
        unfold rngK at hx
        split at hx
        · rename_i j heq
          cases heq
          split at hx
          · rename_i hsm
            cases hx
            have hsm : -(2 ^ 62) ≤ j ∧ j < 2 ^ 62 := of_decide_eq_true hsm
            refine ⟨j, by rw [rd_int (ra.read r1 hg)], hsm.1, hsm.2, ?_⟩
            exact k _ H1 W1 r1 (t.less fun _ z => z.elim) walkD_rng
          · cases hx
        · rename_i heq
          cases heq
        · cases hx
  · cases e
theorem qi_rng2 (hg : Gl X "range") (hm : X.mg "range" = none) (ha : PXA X [a, b] (fCons fa (fCons fb fNil))) (hs : starEach [a, b] X.env = [(false, eval a X.env), (false, eval b X.env)] := by rfl) (hs2 : starEach [b] X.env = [(false, eval b X.env)] := by rfl) :
    PXI X tg (.Call (.Name "range" p) [a, b] [] pos) (itRng (fCons fa (fCons fb fNil))) := PI.imp (pi_range2 hg hm ha hs hs2) fun σ H R h => by
  obtain ⟨env, W, xs, env', re, e, k⟩ := h
  obtain ⟨as, env1, ea, e⟩ := bnd_eq e
  unfold itRng1 itK at e
  split at e
  · rename_i xs' hx
    cases e
    refine ⟨env, W, as, _, re, ea, fun vs H1 W1 Fs r1 ras t => ?_⟩
    obtain ⟨a, e1, ea1, ea⟩ := bnd_eq ea
    obtain ⟨as', e2, ea2, ea⟩ := bnd_eq ea
    obtain ⟨b, e3, eb1, eb⟩ := bnd_eq ea2
    obtain ⟨bs', e4, eb2, eb⟩ := bnd_eq eb
    cases eb2
    cases eb
    cases ea
    cases ras with
    | cons ra tm d ras =>
      cases ras with
      | cons rb tmb db ras =>
        cases ras
        cases hg : (Arg.get a env') with
        | none => rw [gets_cons', hg] at hx; cases hx
        | some s =>
          cases hg2 : (Arg.get b env') with
          | none => rw [gets_cons', gets_cons', hg2, hg] at hx; cases hx
          | some s2 =>
            rw [gets_cons', gets_cons', hg, hg2, gets_nil, cons?_some, cons?_some] at hx
            unfold rngK at hx
            split at hx
            · rename_i heq
              cases heq
            · rename_i i j heq
              cases heq
              split at hx
              · rename_i hsm
                cases hx
                have h1 : -(2 ^ 62) ≤ i ∧ i < 2 ^ 62 := of_decide_eq_true hsm.1
                have h2 : -(2 ^ 62) ≤ j ∧ j < 2 ^ 62 := of_decide_eq_true hsm.2
                refine ⟨i, j, by rw [rd_int (ra.read r1 hg), rd_int (rb.read r1 hg2)], ⟨h1.1, h1.2, h2.1, h2.2⟩, ?_⟩
                exact k _ H1 W1 r1 (t.less fun _ z => z.elim) walkD_rng
              · cases hx
            · cases hx
  · cases e
end

/-! ### for -/
def forK (g : En → Option Res) (f : FS) : Option En → Option Res
  | some e => whileK g (f e)
  | none => none
@[simp] theorem forK_some {g : En → Option Res} {f : FS} {e : En} : forK g f (some e) = whileK g (f e) := rfl
def forL (b : D → En → Option En) (f : FS) : List D → En → Option Res
  | [], e => some (.nx e)
  | x :: xs, e => forK (forL b f xs) f (b x e)
@[simp] theorem forL_nil {b : D → En → Option En} {f : FS} {e : En} : forL b f [] e = some (.nx e) := rfl
theorem forL_cons {b : D → En → Option En} {f : FS} {x : D} {xs : List D} {e : En} : forL b f (x :: xs) e = forK (forL b f xs) f (b x e) := rfl
def sFor (it : Fn1 (List D)) (b : D → En → Option En) (f : FS) : FS := fun e => bndS (it e) (forL b f)
theorem qs_for {X : Cx} {tg iter : Expr} {body : List Stmt} {pos : Pos} {it : Fn1 (List D)} {A B : List Nat} {b : D → En → Option En} {f : FS} (hp : PassesOwn (model X.prog X.w) X.A X.env X.xe) (hc : X.calm = true) (hi : PXI X tg iter it) (hg : PXG X tg A b) (hb : PXSs X body B f)
    (hs : ∀ x, foldedSetIterable iter X.env x = pure x := by intro _; rfl) : PXS X (.For tg iter body [] pos) (A ++ B) (sFor it b f) := PS.imp (ps_for hp hc hi hg hb hs) fun D σ H h => by
  obtain ⟨env, W, r, re, e, p⟩ := h
  obtain ⟨xs, env1, ex, e⟩ := bndS_eq e
  have inA : ∀ j ∈ A, j ∈ A ++ B := fun j z => List.mem_append_left _ z
  have inB : ∀ j ∈ B, j ∈ A ++ B := fun j z => List.mem_append_right _ z
  have inAB : ∀ j ∈ A ++ B, j ∈ A ++ B := fun j z => z
  refine ⟨env, W, xs, env1, re, ex, fun J H1 W1 r1 t1 ⟨Y, wk, hY⟩ => ?_⟩
  refine for_it wk (fun i σ2 H2 => ∃ env2 W2, RE X.K H2 σ2 env2 W2 ∧ Tr W H W2 H2 F0 ∧ Tr W1 H1 W2 H2 F0 ∧ Eqs (A ++ B) σ σ2 ∧ forL b f (xs.drop i) env2 = some r) ⟨env1, W1, r1, t1, Tr.refl, Eqs.refl, e⟩ (fun i σ2 H2 hi ⟨env2, W2, r2, _, t2, _⟩ => Gd.of t2) ?_ ?_
  · rintro i x σ2 H2 H3 hi ⟨env2, W2, r2, t2, t12, q2, e2⟩ y
    obtain ⟨sm, d, hd, rd⟩ := hY i H2 x H3 hi (Gd.of t12) y
    have ed : xs.drop i = d :: xs.drop (i + 1) := by
      obtain ⟨h1, h2⟩ := List.getElem?_eq_some_iff.mp hd
      rw [List.drop_eq_getElem_cons h1, h2]
    rw [ed, forL_cons] at e2
    cases q : b d env2 with
    | none => rw [q] at e2; cases e2
    | some e3 =>
      rw [q, forK_some] at e2
      have t23 : Tr W2 H2 W2 H3 F0 := Tr.same sm fun _ z => z.elim
      refine ⟨d, env2, W2, e3, r2.same sm, rd, q, fun σ3 r3 q3 => ?_⟩
      cases qf : f e3 with
      | none => rw [qf] at e2; cases e2
      | some rr =>
        rw [qf] at e2
        refine ⟨e3, W2, rr, r3, qf, ?_⟩
        have q23 := q2.trans q3 inAB inA
        cases rr with
        | nx e4 => exact fun σ' H' W' r' t' q' => ⟨e4, W', r', (t2.trans0 t23).trans0 t', (t12.trans0 t23).trans0 t', q23.trans q' inAB inB, e2⟩
        | ct e4 => exact fun σ' H' W' r' t' q' => ⟨e4, W', r', (t2.trans0 t23).trans0 t', (t12.trans0 t23).trans0 t', q23.trans q' inAB inB, e2⟩
        | bk e4 =>
          cases e2
          exact fun σ' H' W' r' t' q' => p σ' H' W' r' ((t2.trans0 t23).trans0 t') (q23.trans q' inAB inB)
        | rt s e4 =>
          cases e2
          exact fun v σ' H' W' F r' rs tm t' q' => p v σ' H' W' F r' rs tm ((t2.trans0 t23).trans0 t') (q23.trans q' inAB inB)
  · rintro σ2 H2 ⟨env2, W2, r2, t2, t12, q2, e2⟩
    rw [List.drop_length, forL_nil] at e2
    cases e2
    exact p σ2 H2 W2 r2 t2 q2
end QL
end

section
set_option Elab.async false
set_option linter.all false
set_option maxRecDepth 100000
namespace QL
open PySem PySem.Spec PyProof.Rows L2

/-! ### list comprehensions -/
def wipeE (e : En) : List Nat → En
  | [] => e
  | v :: vs => (wipeE e vs).set v none
@[simp] theorem wipeE_nil {e : En} : wipeE e [] = e := rfl
@[simp] theorem wipeE_cons {e : En} {v : Nat} {vs : List Nat} : wipeE e (v :: vs) = (wipeE e vs).set v none := rfl
/-- e0's own slots back in e -/
def unw (e0 e : En) : List Nat → En
  | [] => e
  | v :: vs => (unw e0 e vs).set v (e0[v]?).join
@[simp] theorem unw_nil {e0 e : En} : unw e0 e [] = e := rfl
@[simp] theorem unw_cons {e0 e : En} {v : Nat} {vs : List Nat} : unw e0 e (v :: vs) = (unw e0 e vs).set v (e0[v]?).join := rfl
def okS : Option S → Bool
  | some (.m _) => false
  | some (.lk _) => false
  | _ => true
@[simp] theorem okS_none : okS none = true := rfl
@[simp] theorem okS_d {x : D} : okS (some (.d x)) = true := rfl
def okOwn (e : En) (vs : List Nat) : Bool := vs.all fun v => okS (e[v]?).join
@[simp] theorem okOwn_nil {e : En} : okOwn e [] = true := rfl
@[simp] theorem okOwn_cons {e : En} {v : Nat} {vs : List Nat} : okOwn e (v :: vs) = (okS (e[v]?).join && okOwn e vs) := rfl
theorem unw_at {e0 e : En} : ∀ {vs : List Nat} {j : Nat} {s : S}, (unw e0 e vs)[j]? = some (some s) → (j ∈ vs ∧ e0[j]? = some (some s)) ∨ (j ∉ vs ∧ e[j]? = some (some s))
  | [], j, s, h => .inr ⟨by simp, h⟩
  | v :: vs, j, s, h => by
    rw [unw_cons] at h
    by_cases hv : v = j
    · subst hv
      rw [List.getElem?_set, if_pos rfl] at h
      split at h
      · have h : (e0[v]?).join = some s := Option.some.inj h
        exact Or.inl ⟨List.mem_cons_self, join_some h⟩
      · cases h
    · rw [List.getElem?_set_ne hv] at h
      rcases unw_at h with ⟨h1, h2⟩ | ⟨h1, h2⟩
      · exact .inl ⟨List.mem_cons_of_mem _ h1, h2⟩
      · exact .inr ⟨fun z => (List.mem_cons.mp z).elim (fun q => hv q.symm) h1, h2⟩
theorem unw_length {e0 e : En} : ∀ {vs : List Nat}, (unw e0 e vs).length = e.length
  | [] => rfl
  | v :: vs => by rw [unw_cons, List.length_set, unw_length]
theorem wipeE_at {e : En} : ∀ {vs : List Nat} {j : Nat} {s : S}, (wipeE e vs)[j]? = some (some s) → j ∉ vs ∧ e[j]? = some (some s)
  | [], j, s, h => ⟨by simp, h⟩
  | v :: vs, j, s, h => by
    rw [wipeE_cons] at h
    by_cases hv : v = j
    · subst hv
      rw [List.getElem?_set, if_pos rfl] at h
      split at h <;> cases h
    · rw [List.getElem?_set_ne hv] at h
      obtain ⟨h1, h2⟩ := wipeE_at h
      exact ⟨fun z => (List.mem_cons.mp z).elim (fun q => hv q.symm) h1, h2⟩
theorem wipeE_length {e : En} : ∀ {vs : List Nat}, (wipeE e vs).length = e.length
  | [] => rfl
  | v :: vs => by rw [wipeE_cons, List.length_set, wipeE_length]
theorem wipe_ne {σ : Sl} : ∀ {vs : List Nat} {j : Nat}, j ∉ vs → (wipe σ vs)[j]? = σ[j]?
  | [], j, _ => rfl
  | v :: vs, j, h => by
    have h' : v ≠ j ∧ j ∉ vs := ⟨fun z => h (by rw [z]; exact List.mem_cons_self), fun z => h (List.mem_cons_of_mem _ z)⟩
    unfold wipe
    rw [List.getElem?_set_ne h'.1, wipe_ne h'.2]
theorem wipe_in {σ : Sl} : ∀ {vs : List Nat} {j : Nat}, j ∈ vs → (wipe σ vs)[j]? = if j < σ.length then some none else none
  | v :: vs, j, h => by
    unfold wipe
    by_cases hv : v = j
    · subst hv
      rw [List.getElem?_set, if_pos rfl, wipe_length]
    · rw [List.getElem?_set_ne hv]
      exact wipe_in ((List.mem_cons.mp h).resolve_left fun z => hv z.symm)
theorem wipe_same {σ σ2 : Sl} {vs A : List Nat} (q : Eqs A (wipe σ vs) σ2) (h : ∀ j ∈ A, j ∈ vs) : wipe σ2 vs = wipe σ vs := by
  have hl : σ2.length = σ.length := q.1.trans (wipe_length σ vs)
  refine List.ext_getElem? fun j => ?_
  by_cases hj : j ∈ vs
  · rw [wipe_in hj, wipe_in hj, hl]
  · rw [wipe_ne hj, q.2 j fun z => hj (h j z)]
theorem RE.wiped {K : PySem.W.Frag} {H : Hp} {σ : Sl} {env : En} {W : Ow} {vs : List Nat} (r : RE K H σ env W) : RE K H (wipe σ vs) (wipeE env vs) W :=
  ⟨fun i s e => by
    obtain ⟨h1, h2⟩ := wipeE_at e
    obtain ⟨v, q1, q2⟩ := r.slots i s h2
    exact ⟨v, by rw [wipe_ne h1]; exact q1, q2⟩, r.apart, r.mu, by rw [wipeE_length, wipe_length]; exact r.len⟩
theorem RE.unwiped {K : PySem.W.Frag} {H0 H : Hp} {σ σ2 : Sl} {env e3 : En} {W0 W : Ow} {vs A : List Nat} (r0 : RE K H0 σ env W0) (r : RE K H σ2 e3 W) (p : Pst H0 H) (q : Eqs A (wipe σ vs) σ2) (h : ∀ j ∈ A, j ∈ vs) (ok : okOwn env vs = true) : RE K H σ (unw env e3 vs) W :=
  ⟨fun i s e => by
    rcases unw_at e with ⟨h1, h2⟩ | ⟨h1, h2⟩
    · obtain ⟨v, q1, q2⟩ := r0.slots i s h2
      have o := List.all_eq_true.mp ok i h1
      rw [h2] at o
      cases s with
      | d x => exact ⟨v, q1, RD.pst p q2⟩
      | m x => cases o
      | lk x => cases o
    · obtain ⟨v, q1, q2⟩ := r.slots i s h2
      rw [q.2 i fun z => h1 (h i z), wipe_ne h1] at q1
      exact ⟨v, q1, q2⟩, r.apart, r.mu, by rw [unw_length, r.len, q.1, wipe_length]⟩
def lcV (g : List D → En → Option (Arg × En)) (acc : List D) (z : Option S) (e : En) : Option (Arg × En) := match z with
  | some (.d y) => g (acc ++ [y]) e
  | _ => none
@[simp] theorem lcV_d {g : List D → En → Option (Arg × En)} {acc : List D} {y : D} {e : En} : lcV g acc (some (.d y)) e = g (acc ++ [y]) e := rfl
def lcE (g : List D → En → Option (Arg × En)) (own : List Nat) (acc : List D) (e0 : En) (a : Arg) (e3 : En) : Option (Arg × En) := lcV g acc (a.get e3) (unw e0 e3 own)
def lcT (g : List D → En → Option (Arg × En)) (own : List Nat) (elt : Fn1 Arg) (acc : List D) (e0 : En) (c : Bool) (e2 : En) : Option (Arg × En) := if c = true then bnd (elt e2) (lcE g own acc e0) else g acc (unw e0 e2 own)
def lcB (g : List D → En → Option (Arg × En)) (own : List Nat) (tt : Fn1 Bool) (elt : Fn1 Arg) (acc : List D) (e0 : En) (z : Option En) : Option (Arg × En) := match z with
  | some e1 => bnd (tt e1) (lcT g own elt acc e0)
  | none => none
@[simp] theorem lcB_some {g : List D → En → Option (Arg × En)} {own : List Nat} {tt : Fn1 Bool} {elt : Fn1 Arg} {acc : List D} {e0 e1 : En} : lcB g own tt elt acc e0 (some e1) = bnd (tt e1) (lcT g own elt acc e0) := rfl
def lcL (own : List Nat) (b : D → En → Option En) (tt : Fn1 Bool) (elt : Fn1 Arg) : List D → List D → En → Option (Arg × En)
  | [], acc, e => some (.val (.m (.lst acc)), e)
  | x :: xs, acc, e => lcB (lcL own b tt elt xs) own tt elt acc e (b x (wipeE e own))
@[simp] theorem lcL_nil {own : List Nat} {b : D → En → Option En} {tt : Fn1 Bool} {elt : Fn1 Arg} {acc : List D} {e : En} : lcL own b tt elt [] acc e = some (.val (.m (.lst acc)), e) := rfl
theorem lcL_cons {own : List Nat} {b : D → En → Option En} {tt : Fn1 Bool} {elt : Fn1 Arg} {x : D} {xs acc : List D} {e : En} : lcL own b tt elt (x :: xs) acc e = lcB (lcL own b tt elt xs) own tt elt acc e (b x (wipeE e own)) := rfl
def fLc1 (own : List Nat) (b : D → En → Option En) (tt : Fn1 Bool) (elt : Fn1 Arg) (xs : List D) (e : En) : Option (Arg × En) := if xs.length ≤ sizeLine ∧ okOwn e own = true then lcL own b tt elt xs [] e else none
def fLc (own : List Nat) (it : Fn1 (List D)) (b : D → En → Option En) (tt : Fn1 Bool) (elt : Fn1 Arg) : Fn1 Arg := fun e => bnd (it e) (fLc1 own b tt elt)
def fYes : Fn1 Bool := fun e => some (true, e)
/-- a list that no slot owns is written -/
theorem RE.updF {K : PySem.W.Frag} {H : Hp} {σ : Sl} {env : En} {W : Ow} {p : Addr} {vs ws : List V} (r : RE K H σ env W) (h : H p = some (.lst vs)) (n : ¬ Own W p) : RE K (upd H p (.lst ws)) σ env W := by
  have sm : ∀ b o, H b = some o → b ≠ p → (upd H p (.lst ws)) b = some o := fun b o e hb => by rw [upd_ne hb]; exact e
  have t : Tr (fun (_ : Nat) b => b = p) H (fun (_ : Nat) b => b = p) (upd H p (.lst ws)) F0 :=
    ⟨fun b o e hn => sm b o e fun z => hn ⟨0, z⟩, fun b e => by
      by_cases hb : b = p
      · subst hb; rw [upd_same]; simp
      · rw [upd_ne hb]; exact e, fun b _ hn => ⟨hn, fun z => z⟩⟩
  refine ⟨fun i s e => ?_, r.apart, fun i b z => ?_, r.len⟩
  · obtain ⟨v, q1, q2⟩ := r.slots i s e
    exact ⟨v, q1, RS.keep (fun _ b z => by subst z; rw [h]; trivial) t q2 fun b z ⟨_, y⟩ => n (by rw [← y]; exact ⟨i, z⟩)⟩
  · have hb : b ≠ p := fun e => n (by rw [← e]; exact ⟨i, z⟩)
    rw [upd_ne hb]
    exact r.mu i b z
section
variable {X : Cx}
/-- the turns of a comprehension -/
theorem lc_read {K : PySem.W.Frag} {own : List Nat} {A : List Nat} {it : Fn1 (List D)} {b : D → En → Option En} {tt : Fn1 Bool} {elt : Fn1 Arg} {σ : Sl} {H : Hp} {Q : VK} (hA : ∀ j ∈ A, j ∈ own) (h : tE K (fLc own it b tt elt) σ H Q) :
    tLc (tIt K it) (tP K A b) (tT K tt) (tE K elt) own σ H Q := by
  obtain ⟨env, W, z, envF, re, e, k⟩ := h
  obtain ⟨xs, env1, ex, e⟩ := bnd_eq e
  unfold fLc1 at e
  split at e
  · rename_i hz
    obtain ⟨hz, hok⟩ := hz
    refine ⟨env, W, xs, env1, re, ex, fun J H1 W1 r1 t1 ⟨Y, wk, hY⟩ Dl nD => ?_⟩
    have sm0 : Same H1 (upd H1 Dl (.lst [])) := same_new nD
    refine lc_it wk (fun i H2 => ∃ env2 W2 acc vs, RE K H2 σ env2 W2 ∧ Tr W1 H1 W2 H2 (fun b => b = Dl) ∧ H2 Dl = some (.lst vs) ∧ RDs K H2 acc vs ∧ ¬ Own W2 Dl ∧ acc.length ≤ i ∧ okOwn env2 own = true ∧ lcL own b tt elt (xs.drop i) acc env2 = some (z, envF)) ?_ ?_ ?_ ?_
    · exact ⟨env1, W1, [], [], r1.same sm0, Tr.same sm0 fun b z => by rw [z]; exact nD, upd_same, .nil, r1.fresh nD, Nat.zero_le _, hok, e⟩
    · rintro i H2 hi ⟨env2, W2, acc, vs, r2, t2, _⟩
      exact Gd.of t2
    · rintro i x H2 H3 hi ⟨env2, W2, acc, vs, r2, t2, hD, rv, nW, hl, ok2, e2⟩ y
      obtain ⟨sm, d, hd, rd⟩ := hY i H2 x H3 hi (Gd.of t2) y
      have ed : xs.drop i = d :: xs.drop (i + 1) := by
        obtain ⟨h1, h2⟩ := List.getElem?_eq_some_iff.mp hd
        rw [List.drop_eq_getElem_cons h1, h2]
      rw [ed, lcL_cons] at e2
      cases q : b d (wipeE env2 own) with
      | none => rw [q] at e2; cases e2
      | some e3 =>
        rw [q, lcB_some] at e2
        have r3 := r2.same sm
        refine ⟨d, wipeE env2 own, W2, e3, r3.wiped, rd, q, fun σ3 r4 q4 => ⟨wipe_same q4 hA, ?_⟩⟩
        obtain ⟨c, e4, ec, e2⟩ := bnd_eq e2
        refine ⟨e3, W2, c, e4, r4, ec, fun H5 W5 r5 t5 => ?_⟩
        have hD3 : H3 Dl = some (.lst vs) := sm _ _ hD
        have hD5 : H5 Dl = some (.lst vs) := t5.frame _ _ hD3 nW
        have nW5 : ¬ Own W5 Dl := (t5.out Dl (by rw [hD3]; simp) nW).1
        have t25 : Tr W2 H2 W5 H5 F0 := (Tr.same (F := F0) sm fun _ z => z.elim).trans0 t5
        have p25 : Pst H2 H5 := r2.pst t25
        have okU : ∀ {e3 : En}, okOwn (unw env2 e3 own) own = true := by
          intro e3
          refine List.all_eq_true.mpr fun v hv => ?_
          cases q : (unw env2 e3 own)[v]? with
          | none => rfl
          | some o =>
            cases o with
            | none => rfl
            | some s =>
              rcases unw_at q with ⟨_, h2⟩ | ⟨h1, _⟩
              · have o := List.all_eq_true.mp ok2 v hv
                rw [h2] at o
                exact o
              · exact absurd hv h1
        unfold lcT at e2
        split at e2
        · rename_i hc
          subst hc
          refine iteT ?_
          obtain ⟨a, e5, ea, e2⟩ := bnd_eq e2
          refine ⟨e4, W5, a, e5, r5, ea, fun v H6 W6 F r6 ra tm t6 => ?_⟩
          unfold lcE lcV at e2
          split at e2
          · rename_i y hy
            obtain ⟨P, ry⟩ := ra.read r6 hy
            have hD6 : H6 Dl = some (.lst vs) := t6.frame _ _ hD5 nW5
            have nW6 : ¬ Own W6 Dl := (t6.out Dl (by rw [hD5]; simp) nW5).1
            have t26 : Tr W2 H2 W6 H6 F0 := (t25.trans0 t6).less fun _ z => z.elim
            have r7 : RE K H6 σ (unw env2 e5 own) W6 := r2.unwiped r6 (r2.pst t26) q4 hA ok2
            have pU : Pst H6 (upd H6 Dl (.lst (vs ++ [v]))) := fun a xs h => by
              have na : a ≠ Dl := fun z => by
                subst z
                rcases h with h | ⟨o, h⟩ <;> (rw [hD6] at h; cases h)
              unfold Rd
              rw [upd_ne na]
              exact h
            refine ⟨vs, hD6, ?_, ?_⟩
            · rw [← rv.length]
              omega
            · refine ⟨_, W6, acc ++ [y], vs ++ [v], r7.updF hD6 nW6, ?_, upd_same, RDs.append (RDs.pst pU (RDs.pst (r2.pst t26) rv)) (.cons (RD.pst pU ry) .nil), nW6, by rw [List.length_append]; exact Nat.succ_le_succ hl, okU, e2⟩
              have t06 := (t2.trans t26).less (G := fun b => b = Dl) fun b z => .inl z
              refine ⟨fun b o e n => ?_, fun b e => ?_, t06.out⟩
              · have nb : b ≠ Dl := fun z => by rw [z, nD] at e; cases e
                rw [upd_ne nb]
                exact t06.frame b o e n
              · by_cases hb : b = Dl
                · subst hb; rw [upd_same]; simp
                · rw [upd_ne hb]; exact t06.dom b e
          · cases e2
        · rename_i hc
          have hc : c = false := by cases c; rfl; exact absurd rfl hc
          subst hc
          refine iteF ?_
          exact ⟨_, W5, acc, vs, r2.unwiped r5 p25 q4 hA ok2, (t2.trans t25).less fun b z => .inl z, hD5, RDs.pst p25 rv, nW5, Nat.le_succ_of_le hl, okU, e2⟩
    · rintro H2 ⟨env2, W2, acc, vs, r2, t2, hD, rv, nW, hl, ok2, e2⟩
      rw [List.drop_length, lcL_nil] at e2
      cases e2
      refine k (.ref Dl) H2 W2 (fun b => b = Dl) r2 ⟨Dl, vs, rfl, rfl, hD, rv⟩ (fun b z => by subst z; exact ⟨nW, by rw [hD]; trivial⟩) (t1.trans0 t2)
  · cases e
theorem PTs.imp {ifs : List Expr} {t t' : TT} (h : PTs X ifs t) (i : ∀ σ H Q, t' σ H Q → t σ H Q) : PTs X ifs t' := ⟨fun pins s σ H Q I q => h.run pins s σ H Q I (i σ H Q q)⟩
theorem qts_nil : PTs X [] (tT X.K fYes) := PTs.imp pts_nil fun σ H Q h => by
  obtain ⟨env, W, b, env', re, e, k⟩ := h
  cases e
  exact k H W re Tr.refl
theorem qts_one {c : Expr} {t : Fn1 Bool} (h : PXT X c t) : PTs X [c] (tT X.K t) := pts_one h
theorem qx_lc {elt tg iter : Expr} {ifs : List Expr} {scope : Scope} {own : List (Str × Nat)} {pos : Pos} {it : Fn1 (List D)} {A : List Nat} {b : D → En → Option En} {tt : Fn1 Bool} {fe : Fn1 Arg} (hA : ∀ j ∈ A, j ∈ own.map (·.2)) (hc : X.calm = true) (hN : X.N.Nodup) (hi : PXI X tg iter it) (ok : BlkOk X.N X.env.scope scope own)
    (hg : ∀ (s : Shared) (H : Hp) (C : Addr) (cl : List (Str × Addr)) (fp : List Addr), PXG (X.blk s H scope (compEnvC scope cl C X.env) fp) tg A b) (ht : ∀ (s : Shared) (H : Hp) (C : Addr) (cl : List (Str × Addr)) (fp : List Addr), PTs (X.blk s H scope (compEnvC scope cl C X.env) fp) ifs (tT X.K tt))
    (he : ∀ (s : Shared) (H : Hp) (C : Addr) (cl : List (Str × Addr)) (fp : List Addr), PX (X.blk s H scope (compEnvC scope cl C X.env) fp) elt fe) (hs : ∀ x, foldedSetIterable iter X.env x = pure x := by intro _; rfl) :
    PX X (.ListComp elt [⟨tg, iter, ifs, 0⟩] scope pos) (fLc (own.map (·.2)) it b tt fe) := PE.imp (pe_lc hc hN hi ok hg ht he hs) fun σ H Q h => lc_read hA h
theorem qs_setLc {i : Nat} {y : Str} {py : Pos} {elt tg iter : Expr} {ifs : List Expr} {scope : Scope} {own : List (Str × Nat)} {pos spos : Pos} {it : Fn1 (List D)} {A : List Nat} {b : D → En → Option En} {tt : Fn1 Bool} {fe : Fn1 Arg} (hA : ∀ j ∈ A, j ∈ own.map (·.2)) (hc : X.calm = true) (hN : X.N.Nodup) (hy : X.N[i]? = some y) (hyl : X.env.scope.names.lookup y = some .local)
    (hsw : swapsWith (.ListComp elt [⟨tg, iter, ifs, 0⟩] scope pos) (some (.Name y py)) spos.line X.env = pure true) (hi : PXI X tg iter it) (ok : BlkOk X.N X.env.scope scope own)
    (hg : ∀ (s : Shared) (H : Hp) (C : Addr) (cl : List (Str × Addr)) (fp : List Addr), PXG (X.blk s H scope (compEnvC scope cl C X.env) fp) tg A b) (ht : ∀ (s : Shared) (H : Hp) (C : Addr) (cl : List (Str × Addr)) (fp : List Addr), PTs (X.blk s H scope (compEnvC scope cl C X.env) fp) ifs (tT X.K tt))
    (he : ∀ (s : Shared) (H : Hp) (C : Addr) (cl : List (Str × Addr)) (fp : List Addr), PX (X.blk s H scope (compEnvC scope cl C X.env) fp) elt fe) (hs : ∀ x, foldedSetIterable iter X.env x = pure x := by intro _; rfl) :
    PXS X (.Assign [.Name y py] (.ListComp elt [⟨tg, iter, ifs, 0⟩] scope pos) spos) [i] (sSet i (fLc (own.map (·.2)) it b tt fe)) := PS.imp (ps_setLc hc hN hy hyl hsw hi ok hg ht he hs) fun D σ H h => by
  obtain ⟨env, W, r, re, e, p⟩ := h
  obtain ⟨a, env1, ea, e⟩ := bndS_eq e
  exact lc_read hA ⟨env, W, a, env1, re, ea, fun v H1 W1 F r1 ra tm t => valK_ok e r1 ra tm t p⟩
end
end QL
end

section
set_option Elab.async false
set_option linter.all false
set_option maxRecDepth 100000
set_option maxHeartbeats 4000000
namespace QL
open PySem PySem.Spec PyProof.Rows L2

/-! ### subscripts -/
def getI {α : Type} (xs : List α) (i : Int) : Option α := if 0 ≤ i then xs[i.toNat]? else if -(xs.length : Int) ≤ i then xs[(i + xs.length).toNat]? else none
theorem getI_at {α : Type} {xs : List α} {i : Int} {x : α} (h : getI xs i = some x) : ∃ j, L2.ixN xs.length i = some j ∧ xs[j]? = some x := by
  unfold getI at h
  unfold L2.ixN
  split at h
  · rename_i h0
    have hlt := (List.getElem?_eq_some_iff.mp h).1
    rw [if_pos h0, if_pos (by omega)]
    exact ⟨_, rfl, h⟩
  · rename_i h0
    split at h
    · rename_i h1
      rw [if_neg h0, if_pos h1]
      exact ⟨_, rfl, h⟩
    · cases h
def oIx (x y : S) : Option S := match y with
  | .d (.int i) => match x with
    | .d (.str z) => if z.length ≤ sizeLine then (getI z.cps.toList i).map fun c => .d (.str ⟨#[c]⟩) else none
    | x => match seqOf x with
      | some ds => (getI ds i).map .d
      | none => none
  | _ => none
@[simp] theorem oIx_tup {ds : List D} {i : Int} : oIx (.d (.tup ds)) (.d (.int i)) = (getI ds i).map .d := rfl
@[simp] theorem oIx_lst {ds : List D} {i : Int} : oIx (.m (.lst ds)) (.d (.int i)) = (getI ds i).map .d := rfl
@[simp] theorem oIx_lk {ds : List D} {i : Int} : oIx (.lk (.lst ds)) (.d (.int i)) = (getI ds i).map .d := rfl
theorem op2_ix {K : PySem.W.Frag} : Op2 K (rIx K) oIx := by
  intro H x y sx sy s Q e hx hy f
  unfold oIx at e
  split at e
  · rename_i i
    split at e
    · rename_i z
      split at e
      · rename_i hz
        cases q : getI z.cps.toList i with
        | none => rw [q] at e; cases e
        | some c =>
          rw [q] at e
          cases e
          obtain ⟨j, h1, h2⟩ := getI_at q
          refine .inr (.inr ⟨z, i, c, rd_str hx, rd_int hy, hz, ?_, f.str⟩)
          unfold L2.atI
          rw [h1]
          exact h2
      · cases e
    · split at e
      · rename_i ds hs
        cases q : getI ds i with
        | none => rw [q] at e; cases e
        | some c =>
          rw [q] at e
          cases e
          obtain ⟨j, h1, h2⟩ := getI_at q
          obtain ⟨a, vs, ev, rs, sq⟩ := rd_seq hs hx
          obtain ⟨v, hv, rd⟩ := rs.get h2
          have at' : L2.atI vs i = some v := by
            unfold L2.atI
            rw [← rs.length, h1]
            exact hv
          rcases sq with sq | sq
          · exact .inl ⟨a, vs, i, v, ev, rd_int hy, sq, at', f.imm rd⟩
          · exact .inr (.inl ⟨a, vs, i, v, ev, rd_int hy, sq, at', f.imm rd⟩)
      · cases e
  · cases e
section
variable {X : Cx} {a b : Expr} {fa fb : Fn1 Arg} {pos : Pos}
theorem qx_ix (ha : PX X a fa) (hb : PX X b fb) (hs : PlainIx b := by intro _ _; rfl) : PX X (.Subscript a b pos) (fBin oIx fa fb) := PE.imp (pe_ix ix_seq ha hb hs) fun σ H Q h => bin_read op2_ix h

/-! ### slices -/
def tO (K : PySem.W.Frag) (f : Fn1 (Option Int)) : TO := fun σ H Q => ∃ env W o env', RE K H σ env W ∧ f env = some (o, env') ∧ ∀ H' W', RE K H' σ env' W' → Tr W H W' H' F0 → Q o H'
abbrev PXO (X : Cx) (e : Option Expr) (f : Fn1 (Option Int)) : Prop := PO X e (tO X.K f)
theorem PO.imp {e : Option Expr} {t t' : TO} (h : PO X e t) (i : ∀ σ H Q, t' σ H Q → t σ H Q) : PO X e t' := ⟨fun pins s σ H Q I q => h.run pins s σ H Q I (i σ H Q q)⟩
def fNo : Fn1 (Option Int) := fun e => some (none, e)
def partK (z : Option S) (e : En) : Option (Option Int × En) := match z with
  | some (.d (.int i)) => some (some i, e)
  | _ => none
@[simp] theorem partK_int {i : Int} {e : En} : partK (some (.d (.int i))) e = some (some i, e) := rfl
def fPart1 (a : Arg) (e : En) : Option (Option Int × En) := partK (a.get e) e
def fPart (fa : Fn1 Arg) : Fn1 (Option Int) := fun e => bnd (fa e) fPart1
theorem qp_none : PXO X none fNo := PO.imp po_none fun σ H Q h => by
  obtain ⟨env, W, o, env', re, e, k⟩ := h
  cases e
  exact k H W re Tr.refl
theorem qp_some (ha : PX X a fa) : PXO X (some a) (fPart fa) := PO.imp (po_some ha) fun σ H Q h => by
  obtain ⟨env, W, o, env', re, e, k⟩ := h
  obtain ⟨a, env1, ea, e⟩ := bnd_eq e
  unfold fPart1 partK at e
  split at e
  · rename_i i hi
    cases e
    exact ⟨env, W, a, _, re, ea, fun v H1 W1 F r1 ra tm t => ⟨i, rd_int (ra.read r1 hi), k H1 W1 r1 (t.less fun _ z => z.elim)⟩⟩
  · cases e
def sIxI (n d : Nat) : Option Int → Nat := HT.sIx n d
def cutD (xs : List D) (lo hi : Option Int) : List D := (xs.drop (HT.sIx xs.length 0 lo)).take (HT.sIx xs.length xs.length hi - HT.sIx xs.length 0 lo)
theorem cut_rds {K : PySem.W.Frag} {H : Hp} {ds : List D} {vs : List V} (r : RDs K H ds vs) (lo hi : Option Int) : RDs K H (cutD ds lo hi) (cutV vs lo hi) := by
  unfold cutD cutV
  rw [r.length]
  exact (r.drop _).take _
def oSl (lo hi : Option Int) : S → Option S
  | .d (.tup ds) => some (.d (.tup (cutD ds lo hi)))
  | .m (.lst ds) => some (.m (.lst (cutD ds lo hi)))
  | .lk (.lst ds) => some (.m (.lst (cutD ds lo hi)))
  | _ => none
@[simp] theorem oSl_tup {lo hi : Option Int} {ds : List D} : oSl lo hi (.d (.tup ds)) = some (.d (.tup (cutD ds lo hi))) := rfl
@[simp] theorem oSl_lst {lo hi : Option Int} {ds : List D} : oSl lo hi (.m (.lst ds)) = some (.m (.lst (cutD ds lo hi))) := rfl
@[simp] theorem oSl_lk {lo hi : Option Int} {ds : List D} : oSl lo hi (.lk (.lst ds)) = some (.m (.lst (cutD ds lo hi))) := rfl
def fSl3 (a : Arg) (lo hi : Option Int) (e : En) : Option (Arg × En) := ret (op1 (oSl lo hi) (a.get e)) e
def fSl2 (fhi : Fn1 (Option Int)) (a : Arg) (lo : Option Int) (e : En) : Option (Arg × En) := bnd (fhi e) (fSl3 a lo)
def fSl1 (flo fhi : Fn1 (Option Int)) (a : Arg) (e : En) : Option (Arg × En) := bnd (flo e) (fSl2 fhi a)
def fSl (fa : Fn1 Arg) (flo fhi : Fn1 (Option Int)) : Fn1 Arg := fun e => bnd (fa e) (fSl1 flo fhi)
theorem cut_whole {α : Type} {xs : List α} {lo hi : Option Int} (h : HT.sIx xs.length 0 lo = 0 ∧ HT.sIx xs.length xs.length hi = xs.length) : (xs.drop (HT.sIx xs.length 0 lo)).take (HT.sIx xs.length xs.length hi - HT.sIx xs.length 0 lo) = xs := by
  rw [h.1, h.2, List.drop_zero, Nat.sub_zero, List.take_length]
theorem qx_sl {lo hi : Option Expr} {flo fhi : Fn1 (Option Int)} {p2 : Pos} (ha : PX X a fa) (hl : PXO X lo flo) (hu : PXO X hi fhi) : PX X (.Subscript a (.Slice lo hi none p2) pos) (fSl fa flo fhi) :=
  PE.imp (pe_slice (SlR.or sl_list sl_tupA) ha hl hu) fun σ H Q h => by
  obtain ⟨env, W, z, env', re, e, k⟩ := h
  obtain ⟨a, env1, ea, e⟩ := bnd_eq e
  obtain ⟨l, env2, el, e⟩ := bnd_eq e
  obtain ⟨u, env3, eu, e⟩ := bnd_eq e
  obtain ⟨s, eq1, er⟩ := ret_eq e
  cases er
  obtain ⟨sx, e1, eo⟩ := op1_eq eq1
  refine ⟨env, W, a, env1, re, ea, fun v H1 W1 F r1 ra tm t1 => ⟨env1, W1, l, env2, r1, el, fun H2 W2 r2 t2 => ⟨env2, W2, u, _, r2, eu, fun H3 W3 r3 t3 => ?_⟩⟩⟩
  have ra3 : RA X.K H3 σ a v F := (ra.keep r1.mu t2 tm).keep r2.mu t3 (Tm.keep t2 tm)
  have fin := fin_of r3 ((t1.trans0 t2).trans0 t3) k
  have rd := ra3.read r3 e1
  cases sx with
  | d x =>
    cases x with
    | tup ds =>
      cases eo
      obtain ⟨p, vs, ev, sq, rs⟩ := rd_tup rd
      refine .inr ⟨p, vs, ev, sq, fun hw => ?_, fun _ q hq => fin.tup (cut_rds rs l u) hq⟩
      refine fin.imm ?_
      have e : cutD ds l u = ds := by
        unfold cutD
        rw [← rs.length] at hw
        exact cut_whole hw
      rw [e]
      exact .tup sq rs
    | _ => cases eo
  | m x =>
    cases x with
    | lst ds =>
      cases eo
      obtain ⟨p, vs, ev, sq, rs⟩ := rd_lst rd
      exact .inl ⟨p, vs, ev, SqL.of sq, fun q hq => fin.lst (cut_rds rs l u) hq⟩
    | _ => cases eo
  | lk x =>
    cases x with
    | lst ds =>
      cases eo
      obtain ⟨p, vs, ev, sq, rs⟩ := rd_lk rd
      exact .inl ⟨p, vs, ev, sq.sq, fun q hq => fin.lst (cut_rds rs l u) hq⟩
    | _ => cases eo
end

/-! ### builtins -/
def lenS (s : S) : Option Nat := match s with
  | .d (.str z) => if z.length ≤ sizeLine then some z.length else none
  | .d (.tup ds) => some ds.length
  | .m (.lst ds) => some ds.length
  | .lk (.lst ds) => some ds.length
  | _ => none
theorem lenS_ok {K : PySem.W.Frag} {H : Hp} {s : S} {v : V} {n : Nat} (e : lenS s = some n) (h : Rd1 K H s v) : LenV K v H n := by
  unfold lenS at e
  split at e
  · split at e
    · rename_i hz
      cases e
      rw [rd_str h]
      exact ⟨hz, rfl⟩
    · cases e
  · cases e
    obtain ⟨a, vs, rfl, sq, rs⟩ := rd_tup h
    exact .inr ⟨vs, sq, rs.length⟩
  · cases e
    obtain ⟨a, vs, rfl, sq, rs⟩ := rd_lst h
    exact .inl ⟨vs, SqL.of sq, rs.length⟩
  · cases e
    obtain ⟨a, vs, rfl, sq, rs⟩ := rd_lk h
    exact .inl ⟨vs, sq.sq, rs.length⟩
  · cases e
def oLen : List S → Option S
  | [s] => (lenS s).map fun (n : Nat) => .d (.int n)
  | _ => none
@[simp] theorem oLen_tup {ds : List D} : oLen [.d (.tup ds)] = some (.d (.int ds.length)) := rfl
@[simp] theorem oLen_lst {ds : List D} : oLen [.m (.lst ds)] = some (.d (.int ds.length)) := rfl
@[simp] theorem oLen_lk {ds : List D} : oLen [.lk (.lst ds)] = some (.d (.int ds.length)) := rfl
theorem rr1 {K : PySem.W.Frag} {H : Hp} {s : S} {vs : List V} (h : RR K H [s] vs) : ∃ v, vs = [v] ∧ Rd1 K H s v := by
  cases h with
  | cons h t => cases t; exact ⟨_, rfl, h⟩
theorem rr2 {K : PySem.W.Frag} {H : Hp} {s s' : S} {vs : List V} (h : RR K H [s, s'] vs) : ∃ v v', vs = [v, v'] ∧ Rd1 K H s v ∧ Rd1 K H s' v' := by
  cases h with
  | cons h t => cases t with
    | cons h' t' => cases t'; exact ⟨_, _, rfl, h, h'⟩
section
variable {X : Cx}
theorem cb_len : CallOk X (.builtin "len") oLen := ⟨_, call_len, fun H vs ss s Q e rr f => by
  unfold oLen at e
  split at e
  · rename_i s0
    obtain ⟨v, rfl, h⟩ := rr1 rr
    cases q : lenS s0 with
    | none => rw [q] at e; cases e
    | some n =>
      rw [q] at e
      cases e
      exact ⟨_, n, rfl, lenS_ok q h, f.int⟩
  · cases e⟩
def oInt : List S → Option S
  | [.d (.int i)] => some (.d (.int i))
  | [.d (.bl b)] => some (.d (.int (if b then 1 else 0)))
  | _ => none
@[simp] theorem oInt_int {i : Int} : oInt [.d (.int i)] = some (.d (.int i)) := rfl
@[simp] theorem oInt_bl {b : Bool} : oInt [.d (.bl b)] = some (.d (.int (if b then 1 else 0))) := rfl
theorem ct_int : CallOk X (.type "int") oInt := ⟨_, call_int1, fun H vs ss s Q e rr f => by
  unfold oInt at e
  split at e
  · cases e
    obtain ⟨v, rfl, h⟩ := rr1 rr
    exact .inl ⟨_, by rw [rd_int h], f.int⟩
  · cases e
    obtain ⟨v, rfl, h⟩ := rr1 rr
    exact .inr ⟨_, by rw [rd_bl h], f.int⟩
  · cases e⟩
def oAbs : List S → Option S
  | [.d (.int i)] => some (.d (.int (if i < 0 then -i else i)))
  | _ => none
@[simp] theorem oAbs_int {i : Int} : oAbs [.d (.int i)] = some (.d (.int (if i < 0 then -i else i))) := rfl
theorem cb_abs : CallOk X (.builtin "abs") oAbs := ⟨_, call_abs, fun H vs ss s Q e rr f => by
  unfold oAbs at e
  split at e
  · cases e
    obtain ⟨v, rfl, h⟩ := rr1 rr
    exact ⟨_, by rw [rd_int h], f.int⟩
  · cases e⟩
def oList : List S → Option S
  | [s] => (seqOf s).map fun ds => .m (.lst ds)
  | _ => none
@[simp] theorem oList_tup {ds : List D} : oList [.d (.tup ds)] = some (.m (.lst ds)) := rfl
@[simp] theorem oList_lst {ds : List D} : oList [.m (.lst ds)] = some (.m (.lst ds)) := rfl
@[simp] theorem oList_lk {ds : List D} : oList [.lk (.lst ds)] = some (.m (.lst ds)) := rfl
theorem ct_list : CallOk X (.type "list") oList := ⟨_, call_list_of, fun H vs ss s Q e rr f => by
  unfold oList at e
  split at e
  · rename_i s
    obtain ⟨v, rfl, h⟩ := rr1 rr
    cases q : seqOf s with
    | none => rw [q] at e; cases e
    | some ds =>
      rw [q] at e
      cases e
      obtain ⟨a, vs, rfl, rs, sq⟩ := rd_seq q h
      exact ⟨a, vs, rfl, sq, fun l hl => f.lst rs hl⟩
  · cases e⟩
def oTuple : List S → Option S
  | [s] => (seqOf s).map fun ds => .d (.tup ds)
  | _ => none
@[simp] theorem oTuple_tup {ds : List D} : oTuple [.d (.tup ds)] = some (.d (.tup ds)) := rfl
@[simp] theorem oTuple_lst {ds : List D} : oTuple [.m (.lst ds)] = some (.d (.tup ds)) := rfl
@[simp] theorem oTuple_lk {ds : List D} : oTuple [.lk (.lst ds)] = some (.d (.tup ds)) := rfl
theorem ct_tuple : CallOk X (.type "tuple") oTuple := ⟨_, call_tuple_of, fun H vs ss s Q e rr f => by
  unfold oTuple at e
  split at e
  · rename_i s
    obtain ⟨v, rfl, h⟩ := rr1 rr
    cases q : seqOf s with
    | none => rw [q] at e; cases e
    | some ds =>
      rw [q] at e
      cases e
      obtain ⟨a, vs, rfl, rs, sq⟩ := rd_seq q h
      rcases sq with sq | sq
      · exact ⟨a, vs, rfl, .inl ⟨sq, fun l hl => f.tup rs hl⟩⟩
      · exact ⟨a, vs, rfl, .inr ⟨sq, f.imm (.tup sq rs)⟩⟩
  · cases e⟩
end

/-! ### sums and extremes of lists and tuples of ints -/
section
variable {prog : Program} {w : World} {A : Around} {E : Value → Shared → Prop} {s : Shared} {t : Addr} {its : List Value} {ns : List Int}
theorem iterTup {items : Array Value} {Q : Value → Shared → Prop} (ht : s.heap.IsTuple t items)
    (h : ∀ s2 : Shared, s2 = { s with heap := s.heap.push { cls := .type "tuple_iterator", data := .fields #[.ref t, .int 0 0] } } →
      (s2.heap.IsTupleIter s.heap.objs.size t 0 ∧ s2.heap.IsTuple t items) → (∀ b ∈ [s.heap.objs.size, t], b < s2.heap.objs.size) → t ≠ s.heap.objs.size → Q (.ref s.heap.objs.size) s2) : wpAny (model prog w) A (pyIter (.ref t)) Q E s := by
  have hlt : t < s.heap.objs.size := by obtain ⟨_, e, _⟩ := ht; exact Heap.lt_size e
  have ht2 : (s.heap.push { cls := .type "tuple_iterator", data := .fields #[.ref t, .int 0 0] }).IsTuple t items := by
    obtain ⟨o, e, r⟩ := ht
    exact ⟨o, Heap.get?_push_of_some _ e, r⟩
  refine wpAny_pyIter_tuple ht (h _ rfl ⟨⟨_, Heap.get?_push_size _ rfl, rfl, rfl⟩, ht2⟩ (fun b hb => ?_) (Nat.ne_of_lt hlt))
  show b < (s.heap.push _).objs.size
  rw [Heap.size_push]
  have hb : b = s.heap.objs.size ∨ b = t := by simpa using hb
  rcases hb with z | z
  · rw [z]; exact Nat.lt_succ_self _
  · rw [z]; exact Nat.lt_succ_of_lt hlt
theorem keptT {o1 : Obj} {h' : Heap} (hk : ∀ b o, b ∉ [s.heap.objs.size] → (s.heap.push o1).get? b = some o → h'.get? b = some o) : ∀ b o, s.heap.get? b = some o → h'.get? b = some o := fun b o e =>
  hk b o (fun hm => by
    have hm : b = s.heap.objs.size := by simpa using hm
    exact absurd (hm ▸ Heap.lt_size e) (Nat.lt_irrefl _)) (Heap.get?_push_of_some _ e)
theorem nums_at (hi : IntsAre its ns) {i : Nat} {v : Value} (h : its.toArray[i]? = some v) : ∃ t, v = .int (ns.getD i 0) t := by
  have r : Vals (ns.map V.int) its := vals_of_ints hi
  have h' : its[i]? = some v := by simpa using h
  obtain ⟨hl, _⟩ := List.getElem?_eq_some_iff.mp h'
  have hl2 : i < ns.length := by have := r.length; simp at this; omega
  obtain ⟨u, hu, ru⟩ := r.get (i := i) (x := .int ns[i]) (by rw [List.getElem?_map, List.getElem?_eq_getElem hl2]; rfl)
  rw [h'] at hu
  cases hu
  obtain ⟨t, e⟩ := ru
  exact ⟨t, by rw [e, List.getD_eq_getElem?_getD, List.getElem?_eq_getElem hl2]; rfl⟩
theorem preSum_take (f : Nat → Int) (ns : List Int) (h : ∀ i, i < ns.length → f i = ns.getD i 0) : ∀ k, k ≤ ns.length → preSum f k = (ns.take k).sum := by
  intro k
  induction k with
  | zero => intro _; rfl
  | succ k ih =>
    intro hk
    have hlt : k < ns.length := hk
    rw [sum_take (List.getElem?_eq_getElem hlt), ← ih (Nat.le_of_lt hlt)]
    show preSum f k + f k = _
    rw [h k hlt, List.getD_eq_getElem?_getD, List.getElem?_eq_getElem hlt]
    rfl
theorem sum_rawT {Q : Value → Shared → Prop} (hh : A.handled = none) (ht : s.heap.IsTuple t its.toArray) (hi : IntsAre its ns)
    (h : ∀ h' tk t', (∀ b o, s.heap.get? b = some o → h'.get? b = some o) → Q (.int ns.sum t') { s with heap := h', toks := tk }) : wpAny (model prog w) A (call (.builtin "sum") [.ref t]) Q E s := by
  have hlen : its.length = ns.length := by have := (vals_of_ints hi).length; simpa using this.symm
  refine call_sum_walkG (iterTup ht fun s2 e st hfp hne => ?_)
  subst e
  refine ⟨_, _, _, _, _, _, fun i => ns.getD i 0, rfl, Walks.tuple (A := A.in1) hh _ t hne its.toArray, st, hfp, fun _ _ hv => nums_at hi hv, fun h' tk t' hk => ?_⟩
  have e : preSum (fun i => ns.getD i 0) its.toArray.size = ns.sum := by
    rw [List.size_toArray, hlen, preSum_take _ ns (fun _ _ => rfl) _ (Nat.le_refl _), List.take_length]
  rw [e]
  exact h h' tk t' (keptT hk)
end
section
variable {X : Cx}
def intsOf : List D → Option (List Int)
  | [] => some []
  | .int i :: ds => (intsOf ds).map (i :: ·)
  | _ :: _ => none
@[simp] theorem intsOf_nil : intsOf [] = some [] := rfl
@[simp] theorem intsOf_cons {i : Int} {ds : List D} : intsOf (.int i :: ds) = (intsOf ds).map (i :: ·) := rfl
@[simp] theorem intsOf_map {l : List Int} : intsOf (l.map D.int) = some l := by
  induction l with
  | nil => rfl
  | cons a l ih => rw [List.map_cons, intsOf_cons, ih]; rfl
theorem intsOf_eq : ∀ {ds : List D} {ns : List Int}, intsOf ds = some ns → ds = ns.map D.int
  | [], ns, h => by cases h; rfl
  | .int i :: ds, ns, h => by
    rw [intsOf_cons] at h
    cases q : intsOf ds with
    | none => rw [q] at h; cases h
    | some l => rw [q] at h; cases h; rw [intsOf_eq q]; rfl
  | .non :: _, _, h => by cases h
  | .bl _ :: _, _, h => by cases h
  | .str _ :: _, _, h => by cases h
  | .tup _ :: _, _, h => by cases h
def intsOp (g : List Int → Option Int) : List S → Option S
  | [s] => ((seqOf s).bind intsOf).bind fun l => (g l).map fun i => .d (.int i)
  | _ => none
theorem intsOp_eq {g : List Int → Option Int} {ss : List S} {s : S} (h : intsOp g ss = some s) : ∃ x l i, ss = [x] ∧ seqOf x = some (l.map D.int) ∧ g l = some i ∧ s = .d (.int i) := by
  unfold intsOp at h
  split at h
  · rename_i x
    cases q : seqOf x with
    | none => rw [q] at h; cases h
    | some ds =>
      rw [q] at h
      have h : (intsOf ds).bind (fun l => (g l).map fun i => S.d (.int i)) = some s := h
      cases q2 : intsOf ds with
      | none => rw [q2] at h; cases h
      | some l =>
        rw [q2] at h
        have h : (g l).map (fun i => S.d (.int i)) = some s := h
        cases q3 : g l with
        | none => rw [q3] at h; cases h
        | some i =>
          rw [q3] at h
          cases h
          exact ⟨x, l, i, rfl, by rw [q, intsOf_eq q2], q3, rfl⟩
  · cases h
@[simp] theorem intsOp_tup {g : List Int → Option Int} {ds : List D} : intsOp g [.d (.tup ds)] = (intsOf ds).bind fun l => (g l).map fun i => .d (.int i) := rfl
@[simp] theorem intsOp_lst {g : List Int → Option Int} {ds : List D} : intsOp g [.m (.lst ds)] = (intsOf ds).bind fun l => (g l).map fun i => .d (.int i) := rfl
@[simp] theorem intsOp_lk {g : List Int → Option Int} {ds : List D} : intsOp g [.lk (.lst ds)] = (intsOf ds).bind fun l => (g l).map fun i => .d (.int i) := rfl
def oSum : List S → Option S := intsOp fun l => some l.sum
def rSumA (K : PySem.W.Frag) : List V → Hp → VK → Prop := fun vs H Q => ∃ (a : Addr) (ns : List Int), vs = [V.ref a] ∧ (SqL K H a (ns.map V.int) ∨ SqT K H a (ns.map V.int)) ∧ Q (.int ns.sum) H
theorem cr_sumA (hc : X.calm = true) : CallR X (.builtin "sum") (rSumA X.K) := by
  intro pins s σ H vs us Q I r h
  obtain ⟨a, ns, rfl, hs, q⟩ := h
  rcases hs with hs | hs
  · exact cr_sum hc pins s σ H _ us Q I r ⟨a, ns, rfl, hs, q⟩
  · obtain ⟨its, rv, ht, _⟩ := I.tuple hs
    rw [Vals.ref1 r]
    exact sum_rawT (I.ok.hd hc) (show s.heap.IsTuple a its.toArray from ht) rv.ints fun h' tk t' hk => ⟨.int _, H, I.kept hk, ⟨_, rfl⟩, q⟩
theorem cb_sum (hc : X.calm = true) : CallOk X (.builtin "sum") oSum := ⟨_, cr_sumA hc, fun H vs ss s Q e rr f => by
  obtain ⟨x, l, i, rfl, h1, h2, rfl⟩ := intsOp_eq e
  cases h2
  obtain ⟨v, rfl, h⟩ := rr1 rr
  obtain ⟨a, vs, rfl, rs, sq⟩ := rd_seq h1 h
  rw [RDs.of_ints rs] at sq
  exact ⟨a, l, rfl, sq, f.int⟩⟩
end
end QL
end

section
set_option Elab.async false
set_option linter.all false
set_option maxRecDepth 100000
set_option maxHeartbeats 4000000
namespace QL
open PySem PySem.Spec PyProof.Rows L2

/-! ### extremes -/
def maxL : List Int → Option Int
  | [] => none
  | x :: xs => some (xs.foldl max x)
def minL : List Int → Option Int
  | [] => none
  | x :: xs => some (xs.foldl min x)
theorem foldl_max : ∀ (xs : List Int) (x : Int), (xs.foldl max x = x ∨ xs.foldl max x ∈ xs) ∧ x ≤ xs.foldl max x ∧ ∀ y ∈ xs, y ≤ xs.foldl max x
  | [], x => ⟨.inl rfl, Int.le_refl _, fun _ h => nomatch h⟩
  | z :: xs, x => by
    obtain ⟨h1, h2, h3⟩ := foldl_max xs (max x z)
    rw [List.foldl_cons]
    refine ⟨?_, by omega, fun y hy => ?_⟩
    · rcases h1 with h1 | h1
      · rcases Int.le_total x z with q | q
        · exact .inr (by rw [h1, show max x z = z by omega]; exact List.mem_cons_self)
        · exact .inl (by rw [h1]; omega)
      · exact .inr (List.mem_cons_of_mem _ h1)
    · rcases List.mem_cons.mp hy with e | hy
      · subst e; omega
      · exact h3 y hy
theorem foldl_min : ∀ (xs : List Int) (x : Int), (xs.foldl min x = x ∨ xs.foldl min x ∈ xs) ∧ xs.foldl min x ≤ x ∧ ∀ y ∈ xs, xs.foldl min x ≤ y
  | [], x => ⟨.inl rfl, Int.le_refl _, fun _ h => nomatch h⟩
  | z :: xs, x => by
    obtain ⟨h1, h2, h3⟩ := foldl_min xs (min x z)
    rw [List.foldl_cons]
    refine ⟨?_, by omega, fun y hy => ?_⟩
    · rcases h1 with h1 | h1
      · rcases Int.le_total x z with q | q
        · exact .inl (by rw [h1]; omega)
        · exact .inr (by rw [h1, show min x z = z by omega]; exact List.mem_cons_self)
      · exact .inr (List.mem_cons_of_mem _ h1)
    · rcases List.mem_cons.mp hy with e | hy
      · subst e; omega
      · exact h3 y hy
theorem maxL_spec {l : List Int} {m : Int} (h : maxL l = some m) : m ∈ l ∧ ∀ y ∈ l, y ≤ m := by
  cases l with
  | nil => cases h
  | cons x xs =>
    cases h
    obtain ⟨h1, h2, h3⟩ := foldl_max xs x
    refine ⟨?_, fun y hy => ?_⟩
    · rcases h1 with h1 | h1
      · rw [h1]; exact List.mem_cons_self
      · exact List.mem_cons_of_mem _ h1
    · rcases List.mem_cons.mp hy with e | hy
      · rw [e]; exact h2
      · exact h3 y hy
theorem minL_spec {l : List Int} {m : Int} (h : minL l = some m) : m ∈ l ∧ ∀ y ∈ l, m ≤ y := by
  cases l with
  | nil => cases h
  | cons x xs =>
    cases h
    obtain ⟨h1, h2, h3⟩ := foldl_min xs x
    refine ⟨?_, fun y hy => ?_⟩
    · rcases h1 with h1 | h1
      · rw [h1]; exact List.mem_cons_self
      · exact List.mem_cons_of_mem _ h1
    · rcases List.mem_cons.mp hy with e | hy
      · rw [e]; exact h2
      · exact h3 y hy
theorem maxL_uniq {l : List Int} {m k : Int} (h : maxL l = some m) (h1 : k ∈ l) (h2 : ∀ y ∈ l, y ≤ k) : k = m := by
  obtain ⟨q1, q2⟩ := maxL_spec h
  have := h2 m q1
  have := q2 k h1
  omega
theorem minL_uniq {l : List Int} {m k : Int} (h : minL l = some m) (h1 : k ∈ l) (h2 : ∀ y ∈ l, k ≤ y) : k = m := by
  obtain ⟨q1, q2⟩ := minL_spec h
  have := h2 m q1
  have := q2 k h1
  omega
section
variable {prog : Program} {w : World} {A : Around} {E : Value → Shared → Prop} {s : Shared} {t : Addr} {its : List Value} {ns : List Int}
theorem max_rawT {Q : Value → Shared → Prop} (hh : A.handled = none) (ht : s.heap.IsTuple t its.toArray) (hi : IntsAre its ns) (hne : 0 < ns.length)
    (h : ∀ h' tk m t', (∀ b o, s.heap.get? b = some o → h'.get? b = some o) → m ∈ ns → (∀ a, a ∈ ns → a ≤ m) → Q (.int m t') { s with heap := h', toks := tk }) : wpAny (model prog w) A (call (.builtin "max") [.ref t]) Q E s := by
  have hlen : its.length = ns.length := by have := (vals_of_ints hi).length; simpa using this.symm
  refine call_max_walk (iterTup ht fun s2 e st hfp hne' => ?_)
  subst e
  refine ⟨_, _, _, _, _, _, _, rfl, Walks.tuple (A := A.in1) hh _ t hne' its.toArray, st, hfp, by rw [List.size_toArray, hlen]; exact hne, CmpOf.ints_gt (fun i => ns.getD i 0) (fun _ _ hv => nums_at hi hv), fun v h' tk hP hk => ?_⟩
  obtain ⟨t', rfl⟩ := nums_at hi hP
  obtain ⟨h1, h2⟩ := argBest_gt (fun i => ns.getD i 0) (its.toArray.size - 1)
  rw [List.size_toArray, hlen] at h1 h2 ⊢
  refine h h' tk _ t' (keptT hk) (PySem.getD_mem (by omega)) fun a ha => ?_
  obtain ⟨j, hj, rfl⟩ := mem_getD ha
  exact h2 j (by omega)
theorem min_rawT {Q : Value → Shared → Prop} (hh : A.handled = none) (ht : s.heap.IsTuple t its.toArray) (hi : IntsAre its ns) (hne : 0 < ns.length)
    (h : ∀ h' tk m t', (∀ b o, s.heap.get? b = some o → h'.get? b = some o) → m ∈ ns → (∀ a, a ∈ ns → m ≤ a) → Q (.int m t') { s with heap := h', toks := tk }) : wpAny (model prog w) A (call (.builtin "min") [.ref t]) Q E s := by
  have hlen : its.length = ns.length := by have := (vals_of_ints hi).length; simpa using this.symm
  refine call_min_walk (iterTup ht fun s2 e st hfp hne' => ?_)
  subst e
  refine ⟨_, _, _, _, _, _, _, rfl, Walks.tuple (A := A.in1) hh _ t hne' its.toArray, st, hfp, by rw [List.size_toArray, hlen]; exact hne, CmpOf.ints_lt (fun i => ns.getD i 0) (fun _ _ hv => nums_at hi hv), fun v h' tk hP hk => ?_⟩
  obtain ⟨t', rfl⟩ := nums_at hi hP
  obtain ⟨h1, h2⟩ := argBest_lt (fun i => ns.getD i 0) (its.toArray.size - 1)
  rw [List.size_toArray, hlen] at h1 h2 ⊢
  refine h h' tk _ t' (keptT hk) (PySem.getD_mem (by omega)) fun a ha => ?_
  obtain ⟨j, hj, rfl⟩ := mem_getD ha
  exact h2 j (by omega)
end
section
variable {X : Cx}
/-- of one list or tuple, or of two ints -/
def oMax : List S → Option S
  | [.d (.int i), .d (.int j)] => some (.d (.int (if j > i then j else i)))
  | ss => intsOp maxL ss
def oMin : List S → Option S
  | [.d (.int i), .d (.int j)] => some (.d (.int (if j < i then j else i)))
  | ss => intsOp minL ss
@[simp] theorem oMax_2 {i j : Int} : oMax [.d (.int i), .d (.int j)] = some (.d (.int (if j > i then j else i))) := rfl
@[simp] theorem oMin_2 {i j : Int} : oMin [.d (.int i), .d (.int j)] = some (.d (.int (if j < i then j else i))) := rfl
@[simp] theorem oMax_1 {s : S} : oMax [s] = intsOp maxL [s] := by
  cases s with
  | d x => cases x <;> rfl
  | m x => rfl
  | lk x => rfl
@[simp] theorem oMin_1 {s : S} : oMin [s] = intsOp minL [s] := by
  cases s with
  | d x => cases x <;> rfl
  | m x => rfl
  | lk x => rfl
def rMaxA (K : PySem.W.Frag) : List V → Hp → VK → Prop := fun vs H Q => (∃ i j, vs = [.int i, .int j] ∧ Q (.int (if j > i then j else i)) H) ∨
  ∃ (a : Addr) (ns : List Int) (m : Int), vs = [V.ref a] ∧ (SqL K H a (ns.map V.int) ∨ SqT K H a (ns.map V.int)) ∧ maxL ns = some m ∧ Q (.int m) H
def rMinA (K : PySem.W.Frag) : List V → Hp → VK → Prop := fun vs H Q => (∃ i j, vs = [.int i, .int j] ∧ Q (.int (if j < i then j else i)) H) ∨
  ∃ (a : Addr) (ns : List Int) (m : Int), vs = [V.ref a] ∧ (SqL K H a (ns.map V.int) ∨ SqT K H a (ns.map V.int)) ∧ minL ns = some m ∧ Q (.int m) H
theorem maxL_pos {ns : List Int} {m : Int} (h : maxL ns = some m) : 0 < ns.length := by cases ns with
  | nil => cases h
  | cons _ _ => exact Nat.succ_pos _
theorem minL_pos {ns : List Int} {m : Int} (h : minL ns = some m) : 0 < ns.length := by cases ns with
  | nil => cases h
  | cons _ _ => exact Nat.succ_pos _
theorem cr_maxA (hc : X.calm = true) : CallR X (.builtin "max") (rMaxA X.K) := by
  intro pins s σ H vs us Q I r h
  rcases h with h | ⟨a, ns, m, rfl, hs, hm, q⟩
  · exact call_max2 hc pins s σ H vs us Q I r h
  · rcases hs with hs | hs
    · exact cr_max hc pins s σ H _ us Q I r ⟨a, ns, rfl, hs, maxL_pos hm, fun k h1 h2 => by rw [maxL_uniq hm h1 h2]; exact q⟩
    · obtain ⟨its, rv, ht, _⟩ := I.tuple hs
      rw [Vals.ref1 r]
      exact max_rawT (I.ok.hd hc) (show s.heap.IsTuple a its.toArray from ht) rv.ints (maxL_pos hm) fun h' tk k t' hk h1 h2 => ⟨.int k, H, I.kept hk, ⟨_, rfl⟩, by rw [maxL_uniq hm h1 h2]; exact q⟩
theorem cr_minA (hc : X.calm = true) : CallR X (.builtin "min") (rMinA X.K) := by
  intro pins s σ H vs us Q I r h
  rcases h with h | ⟨a, ns, m, rfl, hs, hm, q⟩
  · exact call_min2 hc pins s σ H vs us Q I r h
  · rcases hs with hs | hs
    · exact cr_min hc pins s σ H _ us Q I r ⟨a, ns, rfl, hs, minL_pos hm, fun k h1 h2 => by rw [minL_uniq hm h1 h2]; exact q⟩
    · obtain ⟨its, rv, ht, _⟩ := I.tuple hs
      rw [Vals.ref1 r]
      exact min_rawT (I.ok.hd hc) (show s.heap.IsTuple a its.toArray from ht) rv.ints (minL_pos hm) fun h' tk k t' hk h1 h2 => ⟨.int k, H, I.kept hk, ⟨_, rfl⟩, by rw [minL_uniq hm h1 h2]; exact q⟩
theorem cb_max (hc : X.calm = true) : CallOk X (.builtin "max") oMax := ⟨_, cr_maxA hc, fun H vs ss s Q e rr f => by
  unfold oMax at e
  split at e
  · cases e
    obtain ⟨v, v', rfl, h1, h2⟩ := rr2 rr
    exact .inl ⟨_, _, by rw [rd_int h1, rd_int h2], f.int⟩
  · obtain ⟨x, l, i, rfl, h1, h2, rfl⟩ := intsOp_eq e
    obtain ⟨v, rfl, h⟩ := rr1 rr
    obtain ⟨a, vs, rfl, rs, sq⟩ := rd_seq h1 h
    rw [RDs.of_ints rs] at sq
    exact .inr ⟨a, l, i, rfl, sq, h2, f.int⟩⟩
theorem cb_min (hc : X.calm = true) : CallOk X (.builtin "min") oMin := ⟨_, cr_minA hc, fun H vs ss s Q e rr f => by
  unfold oMin at e
  split at e
  · cases e
    obtain ⟨v, v', rfl, h1, h2⟩ := rr2 rr
    exact .inl ⟨_, _, by rw [rd_int h1, rd_int h2], f.int⟩
  · obtain ⟨x, l, i, rfl, h1, h2, rfl⟩ := intsOp_eq e
    obtain ⟨v, rfl, h⟩ := rr1 rr
    obtain ⟨a, vs, rfl, rs, sq⟩ := rd_seq h1 h
    rw [RDs.of_ints rs] at sq
    exact .inr ⟨a, l, i, rfl, sq, h2, f.int⟩⟩

/-! ### all, any of lists of bools -/
def blsOf : List D → Option (List Bool)
  | [] => some []
  | .bl b :: ds => (blsOf ds).map (b :: ·)
  | _ :: _ => none
@[simp] theorem blsOf_nil : blsOf [] = some [] := rfl
@[simp] theorem blsOf_cons {i : Bool} {ds : List D} : blsOf (.bl i :: ds) = (blsOf ds).map (i :: ·) := rfl
@[simp] theorem blsOf_map {l : List Bool} : blsOf (l.map D.bl) = some l := by
  induction l with
  | nil => rfl
  | cons a l ih => rw [List.map_cons, blsOf_cons, ih]; rfl
theorem blsOf_rds {K : PySem.W.Frag} {H : Hp} : ∀ {ds : List D} {l : List Bool} {vs : List V}, blsOf ds = some l → RDs K H ds vs → vs = l.map V.bl
  | [], l, _, h, .nil => by cases h; rfl
  | .bl i :: ds, l, _, h, .cons r t => by
    rw [blsOf_cons] at h
    cases q : blsOf ds with
    | none => rw [q] at h; cases h
    | some l =>
      rw [q] at h
      cases h
      cases r
      rw [blsOf_rds q t]
      rfl
  | .non :: _, _, _, h, _ => by cases h
  | .int _ :: _, _, _, h, _ => by cases h
  | .str _ :: _, _, _, h, _ => by cases h
  | .tup _ :: _, _, _, h, _ => by cases h
def blsOp (g : List Bool → Bool) : List S → Option S
  | [.m (.lst ds)] => (blsOf ds).map fun l => .d (.bl (g l))
  | _ => none
@[simp] theorem blsOp_lst {g : List Bool → Bool} {ds : List D} : blsOp g [.m (.lst ds)] = (blsOf ds).map fun l => .d (.bl (g l)) := rfl
def oAll : List S → Option S := blsOp fun l => l.all id
def oAny : List S → Option S := blsOp fun l => l.any id
theorem blsOp_ok {g : List Bool → Bool} {K : PySem.W.Frag} : OpN K (fun vs H Q => ∃ (a : Addr) (bs : List Bool), vs = [V.ref a] ∧ SqL K H a (bs.map V.bl) ∧ Q (.bl (g bs)) H) (blsOp g) := fun H vs ss s Q e rr f => by
  unfold blsOp at e
  split at e
  · rename_i ds
    cases q : blsOf ds with
    | none => rw [q] at e; cases e
    | some l =>
      rw [q] at e
      cases e
      obtain ⟨v, rfl, h⟩ := rr1 rr
      obtain ⟨a, vs, rfl, hl, rs⟩ := rd_lst h
      rw [blsOf_rds q rs] at hl
      exact ⟨a, l, rfl, SqL.of hl, f.bl⟩
  · cases e
theorem cb_all (hc : X.calm = true) : CallOk X (.builtin "all") oAll := ⟨_, cr_all hc, blsOp_ok⟩
theorem cb_any (hc : X.calm = true) : CallOk X (.builtin "any") oAny := ⟨_, cr_any hc, blsOp_ok⟩

/-! ### in a list or tuple of flat things -/
def flV : D → Option V
  | .non => some .non
  | .bl b => some (.bl b)
  | .int i => some (.int i)
  | .str z => some (.str z)
  | .tup _ => none
@[simp] theorem flV_int {i : Int} : flV (.int i) = some (.int i) := rfl
@[simp] theorem flV_str {i : Str} : flV (.str i) = some (.str i) := rfl
@[simp] theorem flV_non : flV .non = some .non := rfl
@[simp] theorem flV_bl {b : Bool} : flV (.bl b) = some (.bl b) := rfl
theorem flV_rd {K : PySem.W.Frag} {H : Hp} {x : D} {v u : V} (h : flV x = some u) (r : RD K H x v) : v = u ∧ L2.flatV v = true := by
  cases r <;> cases h <;> exact ⟨rfl, rfl⟩
def flVs : List D → Option (List V)
  | [] => some []
  | x :: xs => match flV x, flVs xs with
    | some v, some vs => some (v :: vs)
    | _, _ => none
theorem flVs_rd {K : PySem.W.Frag} {H : Hp} : ∀ {ds : List D} {us vs : List V}, flVs ds = some us → RDs K H ds vs → vs = us ∧ vs.all L2.flatV = true
  | [], us, _, h, .nil => by cases h; exact ⟨rfl, rfl⟩
  | x :: ds, us, _, h, .cons r t => by
    unfold flVs at h
    split at h
    · rename_i h1 h2
      cases h
      obtain ⟨e1, f1⟩ := flV_rd h1 r
      obtain ⟨e2, f2⟩ := flVs_rd h2 t
      subst e1 e2
      exact ⟨rfl, by rw [List.all_cons, f1, f2]; rfl⟩
    · cases h
def inK (neg : Bool) (v : Option V) (vs : Option (List V)) : Option S := match v, vs with
  | some v, some vs => some (.d (.bl (if neg then !L2.inV v vs else L2.inV v vs)))
  | _, _ => none
@[simp] theorem inK_some {neg : Bool} {v : V} {vs : List V} : inK neg (some v) (some vs) = some (.d (.bl (if neg then !L2.inV v vs else L2.inV v vs))) := rfl
def oInB (neg : Bool) (x y : S) : Option S := match x with
  | .d x => inK neg (flV x) ((seqOf y).bind flVs)
  | _ => none
def oIn : S → S → Option S := oInB false
def oNin : S → S → Option S := oInB true
theorem op2_in {neg : Bool} {K : PySem.W.Frag} : Op2 K (rIn K neg) (oInB neg) := by
  intro H x y sx sy s Q e hx hy f
  unfold oInB at e
  split at e
  · rename_i x0
    unfold inK at e
    split at e
    · rename_i u us h1 h2
      cases e
      cases q : seqOf sy with
      | none => rw [q] at h2; cases h2
      | some ds =>
        rw [q] at h2
        have h2 : flVs ds = some us := h2
        obtain ⟨a, vs, rfl, rs, sq⟩ := rd_seq q hy
        obtain ⟨P, rx⟩ := hx
        obtain ⟨e1, f1⟩ := flV_rd h1 rx
        obtain ⟨e2, f2⟩ := flVs_rd h2 rs
        subst e1 e2
        exact ⟨a, vs, rfl, sq, f1, f2, f.bl⟩
    · cases e
  · cases e
theorem qc_in : CmpOk X .In oIn := ⟨_, op_in_seq, op2_in⟩
theorem qc_nin : CmpOk X .NotIn oNin := ⟨_, op_notIn_seq, op2_in⟩
end

/-! ### a slot's list is written -/
/-- the list of slot i, at a, holds ys now -/
theorem RE.put {K : PySem.W.Frag} {H : Hp} {σ : Sl} {env : En} {W : Ow} {i : Nat} {xs ys : List D} {a : Addr} {vs ws : List V} (r : RE K H σ env W) (hi : env[i]? = some (some (.m (.lst xs)))) (hσ : σ[i]? = some (some (.ref a))) (hW : W i a) (hH : H a = some (.lst vs)) (rs : RDs K H ys ws) :
    RE K (upd H a (.lst ws)) σ (env.set i (some (.m (.lst ys)))) W := by
  have pU : Pst H (upd H a (.lst ws)) := fun b zs h => by
    have nb : b ≠ a := fun z => by
      subst z
      rcases h with h | ⟨o, h⟩ <;> (rw [hH] at h; cases h)
    unfold Rd
    rw [upd_ne nb]
    exact h
  have t : Tr (fun (k : Nat) b => k = i ∧ W i b) H (fun (k : Nat) b => k = i ∧ W i b) (upd H a (.lst ws)) F0 :=
    ⟨fun b o e hn => by rw [upd_ne fun z => hn ⟨i, rfl, by rw [z]; exact hW⟩]; exact e, fun b e => by
      by_cases hb : b = a
      · subst hb; rw [upd_same]; simp
      · rw [upd_ne hb]; exact e, fun b _ hn => ⟨hn, fun z => z⟩⟩
  refine ⟨fun j s e => ?_, r.apart, fun j b z => ?_, by rw [List.length_set]; exact r.len⟩
  · by_cases hj : j = i
    · subst hj
      have hl : j < env.length := (List.getElem?_eq_some_iff.mp hi).1
      rw [List.getElem?_set_self hl] at e
      cases e
      exact ⟨_, hσ, a, ws, rfl, hW, upd_same, RDs.pst pU rs⟩
    · rw [List.getElem?_set_ne (Ne.symm hj)] at e
      obtain ⟨v, q1, q2⟩ := r.slots j s e
      exact ⟨v, q1, RS.keep (fun _ b z => r.mu i b z.2) t q2 fun b z ⟨k, _, y⟩ => hj (r.apart j i b z y)⟩
  · by_cases hb : b = a
    · subst hb; rw [upd_same]; trivial
    · rw [upd_ne hb]; exact r.mu j b z
theorem Tr.put {H : Hp} {W : Ow} {i : Nat} {a : Addr} {ws : List V} (hW : W i a) : Tr W H W (upd H a (.lst ws)) F0 :=
  ⟨fun b o e hn => by rw [upd_ne fun z => hn ⟨i, by rw [z]; exact hW⟩]; exact e, fun b e => by
      by_cases hb : b = a
      · subst hb; rw [upd_same]; simp
      · rw [upd_ne hb]; exact e, fun b _ hn => ⟨hn, fun z => z⟩⟩
/-- what a method makes of a list's items: its result, the items behind it -/
abbrev MtO := List D → List S → Option (D × List D)
def mtK2 (i : Nat) (z : Option (D × List D)) (e : En) : Option (Arg × En) := match z with
  | some p => some (.val (.d p.1), e.set i (some (.m (.lst p.2))))
  | none => none
@[simp] theorem mtK2_some {i : Nat} {x : D} {ys : List D} {e : En} : mtK2 i (some (x, ys)) e = some (.val (.d x), e.set i (some (.m (.lst ys)))) := rfl
def mtK (i : Nat) (o : MtO) (x : Option (Option S)) (ss : Option (List S)) (e : En) : Option (Arg × En) := match x, ss with
  | some (some (.m (.lst xs))), some ss => mtK2 i (o xs ss) e
  | _, _ => none
@[simp] theorem mtK_lst {i : Nat} {o : MtO} {xs : List D} {ss : List S} {e : En} : mtK i o (some (some (.m (.lst xs)))) (some ss) e = mtK2 i (o xs ss) e := rfl
def fMt1 (i : Nat) (o : MtO) (as : List Arg) (e : En) : Option (Arg × En) := mtK i o e[i]? (gets as e) e
def mtG (i : Nat) (o : MtO) (fs : Fn1 (List Arg)) (x : Option (Option S)) (e : En) : Option (Arg × En) := match x with
  | some (some (.m (.lst _))) => bnd (fs e) (fMt1 i o)
  | _ => none
@[simp] theorem mtG_lst {i : Nat} {o : MtO} {fs : Fn1 (List Arg)} {xs : List D} {e : En} : mtG i o fs (some (some (.m (.lst xs)))) e = bnd (fs e) (fMt1 i o) := rfl
def fMt (i : Nat) (o : MtO) (fs : Fn1 (List Arg)) : Fn1 Arg := fun e => mtG i o fs e[i]? e
/-- the method's rule: from the list at a with the values vs -/
structure MtOk (X : Cx) (id : String) (o : MtO) : Prop where
  ex : ∃ r, L2.MtR X id r ∧ ∀ H a vs us xs ss x ys Q, o xs ss = some (x, ys) → H a = some (.lst vs) → RDs X.K H xs vs → RR X.K H ss us → (∀ v ws, RD X.K (upd H a (.lst ws)) x v → RDs X.K H ys ws → Q v (upd H a (.lst ws))) → r (.ref a) us H Q
section
variable {X : Cx} {e : Expr} {es : List Expr} {fs : Fn1 (List Arg)} {o : MtO} {name : Str} {id : String}
theorem mt_read {K : PySem.W.Frag} {i : Nat} {r : V → List V → Hp → VK → Prop} {σ : Sl} {H : Hp} {Q : VK}
    (hr : ∀ H a vs us xs ss x ys Q, o xs ss = some (x, ys) → H a = some (.lst vs) → RDs K H xs vs → RR K H ss us → (∀ v ws, RD K (upd H a (.lst ws)) x v → RDs K H ys ws → Q v (upd H a (.lst ws))) → r (.ref a) us H Q)
    (h : tE K (fMt i o fs) σ H Q) : tVar i σ H fun x H1 => tyV K "list" x H1 ∧ tA K fs σ H1 fun xs H2 => r x xs H2 Q := by
  obtain ⟨env, W, z, env3, re, e, k⟩ := h
  unfold fMt mtG at e
  split at e
  · rename_i xs0 hx0
    obtain ⟨as, env2, ea, e⟩ := bnd_eq e
    obtain ⟨v, s1, a, vs0, rfl, pa, hH0, _⟩ := re.slots i _ hx0
    refine ⟨.ref a, s1, .inl ⟨rfl, vs0, SqL.of hH0⟩, env, W, as, env2, re, ea, fun us H2 W2 Fs r2 ras t2 => ?_⟩
    unfold fMt1 mtK at e
    split at e
    · rename_i xs ss hx hss
      unfold mtK2 at e
      split at e
      · rename_i p hp
        cases e
        obtain ⟨v', q1, a', vs, rfl, pa', hH, rs⟩ := r2.slots i _ hx
        rw [s1] at q1
        cases q1
        refine hr H2 a vs us xs ss p.1 p.2 Q hp hH rs (ras.read r2 hss) fun v ws rv rws => ?_
        have re3 := r2.put hx s1 pa' hH rws
        exact k v _ W2 F0 re3 rv Tm.zero ((t2.trans0 (Tr.put pa')).less fun _ z => z)
      · cases e
    · cases e
  · cases e
variable {i : Nat} {x : Str} {apos cpos p : Pos}
theorem qx_mt (c : MtOk X id o) (pa : PlainAttrs "list") (slot : Slot "list" name id) (hty : typeOf (.builtin id) = pure (.type "method_descriptor")) (ha : PXA X (e :: es) fs) (hN : X.N[i]? = some x := by rfl) (hv : Vis X.env.scope x := by first | exact Or.inl rfl | exact Or.inr (Or.inl rfl) | exact Or.inr (Or.inr rfl))
    (hd : (x == ("__debug__" : Str)) = false := by decide) (hcd : (x == ("__classdict__" : Str)) = false := by decide)
    (hbase : attributeBase (.Name x p) name X.env (eval (.Name x p) X.env) = eval (.Name x p) X.env := by rfl)
    (hfew : ((backTo cpos (starEach (e :: es) X.env)).all (fun x => !x.1) && (backToKw cpos (keywordEach [] X.env)).all (fun x => x.1.isSome)
      && decide ((e :: es).length + ([] : List Keyword).length + (if ([] : List Keyword).isEmpty then 0 else 1) < 30)) = true := by rfl)
    (hline : (apos.endLine == cpos.line) = true := by rfl) (hs : starEach (e :: es) X.env = (false, eval e X.env) :: starEach es X.env := by rfl) (hplain : (backTo cpos (starEach es X.env)).any (·.1) = false := by rfl) :
    PX X (.Call (.Attribute (.Name x p) name apos) (e :: es) [] cpos) (fMt i o fs) :=
  let ⟨_, h1, h2⟩ := c.ex
  PE.imp (pe_bm pa slot hty h1 (pe_var hN hv hd hcd) ha hbase hfew hline hs hplain) fun σ H Q h => mt_read h2 h
theorem qx_mt0 (c : MtOk X id o) (pa : PlainAttrs "list") (slot : Slot "list" name id) (hty : typeOf (.builtin id) = pure (.type "method_descriptor")) (hN : X.N[i]? = some x := by rfl) (hv : Vis X.env.scope x := by first | exact Or.inl rfl | exact Or.inr (Or.inl rfl) | exact Or.inr (Or.inr rfl))
    (hd : (x == ("__debug__" : Str)) = false := by decide) (hcd : (x == ("__classdict__" : Str)) = false := by decide)
    (hbase : attributeBase (.Name x p) name X.env (eval (.Name x p) X.env) = eval (.Name x p) X.env := by rfl) (hline : (apos.endLine == cpos.line) = true := by rfl) :
    PX X (.Call (.Attribute (.Name x p) name apos) [] [] cpos) (fMt i o fNil) :=
  let ⟨_, h1, h2⟩ := c.ex
  PE.imp (pe_bm0 pa slot hty h1 (pe_var hN hv hd hcd) hbase hline) fun σ H Q h => by
    obtain ⟨v, q1, q2, env, W, as, env', re, e, k⟩ := mt_read h2 h
    cases e
    exact ⟨v, q1, q2, k [] H W [] re .nil (Tr.refl.less fun b z => z)⟩
def oAppend : MtO := fun xs ss => match ss with
  | [.d y] => if xs.length < sizeLine then some (.non, xs ++ [y]) else none
  | _ => none
@[simp] theorem oAppend_d {xs : List D} {y : D} : oAppend xs [.d y] = if xs.length < sizeLine then some (.non, xs ++ [y]) else none := rfl
theorem cm_append : MtOk X "list.append" oAppend := ⟨_, mt_append, fun H a vs us xs ss x ys Q e hH rs rr k => by
  unfold oAppend at e
  split at e
  · split at e
    · rename_i hz
      cases e
      obtain ⟨v, rfl, P, h⟩ := rr1 rr
      exact ⟨a, vs, v, rfl, rfl, hH, by rw [← rs.length]; exact hz, k _ _ .non (rs.append (.cons h .nil))⟩
    · cases e
  · cases e⟩
end
end QL
end

section
set_option Elab.async false
set_option linter.all false
set_option maxRecDepth 100000
set_option maxHeartbeats 4000000
namespace QL
open PySem PySem.Spec PyProof.Rows L2

/-! ### enumerate of a tuple -/
section
open AutoSeq1 (wpAny_loadPart')
theorem meets_enumB {v : Value} {o1 : Obj} {G1 : Heap → Prop} (B : Begins v o1 G1) :
    Meets (Builtin.«enumerate.__new__» ⟨[.type "enumerate", v], []⟩) (fun _ R s => G1 s.heap ∧
      R (.ok (.ret (.ref (s.heap.push o1).objs.size))) { s with heap := (s.heap.push o1).push { cls := .type "enumerate", data := .fields #[.none, .bool false, .ref s.heap.objs.size, rawInt 0, .none, .none] } }) :=
  .of_wp fun prog w A R s h => by
    obtain ⟨hp, g, d, tk, os⟩ := s
    obtain ⟨h1, h⟩ := h
    have hsub := sub_enumerate
    have q1 : ∀ {A' : Around} {E Q : Value → Shared → Prop}, Q (.ref hp.objs.size) ⟨(hp.push o1), g, d, tk, os⟩ → wpAny (model prog w) A' (pyIter v) Q E ⟨hp, g, d, tk, os⟩ :=
      fun q => B.iter prog w _ _ ⟨hp, g, d, tk, os⟩ _ h1 q
    wp_walk
    refine wpAny_stack_any fun st => wpAny_pure ?_
    split
    · rename_i c _ _ _ _ _
      cases (c == Value.type "enumerate")
      all_goals
        wp_walk using q1
        exact ⟨_, rfl, h⟩
    · wp_walk using q1
      exact ⟨_, rfl, h⟩
end
section
variable {prog : Program} {w : World} {A : Around} {E : Value → Shared → Prop} {s : Shared}
theorem call_enumT {t : Addr} {items : Array Value} {Q : Value → Shared → Prop} (ht : s.heap.IsTuple t items)
    (h : ∀ h', IsEnum h' (s.heap.objs.size + 1) s.heap.objs.size 0 .none → h'.IsTupleIter s.heap.objs.size t 0 → h'.objs.size = s.heap.objs.size + 2 →
      (∀ b o, s.heap.get? b = some o → h'.get? b = some o) → Q (.ref (s.heap.objs.size + 1)) { s with heap := h' }) : wpAny (model prog w) A (call (.type "enumerate") [.ref t]) Q E s := by
  refine callType_new F.called_enumerate (by decide) (F.typeCall_enumerate_1 _) (F.newCall_enumerate_1 _) (fun obj => F.args_object_init_2 obj _) F.entry_enumerate_new
    (meets_enumB (begins_tuple t items)) ⟨ht, ?_⟩
  generalize e1 : ({ cls := .type "tuple_iterator", data := .fields #[.ref t, .int 0 0] } : Obj) = o1
  have f1 : o1.isFreed = false := by rw [← e1]; rfl
  generalize e2 : ({ cls := .type "enumerate", data := .fields #[.none, .bool false, .ref s.heap.objs.size, rawInt 0, .none, .none] } : Obj) = o2
  have hz : (s.heap.push o1).objs.size = s.heap.objs.size + 1 := Heap.size_push ..
  have he : ((s.heap.push o1).push o2).get? (s.heap.objs.size + 1) = some o2 := by
    have := Heap.get?_push_size (s.heap.push o1) (o := o2) (by rw [← e2]; rfl)
    rw [hz] at this
    exact this
  have hi : ((s.heap.push o1).push o2).get? s.heap.objs.size = some o1 := Heap.get?_push_of_some _ (Heap.get?_push_size _ f1)
  show _ ∧ _
  rw [hz]
  rw [← e2] at he
  rw [← e1] at hi
  subst e1 e2
  exact ⟨⟨_, he, rfl⟩, h _ he ⟨_, hi, rfl, rfl⟩ (by rw [Heap.size_push, hz]) fun b o x => Heap.get?_push_of_some _ (Heap.get?_push_of_some _ x)⟩
end
def IteT (K : PySem.W.Frag) (a : Addr) : It :=
  ⟨fun i H => ∃ (xs : List V) (x : V), SqT K H a xs ∧ xs[i]? = some x, fun i H v H' => ∃ T x, v = .ref T ∧ H T = none ∧ H' = upd H T (.tup [.int (i : Nat), x]) ∧ ∀ xs, SqT K H a xs → xs[i]? = some x, fun i H => ∃ xs : List V, SqT K H a xs ∧ xs.length ≤ i⟩
theorem turn_enumT {P : Program} {w : World} {K : PySem.W.Frag} {elts : List Expr} {kk : Nat} {tpos : Pos} (a e it : Addr) :
    Turn P w K (.Tuple elts kk tpos) (IteT K a) [e, it] e (fun i h => (∃ old, IsEnum h e it ((i : Nat) : Int) old) ∧ h.IsTupleIter it a i ∧ e ≠ it ∧ a ≠ it ∧ e ≠ a) where
  mem := by simp
  obj := fun i h st b hb => by
    obtain ⟨⟨old, he⟩, ⟨o, ho, hc, hd⟩, _⟩ := st
    rcases (by simpa using hb : b = e ∨ b = it) with z | z
    · subst z
      exact ⟨_, he, fun v q => nomatch q⟩
    · subst z
      exact ⟨o, ho, fun v q => by rw [hd] at q; cases q⟩
  keep := fun i h h' st k => let ⟨⟨old, he⟩, hi, hne⟩ := st; ⟨⟨old, k e (by simp) _ he⟩, hi.at fun o q => k it (by simp) o q, hne⟩
  item := by
    intro X hP hw hK hc i pins s σ H E I hf st hg
    subst hP hw hK
    obtain ⟨⟨old, he⟩, hit, hne, hai, hea⟩ := st
    obtain ⟨xs, x, hq, hx⟩ := hg
    obtain ⟨its, rv, tp, hz⟩ := I.tuple hq
    obtain ⟨u, hu, ru⟩ := rv.get hx
    have hel : e < s.heap.objs.size := Heap.lt_size he
    have hil : it < s.heap.objs.size := by obtain ⟨_, q, _⟩ := hit; exact Heap.lt_size q
    have tpl : s.heap.IsTuple a its.toArray := tp
    have hlt : i < its.toArray.size := by
      have := (List.getElem?_eq_some_iff.mp hu).1
      simpa using this
    refine wpAny_pyNext_enum_itemD (Draws.tuple (A := X.A.in1) (I.ok.hd hc) it a hai its.toArray) he ⟨hit, tpl⟩ hlt hne (by simp [hne, hea]) fun y h' tk hy ho hst' hT hsz hk => ?_
    have ey : y = u := by
      have hu' : its.toArray[i]? = some u := by simpa using hu
      rw [hu'] at hy
      exact (Option.some.inj hy).symm
    subst ey
    refine ⟨_, rfl, wpAny_letOwnedTupleGo_enum (s := { s with heap := h', toks := tk + 1 }) ho fun h2 he' sb => ?_⟩
    have hT2 : h2.get? s.heap.objs.size = some { cls := .type "tuple", data := .seq #[.int i tk, y] } := (sb.2 _ (Nat.ne_of_gt hel)).trans hT
    have new : ObjOk X.prog X.w (upd H s.heap.objs.size (.tup [.int (i : Nat), x])) h2 s.heap.objs.size (.tup [.int (i : Nat), x]) :=
      ⟨(by show 2 ≤ sizeLine; decide), [.int i tk, y], .cons ⟨_, rfl⟩ (.cons ru .nil), ⟨_, hT2, rfl, _, rfl⟩⟩
    have I1 : Inv X pins σ (upd H s.heap.objs.size (.tup [.int (i : Nat), x])) { s with heap := h2, toks := tk + 1 } :=
      I.turnedNew (ch := [e, it]) (fun b ob hb q => (sb.2 b (fun z => hb (by simp [z]))).trans (hk b ob (fun z => hb (by simp [z])) (fun z => hb (by simp [z])) q)) hf (Nat.le_refl _) new
    refine ⟨.ref s.heap.objs.size, _, I1, rfl, ⟨_, x, rfl, I.hok.fresh (Nat.le_refl _), rfl, fun ys hy => by rw [I.tuple_inj hy hq]; exact hx⟩, ⟨⟨y, ?_⟩, hst'.1.at fun o q => (sb.2 it (Ne.symm hne)).trans q, hne, hai, hea⟩, fun b hb => ?_⟩
    · rw [show ((i + 1 : Nat) : Int) = (i : Int) + 1 by omega]
      exact he'
    · have hb' : b < s.heap.objs.size := by
        rcases (by simpa using hb : b = e ∨ b = it) with z | z
        · rw [z]; exact hel
        · rw [z]; exact hil
      rw [upd_ne (Nat.ne_of_lt hb')]
      exact (hf b hb).1
  done := by
    intro X hP hw hK hc i pins s σ H E I hf st hg
    subst hP hw hK
    obtain ⟨⟨old, he⟩, hit, hne, hai, hea⟩ := st
    obtain ⟨xs, hq, hx⟩ := hg
    obtain ⟨its, rv, tp, hz⟩ := I.tuple hq
    obtain ⟨f0, f1, f2, f3, f4, f5⟩ := hf it (by simp)
    have hl := rv.length
    have tpl : s.heap.IsTuple a its.toArray := tp
    exact wpAny_pyNext_enum_endD (St := fun j h => (j = its.toArray.size ∧ h.IsTupleIter it a i ∧ h.IsTuple a its.toArray)) (n := its.toArray.size) (P := fun _ _ => True) (fp := [it, a])
      { live := fun _ _ st => let ⟨o, ho, _⟩ := st.2.1; ⟨o, ho⟩
        frame := fun _ _ _ st hk => ⟨st.1, st.2.1.at fun o e => hk it (by simp) o e, st.2.2.at fun o e => hk a (by simp) o e⟩
        item := fun j s Q E hi st _ => absurd hi (by rw [st.1]; exact Nat.lt_irrefl _)
        done := fun s Q E st hE => wpAny_nextOf_tuple_end (I.ok.hd hc) st.2.1 st.2.2 (by simp; omega) hE } he ⟨rfl, hit, tpl⟩ fun h' eb => ⟨rfl, I.turned (t' := s.toks) (fun b o hb q => eb b o hb q) f0 f1 f3 f4 f5⟩
  self := fun A i s Q E st h => let ⟨⟨_, he⟩, _⟩ := st; wpAny_pyIter_enum he h
def iEnumA (K : PySem.W.Frag) (ta : TA) : TI := fun σ H R => ta σ H fun vs H1 => ∃ a, vs = [.ref a] ∧ (((∃ xs, SqL K H1 a xs) ∧ R (Ite K a) H1) ∨ ((∃ xs, SqT K H1 a xs) ∧ R (IteT K a) H1))
section
variable {X : Cx} {e : Expr} {ta : TA} {p pos tpos : Pos} {elts : List Expr} {kk : Nat}
theorem pi_enumA (hg : Gl X "enumerate") (hm : X.mg "enumerate" = none) (ha : PA X [e] ta) (hs : starEach [e] X.env = [(false, eval e X.env)] := by rfl) :
    PI X (.Tuple elts kk tpos) (.Call (.Name "enumerate" p) [e] [] pos) (iEnumA X.K ta) := by
  refine ⟨fun pins s σ H R I h' => ?_⟩
  refine Call_ (ld_blt I hg hm boot_enumerate (PyProof.Rows.callWith_type1 (thn (ha.run pos pins s σ H _ I h') fun us s1 ⟨vs, H1, I1, r1, q1⟩ => ?_) hs rfl))
  obtain ⟨a, ex, q1⟩ := q1
  subst ex
  rw [Vals.ref1 r1]
  rcases q1 with ⟨⟨xs, hq⟩, q⟩ | ⟨⟨xs, hq⟩, q⟩
  · obtain ⟨its, rv, p', hz⟩ := I1.list hq
    refine call_enumerate_list p'.isList fun h' he hit hsz hk => wpAny_pyIter_enum he ?_
    refine ⟨s1.heap.objs.size + 1, [s1.heap.objs.size + 1, s1.heap.objs.size], _, _, H1, rfl, I1.kept (t' := s1.toks) hk, turn_enum a (s1.heap.objs.size + 1) s1.heap.objs.size, ⟨⟨.none, he⟩, hit, Nat.succ_ne_self _⟩, fun b hb => ?_, q⟩
    have hle : s1.heap.objs.size ≤ b := by
      rcases (by simpa using hb : b = s1.heap.objs.size + 1 ∨ b = s1.heap.objs.size) with z | z
      · rw [z]; exact Nat.le_succ _
      · rw [z]; exact Nat.le_refl _
    exact I1.fpOk hle (I1.hok.fresh hle)
  · obtain ⟨its, rv, tp, hz⟩ := I1.tuple hq
    have hal : a < s1.heap.objs.size := by obtain ⟨o, e, _⟩ := tp; exact Heap.lt_size e
    refine call_enumT (show s1.heap.IsTuple a its.toArray from tp) fun h' he hit hsz hk => wpAny_pyIter_enum he ?_
    refine ⟨s1.heap.objs.size + 1, [s1.heap.objs.size + 1, s1.heap.objs.size], _, _, H1, rfl, I1.kept (t' := s1.toks) hk, turn_enumT a (s1.heap.objs.size + 1) s1.heap.objs.size, ⟨⟨.none, he⟩, hit, Nat.succ_ne_self _, Nat.ne_of_lt hal, Nat.ne_of_gt (Nat.lt_succ_of_lt hal)⟩, fun b hb => ?_, q⟩
    have hle : s1.heap.objs.size ≤ b := by
      rcases (by simpa using hb : b = s1.heap.objs.size + 1 ∨ b = s1.heap.objs.size) with z | z
      · rw [z]; exact Nat.le_succ _
      · rw [z]; exact Nat.le_refl _
    exact I1.fpOk hle (I1.hok.fresh hle)
/-- number and item, in pairs -/
def pairsE : Nat → List D → List D
  | _, [] => []
  | k, x :: xs => .tup [.int k, x] :: pairsE (k + 1) xs
@[simp] theorem pairsE_nil {k : Nat} : pairsE k [] = [] := rfl
theorem pairsE_cons {k : Nat} {x : D} {xs : List D} : pairsE k (x :: xs) = .tup [.int k, x] :: pairsE (k + 1) xs := rfl
theorem pairsE_length : ∀ {k : Nat} {xs : List D}, (pairsE k xs).length = xs.length
  | _, [] => rfl
  | k, x :: xs => by rw [pairsE_cons, List.length_cons, List.length_cons, pairsE_length]
theorem pairsE_at : ∀ {xs : List D} {k i : Nat} {x : D}, xs[i]? = some x → (pairsE k xs)[i]? = some (.tup [.int (k + i : Nat), x])
  | [], _, i, _, h => by simp at h
  | y :: ys, k, 0, x, h => by
    simp at h
    subst h
    rfl
  | y :: ys, k, i + 1, x, h => by
    rw [pairsE_cons, List.getElem?_cons_succ, pairsE_at (k := k + 1) (by simpa using h)]
    rw [show k + 1 + i = k + (i + 1) by omega]
def itEn1 (as : List Arg) (e : En) : Option (List D × En) := match as with
  | [a] => itK ((itemsA a e).map (pairsE 0)) e
  | _ => none
@[simp] theorem itEn1_one {a : Arg} {e : En} : itEn1 [a] e = itK ((itemsA a e).map (pairsE 0)) e := rfl
def itEn (fs : Fn1 (List Arg)) : Fn1 (List D) := fun e => bnd (fs e) itEn1
theorem pair_rd {K : PySem.W.Frag} {H : Hp} {T : Addr} {i : Nat} {v : V} {x : D} (n : H T = none) (r : RD K H x v) : RD K (upd H T (.tup [.int (i : Nat), v])) (.tup [.int (i : Nat), x]) (.ref T) :=
  .tup (SqT.of upd_same) (.cons (.int _) (.cons (RD.pst (Same.pst (same_new n)) r) .nil))
theorem walkD_en {K : PySem.W.Frag} {a : Addr} {vs : List V} {xs : List D} {H0 : Hp} {σ : Sl} {env : En} {W0 : Ow} (r : RE K H0 σ env W0) (h : ∀ H, Gd H0 W0 H → SqL K H a vs) (rs : RDs K H0 xs vs) : WalkD K (Ite K a) (pairsE 0 xs) H0 W0 := by
  refine ⟨_, (by rw [pairsE_length, rs.length]; exact walk_enum.mono h (fun i H x H' _ _ y => y) : Walk (Ite K a) (pairsE 0 xs).length (Gd H0 W0) _), fun i H x H' hi g y => ?_⟩
  obtain ⟨T, x1, x2, rfl, nT, rfl, e1, e2⟩ := y
  cases e1
  obtain ⟨d, h1, h2⟩ := rs.getV e2
  exact ⟨same_new nT, _, pairsE_at h1, by rw [Nat.zero_add]; exact pair_rd nT (RD.pst (Gd.pst r g) h2)⟩
theorem walkD_enT {K : PySem.W.Frag} {a : Addr} {vs : List V} {xs : List D} {H0 : Hp} {σ : Sl} {env : En} {W0 : Ow} (r : RE K H0 σ env W0) (h : SqT K H0 a vs) (rs : RDs K H0 xs vs) : WalkD K (IteT K a) (pairsE 0 xs) H0 W0 := by
  have hl : (pairsE 0 xs).length = vs.length := by rw [pairsE_length, rs.length]
  refine ⟨fun i H v H' => ∃ T x, v = .ref T ∧ H T = none ∧ H' = upd H T (.tup [.int (i : Nat), x]) ∧ vs[i]? = some x, ⟨fun i H hi g => ?_, fun H g => ⟨vs, (Gd.pst r g).seq h, by omega⟩, fun i H x H' hi g y => ?_⟩, fun i H x H' hi g y => ?_⟩
  · have hi' : i < vs.length := by omega
    exact ⟨vs, vs[i], (Gd.pst r g).seq h, List.getElem?_eq_getElem hi'⟩
  · obtain ⟨T, x1, e1, nT, e2, f⟩ := y
    exact ⟨T, x1, e1, nT, e2, f vs ((Gd.pst r g).seq h)⟩
  · obtain ⟨T, x1, rfl, nT, rfl, e2⟩ := y
    obtain ⟨d, h1, h2⟩ := rs.getV e2
    exact ⟨same_new nT, _, pairsE_at h1, by rw [Nat.zero_add]; exact pair_rd nT (RD.pst (Gd.pst r g) h2)⟩
theorem qi_enum {fa : Fn1 Arg} (hg : Gl X "enumerate") (hm : X.mg "enumerate" = none) (ha : PXA X [e] (fCons fa fNil)) (hs : starEach [e] X.env = [(false, eval e X.env)] := by rfl) :
    PXI X (.Tuple elts kk tpos) (.Call (.Name "enumerate" p) [e] [] pos) (itEn (fCons fa fNil)) := PI.imp (pi_enumA hg hm ha hs) fun σ H R h => by
  obtain ⟨env, W, xs, env', re, e, k⟩ := h
  obtain ⟨as, env1, ea, e⟩ := bnd_eq e
  refine ⟨env, W, as, env1, re, ea, fun vs H1 W1 Fs r1 ras t => ?_⟩
  obtain ⟨a, e1, ea1, ea⟩ := bnd_eq ea
  obtain ⟨as', e2, ea2, ea⟩ := bnd_eq ea
  cases ea2
  cases ea
  cases ras with
  | cons ra tm d ras =>
    cases ras
    rw [itEn1_one] at e
    cases q : itemsA a env1 with
    | none => rw [q] at e; cases e
    | some ds =>
      rw [q] at e
      cases e
      obtain ⟨p, ws, ev, rs, q2⟩ := items_read r1 ra tm q
      refine ⟨p, by rw [ev], ?_⟩
      have t0 := t.less (G := F0) fun _ z => z.elim
      rcases q2 with q2 | q2
      · exact .inl ⟨⟨ws, q2 H1 fun _ _ e _ => e⟩, k _ H1 W1 r1 t0 (walkD_en r1 q2 rs)⟩
      · exact .inr ⟨⟨ws, q2⟩, k _ H1 W1 r1 t0 (walkD_enT r1 q2 rs)⟩
end

/-! ### range downwards -/
def dwnL (hi : Int) (n : Nat) : List D := (List.range n).map fun (k : Nat) => D.int (hi + (k : Int) * (-1))
theorem dwnL_at {lo : Int} {n i : Nat} (h : i < n) : (dwnL lo n)[i]? = some (D.int (lo + (i : Int) * (-1))) := by
  unfold dwnL
  rw [List.getElem?_map, List.getElem?_range h]
  rfl
theorem dwnL_length {lo : Int} {n : Nat} : (dwnL lo n).length = n := by unfold dwnL; simp
def dwnK : Option (List S) → Option (List D)
  | some [.d (.int i), .d (.int j), .d (.int c)] => if smallI i = true ∧ smallI j = true ∧ c = -1 then some (dwnL i (i - j).toNat) else none
  | _ => none
@[simp] theorem dwnK_3 {i j c : Int} : dwnK (some [.d (.int i), .d (.int j), .d (.int c)]) = if smallI i = true ∧ smallI j = true ∧ c = -1 then some (dwnL i (i - j).toNat) else none := rfl
def itDwn1 (as : List Arg) (e : En) : Option (List D × En) := itK (dwnK (gets as e)) e
def itDwn (fs : Fn1 (List Arg)) : Fn1 (List D) := fun e => bnd (fs e) itDwn1
theorem walkD_dwn {K : PySem.W.Frag} {lo : Int} {n : Nat} {H0 : Hp} {W0 : Ow} : WalkD K (Itc lo (-1) n) (dwnL lo n) H0 W0 := by
  refine ⟨_, (by rw [dwnL_length]; exact walk_rangeC.mono (fun _ _ => trivial) (fun i H x H' _ _ y => y) : Walk (Itc lo (-1) n) (dwnL lo n).length (Gd H0 W0) (YFn fun i => .int (lo + (i : Nat) * (-1)))), fun i H x H' hi g y => ?_⟩
  obtain ⟨e, hx⟩ := y
  subst e hx
  rw [dwnL_length] at hi
  exact ⟨Same.refl _, _, dwnL_at hi, .int _⟩
/-- three arguments, read -/
theorem rr3 {K : PySem.W.Frag} {H : Hp} {s s' s'' : S} {vs : List V} (h : RR K H [s, s', s''] vs) : ∃ v v' v'', vs = [v, v', v''] ∧ Rd1 K H s v ∧ Rd1 K H s' v' ∧ Rd1 K H s'' v'' := by
  cases h with
  | cons h t => cases t with
    | cons h' t' => cases t' with
      | cons h'' t'' => cases t''; exact ⟨_, _, _, rfl, h, h', h''⟩
section
variable {X : Cx} {tg a b c : Expr} {fs : Fn1 (List Arg)} {p pos : Pos}
theorem qi_dwn (hg : Gl X "range") (hm : X.mg "range" = none) (ha : PXA X [a, b, c] fs)
    (hs : starEach [a, b, c] X.env = (false, eval a X.env) :: starEach [b, c] X.env := by rfl) (hpl : (backTo pos (starEach [b, c] X.env)).any (·.1) = false := by rfl) :
    PXI X tg (.Call (.Name "range" p) [a, b, c] [] pos) (itDwn fs) := PI.imp (pi_range3 hg hm ha hs hpl) fun σ H R h => by
  obtain ⟨env, W, xs, env', re, e, k⟩ := h
  obtain ⟨as, env1, ea, e⟩ := bnd_eq e
  unfold itDwn1 itK at e
  split at e
  · rename_i xs' hx
    cases e
    refine ⟨env, W, as, _, re, ea, fun vs H1 W1 Fs r1 ras t => ?_⟩
    unfold dwnK at hx
    split at hx
    · rename_i i j c heq
      split at hx
      · rename_i hsm
        cases hx
        obtain ⟨s1, s2, s3⟩ := hsm
        have h1 : -(2 ^ 62) ≤ i ∧ i < 2 ^ 62 := of_decide_eq_true s1
        have h2 : -(2 ^ 62) ≤ j ∧ j < 2 ^ 62 := of_decide_eq_true s2
        obtain ⟨v, v', v'', rfl, q1, q2, q3⟩ := rr3 (ras.read r1 heq)
        subst s3
        exact ⟨i, j, -1, (i - j).toNat, by rw [rd_int q1, rd_int q2, rd_int q3], RgC.neg h1.1 h1.2 h2.1 h2.2, k _ H1 W1 r1 (t.less fun _ z => z.elim) walkD_dwn⟩
      · cases hx
    · cases hx
  · cases e
end
end QL
end

section
set_option Elab.async false
set_option linter.all false
set_option maxRecDepth 100000
set_option maxHeartbeats 4000000
namespace QL
open PySem PySem.Spec PyProof.Rows L2

/-! ### reversed -/
section
variable {prog : Program} {w : World} {A : Around} {E : Value → Shared → Prop} {s : Shared}
theorem adjust_down (n : Nat) : Builtin.Slice.sliceAdjust none none (-1) (n : Int) = ((n : Int) - 1, -1) := rfl
theorem places_down (n : Nat) : Builtin.Slice.slicePlaces ((n : Int) - 1) (-1) (-1) = n := by
  unfold Builtin.Slice.slicePlaces
  rw [if_neg (by decide)]
  by_cases h : n = 0
  · subst h; rfl
  · rw [if_pos (by omega)]
    have e : (((n : Int) - 1) - -1 - 1) / (- -1) = (n : Int) - 1 := by
      rw [show (- -1 : Int) = 1 by decide, Int.ediv_one]
      omega
    rw [e]
    omega
theorem filterMap_some {α β : Type} (f : α → Option β) (g : α → β) : ∀ l : List α, (∀ k ∈ l, f k = some (g k)) → l.filterMap f = l.map g
  | [], _ => rfl
  | a :: l, h => by
    rw [List.filterMap_cons, h a List.mem_cons_self, List.map_cons, filterMap_some f g l fun k hk => h k (List.mem_cons_of_mem _ hk)]
theorem pick_down (xs : Array Value) : ((List.range xs.size).filterMap fun (k : Nat) => xs[(((xs.size : Int) - 1) + (k : Int) * (-1)).toNat]?).toArray = xs.toList.reverse.toArray := by
  congr 1
  rw [filterMap_some _ (fun k => xs.toList.reverse.getD k .none) _ fun k hk => ?_]
  · refine List.ext_getElem? fun i => ?_
    rw [List.getElem?_map]
    by_cases h : i < xs.size
    · rw [List.getElem?_range h]
      have : i < xs.toList.reverse.length := by simpa using h
      rw [List.getElem?_eq_getElem this]
      simp [List.getD_eq_getElem?_getD, List.getElem?_eq_getElem this]
    · rw [List.getElem?_eq_none (by simpa using h), List.getElem?_eq_none (by simpa using h)]
      rfl
  · have hk : k < xs.size := List.mem_range.mp hk
    have e1 : (((xs.size : Int) - 1) + (k : Int) * (-1)).toNat = xs.size - 1 - k := by omega
    rw [e1, List.getD_eq_getElem?_getD, List.getElem?_reverse (by simpa using hk)]
    have h2 : xs.size - 1 - k < xs.size := by omega
    rw [Array.getElem?_eq_getElem h2]
    simp [h2]
theorem applied_down {sl : Addr} {vl vu vs : Value} {n : Nat} {Q : Int × Int × Nat → Shared → Prop} (hs : s.heap.IsSliceOf sl vl vu vs) (pl : IsPart vl none) (pu : IsPart vu none) (ps : IsPart vs (some (-1)))
    (h : Q ((n : Int) - 1, -1, n) s) : wpAny (model prog w) A (Builtin.Slice.sliceApplied (.ref sl) (pure (n : Int))) Q E s := by
  obtain ⟨os, hos, hcs, hds⟩ := id hs
  unfold Builtin.Slice.sliceApplied Builtin.Slice.sliceFields
  refine wpAny_bind (wpAny_bind (wpAny_field hos hds (x := vl) rfl (wpAny_bind (wpAny_field hos hds (x := vu) rfl (wpAny_bind (wpAny_field hos hds (x := vs) rfl (wpAny_pure ?_)))))))
  refine wpAny_bind (HT.slicePart_ ps ?_)
  show wpAny _ _ (if ((-1 : Int) == 0) = true then _ else _) _ _ s
  rw [if_neg (by decide)]
  refine wpAny_bind (HT.slicePart_ pl (wpAny_bind (HT.slicePart_ pu (wpAny_bind (wpAny_pure ?_)))))
  show wpAny _ _ (match Builtin.Slice.sliceAdjust none none (-1) (n : Int) with | (lo, hi) => pure (lo, (-1 : Int), Builtin.Slice.slicePlaces lo hi (-1))) _ _ s
  rw [adjust_down]
  show wpAny _ _ (pure ((n : Int) - 1, (-1 : Int), Builtin.Slice.slicePlaces ((n : Int) - 1) (-1) (-1))) _ _ s
  rw [places_down]
  exact wpAny_pure h
theorem tuple_down {t sl : Addr} {items : Array Value} {vl vu vs : Value} {Q : Value → Shared → Prop} (ht : IsTup s.heap t items) (hs : s.heap.IsSliceOf sl vl vu vs) (pl : IsPart vl none) (pu : IsPart vu none) (ps : IsPart vs (some (-1)))
    (h : Q (.ref s.heap.objs.size) { s with heap := s.heap.push { cls := .type "tuple", data := .seq items.toList.reverse.toArray } })
    (hsz : items.size ≤ sizeLine) : wpAny (model prog w) A (getItem (.ref t) (.ref sl)) Q E s := by
  have hok : sizeOk (.seq items.toList.reverse.toArray) := by
    show items.toList.reverse.toArray.size ≤ sizeLine
    simpa using hsz
  obtain ⟨os, hos, hcs, hds⟩ := id hs
  have hT : s.TypeIs (.ref sl) "slice" := ⟨os, hos, hcs⟩
  unfold getItem
  try with_reducible refine wpAny_holding ?_
  first | refine wpAny_bind (wpAny_pure ?_) | skip
  refine wpAny_bind (wpAny_sequenceKey ht.typeIs (by decide) ?_)
  refine wpAny_bind (wpAny_callSpecial?_slot (name := Str.ofString "__getitem__") ht.typeIs PyProof.Rows.slot_tuple_getitem
    (wpAny_call_entry PyProof.Rows.slot_tuple_getitem ht.typeIs entry_tuple_getitem ?_ (args_tuple_getitem _ _)))
  show wpAny _ _ (Builtin.Tuple.tupleItemsOf (.ref t) >>= _) _ _ s
  refine wpAny_bind (tupleItemsOf_ ht ?_)
  refine wpAny_bind (wpAny_typeOf hT ?_)
  rw [if_pos (by decide)]
  refine wpAny_bind (applied_down hs pl pu ps ?_)
  have hno : ¬ (((items.size : Int) - 1 == 0 && (-1 : Int) == 1 && items.size == items.size) = true) := by
    intro q
    rw [Bool.and_eq_true, Bool.and_eq_true] at q
    exact absurd q.1.2 (by decide)
  show wpAny _ _ (if ((items.size : Int) - 1 == 0 && (-1 : Int) == 1 && items.size == items.size) = true then _ else _) _ _ s
  rw [if_neg hno, pick_down]
  first
    | exact wpAny_bind (m := Builtin.Tuple.tupleExact _) (wpAny_newObj_type (wpAny_pure ⟨_, rfl, wpAny_pure h⟩) hok)
    | exact wpAny_bind (m := Builtin.Tuple.tupleExact _) (wpAny_newObj_type (wpAny_bind (wpAny_pure (wpAny_pure ⟨_, rfl, wpAny_pure h⟩))) hok)
    | exact wpAny_bind (wpAny_bind (m := Builtin.Tuple.tupleExact _) (wpAny_newObj_type (wpAny_pure (wpAny_pure ⟨_, rfl, wpAny_pure h⟩)) hok))
    | exact wpAny_bind (wpAny_bind (m := Builtin.Tuple.tupleExact _) (wpAny_newObj_type (wpAny_pure ⟨_, rfl, wpAny_pure h⟩) hok))
end
def rRev (K : PySem.W.Frag) : V → Hp → VK → Prop := fun x H Q => ∃ a xs, x = .ref a ∧ ((SqL K H a xs ∧ ∀ p, H p = none → Q (.ref p) (upd H p (.lst xs.reverse))) ∨ (SqT K H a xs ∧ ∀ p, H p = none → Q (.ref p) (upd H p (.tup xs.reverse))))
section
variable {X : Cx} {e : Expr} {te : TE} {k : Nat} {p1 p2 p3 pos : Pos}
theorem pe_revA (he : PE X e te) : PE X (.Subscript e (.Slice none none (some (.UnaryOp .USub (.Constant (.int 1) k p1) p2)) p3) pos) (fun σ H Q => te σ H fun x H1 => rRev X.K x H1 Q) := by
  refine ⟨fun pins s σ H Q I h => ?_⟩
  refine Subscript_ (thn (he.run pins s σ H _ I h) fun v s1 ⟨x, H1, I1, r1, q1⟩ => ?_)
  obtain ⟨a, xs, ex, q1⟩ := q1
  subst ex
  cases r1
  have hst : PO X (some (.UnaryOp .USub (.Constant (.int 1) k p1) p2)) (tPart (tUn (rU fun i => .int (-i)) (tC (.int 1)))) := po_some (pe_un un_neg pe_int)
  refine wpAny_Slice (thn (po_none.run pins s1 σ H1 (fun o H2 => o = none ∧ H2 = H1) I1 ⟨rfl, rfl⟩) fun vl s2 ⟨l, H2, I2, pl, el, e2⟩ => ?_)
  subst el e2
  refine thn (po_none.run pins s2 σ H2 (fun o H3 => o = none ∧ H3 = H2) I2 ⟨rfl, rfl⟩) fun vu s3 ⟨u, H3, I3, pu, eu, e3⟩ => ?_
  subst eu e3
  refine thn (hst.run pins s3 σ H3 (fun o H4 => o = some (-1) ∧ H4 = H3) I3 ⟨1, rfl, -1, rfl, rfl, rfl⟩) fun vs s4 ⟨o, H4, I4, ps, eo, e4⟩ => ?_
  subst eo e4
  have I5 : Inv X pins σ H4 { s4 with heap := s4.heap.push { cls := .type "slice", data := .fields #[vl, vu, vs] } } := I4.kept (t' := s4.toks) fun b ob q => Heap.get?_push_of_some _ q
  show wpAny (model X.prog X.w) X.A (subscriptTail e (.Slice none none (some (.UnaryOp .USub (.Constant (.int 1) k p1) p2)) p3) (.ref a) (.ref s4.heap.objs.size)) (EP X pins σ Q) X.xe { s4 with heap := s4.heap.push { cls := .type "slice", data := .fields #[vl, vu, vs] } }
  rcases q1 with ⟨hx, q⟩ | ⟨hx, q⟩
  · obtain ⟨its, r, ht, hz⟩ := I5.list hx
    have hlen := r.length
    refine tail_any (ops := [.ref a, .ref s4.heap.objs.size]) ht.isList.typeIs (PySem.slot_list_getitem.lookup) ?_ (by with_unfolding_all rfl)
    refine wpAny_getItem_list_slice ht.isList (Heap.IsSliceOf.new _ vl vu vs) pl pu ps (by decide) ?_ (by rw [List.size_toArray]; omega)
    rw [PySem.W.krv_pick]
    exact ⟨.ref _, _, I5.laid (t' := s4.toks) (o := .lst xs.reverse) (fun b ob q => Heap.get?_push_of_some _ q) (Nat.le_refl _) ⟨by rw [List.length_reverse]; exact hz, _, 0, r.reverse, Heap.get?_push_size _ rfl⟩, rfl, q _ (I5.hok.fresh (Nat.le_refl _))⟩
  · obtain ⟨its, r, ht, hz⟩ := I5.tuple hx
    have hlen := r.length
    refine tail_any (ops := [.ref a, .ref s4.heap.objs.size]) ht.typeIs (PyProof.Rows.slot_tuple_getitem.lookup) ?_ (by with_unfolding_all rfl)
    refine tuple_down ht (Heap.IsSliceOf.new _ vl vu vs) pl pu ps ?_ (by rw [List.size_toArray]; omega)
    exact ⟨.ref _, _, I5.laid (t' := s4.toks) (o := .tup xs.reverse) (fun b ob q => Heap.get?_push_of_some _ q) (Nat.le_refl _) ⟨by rw [List.length_reverse]; exact hz, _, r.reverse, ⟨_, Heap.get?_push_size _ rfl, rfl, _, rfl⟩⟩, rfl, q _ (I5.hok.fresh (Nat.le_refl _))⟩
def oRev : S → Option S
  | .d (.tup ds) => some (.d (.tup ds.reverse))
  | .m (.lst ds) => some (.m (.lst ds.reverse))
  | .lk (.lst ds) => some (.m (.lst ds.reverse))
  | _ => none
@[simp] theorem oRev_tup {ds : List D} : oRev (.d (.tup ds)) = some (.d (.tup ds.reverse)) := rfl
@[simp] theorem oRev_lst {ds : List D} : oRev (.m (.lst ds)) = some (.m (.lst ds.reverse)) := rfl
@[simp] theorem oRev_lk {ds : List D} : oRev (.lk (.lst ds)) = some (.m (.lst ds.reverse)) := rfl
theorem qx_rev {fa : Fn1 Arg} (he : PX X e fa) : PX X (.Subscript e (.Slice none none (some (.UnaryOp .USub (.Constant (.int 1) k p1) p2)) p3) pos) (fUn oRev fa) := PE.imp (pe_revA he) fun σ H Q h => un_read (r := rRev X.K) (fun H x sx s Q e hx f => by
  unfold oRev at e
  split at e
  · cases e
    obtain ⟨a, vs, rfl, sq, rs⟩ := rd_tup hx
    exact ⟨a, vs, rfl, .inr ⟨sq, fun p hp => f.tup rs.reverse hp⟩⟩
  · cases e
    obtain ⟨a, vs, rfl, sq, rs⟩ := rd_lst hx
    exact ⟨a, vs, rfl, .inl ⟨SqL.of sq, fun p hp => f.lst rs.reverse hp⟩⟩
  · cases e
    obtain ⟨a, vs, rfl, sq, rs⟩ := rd_lk hx
    exact ⟨a, vs, rfl, .inl ⟨sq.sq, fun p hp => f.lst rs.reverse hp⟩⟩
  · cases e) h
end

/-! ### list.extend by a tuple -/
section
open AutoSeq1
theorem extend_tupG (l : Addr) (items : Array Value) (n : Nat) (b : Addr) (items2 : Array Value) (n2 : Nat) (dd : Option Addr) (sl : Array (Option Value)) (hs0 : ¬(!items.isEmpty && Builtin.List.listTooLong (items.size + items2.size)) = true) (hs1 : items.size ≤ sizeLine) (hs2 : items.size + items2.size ≤ sizeLine + 1) :
    Meets (Builtin.«list.extend» ⟨[.ref l, .ref b], []⟩) (fun _ R s => s.heap.get? l = some { cls := .type "list", dict := none, data := .seq items n, slots := #[] } ∧ s.heap.get? b = some { cls := .type "tuple", dict := dd, data := .seq items2 n2, slots := sl } ∧
      R (.ok (.ret Value.none)) { s with heap := s.heap.update l (Obj.mapSeq fun x => x ++ items2), toks := s.toks }) :=
  .of_wp fun prog w A R s h => by
    obtain ⟨hp, g, d, tk, os⟩ := s
    obtain ⟨hl, hb, h⟩ := h
    have f1 := idx_int
    have f2 := AutoSeq1.sub_tuple_tuple
    have f3 := AutoSeq1.sub_list_list
    have f4 := AutoSeq1.sub_tuple_list
    have f5 := AutoSeq1.sub_list_tuple
    have hz' : (items ++ items2).size ≤ sizeLine + 1 := by
      rw [Array.size_append]
      exact hs2
    wp_walk using (wpAny_updateSeq hl rfl (hz := hs1) (_hz' := hz')), wpAny_loadPart' hl, wpAny_loadPart' hb
    exact ⟨_, rfl, h⟩
end
def rExtT (K : PySem.W.Frag) : V → List V → Hp → VK → Prop := fun x vs H Q => ∃ l b xs zs, x = .ref l ∧ vs = [.ref b] ∧ H l = some (.lst xs) ∧ SqT K H b zs ∧ xs.length + zs.length ≤ sizeLine ∧ Q .non (upd H l (.lst (xs ++ zs)))
section
variable {X : Cx}
theorem mt_extT : L2.MtR X "list.extend" (rExtT X.K) := by
  intro pins s σ H x vs v us Q I rx rv h
  obtain ⟨l, b, xs, zs, rfl, rfl, hH, hB, hz, q⟩ := h
  cases rx
  rw [Vals.ref1 rv]
  obtain ⟨z, its, n, r, hl, e⟩ := I.lstM hH
  obtain ⟨its2, r2, ⟨⟨c2, dd, dt, sl⟩, e2, hc2, n2, hd2⟩, z2⟩ := I.tuple hB
  simp only at hc2 hd2
  subst hc2 hd2
  have hl2 := r2.length
  have hsz : its.toArray.size + its2.toArray.size ≤ sizeLine := by rw [List.size_toArray, List.size_toArray]; omega
  have hlong : ¬ (!its.toArray.isEmpty && Builtin.List.listTooLong (its.toArray.size + its2.toArray.size)) = true := by
    rw [notLongL hsz, Bool.and_false]
    decide
  refine call_meets F.slot_list_extend ⟨_, e, rfl⟩ F.entry_list_extend (F.args_list_extend_2 _ _)
    (extend_tupG l its.toArray n b its2.toArray n2 dd sl hlong (by rw [List.size_toArray]; omega) (by omega)) ⟨e, e2, ?_⟩
  refine ⟨.non, _, I.lset (its' := its ++ its2) hH e (by simp) (r.append r2) ?_, rfl, q⟩
  rw [List.length_append]
  omega
/-- by a tuple, or by a list of another place -/
def oExtT : MtO := fun xs ss => match ss with
  | [.d (.tup ys)] => if xs.length + ys.length ≤ sizeLine then some (.non, xs ++ ys) else none
  | _ => none
@[simp] theorem oExtT_tup {xs ys : List D} : oExtT xs [.d (.tup ys)] = if xs.length + ys.length ≤ sizeLine then some (.non, xs ++ ys) else none := rfl
theorem cm_extT : MtOk X "list.extend" oExtT := ⟨_, mt_extT, fun H a vs us xs ss x ys Q e hH rs rr k => by
  unfold oExtT at e
  split at e
  · split at e
    · rename_i hz
      cases e
      obtain ⟨v, rfl, h⟩ := rr1 rr
      obtain ⟨b, ws, rfl, sq, rs2⟩ := rd_tup h
      exact ⟨a, b, vs, ws, rfl, rfl, hH, sq, by rw [← rs.length, ← rs2.length]; exact hz, k _ _ .non (rs.append rs2)⟩
    · cases e
  · cases e⟩

/-! ### a, b = x, y -/
def parK (i j : Nat) (ss : Option (List S)) (e : En) : Option Res := match ss with
  | some [.d x, .d y] => some (.nx ((e.set i (some (.d x))).set j (some (.d y))))
  | _ => none
@[simp] theorem parK_d {i j : Nat} {x y : D} {e : En} : parK i j (some [.d x, .d y]) e = some (.nx ((e.set i (some (.d x))).set j (some (.d y)))) := rfl
def sPar1 (i j : Nat) (as : List Arg) (e : En) : Option Res := parK i j (gets as e) e
def sPar (i j : Nat) (fs : Fn1 (List Arg)) : FS := fun e => bndS (fs e) (sPar1 i j)
theorem qs_par {i j : Nat} {x y : Str} {a b : Expr} {fs : Fn1 (List Arg)} {px py pt pos : Pos} {kt k2 pt2} (hc : X.calm = true) (hN : X.N.Nodup) (ha : PXA X [a, b] fs) (hi : X.N[i]? = some x := by rfl) (hj : X.N[j]? = some y := by rfl) (hij : i ≠ j := by decide)
    (hx : X.env.scope.names.lookup x = some .local := by rfl) (hy : X.env.scope.names.lookup y = some .local := by rfl)
    (hw : swappedStores [.Tuple [.Name x px, .Name y py] kt pt] (.Tuple [a, b] k2 pt2) X.env = pure (some [x, y]) := by rfl)
    (hs : swapsWithSole [.Tuple [.Name x px, .Name y py] kt pt] (.Tuple [a, b] k2 pt2) pos.line X.env = pure false := by rfl) :
    PXS X (.Assign [.Tuple [.Name x px, .Name y py] kt pt] (.Tuple [a, b] k2 pt2) pos) [i, j] (sPar i j fs) := PS.imp (ps_par hc hN hi hj hij hx hy ha hw hs) fun D σ H h => by
  obtain ⟨env, W, r, re, e, p⟩ := h
  obtain ⟨as, env1, ea, e⟩ := bndS_eq e
  refine ⟨env, W, as, env1, re, ea, fun vs H1 W1 Fs r1 ras t => ?_⟩
  unfold sPar1 parK at e
  split at e
  · rename_i x y hg
    cases e
    obtain ⟨v, v', rfl, ⟨P1, q1⟩, ⟨P2, q2⟩⟩ := rr2 (ras.read r1 hg)
    refine ⟨v, v', rfl, p _ H1 W1 ((r1.setd q1).setd q2) (t.less fun _ z => z.elim) ?_⟩
    exact (eqs_set (i := i)).trans (eqs_set (i := j)) (by simp) (by simp)
  · cases e
end
end QL
end

section
set_option Elab.async false
set_option linter.all false
set_option maxRecDepth 100000
set_option maxHeartbeats 4000000
namespace QL
open PySem PySem.Spec PyProof.Rows L2

/-! ### the drawing state of a law: [numbers, place, rest, seed] -/
theorem RE.putG {K : PySem.W.Frag} {H : Hp} {σ : Sl} {env : En} {W : Ow} {i : Nat} {x y : M} {a : Addr} {vs ws : List V} {v : V} (r : RE K H σ env W) (hi : env[i]? = some (some (.m x))) (hσ : σ[i]? = some (some v)) (hW : W i a) (hH : H a = some (.lst vs))
    (new : RM K (upd H a (.lst ws)) y v (W i)) : RE K (upd H a (.lst ws)) σ (env.set i (some (.m y))) W := by
  have t : Tr (fun (k : Nat) b => k = i ∧ W i b) H (fun (k : Nat) b => k = i ∧ W i b) (upd H a (.lst ws)) F0 :=
    ⟨fun b o e hn => by rw [upd_ne fun z => hn ⟨i, rfl, by rw [z]; exact hW⟩]; exact e, fun b e => by
      by_cases hb : b = a
      · subst hb; rw [upd_same]; simp
      · rw [upd_ne hb]; exact e, fun b _ hn => ⟨hn, fun z => z⟩⟩
  refine ⟨fun j s e => ?_, r.apart, fun j b z => ?_, by rw [List.length_set]; exact r.len⟩
  · by_cases hj : j = i
    · subst hj
      have hl : j < env.length := (List.getElem?_eq_some_iff.mp hi).1
      rw [List.getElem?_set_self hl] at e
      cases e
      exact ⟨_, hσ, new⟩
    · rw [List.getElem?_set_ne (Ne.symm hj)] at e
      obtain ⟨v, q1, q2⟩ := r.slots j s e
      exact ⟨v, q1, RS.keep (fun _ b z => r.mu i b z.2) t q2 fun b z ⟨k, _, y⟩ => hj (r.apart j i b z y)⟩
  · by_cases hb : b = a
    · subst hb; rw [upd_same]; trivial
    · rw [upd_ne hb]; exact r.mu j b z
def mkStK (p c z : Int) : Option (List Int) → En → Option (Arg × En)
  | some ns, e => some (.val (.m (.st ns p c z)), e)
  | none, _ => none
@[simp] theorem mkStK_some {p c z : Int} {ns : List Int} {e : En} : mkStK p c z (some ns) e = some (.val (.m (.st ns p c z)), e) := rfl
def mkStR (x : List D) (r : Option (List S)) (e : En) : Option (Arg × En) := match r with
  | some [.d (.int p), .d (.int c), .d (.int z)] => mkStK p c z (intsOf x) e
  | _ => none
@[simp] theorem mkStR_some {x : List D} {p c z : Int} {e : En} : mkStR x (some [.d (.int p), .d (.int c), .d (.int z)]) e = mkStK p c z (intsOf x) e := rfl
def fMkSt1 (as : List Arg) (e : En) : Option (Arg × En) := match as with
  | .val (.m (.lst ds)) :: as => mkStR ds (gets as e) e
  | _ => none
@[simp] theorem fMkSt1_cons {ds : List D} {as : List Arg} {e : En} : fMkSt1 (.val (.m (.lst ds)) :: as) e = mkStR ds (gets as e) e := rfl
def fMkSt (fs : Fn1 (List Arg)) : Fn1 Arg := fun e => bnd (fs e) fMkSt1
section
variable {X : Cx} {es : List Expr} {fs : Fn1 (List Arg)} {pos : Pos}
theorem qx_mkst (h : PXA X es fs) : PX X (.List es pos) (fMkSt fs) := PE.imp (pe_lst h) fun σ H Q h => by
  obtain ⟨env, W, z, env', re, e, k⟩ := h
  obtain ⟨as, env1, ea, e⟩ := bnd_eq e
  refine ⟨env, W, as, env1, re, ea, fun vs H1 W1 Fs r1 ras t => ?_⟩
  unfold fMkSt1 at e
  split at e
  · rename_i ds as'
    unfold mkStR at e
    split at e
    · rename_i p c zz hg
      unfold mkStK at e
      split at e
      · rename_i ns hns
        cases e
        cases ras with
        | cons ra tm dj ras =>
          obtain ⟨v1, v2, v3, rfl, q1, q2, q3⟩ := rr3 (ras.read r1 hg)
          obtain ⟨a1, vs1, rfl, fa, h1, rs⟩ := ra
          rw [intsOf_eq hns] at rs
          rw [RDs.of_ints rs] at h1
          rw [rd_int q1, rd_int q2, rd_int q3]
          refine ⟨by show 4 ≤ sizeLine; decide, fun p0 hp0 => ?_⟩
          have sm : Same H1 (upd H1 p0 (.lst [.ref a1, .int p, .int c, .int zz])) := same_new hp0
          have na : a1 ≠ p0 := fun z => by rw [z, hp0] at h1; cases h1
          refine k _ _ W1 (fun b => b = p0 ∨ b = a1) (r1.same sm) ⟨p0, a1, rfl, .inl rfl, .inr rfl, upd_same, by rw [upd_ne na]; exact h1⟩ (fun b z => ?_) ⟨fun b o e n => ?_, fun b e => ?_, fun b e n => ?_⟩
          · rcases z with z | z
            · subst z
              exact ⟨r1.fresh hp0, by rw [upd_same]; trivial⟩
            · subst z
              exact ⟨(tm _ fa).1, by rw [upd_ne na, h1]; trivial⟩
          · exact sm _ _ (t.frame b o e n)
          · have := t.dom b e
            cases q : H1 b with
            | none => exact absurd q this
            | some o => rw [sm _ _ q]; simp
          · have o := t.out b e n
            refine ⟨o.1, fun z => ?_⟩
            rcases z with z | z
            · subst z
              exact t.dom _ e hp0
            · subst z
              exact o.2 (.inl fa)
      · cases e
    · cases e
  · cases e
/-- d[k] for k = 1, 2, 3 -/
def stAt (k : Nat) (p c z : Int) : Int := match k with
  | 1 => p
  | 2 => c
  | _ => z
def stGetK (k : Nat) (x : Option (Option S)) (e : En) : Option (Arg × En) := match x with
  | some (some (.m (.st _ p c z))) => some (.val (.d (.int (stAt k p c z))), e)
  | _ => none
@[simp] theorem stGetK_st {k : Nat} {ns : List Int} {p c z : Int} {e : En} : stGetK k (some (some (.m (.st ns p c z)))) e = some (.val (.d (.int (stAt k p c z))), e) := rfl
def fStGet (i k : Nat) : Fn1 Arg := fun e => stGetK k e[i]? e
theorem st_of {K : PySem.W.Frag} {H : Hp} {σ : Sl} {env : En} {W : Ow} {i : Nat} {ns : List Int} {p c z : Int} (r : RE K H σ env W) (h : env[i]? = some (some (.m (.st ns p c z)))) :
    ∃ a b, σ[i]? = some (some (.ref a)) ∧ W i a ∧ W i b ∧ H a = some (.lst [.ref b, .int p, .int c, .int z]) ∧ H b = some (.lst (ns.map V.int)) := by
  obtain ⟨v, h1, a, b, rfl, pa, pb, ha, hb⟩ := r.slots i _ h
  exact ⟨a, b, h1, pa, pb, ha, hb⟩
theorem qx_stget {i : Nat} {k : Int} {kk : Nat} {x : Str} {p p2 pos : Pos} (n : Nat) (hk : k = (n : Int) := by rfl) (hn : n = 1 ∨ n = 2 ∨ n = 3 := by decide) (hN : X.N[i]? = some x := by rfl) (hv : Vis X.env.scope x := by first | exact Or.inl rfl | exact Or.inr (Or.inl rfl) | exact Or.inr (Or.inr rfl))
    (hd : (x == ("__debug__" : Str)) = false := by decide) (hcd : (x == ("__classdict__" : Str)) = false := by decide) (hs : PlainIx (.Constant (.int k) kk p2) := by intro _ _; rfl) :
    PX X (.Subscript (.Name x p) (.Constant (.int k) kk p2) pos) (fStGet i n) := PE.imp (pe_ix ix_list (pe_var hN hv hd hcd) pe_int hs) fun σ H Q h => by
  obtain ⟨env, W, z, env', re, e, kq⟩ := h
  unfold fStGet stGetK at e
  split at e
  · rename_i ns p c zz hx
    cases e
    obtain ⟨a, b, h1, _, _, ha, _⟩ := st_of re hx
    refine ⟨.ref a, h1, a, _, k, .int (stAt n p c zz), rfl, rfl, SqL.of ha, ?_, kq _ H W F0 re (.int _) Tm.zero Tr.refl⟩
    subst hk
    rcases hn with rfl | rfl | rfl <;> rfl
  · cases e
/-- len(d[0]) -/
def stLenK (x : Option (Option S)) (e : En) : Option (Arg × En) := match x with
  | some (some (.m (.st ns _ _ _))) => some (.val (.d (.int ns.length)), e)
  | _ => none
@[simp] theorem stLenK_st {ns : List Int} {p c z : Int} {e : En} : stLenK (some (some (.m (.st ns p c z)))) e = some (.val (.d (.int ns.length)), e) := rfl
def fStLen (i : Nat) : Fn1 Arg := fun e => stLenK e[i]? e
theorem qx_stlen {i : Nat} {kk : Nat} {x : Str} {p p2 p3 p4 pos : Pos} (hg : Gl X "len") (hm : X.mg "len" = none) (hN : X.N[i]? = some x := by rfl) (hv : Vis X.env.scope x := by first | exact Or.inl rfl | exact Or.inr (Or.inl rfl) | exact Or.inr (Or.inr rfl))
    (hd : (x == ("__debug__" : Str)) = false := by decide) (hcd : (x == ("__classdict__" : Str)) = false := by decide) (hs : PlainIx (.Constant (.int 0) kk p2) := by intro _ _; rfl)
    (he : starEach [.Subscript (.Name x p) (.Constant (.int 0) kk p2) p3] X.env = (false, eval (.Subscript (.Name x p) (.Constant (.int 0) kk p2) p3) X.env) :: starEach [] X.env := by rfl) (hpl : (backTo pos (starEach [] X.env)).any (·.1) = false := by rfl) :
    PX X (.Call (.Name "len" p4) [.Subscript (.Name x p) (.Constant (.int 0) kk p2) p3] [] pos) (fStLen i) :=
  PE.imp (pe_callB call_len hg hm PySem.boot_len (pa_cons (pe_ix ix_list (pe_var hN hv hd hcd) pe_int hs) pa_nil he) (by decide) (by decide) he hpl) fun σ H Q h => by
  obtain ⟨env, W, z, env', re, e, kq⟩ := h
  unfold fStLen stLenK at e
  split at e
  · rename_i ns p c zz hx
    cases e
    obtain ⟨a, b, h1, _, _, ha, hb⟩ := st_of re hx
    refine ⟨.ref a, h1, a, _, 0, .ref b, rfl, rfl, SqL.of ha, rfl, _, ns.length, rfl, .inl ⟨_, SqL.of hb, by rw [List.length_map]⟩, kq _ H W F0 re (.int _) Tm.zero Tr.refl⟩
  · cases e
/-- d[0][d[1]] -/
def stIxR (x : Option Int) (e : En) : Option (Arg × En) := match x with
  | some i => some (.val (.d (.int i)), e)
  | none => none
@[simp] theorem stIxR_some {i : Int} {e : En} : stIxR (some i) e = some (.val (.d (.int i)), e) := rfl
def stIxK (x : Option (Option S)) (e : En) : Option (Arg × En) := match x with
  | some (some (.m (.st ns p _ _))) => stIxR (getI ns p) e
  | _ => none
@[simp] theorem stIxK_st {ns : List Int} {p c z : Int} {e : En} : stIxK (some (some (.m (.st ns p c z)))) e = stIxR (getI ns p) e := rfl
def fStIx (i : Nat) : Fn1 Arg := fun e => stIxK e[i]? e
theorem qx_stix {i : Nat} {kk kk2 : Nat} {x : Str} {p p2 p3 p4 p5 p6 pos : Pos} (hN : X.N[i]? = some x := by rfl) (hv : Vis X.env.scope x := by first | exact Or.inl rfl | exact Or.inr (Or.inl rfl) | exact Or.inr (Or.inr rfl))
    (hd : (x == ("__debug__" : Str)) = false := by decide) (hcd : (x == ("__classdict__" : Str)) = false := by decide) (hs : PlainIx (.Constant (.int 0) kk p2) := by intro _ _; rfl) (hs1 : PlainIx (.Constant (.int 1) kk2 p5) := by intro _ _; rfl)
    (hs2 : PlainIx (.Subscript (.Name x p4) (.Constant (.int 1) kk2 p5) p6) := by intro _ _; rfl) :
    PX X (.Subscript (.Subscript (.Name x p) (.Constant (.int 0) kk p2) p3) (.Subscript (.Name x p4) (.Constant (.int 1) kk2 p5) p6) pos) (fStIx i) :=
  PE.imp (pe_ix ix_list (pe_ix ix_list (pe_var hN hv hd hcd) pe_int hs) (pe_ix ix_list (pe_var hN hv hd hcd) pe_int hs1) hs2) fun σ H Q h => by
  obtain ⟨env, W, z, env', re, e, kq⟩ := h
  unfold fStIx stIxK stIxR at e
  split at e
  · rename_i ns p c zz hx
    split at e
    · rename_i y hy
      cases e
      obtain ⟨a, b, h1, _, _, ha, hb⟩ := st_of re hx
      obtain ⟨j, j1, j2⟩ := getI_at hy
      refine ⟨.ref a, h1, a, _, 0, .ref b, rfl, rfl, SqL.of ha, rfl, .ref a, h1, a, _, 1, .int p, rfl, rfl, SqL.of ha, rfl, b, _, p, .int y, rfl, rfl, SqL.of hb, ?_, kq _ H W F0 re (.int _) Tm.zero Tr.refl⟩
      unfold L2.atI
      rw [List.length_map, j1]
      show (ns.map V.int)[j]? = _
      rw [List.getElem?_map, j2]
      rfl
    · cases e
  · cases e
/-- d[k] = e -/
def stPut (k : Nat) (ns : List Int) (p c z v : Int) : M := match k with
  | 1 => .st ns v c z
  | 2 => .st ns p v z
  | _ => .st ns p c v
def stSetK (i k : Nat) (x : Option (Option S)) (v : Option S) (e : En) : Option Res := match x, v with
  | some (some (.m (.st ns p c z))), some (.d (.int v)) => some (.nx (e.set i (some (.m (stPut k ns p c z v)))))
  | _, _ => none
@[simp] theorem stSetK_st {i k : Nat} {ns : List Int} {p c z v : Int} {e : En} : stSetK i k (some (some (.m (.st ns p c z)))) (some (.d (.int v))) e = some (.nx (e.set i (some (.m (stPut k ns p c z v))))) := rfl
def sStSet1 (i k : Nat) (a : Arg) (e : En) : Option Res := stSetK i k e[i]? (a.get e) e
def sStSet (i k : Nat) (fa : Fn1 Arg) : FS := fun e => bndS (fa e) (sStSet1 i k)
theorem qs_stset {i : Nat} {k : Int} {kk : Nat} {x : Str} {ev : Expr} {fa : Fn1 Arg} {p p2 p3 pos : Pos} (n : Nat) (he : PX X ev fa) (hk : k = (n : Int) := by rfl) (hn : n = 1 ∨ n = 2 ∨ n = 3 := by decide) (hN : X.N[i]? = some x := by rfl) (hv : Vis X.env.scope x := by first | exact Or.inl rfl | exact Or.inr (Or.inl rfl) | exact Or.inr (Or.inr rfl))
    (hd : (x == ("__debug__" : Str)) = false := by decide) (hcd : (x == ("__classdict__" : Str)) = false := by decide)
    (hasg : ∀ v, assign (.Subscript (.Name x p) (.Constant (.int k) kk p2) p3) X.env v = (do
      let ov ← holding [v] (eval (.Name x p) X.env)
      let iv ← holding [v, ov] (eval (.Constant (.int k) kk p2) X.env)
      standAt p3
      holding [v, ov, iv] (setItem ov iv v)
      release [v, ov, iv] []) := by intro _; rfl)
    (hs : swapsWithSole [.Subscript (.Name x p) (.Constant (.int k) kk p2) p3] ev pos.line X.env = pure false := by rfl) (hw : swappedStores [.Subscript (.Name x p) (.Constant (.int k) kk p2) p3] ev X.env = pure none := by rfl)
    (h1 : (assignEach [.Subscript (.Name x p) (.Constant (.int k) kk p2) p3] X.env).map (·.2) = [assign (.Subscript (.Name x p) (.Constant (.int k) kk p2) p3) X.env] := by rfl) :
    PXS X (.Assign [.Subscript (.Name x p) (.Constant (.int k) kk p2) p3] ev pos) [] (sStSet i n fa) :=
  PS.imp (ps_asg he (pg_sub (pe_var hN hv hd hcd) pe_int set_list hasg) hs hw h1) fun D σ H h => by
  obtain ⟨env, W, r, re, e, pq⟩ := h
  obtain ⟨a, env1, ea, e⟩ := bndS_eq e
  refine ⟨env, W, a, env1, re, ea, fun v H1 W1 F r1 ra tm t => ?_⟩
  unfold sStSet1 stSetK at e
  split at e
  · rename_i ns p c z y hx hy
    cases e
    have ev : v = .int y := rd_int (ra.read r1 hy)
    obtain ⟨a, b, q1, wa, wb, ha, hb⟩ := st_of r1 hx
    subst hk ev
    have nab : b ≠ a := fun z => by
      rw [z, ha] at hb
      cases ns <;> cases hb
    have t1 : ∀ ws, Tr W H W1 (upd H1 a (.lst ws)) F0 := fun ws => (t.trans0 (Tr.put wa)).less fun _ z => z
    rcases hn with rfl | rfl | rfl
    · refine ⟨.ref a, q1, a, _, 1, 1, rfl, rfl, ha, rfl, pq σ _ W1 (r1.putG hx q1 wa ha ?_) (t1 _) Eqs.refl⟩
      exact ⟨a, b, rfl, wa, wb, upd_same, by rw [upd_ne nab]; exact hb⟩
    · refine ⟨.ref a, q1, a, _, 2, 2, rfl, rfl, ha, rfl, pq σ _ W1 (r1.putG hx q1 wa ha ?_) (t1 _) Eqs.refl⟩
      exact ⟨a, b, rfl, wa, wb, upd_same, by rw [upd_ne nab]; exact hb⟩
    · refine ⟨.ref a, q1, a, _, 3, 3, rfl, rfl, ha, rfl, pq σ _ W1 (r1.putG hx q1 wa ha ?_) (t1 _) Eqs.refl⟩
      exact ⟨a, b, rfl, wa, wb, upd_same, by rw [upd_ne nab]; exact hb⟩
  · cases e
end

/-! ### a def by its datum, the law's end -/
section
variable {P : Program} {w : World} {K : PySem.W.Frag} {mg : Str → Option Value} {base : Heap}
theorem fn_okD {x qual : Str} {params : Arguments} {bd : List Stmt} {sc : Scope} {f : Addr} {fd : FuncData} {N ps : List Str} {k : Nat} {A : List Nat} {body : FS} (F : FunD K x qual params bd sc [] [] f fd) (Sc : FnScope N ps sc)
    (hb : ∀ (cdv : Value) (Ar : Around) (outer : List Env) (s : Shared) (H : Hp) (E : XK), Room k (Ar.deeper (envOfC qual sc s.heap.objs.size f cdv)) →
      PXSs (cxOf CX0 P w K mg base N qual sc f cdv Ar outer s H E).nox bd A body) : FnOk P w K mg base CX0 (k + 1) f fd ps (spF K ps.length (mkFn ps.length N.length A body)) := by
  refine F.ok Sc (fun vs H Q E h => h.1) fun cdv Ar outer s H vs Q E hr h => ⟨_, (hb cdv Ar outer s H E hr).nox, ?_⟩
  obtain ⟨hl, ss, W, r, fin, re, e, kk⟩ := h
  have hss : ss.length = vs.length := by have := re.len; simpa using this
  have hpl : ps.length ≤ N.length := by have := congrArg List.length Sc.pre; rw [List.length_take] at this; omega
  have e' : (if ss.length = ps.length then fnEnd A ss (body (ss.map some ++ List.replicate (N.length - ps.length) none)) else none) = some (r, fin) := e
  rw [if_pos (by omega)] at e'
  have re0 : RE K H (L2.start N vs) (ss.map some ++ List.replicate (N.length - ps.length) none) W := by
    refine ⟨fun i s hs => ?_, re.apart, re.mu, ?_⟩
    · by_cases hi : i < ss.length
      · rw [List.getElem?_append_left (by simpa using hi)] at hs
        obtain ⟨v, h1, h2⟩ := re.slots i s hs
        refine ⟨v, ?_, h2⟩
        unfold L2.start
        rw [List.getElem?_append_left (by simpa [← hss] using hi)]
        exact h1
      · rw [List.getElem?_append_right (by simpa using hi), List.getElem?_replicate] at hs
        split at hs <;> cases hs
    · unfold L2.start
      simp only [List.length_append, List.length_map, List.length_replicate]
      omega
  have hσ : ∀ i, i < vs.length → (L2.start N vs)[i]? = some vs[i]? := fun i hi => by
    unfold L2.start
    rw [List.getElem?_append_left (by simpa using hi), List.getElem?_map, List.getElem?_eq_getElem hi]
    rfl
  have less : ∀ {W' : Ow} {H' : Hp} {F : Addr → Prop}, Tr W H W' H' F → Tr W H (fun i b => (∃ m, ss[i]? = some (S.m m)) ∧ W' i b) H' F := fun t =>
    ⟨t.frame, t.dom, fun b e n => ⟨fun ⟨i, z⟩ => (t.out b e n).1 ⟨i, z.2⟩, (t.out b e n).2⟩⟩
  cases q : body (ss.map some ++ List.replicate (N.length - ps.length) none) with
  | none => rw [q] at e'; cases e'
  | some rr =>
    rw [q] at e'
    refine ⟨_, W, rr, re0, q, ?_⟩
    cases rr with
    | bk e1 => cases e'
    | ct e1 => cases e'
    | nx e1 =>
      rw [fnEnd_nx] at e'
      cases hf : fins A 0 ss e1 with
      | none => rw [hf] at e'; cases e'
      | some fin' =>
        rw [hf] at e'
        cases e'
        intro σ' H' W' r' t' q'
        exact kk .non H' _ F0 (fin_re re hσ hf r' t' q') .non Tm.zero (less t')
    | rt s1 e1 =>
      rw [fnEnd_rt] at e'
      cases hf : fins A 0 ss e1 with
      | none => rw [hf] at e'; cases e'
      | some fin' =>
        rw [hf] at e'
        cases e'
        intro v σ' H' W' F r' rs tm t' q'
        exact kk v H' _ F (fin_re re hσ hf r' t' q') rs (fun b z => ⟨fun ⟨i, y⟩ => (tm b z).1 ⟨i, y.2⟩, (tm b z).2⟩) (less t')
theorem law_sp {fn : FnS} {n : Nat} (h : ∀ ns : List Int, ns.length ≤ n → ∃ fin, fn [.lk (.lst (ns.map D.int))] = some (.d (.bl true), fin)) (H : Hp) (a : Addr) (ns : List Int) (hl : ns.length ≤ n) (hO : Only H) (hS : SqL K H a (ns.map V.int)) :
    spF K 1 fn [.ref a] H (fun v _ => v = .bl true) fun _ _ _ => False := by
  obtain ⟨fin, e⟩ := h ns hl
  refine ⟨rfl, _, (fun _ _ => False), _, fin, ⟨fun i s hs => ?_, fun i j b z => z.elim, fun i b z => z.elim, rfl⟩, e, fun v H' W' F _ rs _ _ => rd_bl ⟨F, rs⟩⟩
  have hs' : [some (S.lk (.lst (ns.map D.int)))][i]? = some (some s) := hs
  cases i with
  | succ i => simp at hs'
  | zero =>
    have e : S.lk (.lst (ns.map D.int)) = s := by simpa using hs'
    subst e
    refine ⟨.ref a, rfl, a, _, rfl, ?_, RDs.ints ns⟩
    rcases hS with (hS | hS) | hS
    · rcases hO a with z | ⟨o, xs, z⟩
      · rw [hS] at z; cases z
      · rw [hS] at z; cases z
    · exact .inl hS
    · exact .inr hS
end
end QL
end

section
set_option Elab.async false
set_option linter.all false
set_option maxRecDepth 100000
namespace QL
open PySem PySem.Spec PyProof.Rows L2

/-- a def of the text, where it stands -/
structure Df (K : PySem.W.Frag) (mg : Str → Option Value) (x : Str) (st : Stmt) : Prop where
  ex : ∃ (f : Addr) (fd : FuncData), FunD K x x (defArgs st) (defBody st) (defScope st) [] [] f fd ∧ mg x = some (.ref f)
/-- a def that may be called: what it is worth -/
structure Cal (P : Program) (w : World) (K : PySem.W.Frag) (mg : Str → Option Value) (base : Heap) (x : Str) (k n : Nat) (fn : FnS) : Prop where
  ex : ∃ (f : Addr) (fd : FuncData) (ps : List Str), FnOk P w K mg base CX0 k f fd ps (spF K n fn) ∧ mg x = some (.ref f) ∧ PySem.W.keepIn K (.ref f) = true ∧ Binds K fd ps [] ∧ ∀ ss r, fn ss = some r → ss.length = n
section
variable {P : Program} {w : World} {K : PySem.W.Frag} {mg : Str → Option Value} {base : Heap}
theorem cal_ok {x : Str} {st : Stmt} {N ps : List Str} {k : Nat} {A : List Nat} {body : FS} (d : Df K mg x st) (Sc : FnScope N ps (defScope st))
    (hb : ∀ (f : Addr) (cdv : Value) (Ar : Around) (outer : List Env) (s : Shared) (H : Hp) (E : XK), Room k (Ar.deeper (envOfC x (defScope st) s.heap.objs.size f cdv)) →
      PXSs (cxOf CX0 P w K mg base N x (defScope st) f cdv Ar outer s H E).nox (defBody st) A body)
    (bd : ∀ (kV doc pm : Value) (an : Option Addr) (cdv ct : Value) (us : List Value), us.length = ps.length → bindArgs (PySem.W.fnOf x x (defArgs st) (defBody st) (defScope st) .none kV doc pm an cdv ct) ⟨us, []⟩ = pure (ps.zip us)) :
    Cal P w K mg base x (k + 1) ps.length (mkFn ps.length N.length A body) := by
  obtain ⟨f, fd, F, hm⟩ := d.ex
  exact ⟨f, fd, ps, fn_okD F Sc fun cdv Ar outer s H E hr => hb f cdv Ar outer s H E hr, hm, F.kp, F.bindsN bd, fun ss r h => mkFn_len h⟩
theorem Cal.mono {x : Str} {j k n : Nat} {fn : FnS} (c : Cal P w K mg base x j n fn) (h : j ≤ k) : Cal P w K mg base x k n fn := by
  obtain ⟨f, fd, ps, F, r⟩ := c.ex
  exact ⟨f, fd, ps, F.mono h, r⟩
end
section
variable {X : Cx} {k n : Nat} {fn : FnS} {x : Str} {p pos : Pos} {e : Expr} {es : List Expr} {fs : Fn1 (List Arg)}
theorem qx_cal (c : Cal X.prog X.w X.K X.mg X.base x k n fn) (hr : Room k X.A) (hg : Gl X x) (ha : PXA X (e :: es) fs) (hdb : (x == ("__debug__" : Str)) = false := by decide) (he : starEach (e :: es) X.env = (false, eval e X.env) :: starEach es X.env := by rfl)
    (hpl : (backTo pos (starEach es X.env)).any (·.1) = false := by rfl) : PX X (.Call (.Name x p) (e :: es) [] pos) (fCall fn fs) := by
  obtain ⟨f, fd, ps, F, hm, hk, hb, hn⟩ := c.ex
  exact qx_call F hn hr hg hm hk hb ha hdb he hpl
theorem qx_cal0 (c : Cal X.prog X.w X.K X.mg X.base x k n fn) (hr : Room k X.A) (hg : Gl X x) (hdb : (x == ("__debug__" : Str)) = false := by decide) : PX X (.Call (.Name x p) [] [] pos) (fCall fn fNil) := by
  obtain ⟨f, fd, ps, F, hm, hk, hb, hn⟩ := c.ex
  exact qx_call0 F hn hr hg hm hk hb hdb
theorem qx_globC {x : Str} {i : Int} (c : ∃ t, X.mg x = some (.int i t)) (hg : Gl X x) (hd : (x == ("__debug__" : Str)) = false := by decide) : PX X (.Name x pos) (fC (.int i)) := by
  obtain ⟨t, h⟩ := c
  exact qx_glob hg h ⟨t, rfl⟩ hd
end
def fuel0 : En → Nat := fun _ => 100000
end QL
end

section
set_option Elab.async false
set_option linter.all false
set_option maxRecDepth 100000
namespace QL
open PySem PySem.Spec PyProof.Rows L2
/-! ### evaluation: each combinator at an environment -/
@[simp] theorem fC_ap {x : D} {e : En} : fC x e = some (.val (.d x), e) := rfl
def varK (i : Nat) (z : Option (Option S)) (e : En) : Option (Arg × En) := match z with
  | some (some _) => some (.slot i, e)
  | _ => none
@[simp] theorem varK_some {i : Nat} {s : S} {e : En} : varK i (some (some s)) e = some (.slot i, e) := rfl
@[simp] theorem fVar_ap {i : Nat} {e : En} : fVar i e = varK i e[i]? e := rfl
@[simp] theorem fBin2_ap {o : S → S → Option S} {a b : Arg} {e : En} : fBin2 o a b e = ret (op2 o (a.get e) (b.get e)) e := rfl
@[simp] theorem fBin1_ap {o : S → S → Option S} {fb : Fn1 Arg} {a : Arg} {e : En} : fBin1 o fb a e = bnd (fb e) (fBin2 o a) := rfl
@[simp] theorem fBin_ap {o : S → S → Option S} {fa fb : Fn1 Arg} {e : En} : fBin o fa fb e = bnd (fa e) (fBin1 o fb) := rfl
@[simp] theorem fUn1_ap {o : S → Option S} {a : Arg} {e : En} : fUn1 o a e = ret (op1 o (a.get e)) e := rfl
@[simp] theorem fUn_ap {o : S → Option S} {fa : Fn1 Arg} {e : En} : fUn o fa e = bnd (fa e) (fUn1 o) := rfl
@[simp] theorem fChain2_ap {o o' : S → S → Option S} {fc : Fn1 Arg} {a b : Arg} {e : En} : fChain2 o o' fc a b e = chK (op2 o (a.get e) (b.get e)) o' fc b e := rfl
@[simp] theorem fChain1_ap {o o' : S → S → Option S} {fb fc : Fn1 Arg} {a : Arg} {e : En} : fChain1 o o' fb fc a e = bnd (fb e) (fChain2 o o' fc a) := rfl
@[simp] theorem fChain_ap {o o' : S → S → Option S} {fa fb fc : Fn1 Arg} {e : En} : fChain o o' fa fb fc e = bnd (fa e) (fChain1 o o' fb fc) := rfl
@[simp] theorem fTB1_ap {a : Arg} {e : En} : fTB1 a e = tstK (a.get e) e := rfl
@[simp] theorem fTB_ap {fa : Fn1 Arg} {e : En} : fTB fa e = bnd (fa e) fTB1 := rfl
@[simp] theorem fTru1_ap {a : Arg} {e : En} : fTru1 a e = truK (a.get e) e := rfl
@[simp] theorem fTru_ap {fa : Fn1 Arg} {e : En} : fTru fa e = bnd (fa e) fTru1 := rfl
@[simp] theorem fAndT1_ap {tb : Fn1 Bool} {b : Bool} {e : En} : fAndT1 tb b e = if b = true then tb e else some (false, e) := rfl
@[simp] theorem fAndT_ap {ta tb : Fn1 Bool} {e : En} : fAndT ta tb e = bnd (ta e) (fAndT1 tb) := rfl
@[simp] theorem fOrT1_ap {tb : Fn1 Bool} {b : Bool} {e : En} : fOrT1 tb b e = if b = true then some (true, e) else tb e := rfl
@[simp] theorem fOrT_ap {ta tb : Fn1 Bool} {e : En} : fOrT ta tb e = bnd (ta e) (fOrT1 tb) := rfl
@[simp] theorem fNotT1_ap {b : Bool} {e : En} : fNotT1 b e = some (!b, e) := rfl
@[simp] theorem fNotT_ap {ta : Fn1 Bool} {e : En} : fNotT ta e = bnd (ta e) fNotT1 := rfl
@[simp] theorem fIf1_ap {fa fb : Fn1 Arg} {b : Bool} {e : En} : fIf1 fa fb b e = if b = true then fa e else fb e := rfl
@[simp] theorem fIf_ap {tc : Fn1 Bool} {fa fb : Fn1 Arg} {e : En} : fIf tc fa fb e = bnd (tc e) (fIf1 fa fb) := rfl
@[simp] theorem fAnd1_ap {fb : Fn1 Arg} {a : Arg} {e : En} : fAnd1 fb a e = andK (a.get e) fb e := rfl
@[simp] theorem fAnd_ap {fa fb : Fn1 Arg} {e : En} : fAnd fa fb e = bnd (fa e) (fAnd1 fb) := rfl
@[simp] theorem fOr1_ap {fb : Fn1 Arg} {a : Arg} {e : En} : fOr1 fb a e = orK (a.get e) fb e := rfl
@[simp] theorem fOr_ap {fa fb : Fn1 Arg} {e : En} : fOr fa fb e = bnd (fa e) (fOr1 fb) := rfl
@[simp] theorem fNil_ap  {e : En} : fNil e = some ([], e) := rfl
@[simp] theorem fCons2_ap {a : Arg} {as : List Arg} {e : En} : fCons2 a as e = some (a :: as, e) := rfl
@[simp] theorem fCons1_ap {fs : Fn1 (List Arg)} {a : Arg} {e : En} : fCons1 fs a e = bnd (fs e) (fCons2 a) := rfl
@[simp] theorem fCons_ap {fa : Fn1 Arg} {fs : Fn1 (List Arg)} {e : En} : fCons fa fs e = bnd (fa e) (fCons1 fs) := rfl
@[simp] theorem fOp1_ap {o : List S → Option S} {as : List Arg} {e : En} : fOp1 o as e = ret (opN o (gets as e)) e := rfl
@[simp] theorem fOp_ap {o : List S → Option S} {fs : Fn1 (List Arg)} {e : En} : fOp o fs e = bnd (fs e) (fOp1 o) := rfl
@[simp] theorem sNext_ap  {e : En} : sNext e = some (.nx e) := rfl
@[simp] theorem sSeq_ap {f g : FS} {e : En} : sSeq f g e = sqK (f e) g := rfl
@[simp] theorem sBreak_ap  {e : En} : sBreak e = some (.bk e) := rfl
@[simp] theorem sCont_ap  {e : En} : sCont e = some (.ct e) := rfl
@[simp] theorem sNever_ap  {e : En} : sNever e = none := rfl
@[simp] theorem sSet_ap {i : Nat} {fa : Fn1 Arg} {e : En} : sSet i fa e = bndS (fa e) (valK i) := rfl
@[simp] theorem sAug1_ap {i : Nat} {o : S → S → Option S} {x : Option (Option S)} {b : Arg} {e : En} : sAug1 i o x b e = bndS (ret (op2 o x.join (b.get e)) e) (valK i) := rfl
@[simp] theorem sAug_ap {i : Nat} {o : S → S → Option S} {fb : Fn1 Arg} {e : En} : sAug i o fb e = augK i o fb e[i]? e := rfl
@[simp] theorem sExpr1_ap {u1 : Arg} {e : En} : sExpr1 u1 e = some (.nx e) := rfl
@[simp] theorem sExpr_ap {fa : Fn1 Arg} {e : En} : sExpr fa e = bndS (fa e) sExpr1 := rfl
@[simp] theorem sRet_ap {fa : Fn1 Arg} {e : En} : sRet fa e = bndS (fa e) rtK := rfl
@[simp] theorem sRetN_ap  {e : En} : sRetN e = some (.rt (.d .non) e) := rfl
@[simp] theorem sIf1_ap {f g : FS} {b : Bool} {e : En} : sIf1 f g b e = if b = true then f e else g e := rfl
@[simp] theorem sIf_ap {tc : Fn1 Bool} {f g : FS} {e : En} : sIf tc f g e = bndS (tc e) (sIf1 f g) := rfl
@[simp] theorem whileT_ap {g : En → Option Res} {f : FS} {b : Bool} {e : En} : whileT g f b e = if b = true then whileK g (f e) else some (.nx e) := rfl
@[simp] theorem sWhile_ap {fuel : En → Nat} {tc : Fn1 Bool} {f : FS} {e : En} : sWhile fuel tc f e = whileN tc f (fuel e) e := rfl
@[simp] theorem fCall1_ap {fn : FnS} {as : List Arg} {e : En} : fCall1 fn as e = callK fn as (gets as e) e := rfl
@[simp] theorem fCall_ap {fn : FnS} {fs : Fn1 (List Arg)} {e : En} : fCall fn fs e = bnd (fs e) (fCall1 fn) := rfl
@[simp] theorem sPat1_ap {b : D → En → Option En} {a : Arg} {e : En} : sPat1 b a e = patK b (a.get e) e := rfl
@[simp] theorem sPat_ap {b : D → En → Option En} {fa : Fn1 Arg} {e : En} : sPat b fa e = bndS (fa e) (sPat1 b) := rfl
@[simp] theorem itSeq1_ap {a : Arg} {e : En} : itSeq1 a e = itK (itemsA a e) e := rfl
@[simp] theorem itSeq_ap {fa : Fn1 Arg} {e : En} : itSeq fa e = bnd (fa e) itSeq1 := rfl
@[simp] theorem itRng1_ap {as : List Arg} {e : En} : itRng1 as e = itK (rngK (gets as e)) e := rfl
@[simp] theorem itRng_ap {fs : Fn1 (List Arg)} {e : En} : itRng fs e = bnd (fs e) itRng1 := rfl
@[simp] theorem sFor_ap {it : Fn1 (List D)} {b : D → En → Option En} {f : FS} {e : En} : sFor it b f e = bndS (it e) (forL b f) := rfl
@[simp] theorem lcE_ap {g : List D → En → Option (Arg × En)} {own : List Nat} {acc : List D} {e0 : En} {a : Arg} {e3 : En} : lcE g own acc e0 a e3 = lcV g acc (a.get e3) (unw e0 e3 own) := rfl
@[simp] theorem lcT_ap {g : List D → En → Option (Arg × En)} {own : List Nat} {elt : Fn1 Arg} {acc : List D} {e0 : En} {c : Bool} {e2 : En} : lcT g own elt acc e0 c e2 = if c = true then bnd (elt e2) (lcE g own acc e0) else g acc (unw e0 e2 own) := rfl
@[simp] theorem fLc1_ap {own : List Nat} {b : D → En → Option En} {tt : Fn1 Bool} {elt : Fn1 Arg} {xs : List D} {e : En} : fLc1 own b tt elt xs e = if xs.length ≤ sizeLine ∧ okOwn e own = true then lcL own b tt elt xs [] e else none := rfl
@[simp] theorem fLc_ap {own : List Nat} {it : Fn1 (List D)} {b : D → En → Option En} {tt : Fn1 Bool} {elt : Fn1 Arg} {e : En} : fLc own it b tt elt e = bnd (it e) (fLc1 own b tt elt) := rfl
@[simp] theorem fYes_ap  {e : En} : fYes e = some (true, e) := rfl
@[simp] theorem fNo_ap  {e : En} : fNo e = some (none, e) := rfl
@[simp] theorem fPart1_ap {a : Arg} {e : En} : fPart1 a e = partK (a.get e) e := rfl
@[simp] theorem fPart_ap {fa : Fn1 Arg} {e : En} : fPart fa e = bnd (fa e) fPart1 := rfl
@[simp] theorem fSl3_ap {a : Arg} {lo hi : Option Int} {e : En} : fSl3 a lo hi e = ret (op1 (oSl lo hi) (a.get e)) e := rfl
@[simp] theorem fSl2_ap {fhi : Fn1 (Option Int)} {a : Arg} {lo : Option Int} {e : En} : fSl2 fhi a lo e = bnd (fhi e) (fSl3 a lo) := rfl
@[simp] theorem fSl1_ap {flo fhi : Fn1 (Option Int)} {a : Arg} {e : En} : fSl1 flo fhi a e = bnd (flo e) (fSl2 fhi a) := rfl
@[simp] theorem fSl_ap {fa : Fn1 Arg} {flo fhi : Fn1 (Option Int)} {e : En} : fSl fa flo fhi e = bnd (fa e) (fSl1 flo fhi) := rfl
@[simp] theorem fMt1_ap {i : Nat} {o : MtO} {as : List Arg} {e : En} : fMt1 i o as e = mtK i o e[i]? (gets as e) e := rfl
@[simp] theorem fMt_ap {i : Nat} {o : MtO} {fs : Fn1 (List Arg)} {e : En} : fMt i o fs e = mtG i o fs e[i]? e := rfl
@[simp] theorem itEn_ap {fs : Fn1 (List Arg)} {e : En} : itEn fs e = bnd (fs e) itEn1 := rfl
@[simp] theorem itDwn1_ap {as : List Arg} {e : En} : itDwn1 as e = itK (dwnK (gets as e)) e := rfl
@[simp] theorem itDwn_ap {fs : Fn1 (List Arg)} {e : En} : itDwn fs e = bnd (fs e) itDwn1 := rfl
@[simp] theorem sPar1_ap {i j : Nat} {as : List Arg} {e : En} : sPar1 i j as e = parK i j (gets as e) e := rfl
@[simp] theorem sPar_ap {i j : Nat} {fs : Fn1 (List Arg)} {e : En} : sPar i j fs e = bndS (fs e) (sPar1 i j) := rfl
@[simp] theorem fMkSt_ap {fs : Fn1 (List Arg)} {e : En} : fMkSt fs e = bnd (fs e) fMkSt1 := rfl
@[simp] theorem fStGet_ap {i k : Nat} {e : En} : fStGet i k e = stGetK k e[i]? e := rfl
@[simp] theorem fStLen_ap {i : Nat} {e : En} : fStLen i e = stLenK e[i]? e := rfl
@[simp] theorem fStIx_ap {i : Nat} {e : En} : fStIx i e = stIxK e[i]? e := rfl
@[simp] theorem sStSet1_ap {i k : Nat} {a : Arg} {e : En} : sStSet1 i k a e = stSetK i k e[i]? (a.get e) e := rfl
@[simp] theorem sStSet_ap {i k : Nat} {fa : Fn1 Arg} {e : En} : sStSet i k fa e = bndS (fa e) (sStSet1 i k) := rfl
@[simp] theorem stAt_1 {p c z : Int} : stAt 1 p c z = p := rfl
@[simp] theorem stAt_2 {p c z : Int} : stAt 2 p c z = c := rfl
@[simp] theorem stAt_3 {p c z : Int} : stAt 3 p c z = z := rfl
@[simp] theorem stPut_1 {ns : List Int} {p c z v : Int} : stPut 1 ns p c z v = .st ns v c z := rfl
@[simp] theorem stPut_2 {ns : List Int} {p c z v : Int} : stPut 2 ns p c z v = .st ns p v z := rfl
@[simp] theorem stPut_3 {ns : List Int} {p c z v : Int} : stPut 3 ns p c z v = .st ns p c v := rfl
@[simp] theorem isNon_non : isNon (.d .non) = true := rfl
@[simp] theorem isNon_int {i : Int} : isNon (.d (.int i)) = false := rfl
@[simp] theorem isNon_tup {i : List D} : isNon (.d (.tup i)) = false := rfl
@[simp] theorem isNon_str {i : Str} : isNon (.d (.str i)) = false := rfl
@[simp] theorem isNon_bl {i : Bool} : isNon (.d (.bl i)) = false := rfl
@[simp] theorem oTup_def {ss : List S} : oTup ss = (allD ss).bind fun ds => if ds.length ≤ sizeLine then some (.d (.tup ds)) else none := rfl
@[simp] theorem oLst_def {ss : List S} : oLst ss = (allD ss).bind fun ds => if ds.length ≤ sizeLine then some (.m (.lst ds)) else none := rfl
theorem sizeLine_eq : sizeLine = 16777216 := by decide +kernel
theorem sizeLine_ge {n : Nat} (h : n ≤ 1000000) : n ≤ sizeLine := by rw [sizeLine_eq]; omega
theorem sizeLine_gt {n : Nat} (h : n ≤ 1000000) : n < sizeLine := by rw [sizeLine_eq]; omega
@[simp] theorem fin1_m {A : List Nat} {i : Nat} {x : M} {e : En} : fin1 A i (.m x) e = if A.contains i = true then none else match e[i]? with
    | some (some (.m y)) => some (.m y)
    | _ => none := rfl
@[simp] theorem fins_m {A : List Nat} {i : Nat} {x : M} {ss : List S} {e : En} : fins A i (.m x :: ss) e = cons? (fin1 A i (.m x) e) (fins A (i + 1) ss e) := rfl
@[simp] theorem mulC64_two {i : Int} : mulC64 i 2 = true := by simp [mulC64]
@[simp] theorem mulC64_four {i : Int} : mulC64 i 4 = true := by simp [mulC64]
@[simp] theorem divC30_two {i : Int} : divC30 i 2 = true := by simp [divC30]
@[simp] theorem divC30_four {i : Int} : divC30 i 4 = true := by simp [divC30]
theorem log2_lt {n k : Nat} (h : n < 2 ^ k) (hk : 0 < k) : n.log2 < k := by
  by_cases z : n = 0
  · subst z; simpa using hk
  · exact (Nat.log2_lt z).mpr h
theorem mulC_of {i j : Int} (h1 : -(2 ^ 200) < i) (h2 : i < 2 ^ 200) (h3 : -(2 ^ 200) < j) (h4 : j < 2 ^ 200) : mulC i j = true := by
  have a : i.natAbs.log2 < 200 := log2_lt (by omega) (by omega)
  have b : j.natAbs.log2 < 200 := log2_lt (by omega) (by omega)
  exact decide_eq_true (by omega)
theorem divC_of {i j : Int} (h3 : 0 < j) (h4 : j < 2 ^ 200) : divC i j = true := by
  have b : j.natAbs.log2 < 200 := log2_lt (by omega) (by omega)
  exact decide_eq_true ⟨h3, by omega⟩
theorem smallI_of {i : Int} (h1 : -(2 ^ 62) ≤ i) (h2 : i < 2 ^ 62) : smallI i = true := decide_eq_true ⟨h1, h2⟩

/-! ### equality -/
mutual
def eqD : D → D → Bool
  | .non, .non => true
  | .bl a, .bl b => a == b
  | .bl a, .int j => (if a then 1 else 0) == j
  | .int i, .bl b => i == (if b then 1 else 0)
  | .int i, .int j => decide (i = j)
  | .str x, .str y => x == y
  | .tup xs, .tup ys => eqDs xs ys
  | _, _ => false
def eqDs : List D → List D → Bool
  | [], [] => true
  | x :: xs, y :: ys => eqD x y && eqDs xs ys
  | _, _ => false
end
mutual
theorem eqv_toPy : ∀ x y : D, PyData.eqv (toPy x) (toPy y) = eqD x y
  | .non, y => by cases y <;> simp [toPy, PyData.eqv, eqD]
  | .bl a, y => by cases y <;> simp [toPy, PyData.eqv, eqD]
  | .int i, y => by
    cases y with
    | int j => simp only [toPy, PyData.eqv, eqD]; rfl
    | _ => simp [toPy, PyData.eqv, eqD]
  | .str x, y => by cases y <;> simp [toPy, PyData.eqv, eqD]
  | .tup xs, y => by
    cases y with
    | tup ys => simpa [toPy, PyData.eqv, eqD] using eqv_toPys xs ys
    | _ => simp [toPy, PyData.eqv, eqD]
theorem eqv_toPys : ∀ x y : List D, PyData.eqvAll (toPys x) (toPys y) = eqDs x y
  | [], y => by cases y <;> simp [toPys, PyData.eqvAll, eqDs]
  | x :: xs, y => by
    cases y with
    | nil => simp [toPys, PyData.eqvAll, eqDs]
    | cons y ys => simp [toPys, PyData.eqvAll, eqDs, eqv_toPy x y, eqv_toPys xs ys]
end
mutual
/-- can be laid, and at most so deep -/
def shD : Nat → D → Bool
  | _, .non => true
  | _, .bl _ => true
  | _, .int _ => true
  | _, .str x => PyData.canLay0 (.str x)
  | 0, .tup _ => false
  | n + 1, .tup xs => shDs n xs
def shDs : Nat → List D → Bool
  | _, [] => true
  | n, x :: xs => shD n x && shDs n xs
end
mutual
theorem shD_ok : ∀ (n : Nat) (x : D), shD n x = true → (toPy x).canLay0 = true ∧ (toPy x).depth ≤ n
  | n, .non, _ => by simp [toPy, PyData.canLay0, PyData.depth]
  | n, .bl _, _ => by simp [toPy, PyData.canLay0, PyData.depth]
  | n, .int _, _ => by simp [toPy, PyData.canLay0, PyData.depth]
  | n, .str x, h => by
    refine ⟨?_, ?_⟩
    · simpa [shD, toPy] using h
    · simp [toPy, PyData.depth]
  | 0, .tup xs, h => by simp [shD] at h
  | n + 1, .tup xs, h => by
    have q := shDs_ok n xs (by simpa [shD] using h)
    refine ⟨?_, ?_⟩
    · simpa [toPy, PyData.canLay0] using q.1
    · simpa [toPy, PyData.depth] using q.2
theorem shDs_ok : ∀ (n : Nat) (x : List D), shDs n x = true → PyData.canLayAll0 (toPys x) = true ∧ PyData.depthAll (toPys x) ≤ n
  | n, [], _ => by simp [toPys, PyData.canLayAll0, PyData.depthAll]
  | n, x :: xs, h => by
    have h' : shD n x = true ∧ shDs n xs = true := by simpa [shDs] using h
    have a := shD_ok n x h'.1
    have b := shDs_ok n xs h'.2
    refine ⟨by simp [toPys, PyData.canLayAll0, a.1, b.1], ?_⟩
    have := Nat.max_le.mpr ⟨a.2, b.2⟩
    simpa [toPys, PyData.depthAll] using this
end
theorem shaped_of {x : D} (h : shD 8 x = true) : SeqAt.shaped (toPy x) = true := by
  have q := shD_ok 8 x h
  exact Bool.and_eq_true_iff.mpr ⟨q.1, decide_eq_true (by omega)⟩
theorem shaped_ofs {x : List D} (h : shDs 8 x = true) : SeqAt.shaped (.list (toPys x)) = true := by
  have q := shDs_ok 8 x h
  exact Bool.and_eq_true_iff.mpr ⟨by simpa [PyData.canLay0] using q.1, decide_eq_true (by simp [PyData.depth]; omega)⟩
@[simp] theorem oEq_d {x y : D} (hx : shD 8 x = true) (hy : shD 8 y = true) : oEq (.d x) (.d y) = some (.d (.bl (eqD x y))) := by
  simp [oEq, oEqB, pyOf, shaped_of hx, shaped_of hy, eqv_toPy]
@[simp] theorem oNe_d {x y : D} (hx : shD 8 x = true) (hy : shD 8 y = true) : oNe (.d x) (.d y) = some (.d (.bl (!eqD x y))) := by
  simp [oNe, oEqB, pyOf, shaped_of hx, shaped_of hy, eqv_toPy]
@[simp] theorem oEq_l {x y : List D} (hx : shDs 8 x = true) (hy : shDs 8 y = true) : oEq (.m (.lst x)) (.m (.lst y)) = some (.d (.bl (eqDs x y))) := by
  simp [oEq, oEqB, pyOf, shaped_ofs hx, shaped_ofs hy, PyData.eqv, eqv_toPys]
@[simp] theorem oNe_l {x y : List D} (hx : shDs 8 x = true) (hy : shDs 8 y = true) : oNe (.m (.lst x)) (.m (.lst y)) = some (.d (.bl (!eqDs x y))) := by
  simp [oNe, oEqB, pyOf, shaped_ofs hx, shaped_ofs hy, PyData.eqv, eqv_toPys]
@[simp] theorem shD_non {n : Nat} : shD n .non = true := by cases n <;> rfl
@[simp] theorem shD_bl {n : Nat} {i : Bool} : shD n (.bl i) = true := by cases n <;> rfl
@[simp] theorem shD_int {n : Nat} {i : Int} : shD n (.int i) = true := by cases n <;> rfl
@[simp] theorem shD_str {n : Nat} {i : Str} : shD n (.str i) = PyData.canLay0 (.str i) := by cases n <;> rfl
@[simp] theorem shD_tup {n : Nat} {xs : List D} : shD (n + 1) (.tup xs) = shDs n xs := rfl
@[simp] theorem shDs_nil {n : Nat} : shDs n [] = true := by cases n <;> rfl
@[simp] theorem shDs_cons {n : Nat} {x : D} {xs : List D} : shDs n (x :: xs) = (shD n x && shDs n xs) := by cases n <;> rfl
@[simp] theorem shDs_ints {n : Nat} {l : List Int} : shDs n (l.map D.int) = true := by
  induction l with
  | nil => simp
  | cons a l ih => simp [ih]
@[simp] theorem shDs_append {n : Nat} {a b : List D} : shDs n (a ++ b) = (shDs n a && shDs n b) := by
  induction a with
  | nil => simp
  | cons x a ih => simp [ih, Bool.and_assoc]
@[simp] theorem eqD_int {i j : Int} : eqD (.int i) (.int j) = decide (i = j) := rfl
@[simp] theorem eqD_bl {i j : Bool} : eqD (.bl i) (.bl j) = (i == j) := rfl
@[simp] theorem eqD_str {i j : Str} : eqD (.str i) (.str j) = (i == j) := rfl
@[simp] theorem eqD_non : eqD .non .non = true := rfl
@[simp] theorem eqD_tup {i j : List D} : eqD (.tup i) (.tup j) = eqDs i j := rfl
@[simp] theorem eqD_int_bl {i : Int} {b : Bool} : eqD (.int i) (.bl b) = (i == (if b then 1 else 0)) := rfl
@[simp] theorem eqD_bl_int {i : Int} {b : Bool} : eqD (.bl b) (.int i) = ((if b then 1 else 0) == i) := rfl
@[simp] theorem eqD_tup_int {i : List D} {j : Int} : eqD (.tup i) (.int j) = false := rfl
@[simp] theorem eqD_tup_non {i : List D} : eqD (.tup i) .non = false := rfl
@[simp] theorem eqD_non_tup {i : List D} : eqD .non (.tup i) = false := rfl
@[simp] theorem eqD_int_non {i : Int} : eqD (.int i) .non = false := rfl
@[simp] theorem eqD_non_int {i : Int} : eqD .non (.int i) = false := rfl
@[simp] theorem eqDs_nil : eqDs [] [] = true := rfl
@[simp] theorem eqDs_cons {x y : D} {xs ys : List D} : eqDs (x :: xs) (y :: ys) = (eqD x y && eqDs xs ys) := rfl
@[simp] theorem eqDs_cons_nil {x : D} {xs : List D} : eqDs (x :: xs) [] = false := rfl
@[simp] theorem eqDs_nil_cons {x : D} {xs : List D} : eqDs [] (x :: xs) = false := rfl
@[simp] theorem eqDs_ints {l m : List Int} : eqDs (l.map D.int) (m.map D.int) = decide (l = m) := by
  induction l generalizing m with
  | nil => cases m <;> simp
  | cons a l ih => cases m <;> simp [ih]
mutual
theorem eqD_self : ∀ x : D, eqD x x = true
  | .non => rfl
  | .bl a => by simp
  | .int a => by simp
  | .str a => by simp
  | .tup xs => by simpa using eqDs_self xs
theorem eqDs_self : ∀ x : List D, eqDs x x = true
  | [] => rfl
  | x :: xs => by simp [eqD_self x, eqDs_self xs]
end
@[simp] theorem getI_nat {α : Type} {xs : List α} {i : Nat} : getI xs (i : Int) = xs[i]? := by simp [getI]
theorem getI_last {α : Type} {xs : List α} {x : α} : getI (xs ++ [x]) (-1) = some x := by
  unfold getI
  rw [if_neg (by omega), if_pos (by simp; omega)]
  have : ((-1 : Int) + ((xs ++ [x]).length : Int)).toNat = xs.length := by simp; omega
  rw [this]
  simp
end QL
end

section
set_option Elab.async false
set_option linter.all false
set_option maxRecDepth 100000
namespace QL
open PySem PySem.Spec PyProof.Rows L2
/-! ### loops by what is kept -/
theorem for_inv {b : D → En → Option En} {f : FS} (P : Nat → En → Prop) : ∀ (xs : List D) (k0 : Nat) (e : En), P k0 e →
    (∀ k x e, xs[k]? = some x → P (k0 + k) e → ∃ e1 e2, b x e = some e1 ∧ f e1 = some (.nx e2) ∧ P (k0 + k + 1) e2) → ∃ e', forL b f xs e = some (.nx e') ∧ P (k0 + xs.length) e'
  | [], k0, e, h0, _ => ⟨e, rfl, h0⟩
  | x :: xs, k0, e, h0, st => by
    obtain ⟨e1, e2, h1, h2, h3⟩ := st 0 x e rfl h0
    obtain ⟨e', h4, h5⟩ := for_inv P xs (k0 + 1) e2 h3 fun k y e hk hp => by
      have := st (k + 1) y e (by simpa using hk) (by rwa [show k0 + (k + 1) = k0 + 1 + k by omega])
      rwa [show k0 + (k + 1) + 1 = k0 + 1 + k + 1 by omega] at this
    refine ⟨e', ?_, by rwa [show k0 + (x :: xs).length = k0 + 1 + xs.length by simp; omega]⟩
    rw [forL_cons, h1, forK_some, h2, whileK_nx, h4]
theorem rngL_len {lo : Int} {n : Nat} : (rngL lo n).length = n := by simp [rngL]
theorem rngL_get {lo : Int} {n k : Nat} {x : D} (h : (rngL lo n)[k]? = some x) : k < n ∧ x = .int (lo + k) := by
  unfold rngL at h
  rw [List.getElem?_map] at h
  by_cases hk : k < n
  · rw [List.getElem?_range hk] at h
    exact ⟨hk, by cases h; rfl⟩
  · rw [List.getElem?_eq_none (by simp; omega)] at h
    cases h
theorem rngL_zero {n : Nat} : rngL 0 n = (List.range n).map fun (k : Nat) => D.int (k : Int) := by
  unfold rngL
  simp
theorem dwnL_len {lo : Int} {n : Nat} : (dwnL lo n).length = n := by simp [dwnL]
theorem dwnL_get {lo : Int} {n k : Nat} {x : D} (h : (dwnL lo n)[k]? = some x) : k < n ∧ x = .int (lo - k) := by
  unfold dwnL at h
  rw [List.getElem?_map] at h
  by_cases hk : k < n
  · rw [List.getElem?_range hk] at h
    refine ⟨hk, ?_⟩
    cases h
    show D.int (lo + (k : Int) * (-1)) = _
    congr 1
    omega
  · rw [List.getElem?_eq_none (by simp; omega)] at h
    cases h
theorem for_list {b : D → En → Option En} {f : FS} {xs : List D} {e : En} (P : Nat → En → Prop) (h0 : P 0 e)
    (st : ∀ k x e, xs[k]? = some x → P k e → ∃ e1 e2, b x e = some e1 ∧ f e1 = some (.nx e2) ∧ P (k + 1) e2) : ∃ e', forL b f xs e = some (.nx e') ∧ P xs.length e' := by
  have := for_inv P xs 0 e h0 fun k x e hk hp => by simpa using st k x e hk (by simpa using hp)
  simpa using this
theorem for_rng {b : D → En → Option En} {f : FS} {lo : Int} {n : Nat} {e : En} (P : Nat → En → Prop) (h0 : P 0 e)
    (st : ∀ (k : Nat) e, k < n → P k e → ∃ e1 e2, b (.int (lo + k)) e = some e1 ∧ f e1 = some (.nx e2) ∧ P (k + 1) e2) : ∃ e', forL b f (rngL lo n) e = some (.nx e') ∧ P n e' := by
  have := for_list (b := b) (f := f) (xs := rngL lo n) P h0 fun k x e hk hp => by
    obtain ⟨h1, rfl⟩ := rngL_get hk
    exact st k e h1 hp
  rwa [rngL_len] at this
theorem for_dwn {b : D → En → Option En} {f : FS} {lo : Int} {n : Nat} {e : En} (P : Nat → En → Prop) (h0 : P 0 e)
    (st : ∀ (k : Nat) e, k < n → P k e → ∃ e1 e2, b (.int (lo - k)) e = some e1 ∧ f e1 = some (.nx e2) ∧ P (k + 1) e2) : ∃ e', forL b f (dwnL lo n) e = some (.nx e') ∧ P n e' := by
  have := for_list (b := b) (f := f) (xs := dwnL lo n) P h0 fun k x e hk hp => by
    obtain ⟨h1, rfl⟩ := dwnL_get hk
    exact st k e h1 hp
  rwa [dwnL_len] at this
theorem while_dec {tc : Fn1 Bool} {f : FS} (P : Nat → En → Prop) (Q : En → Prop)
    (h : ∀ m e, P m e → (∃ e', tc e = some (false, e') ∧ Q e') ∨ ∃ e' e'' m', tc e = some (true, e') ∧ f e' = some (.nx e'') ∧ m' < m ∧ P m' e'') :
    ∀ fuel m e, m < fuel → P m e → ∃ e', whileN tc f fuel e = some (.nx e') ∧ Q e'
  | 0, m, e, hf, _ => absurd hf (by omega)
  | n + 1, m, e, hf, hp => by
    rcases h m e hp with ⟨e', h1, h2⟩ | ⟨e', e'', m', h1, h2, h3, h4⟩
    · exact ⟨e', by show bndS (tc e) _ = _; rw [h1]; rfl, h2⟩
    · obtain ⟨z, h5, h6⟩ := while_dec P Q h n m' e'' (by omega) h4
      refine ⟨z, ?_, h6⟩
      show bndS (tc e) _ = _
      rw [h1, bndS_some, whileT_ap, if_pos rfl, h2, whileK_nx, h5]
theorem while0 {tc : Fn1 Bool} {f : FS} {e : En} (P : Nat → En → Prop) (Q : En → Prop) (m : Nat) (hm : m < 100000) (h0 : P m e)
    (h : ∀ m e, P m e → (∃ e', tc e = some (false, e') ∧ Q e') ∨ ∃ e' e'' m', tc e = some (true, e') ∧ f e' = some (.nx e'') ∧ m' < m ∧ P m' e'') :
    ∃ e', whileN tc f (fuel0 e) e = some (.nx e') ∧ Q e' := while_dec P Q h 100000 m e hm h0

/-! ### comprehensions by one item -/
def one3 (own : List Nat) (e0 e : En) (z : Option S) : Option (Option D × En) := match z with
  | some (.d y) => some (some y, unw e0 e own)
  | _ => none
@[simp] theorem one3_d {own : List Nat} {e0 e : En} {y : D} : one3 own e0 e (some (.d y)) = some (some y, unw e0 e own) := rfl
def bnd' {α β : Type} (x : Option (α × En)) (k : α → En → Option β) : Option β := match x with
  | some p => k p.1 p.2
  | none => none
@[simp] theorem bnd'_some {α β : Type} {a : α} {e : En} {k : α → En → Option β} : bnd' (some (a, e)) k = k a e := rfl
def one2 (own : List Nat) (elt : Fn1 Arg) (e0 : En) (c : Bool) (e : En) : Option (Option D × En) := if c = true then bnd' (elt e) fun a e3 => one3 own e0 e3 (a.get e3) else some (none, unw e0 e own)
@[simp] theorem one2_t {own : List Nat} {elt : Fn1 Arg} {e0 e : En} : one2 own elt e0 true e = bnd' (elt e) fun a e3 => one3 own e0 e3 (a.get e3) := rfl
@[simp] theorem one2_f {own : List Nat} {elt : Fn1 Arg} {e0 e : En} : one2 own elt e0 false e = some (none, unw e0 e own) := rfl
def one1 (own : List Nat) (tt : Fn1 Bool) (elt : Fn1 Arg) (e0 : En) (z : Option En) : Option (Option D × En) := match z with
  | some e1 => bnd' (tt e1) (one2 own elt e0)
  | none => none
@[simp] theorem one1_some {own : List Nat} {tt : Fn1 Bool} {elt : Fn1 Arg} {e0 e1 : En} : one1 own tt elt e0 (some e1) = bnd' (tt e1) (one2 own elt e0) := rfl
def lcOne (own : List Nat) (b : D → En → Option En) (tt : Fn1 Bool) (elt : Fn1 Arg) (e : En) (x : D) : Option (Option D × En) := one1 own tt elt e (b x (wipeE e own))
theorem lc_step {own : List Nat} {b : D → En → Option En} {tt : Fn1 Bool} {elt : Fn1 Arg} {x : D} {xs acc : List D} {e e' : En} {r : Option D} (h : lcOne own b tt elt e x = some (r, e')) :
    lcL own b tt elt (x :: xs) acc e = lcL own b tt elt xs (acc ++ r.toList) e' := by
  unfold lcOne at h
  rw [lcL_cons]
  cases hb : b x (wipeE e own) with
  | none => rw [hb] at h; cases h
  | some e1 =>
    rw [hb] at h
    rw [one1_some] at h
    rw [lcB_some]
    cases ht : tt e1 with
    | none => rw [ht] at h; cases h
    | some p =>
      obtain ⟨c, e2⟩ := p
      rw [ht, bnd'_some] at h
      rw [bnd_some]
      cases c with
      | false => cases h; simp
      | true =>
        rw [one2_t] at h
        rw [lcT_ap, if_pos rfl]
        cases he : elt e2 with
        | none => rw [he] at h; cases h
        | some p =>
          obtain ⟨a, e3⟩ := p
          rw [he, bnd'_some] at h
          rw [bnd_some, lcE_ap]
          cases hg : a.get e3 with
          | none => rw [hg] at h; cases h
          | some s =>
            cases s with
            | d y => rw [hg] at h; cases h; rfl
            | _ => rw [hg] at h; cases h
theorem lc_inv {own : List Nat} {b : D → En → Option En} {tt : Fn1 Bool} {elt : Fn1 Arg} (P : Nat → List D → En → Prop) : ∀ (xs : List D) (k0 : Nat) (acc : List D) (e : En), P k0 acc e →
    (∀ k x acc e, xs[k]? = some x → P (k0 + k) acc e → ∃ r e', lcOne own b tt elt e x = some (r, e') ∧ P (k0 + k + 1) (acc ++ r.toList) e') →
    ∃ acc' e', lcL own b tt elt xs acc e = some (.val (.m (.lst acc')), e') ∧ P (k0 + xs.length) acc' e'
  | [], k0, acc, e, h0, _ => ⟨acc, e, rfl, h0⟩
  | x :: xs, k0, acc, e, h0, st => by
    obtain ⟨r, e2, h1, h3⟩ := st 0 x acc e rfl h0
    obtain ⟨acc', e', h4, h5⟩ := lc_inv P xs (k0 + 1) _ e2 h3 fun k y a e hk hp => by
      have := st (k + 1) y a e (by simpa using hk) (by rwa [show k0 + (k + 1) = k0 + 1 + k by omega])
      rwa [show k0 + (k + 1) + 1 = k0 + 1 + k + 1 by omega] at this
    refine ⟨acc', e', ?_, by rwa [show k0 + (x :: xs).length = k0 + 1 + xs.length by simp; omega]⟩
    rw [lc_step h1, h4]
/-- the store stays -/
theorem lc_pure {own : List Nat} {b : D → En → Option En} {tt : Fn1 Bool} {elt : Fn1 Arg} {e : En} (r : D → Option D) : ∀ {xs : List D} {acc : List D},
    (∀ x ∈ xs, lcOne own b tt elt e x = some (r x, e)) → lcL own b tt elt xs acc e = some (.val (.m (.lst (acc ++ xs.filterMap r))), e)
  | [], acc, _ => by simp
  | x :: xs, acc, h => by
    rw [lc_step (h x (by simp)), lc_pure r fun y hy => h y (by simp [hy])]
    cases hr : r x <;> simp [hr]
theorem lc_map {own : List Nat} {b : D → En → Option En} {tt : Fn1 Bool} {elt : Fn1 Arg} {e : En} (r : D → D) {xs : List D}
    (h : ∀ x ∈ xs, lcOne own b tt elt e x = some (some (r x), e)) : lcL own b tt elt xs [] e = some (.val (.m (.lst (xs.map r))), e) := by
  rw [lc_pure (fun x => some (r x)) h, List.nil_append, List.filterMap_eq_map']
theorem lc_filter {own : List Nat} {b : D → En → Option En} {tt : Fn1 Bool} {elt : Fn1 Arg} {e : En} (p : D → Bool) {xs : List D}
    (h : ∀ x ∈ xs, lcOne own b tt elt e x = some (if p x = true then some x else none, e)) : lcL own b tt elt xs [] e = some (.val (.m (.lst (xs.filter p))), e) := by
  rw [lc_pure (fun x => if p x = true then some x else none) h, List.nil_append]
  congr 4
  induction xs with
  | nil => rfl
  | cons a l ih =>
    have := ih fun x hx => h x (by simp [hx])
    cases hp : p a <;> simp [hp, List.filterMap_cons, List.filter_cons] <;> simpa using this
/-! ### items at small places, slices -/
section
variable {α : Type} {a b c d f : α} {l : List α}
@[simp] theorem getI_0 : getI (a :: l) 0 = some a := rfl
@[simp] theorem getI_1 : getI (a :: b :: l) 1 = some b := rfl
@[simp] theorem getI_2 : getI (a :: b :: c :: l) 2 = some c := rfl
@[simp] theorem getI_3 : getI (a :: b :: c :: d :: l) 3 = some d := rfl
@[simp] theorem getI_4 : getI (a :: b :: c :: d :: f :: l) 4 = some f := rfl
@[simp] theorem getI_m1 : getI [a] (-1) = some a := rfl
@[simp] theorem getI_m12 : getI [a, b] (-1) = some b := rfl
@[simp] theorem getI_m13 : getI [a, b, c] (-1) = some c := rfl
end
theorem cutD_from {l : List D} {k : Nat} (h : k ≤ l.length) : QL.cutD l (some (k : Int)) none = l.drop k := by
  unfold QL.cutD
  rw [HT.sIx_nat, HT.sIx_none, Nat.min_eq_left h]
  exact List.take_of_length_le (by simp)
theorem cutD_to {l : List D} {k : Nat} (h : k ≤ l.length) : QL.cutD l none (some (k : Int)) = l.take k := by
  unfold QL.cutD
  rw [HT.sIx_nat, HT.sIx_none, Nat.min_eq_left h]
  simp
@[simp] theorem cutD_2 {a b : D} {l : List D} : QL.cutD (a :: b :: l) none (some 2) = [a, b] := by
  have := cutD_to (l := a :: b :: l) (k := 2) (by simp)
  simpa using this
end QL
end

section
set_option Elab.async false
set_option linter.all false
set_option maxRecDepth 100000
namespace QL
open PySem PySem.Spec PyProof.Rows L2

/-! ### tuples that the module's names stand for -/
theorem flV_mk {K : PySem.W.Frag} {H : Hp} {x : D} {v : V} (h : flV x = some v) : RD K H x v := by
  cases x with
  | non => cases h; exact .non
  | bl b => cases h; exact .bl b
  | int i => cases h; exact .int i
  | str z => cases h; exact .str z
  | tup xs => cases h
theorem flVs_mk {K : PySem.W.Frag} {H : Hp} : ∀ {ds : List D} {vs : List V}, flVs ds = some vs → RDs K H ds vs
  | [], vs, h => by cases h; exact .nil
  | x :: xs, vs, h => by
    unfold flVs at h
    split at h
    · rename_i h1 h2
      cases h
      exact .cons (flV_mk h1) (flVs_mk h2)
    · cases h
/-- the module's name x stands for a tuple of the values vs -/
def GTup (K : PySem.W.Frag) (mg : Str → Option Value) (x : Str) (vs : List V) : Prop := ∃ a, mg x = some (.ref a) ∧ ∀ H, SqT K H a vs
theorem qx_globT {X : Cx} {pos : Pos} {x : Str} {vs : List V} {ds : List D} (c : GTup X.K X.mg x vs) (hf : flVs ds = some vs) (hg : Gl X x) (hd : (x == ("__debug__" : Str)) = false := by decide) : PX X (.Name x pos) (fC (.tup ds)) := by
  obtain ⟨a, h1, h2⟩ := c
  exact PE.imp (pe_glob (v := .ref a) hg h1 rfl hd) fun σ H Q h => tE_C (fun H => .tup (h2 H) (flVs_mk hf)) h
/-! ### a hook with a word of one's own -/
abbrev AlE : Type := He.AlD × Bool
def obsE (fa : List He.Fa) (fn : List He.DefD) (ex : PySem.W.Frag → Bool) (K : PySem.W.Frag) : AlE := (He.obsD fa fn K, ex K)
def valE (fn : List He.DefD) : AlE := (He.valD fn, true)
def SaysE (fa : List He.Fa) (fn : List He.DefD) (ex : PySem.W.Frag → Bool) (K : PySem.W.Frag) : Prop := obsE fa fn ex K = valE fn
def obsEG (n : Nat) (fa : List He.Fa) (fn : List He.DefD) (ex : PySem.W.Frag → Bool) (g : Addr → Option Obj) : AlE := obsE fa fn ex (He.frG g (He.asD g n))
def hookE (n : Nat) (fa : List He.Fa) (fn : List He.DefD) (ex : PySem.W.Frag → Bool) : PySem.W.Hook where
  α := AlE
  obs := fun s => obsEG n fa fn ex s.heap.get?
  val := fun _ => valE fn
  says := fun _ h => ∃ K : PySem.W.Frag, K.In h ∧ SaysE fa fn ex K
  of := fun _ _ e => ⟨_, He.frG_in, e⟩
  keeps := fun _ _ _ ⟨K, hK, c⟩ k => ⟨K, PySem.W.Frag.In.keeps hK k, c⟩
theorem obsEG_eq {n : Nat} {fa : List He.Fa} {fn : List He.DefD} {ex : PySem.W.Frag → Bool} {g : Addr → Option Obj} {s : Shared} (h : ∀ a, g a = s.heap.get? a) : obsEG n fa fn ex g = (hookE n fa fn ex).obs s := by
  have e : g = s.heap.get? := funext h
  rw [e] <;> rfl
section
variable {fa : List He.Fa} {fn : List He.DefD} {ex : PySem.W.Frag → Bool} {K : PySem.W.Frag}
theorem SaysE.d (c : SaysE fa fn ex K) : He.SaysD fa fn K := congrArg (fun z : AlE => z.1) c
theorem SaysE.own (c : SaysE fa fn ex K) : ex K = true := congrArg (fun z : AlE => z.2) c
end
theorem gtup_ok {K : PySem.W.Frag} {h : Heap} {mg : Str → Option Value} {x : Str} {vs : List He.Dv} {ws : List V} (X : K.In h) (G : h.Ns mainGlobals mg) (c1 : (He.Fa.glo x).ok K = true) (c2 : He.tupB K x vs = true) (e : vs.map (He.Dv.v K) = ws) : GTup K mg x ws :=
  ⟨_, He.glo_ok X G c1, fun H => e ▸ He.tupB_ok c2 H⟩
/-! ### in, for data of any depth -/
theorem rm65 {k : Nat} {A : Around} (r : Room k A) : A.units + 65 < cLine := by have := r.un; omega
def rInDT (neg : Bool) (K : PySem.W.Frag) : R2 := fun x y H Q => ∃ d ds, Dp K H x d ∧ (Dp K H y (.tuple ds) ∨ Dp K H y (.list ds)) ∧ SeqAt.shaped d = true ∧ SeqAt.shaped (.list ds) = true ∧ Q (.bl (if neg then !(ds.any fun z => PyData.eqv z d) else ds.any fun z => PyData.eqv z d)) H
theorem op_inDT {X : Cx} (hu : X.A.units + 65 < cLine) : OpR X (compareOp .In) (rInDT false X.K) := by
  intro pins s σ H x y v u Q I rx ry h
  obtain ⟨d, ds, hd, he, sd, se, q⟩ := h
  obtain ⟨as, r1⟩ := Dp.reads I d x v hd rx
  rcases he with he | he
  · obtain ⟨bs, r2⟩ := Dp.reads I (.tuple ds) y u he ry
    exact SeqAt.in_tuple_reads r2 r1 (SeqAt.canLay_of_shaped se) (SeqAt.canLay_of_shaped sd) (room_in_shaped sd hu) ⟨.bl _, H, I, rfl, q⟩
  · obtain ⟨bs, r2⟩ := Dp.reads I (.list ds) y u he ry
    exact SeqAt.in_list_reads r2 r1 (SeqAt.canLay_of_shaped se) (SeqAt.canLay_of_shaped sd) (room_in_shaped sd hu) ⟨.bl _, H, I, rfl, q⟩
theorem op_ninDT {X : Cx} (hu : X.A.units + 65 < cLine) : OpR X (compareOp .NotIn) (rInDT true X.K) := by
  intro pins s σ H x y v u Q I rx ry h
  obtain ⟨d, ds, hd, he, sd, se, q⟩ := h
  obtain ⟨as, r1⟩ := Dp.reads I d x v hd rx
  rcases he with he | he
  · obtain ⟨bs, r2⟩ := Dp.reads I (.tuple ds) y u he ry
    exact SeqAt.notIn_tuple_reads r2 r1 (SeqAt.canLay_of_shaped se) (SeqAt.canLay_of_shaped sd) (room_in_shaped sd hu) ⟨.bl _, H, I, rfl, q⟩
  · obtain ⟨bs, r2⟩ := Dp.reads I (.list ds) y u he ry
    exact SeqAt.notIn_list_reads r2 r1 (SeqAt.canLay_of_shaped se) (SeqAt.canLay_of_shaped sd) (room_in_shaped sd hu) ⟨.bl _, H, I, rfl, q⟩
def lsOf : PyData → Option (List PyData)
  | .tuple ds => some ds
  | .list ds => some ds
  | _ => none
theorem lsOf_eq {d : PyData} {ds : List PyData} (h : lsOf d = some ds) : d = .tuple ds ∨ d = .list ds := by
  cases d <;> simp [lsOf] at h
  · exact .inr (by rw [h])
  · exact .inl (by rw [h])
def inT (neg : Bool) (x : Option PyData) (y : Option (List PyData)) : Option S := match x, y with
  | some d, some ds => if SeqAt.shaped d = true ∧ SeqAt.shaped (.list ds) = true then some (.d (.bl (if neg then !(ds.any fun z => PyData.eqv z d) else ds.any fun z => PyData.eqv z d))) else none
  | _, _ => none
def oInTB (neg : Bool) (x y : S) : Option S := inT neg (pyOf x) ((pyOf y).bind lsOf)
def oInT : S → S → Option S := oInTB false
def oNinT : S → S → Option S := oInTB true
theorem op2_inT {neg : Bool} {K : PySem.W.Frag} : Op2 K (rInDT neg K) (oInTB neg) := by
  intro H x y sx sy s Q e hx hy f
  unfold oInTB inT at e
  split at e
  · rename_i d ds h1 h2
    split at e
    · rename_i h3
      cases e
      cases q : pyOf sy with
      | none => rw [q] at h2; cases h2
      | some dy =>
        rw [q] at h2
        have h2 : lsOf dy = some ds := h2
        have r := rd_py q hy
        refine ⟨d, ds, rd_py h1 hx, ?_, h3.1, h3.2, f.bl⟩
        rcases lsOf_eq h2 with rfl | rfl
        · exact .inl r
        · exact .inr r
    · cases e
  · cases e
theorem qc_inT {X : Cx} {k : Nat} (r : Room k X.A) : CmpOk X .In oInT := ⟨_, op_inDT (rm65 r), op2_inT⟩
theorem qc_ninT {X : Cx} {k : Nat} (r : Room k X.A) : CmpOk X .NotIn oNinT := ⟨_, op_ninDT (rm65 r), op2_inT⟩
theorem any_py {x : D} : ∀ ds : List D, ((toPys ds).any fun z => PyData.eqv z (toPy x)) = ds.any fun z => eqD z x
  | [] => rfl
  | y :: ds => by rw [toPys, List.any_cons, List.any_cons, any_py ds, eqv_toPy]
@[simp] theorem oInT_tup {x : D} {ds : List D} (hx : shD 8 x = true) (hs : shDs 8 ds = true) : oInT (.d x) (.d (.tup ds)) = some (.d (.bl (ds.any fun z => eqD z x))) := by
  simp [oInT, oInTB, lsOf, pyOf, toPy, inT, shaped_of hx, shaped_ofs hs, any_py]
@[simp] theorem oNinT_tup {x : D} {ds : List D} (hx : shD 8 x = true) (hs : shDs 8 ds = true) : oNinT (.d x) (.d (.tup ds)) = some (.d (.bl (!(ds.any fun z => eqD z x)))) := by
  simp [oNinT, oInTB, lsOf, pyOf, toPy, inT, shaped_of hx, shaped_ofs hs, any_py]
@[simp] theorem oInT_lst {x : D} {ds : List D} (hx : shD 8 x = true) (hs : shDs 8 ds = true) : oInT (.d x) (.m (.lst ds)) = some (.d (.bl (ds.any fun z => eqD z x))) := by
  simp [oInT, oInTB, lsOf, pyOf, inT, shaped_of hx, shaped_ofs hs, any_py]
@[simp] theorem oNinT_lst {x : D} {ds : List D} (hx : shD 8 x = true) (hs : shDs 8 ds = true) : oNinT (.d x) (.m (.lst ds)) = some (.d (.bl (!(ds.any fun z => eqD z x)))) := by
  simp [oNinT, oInTB, lsOf, pyOf, inT, shaped_of hx, shaped_ofs hs, any_py]
end QL
end

section
set_option Elab.async false
set_option linter.all false
set_option maxRecDepth 100000
namespace QL
open PySem PySem.Spec PyProof.Rows L2
/-! ### a slot's own list, locked while an expression runs -/
def lk1 (s t : Option S) : Prop := ∀ x, t = some (.lk x) → s = some (.lk x)
def lkS : En → En → Prop
  | s :: es, t :: ts => lk1 s t ∧ lkS es ts
  | _, [] => True
  | [], _ :: _ => False
@[simp] theorem lk1_same {s : Option S} : lk1 s s = True := eq_true fun _ h => h
@[simp] theorem lk1_d {s : Option S} {x : D} : lk1 s (some (.d x)) = True := eq_true fun _ h => by cases h
@[simp] theorem lk1_m {s : Option S} {x : M} : lk1 s (some (.m x)) = True := eq_true fun _ h => by cases h
@[simp] theorem lk1_none {s : Option S} : lk1 s none = True := eq_true fun _ h => by cases h
@[simp] theorem lkS_cons {s t : Option S} {es ts : En} : lkS (s :: es) (t :: ts) = (lk1 s t ∧ lkS es ts) := rfl
@[simp] theorem lkS_nil {es : En} : lkS es [] = True := by cases es <;> rfl
theorem lkS_get : ∀ {es ts : En} {i : Nat} {x : M}, lkS es ts → ts[i]? = some (some (.lk x)) → es[i]? = some (some (.lk x))
  | s :: es, t :: ts, 0, x, h, e => by
    simp at e
    have := h.1 x e
    simp [this]
  | s :: es, t :: ts, i + 1, x, h, e => by
    have := lkS_get (es := es) (ts := ts) (i := i) (x := x) h.2 (by simpa using e)
    simpa using this
  | es, [], i, x, h, e => by simp at e
  | [], t :: ts, i, x, h, e => h.elim
def notLk : Arg → Bool
  | .val (.lk _) => false
  | _ => true
@[simp] theorem notLk_slot {i : Nat} : notLk (.slot i) = true := rfl
@[simp] theorem notLk_d {x : D} : notLk (.val (.d x)) = true := rfl
@[simp] theorem notLk_m {x : M} : notLk (.val (.m x)) = true := rfl
open Classical in
noncomputable def lockR (j : Nat) (xs : List D) (e a : Option (Option S)) (es : En) (r : Arg) (e1 : En) : Option (Arg × En) :=
  if a = some (some (.lk (.lst xs))) ∧ lkS es (e1.set j (some (.m (.lst xs)))) ∧ notLk r = true then some (r, e1.set j (some (.m (.lst xs)))) else none
noncomputable def lockK (j : Nat) (xs : List D) (es : En) (z : Option (Arg × En)) : Option (Arg × En) := match z with
  | some p => lockR j xs none p.2[j]? es p.1 p.2
  | none => none
@[simp] theorem lockK_some {j : Nat} {xs : List D} {es : En} {r : Arg} {e1 : En} : lockK j xs es (some (r, e1)) = lockR j xs none e1[j]? es r e1 := rfl
@[simp] theorem lockR_ok {j : Nat} {xs : List D} {es e1 : En} {r : Arg} (h1 : lkS es (e1.set j (some (.m (.lst xs))))) (h2 : notLk r = true) : lockR j xs none (some (some (.lk (.lst xs)))) es r e1 = some (r, e1.set j (some (.m (.lst xs)))) := by
  unfold lockR
  rw [if_pos ⟨rfl, h1, h2⟩]
noncomputable def lockG (j : Nat) (f : Fn1 Arg) (x : Option (Option S)) (e : En) : Option (Arg × En) := match x with
  | some (some (.m (.lst xs))) => lockK j xs e (f (e.set j (some (.lk (.lst xs)))))
  | _ => none
@[simp] theorem lockG_m {j : Nat} {f : Fn1 Arg} {xs : List D} {e : En} : lockG j f (some (some (.m (.lst xs)))) e = lockK j xs e (f (e.set j (some (.lk (.lst xs))))) := rfl
noncomputable def fLock (j : Nat) (f : Fn1 Arg) : Fn1 Arg := fun e => lockG j f e[j]? e
@[simp] theorem fLock_ap {j : Nat} {f : Fn1 Arg} {e : En} : fLock j f e = lockG j f e[j]? e := rfl
theorem qx_lock {X : Cx} {e : Expr} {f : Fn1 Arg} (j : Nat) (h : PX X e f) : PX X e (fLock j f) := PE.imp (pe_lock h) fun σ H Q hq => by
  obtain ⟨env, W, a, env2, re, ef, k⟩ := hq
  unfold fLock lockG at ef
  split at ef
  · rename_i xs hx
    unfold lockK at ef
    split at ef
    · rename_i p hp
      obtain ⟨a1, env1⟩ := p
      unfold lockR at ef
      split at ef
      · rename_i cnd
        obtain ⟨c1, c2, c3⟩ := cnd
        cases ef
        obtain ⟨v0, hσ, rm⟩ := re.slots j _ hx
        obtain ⟨d, vs, rfl, wd, hd, rds⟩ := rm
        refine ⟨d, .lst vs, hd, trivial, fun od => ?_⟩
        have nd : ∀ i, W i d → i = j := fun i w => re.apart i j d w wd
        have lj : j < env.length := by
          by_cases z : j < env.length
          · exact z
          · rw [List.getElem?_eq_none (by omega)] at hx; cases hx
        -- locked
        have p1 : Pst H (upd H d (.frz od (.lst vs))) := fun b zs hb => by
          have nb : b ≠ d := fun z => by
            subst z
            rcases hb with hb | ⟨o, hb⟩ <;> rw [hd] at hb <;> cases hb
          rcases hb with hb | ⟨o, hb⟩
          · exact .inl (by rw [upd_ne nb]; exact hb)
          · exact .inr ⟨o, by rw [upd_ne nb]; exact hb⟩
        have re1 : RE X.K (upd H d (.frz od (.lst vs))) σ (env.set j (some (.lk (.lst xs)))) fun i b => W i b ∧ i ≠ j := by
          refine ⟨fun i s hs => ?_, fun i i' b h1 h2 => re.apart i i' b h1.1 h2.1, fun i b h1 => ?_, by rw [List.length_set]; exact re.len⟩
          · by_cases hij : i = j
            · subst hij
              rw [List.getElem?_set_self lj] at hs
              cases hs
              exact ⟨.ref d, hσ, d, vs, rfl, .inl ⟨od, upd_same⟩, RDs.pst p1 rds⟩
            · rw [List.getElem?_set_ne (fun z => hij z.symm)] at hs
              obtain ⟨v, q1, q2⟩ := re.slots i s hs
              refine ⟨v, q1, ?_⟩
              have ne : ∀ b, W i b → b ≠ d := fun b w z => hij (nd i (z ▸ w))
              cases s with
              | d x => exact RD.pst p1 q2
              | m x =>
                cases x with
                | lst ds =>
                  obtain ⟨b, us, e1, w, hb, r⟩ := q2
                  exact ⟨b, us, e1, ⟨w, hij⟩, by rw [upd_ne (ne b w)]; exact hb, RDs.pst p1 r⟩
                | st ns q c z =>
                  obtain ⟨b, b', e1, w, w', hb, hb'⟩ := q2
                  exact ⟨b, b', e1, ⟨w, hij⟩, ⟨w', hij⟩, by rw [upd_ne (ne b w)]; exact hb, by rw [upd_ne (ne b' w')]; exact hb'⟩
              | lk x =>
                cases x with
                | lst ds =>
                  obtain ⟨b, us, e1, hb, r⟩ := q2
                  refine ⟨b, us, e1, ?_, RDs.pst p1 r⟩
                  rcases hb with ⟨o, hb⟩ | hb
                  · exact .inl ⟨o, by rw [upd_ne (fun z => by rw [z, hd] at hb; cases hb)]; exact hb⟩
                  · exact .inr hb
                | st ns q c z => exact q2
          · have nb : b ≠ d := fun z => h1.2 (nd i (z ▸ h1.1))
            rw [upd_ne nb]
            exact re.mu i b h1.1
        refine ⟨_, _, a1, env1, re1, hp, fun v H' W' F r' ra tm t => ?_⟩
        have no1 : ¬ Own (fun i b => W i b ∧ i ≠ j) d := fun ⟨i, w, n⟩ => n (nd i w)
        have hd' : H' d = some (.frz od (.lst vs)) := t.frame d _ upd_same no1
        refine ⟨hd', ?_⟩
        have ndW : ∀ i b, W' i b → b ≠ d := fun i b w z => by
          have := r'.mu i b w
          rw [z, hd'] at this
          exact this
        have ndF : ∀ b, F b → b ≠ d := fun b w z => by
          have := (tm b w).2
          rw [z, hd'] at this
          exact this
        have p2 : Pst H' (upd H' d (.lst vs)) := fun b zs hb => by
          have nb : b ≠ d := fun z => by
            subst z
            rcases hb with hb | ⟨o, hb⟩ <;> rw [hd'] at hb <;> cases hb
          rcases hb with hb | ⟨o, hb⟩
          · exact .inl (by rw [upd_ne nb]; exact hb)
          · exact .inr ⟨o, by rw [upd_ne nb]; exact hb⟩
        have p3 : Pst H (upd H' d (.lst vs)) := fun b zs hb => p2 b zs (re1.pst t b zs (p1 b zs hb))
        have keep : ∀ {s : S} {v : V} {P : Addr → Prop}, RS X.K H' s v P → (∀ b, P b → b ≠ d) → (∀ x, s ≠ .lk x) → RS X.K (upd H' d (.lst vs)) s v P := fun {s v P} q2 ne nl => by
          cases s with
          | d x => exact RD.pst p2 q2
          | m x =>
            cases x with
            | lst ds =>
              obtain ⟨b, us, e1, w, hb, r⟩ := q2
              exact ⟨b, us, e1, w, by rw [upd_ne (ne b w)]; exact hb, RDs.pst p2 r⟩
            | st ns q c z =>
              obtain ⟨b, b', e1, w, w', hb, hb'⟩ := q2
              exact ⟨b, b', e1, w, w', by rw [upd_ne (ne b w)]; exact hb, by rw [upd_ne (ne b' w')]; exact hb'⟩
          | lk x => exact absurd rfl (nl x)
        have lj1 : j < env1.length := by rw [r'.len, ← re1.len, List.length_set]; exact lj
        refine k v _ (fun i b => W' i b ∨ (i = j ∧ b = d)) F ⟨fun i s hs => ?_, fun i i' b h1 h2 => ?_, fun i b h1 => ?_, by rw [List.length_set]; exact r'.len⟩ ?_ (fun b hb => ⟨fun ⟨i, w⟩ => ?_, by rw [upd_ne (ndF b hb)]; exact (tm b hb).2⟩) ⟨fun b o hb nb => ?_, fun b hb => ?_, fun b hb nb => ?_⟩
        · by_cases hij : i = j
          · subst hij
            rw [List.getElem?_set_self lj1] at hs
            cases hs
            exact ⟨.ref d, hσ, d, vs, rfl, .inr ⟨rfl, rfl⟩, upd_same, RDs.pst p3 rds⟩
          · have hs' := hs
            rw [List.getElem?_set_ne (fun z => hij z.symm)] at hs
            obtain ⟨v', q1, q2⟩ := r'.slots i s hs
            cases s with
            | lk x =>
              have h5 := lkS_get c2 hs'
              obtain ⟨v2, q3, q4⟩ := re.slots i _ h5
              refine ⟨v2, q3, ?_⟩
              cases x with
              | lst ds =>
                obtain ⟨b, us, e1, hb, r⟩ := q4
                refine ⟨b, us, e1, ?_, RDs.pst p3 r⟩
                rcases hb with ⟨o, hb⟩ | hb
                · have nb : b ≠ d := fun z => by rw [z, hd] at hb; cases hb
                  refine .inl ⟨o, ?_⟩
                  rw [upd_ne nb]
                  refine t.frame b _ (by rw [upd_ne nb]; exact hb) fun ⟨i', w, _⟩ => ?_
                  have := re.mu i' b w
                  rw [hb] at this
                  exact this
                · exact .inr hb
              | st ns q c z => exact q4
            | d x => exact ⟨v', q1, RS.imp (keep q2 (fun b w => ndW i b w) (fun x => by simp)) fun b w => .inl w⟩
            | m x => exact ⟨v', q1, RS.imp (keep q2 (fun b w => ndW i b w) (fun x => by simp)) fun b w => .inl w⟩
        · rcases h1 with h1 | ⟨rfl, rfl⟩ <;> rcases h2 with h2 | ⟨rfl, e2⟩
          · exact r'.apart i i' b h1 h2
          · exact absurd e2 (ndW i b h1)
          · exact absurd rfl (ndW i' _ h2)
          · rfl
        · rcases h1 with h1 | ⟨_, rfl⟩
          · rw [upd_ne (ndW i b h1)]; exact r'.mu i b h1
          · rw [upd_same]; trivial
        · cases a1 with
          | slot i => exact ra
          | val s =>
            refine keep (show RS X.K H' s v F from ra) ndF fun x z => ?_
            subst z
            cases c3
        · rcases w with w | ⟨_, w⟩
          · exact (tm b hb).1 ⟨i, w⟩
          · exact ndF b hb w
        · have bd : b ≠ d := fun z => nb ⟨j, z ▸ wd⟩
          rw [upd_ne bd]
          exact t.frame b o (by rw [upd_ne bd]; exact hb) fun ⟨i, w, _⟩ => nb ⟨i, w⟩
        · by_cases bd : b = d
          · rw [bd, upd_same]; simp
          · rw [upd_ne bd]
            exact t.dom b (by rw [upd_ne bd]; exact hb)
        · have bd : b ≠ d := fun z => nb ⟨j, z ▸ wd⟩
          have h5 := t.out b (by rw [upd_ne bd]; exact hb) fun ⟨i, w, _⟩ => nb ⟨i, w⟩
          refine ⟨fun ⟨i, w⟩ => ?_, h5.2⟩
          rcases w with w | ⟨_, w⟩
          · exact h5.1 ⟨i, w⟩
          · exact bd w
      · cases ef
    · cases ef
  · cases ef
end QL
end

section
set_option Elab.async false
set_option linter.all false
set_option maxRecDepth 100000
set_option maxHeartbeats 4000000
namespace K43
open PySem PySem.Spec PyProof.Rows L2 QL
noncomputable section
def ct_WAYS : List D := [.str (PySem.Str.ofString "even"), .str (PySem.Str.ofString "zero"), .str (PySem.Str.ofString "up"), .str (PySem.Str.ofString "down")]
/-! check_form(form): slots 0 form, 1 exponent, 2 places -/
def A_check_form : List Nat := (([1] ++ ([2] ++ [])) ++ ([] ++ []))
def b_check_form : FS :=
  (sSeq (sPat (bTup 2 (bCons (bName 1) (bCons (bName 2) bNil))) (fVar 0))
  (sIf (fOrT (fNotT (fTB (fChain oLe oLe (fC (.int 2)) (fVar 1) (fC (.int 5))))) (fNotT (fTB (fChain oLe oLe (fC (.int 1)) (fVar 2) (fC (.int 8))))))
  sNever
  sNext))
def fn_check_form : FnS := mkFn 1 3 A_check_form b_check_form
/-! power_of(number): slots 0 number, 1 found, 2 _ -/
def A_power_of : List Nat := ([1] ++ (([2] ++ [1]) ++ []))
def b_power_of : FS :=
  (sSeq (sSet 1 (fC (.int 1)))
  (sSeq (sFor (itRng (fCons (fVar 0) fNil)) (bName 2)
  (sAug 1 oIMul (fC (.int 2))))
  (sRet (fVar 1))))
def fn_power_of : FnS := mkFn 1 3 A_power_of b_power_of
/-! bias(form): slots 0 form -/
def A_bias : List Nat := []
def b_bias : FS :=
  (sRet (fBin oSub (fCall fn_power_of (fCons (fBin oSub (fBin oIx (fVar 0) (fC (.int 0))) (fC (.int 1))) fNil)) (fC (.int 1))))
def fn_bias : FnS := mkFn 1 1 A_bias b_bias
/-! least_power(form): slots 0 form -/
def A_least_power : List Nat := []
def b_least_power : FS :=
  (sRet (fBin oSub (fBin oSub (fC (.int 1)) (fCall fn_bias (fCons (fVar 0) fNil))) (fBin oIx (fVar 0) (fC (.int 1)))))
def fn_least_power : FnS := mkFn 1 1 A_least_power b_least_power
/-! size(form): slots 0 form -/
def A_size : List Nat := ([] ++ [])
def b_size : FS :=
  (sSeq (sExpr (fCall fn_check_form (fCons (fVar 0) fNil)))
  (sRet (fCall fn_power_of (fCons (fBin oAdd (fBin oAdd (fC (.int 1)) (fBin oIx (fVar 0) (fC (.int 0)))) (fBin oIx (fVar 0) (fC (.int 1)))) fNil))))
def fn_size : FnS := mkFn 1 1 A_size b_size
/-! check_code(form, code): slots 0 form, 1 code -/
def A_check_code : List Nat := ([] ++ ([] ++ []))
def b_check_code : FS :=
  (sSeq (sExpr (fCall fn_check_form (fCons (fVar 0) fNil)))
  (sIf (fNotT (fTB (fChain oLe oLt (fC (.int 0)) (fVar 1) (fCall fn_size (fCons (fVar 0) fNil)))))
  sNever
  sNext))
def fn_check_code : FnS := mkFn 2 2 A_check_code b_check_code
/-! parts(form, code): slots 0 form, 1 code -/
def A_parts : List Nat := ([] ++ [])
def b_parts : FS :=
  (sSeq (sExpr (fCall fn_check_code (fCons (fVar 0) (fCons (fVar 1) fNil))))
  (sRet (fOp oTup (fCons (fBin oDiv (fVar 1) (fCall fn_power_of (fCons (fBin oAdd (fBin oIx (fVar 0) (fC (.int 0))) (fBin oIx (fVar 0) (fC (.int 1)))) fNil))) (fCons (fBin oMod (fBin oDiv (fVar 1) (fCall fn_power_of (fCons (fBin oIx (fVar 0) (fC (.int 1))) fNil))) (fCall fn_power_of (fCons (fBin oIx (fVar 0) (fC (.int 0))) fNil))) (fCons (fBin oMod (fVar 1) (fCall fn_power_of (fCons (fBin oIx (fVar 0) (fC (.int 1))) fNil))) fNil))))))
def fn_parts : FnS := mkFn 2 2 A_parts b_parts
/-! kind(form, code): slots 0 form, 1 code, 2 _, 3 exponent, 4 places -/
def A_kind : List Nat := (([2] ++ ([3] ++ ([4] ++ []))) ++ (([] ++ []) ++ (([] ++ []) ++ [])))
def b_kind : FS :=
  (sSeq (sPat (bTup 3 (bCons (bName 2) (bCons (bName 3) (bCons (bName 4) bNil)))) (fCall fn_parts (fCons (fVar 0) (fCons (fVar 1) fNil))))
  (sSeq (sIf (fTB (fBin oEq (fVar 3) (fBin oSub (fCall fn_power_of (fCons (fBin oIx (fVar 0) (fC (.int 0))) fNil)) (fC (.int 1)))))
  (sRet (fIf (fTB (fBin oEq (fVar 4) (fC (.int 0)))) (fC (.str (PySem.Str.ofString "endless"))) (fC (.str (PySem.Str.ofString "none")))))
  sNext)
  (sSeq (sIf (fTB (fBin oEq (fVar 3) (fC (.int 0))))
  (sRet (fIf (fTB (fBin oEq (fVar 4) (fC (.int 0)))) (fC (.str (PySem.Str.ofString "nought"))) (fC (.str (PySem.Str.ofString "small")))))
  sNext)
  (sRet (fC (.str (PySem.Str.ofString "full")))))))
def fn_kind : FnS := mkFn 2 5 A_kind b_kind
/-! reduced(top, bottom): slots 0 top, 1 bottom, 2 one, 3 other -/
def A_reduced : List Nat := ([2, 3] ++ ([2, 3] ++ []))
def b_reduced : FS :=
  (sSeq (sPar 2 3 (fCons (fOp oAbs (fCons (fVar 0) fNil)) (fCons (fOp oAbs (fCons (fVar 1) fNil)) fNil)))
  (sSeq (sWhile fuel0 (fTru (fVar 3))
  (sPar 2 3 (fCons (fVar 3) (fCons (fBin oMod (fVar 2) (fVar 3)) fNil))))
  (sRet (fIf (fTB (fBin oGt (fVar 2) (fC (.int 0)))) (fOp oTup (fCons (fBin oDiv (fVar 0) (fVar 2)) (fCons (fBin oDiv (fVar 1) (fVar 2)) fNil))) (fOp oTup (fCons (fC (.int 0)) (fCons (fC (.int 1)) fNil)))))))
def fn_reduced : FnS := mkFn 2 4 A_reduced b_reduced
/-! value(form, code): slots 0 form, 1 code, 2 sign, 3 exponent, 4 places, 5 whole, 6 power -/
def A_value : List Nat := (([] ++ []) ++ (([2] ++ ([3] ++ ([4] ++ []))) ++ ([5] ++ ([6] ++ ([5] ++ (([] ++ []) ++ []))))))
def b_value : FS :=
  (sSeq (sIf (fTB (fBin oInT (fCall fn_kind (fCons (fVar 0) (fCons (fVar 1) fNil))) (fOp oTup (fCons (fC (.str (PySem.Str.ofString "none"))) (fCons (fC (.str (PySem.Str.ofString "endless"))) fNil)))))
  (sRet (fC .non))
  sNext)
  (sSeq (sPat (bTup 3 (bCons (bName 2) (bCons (bName 3) (bCons (bName 4) bNil)))) (fCall fn_parts (fCons (fVar 0) (fCons (fVar 1) fNil))))
  (sSeq (sSet 5 (fIf (fTB (fBin oEq (fVar 3) (fC (.int 0)))) (fVar 4) (fBin oAdd (fVar 4) (fCall fn_power_of (fCons (fBin oIx (fVar 0) (fC (.int 1))) fNil)))))
  (sSeq (sSet 6 (fBin oAdd (fCall fn_least_power (fCons (fVar 0) fNil)) (fOp oMax (fCons (fBin oSub (fVar 3) (fC (.int 1))) (fCons (fC (.int 0)) fNil)))))
  (sSeq (sSet 5 (fIf (fTB (fBin oEq (fVar 2) (fC (.int 1)))) (fBin oSub (fC (.int 0)) (fVar 5)) (fVar 5)))
  (sSeq (sIf (fTB (fBin oGe (fVar 6) (fC (.int 0))))
  (sRet (fOp oTup (fCons (fBin oMul (fVar 5) (fCall fn_power_of (fCons (fVar 6) fNil))) (fCons (fC (.int 1)) fNil))))
  sNext)
  (sRet (fCall fn_reduced (fCons (fVar 5) (fCons (fCall fn_power_of (fCons (fBin oSub (fC (.int 0)) (fVar 6)) fNil)) fNil))))))))))
def fn_value : FnS := mkFn 2 7 A_value b_value
/-! greatest(form): slots 0 form -/
def A_greatest : List Nat := ([] ++ [])
def b_greatest : FS :=
  (sSeq (sExpr (fCall fn_check_form (fCons (fVar 0) fNil)))
  (sRet (fBin oSub (fBin oSub (fCall fn_power_of (fCons (fBin oAdd (fBin oIx (fVar 0) (fC (.int 0))) (fBin oIx (fVar 0) (fC (.int 1)))) fNil)) (fCall fn_power_of (fCons (fBin oIx (fVar 0) (fC (.int 1))) fNil))) (fC (.int 1)))))
def fn_greatest : FnS := mkFn 1 1 A_greatest b_greatest
/-! endless(form, sign): slots 0 form, 1 sign -/
def A_endless : List Nat := []
def b_endless : FS :=
  (sRet (fBin oSub (fBin oAdd (fBin oMul (fVar 1) (fCall fn_power_of (fCons (fBin oAdd (fBin oIx (fVar 0) (fC (.int 0))) (fBin oIx (fVar 0) (fC (.int 1)))) fNil))) (fCall fn_power_of (fCons (fBin oAdd (fBin oIx (fVar 0) (fC (.int 0))) (fBin oIx (fVar 0) (fC (.int 1)))) fNil))) (fCall fn_power_of (fCons (fBin oIx (fVar 0) (fC (.int 1))) fNil))))
def fn_endless : FnS := mkFn 2 2 A_endless b_endless
/-! nothing(form): slots 0 form -/
def A_nothing : List Nat := []
def b_nothing : FS :=
  (sRet (fBin oAdd (fBin oSub (fCall fn_power_of (fCons (fBin oAdd (fBin oIx (fVar 0) (fC (.int 0))) (fBin oIx (fVar 0) (fC (.int 1)))) fNil)) (fCall fn_power_of (fCons (fBin oIx (fVar 0) (fC (.int 1))) fNil))) (fCall fn_power_of (fCons (fBin oSub (fBin oIx (fVar 0) (fC (.int 1))) (fC (.int 1))) fNil))))
def fn_nothing : FnS := mkFn 1 1 A_nothing b_nothing
/-! floor_code(form, top, bottom): slots 0 form, 1 top, 2 bottom, 3 low, 4 high, 5 told, 6 middle -/
def A_floor_code : List Nat := ([3, 4] ++ (([6] ++ ([5] ++ ([3] ++ [4]))) ++ ([5] ++ [])))
def b_floor_code : FS :=
  (sSeq (sPar 3 4 (fCons (fC (.int 0)) (fCons (fBin oAdd (fCall fn_greatest (fCons (fVar 0) fNil)) (fC (.int 1))) fNil)))
  (sSeq (sWhile fuel0 (fTB (fBin oGt (fBin oSub (fVar 4) (fVar 3)) (fC (.int 1))))
  (sSeq (sSet 6 (fBin oDiv (fBin oAdd (fVar 3) (fVar 4)) (fC (.int 2))))
  (sSeq (sSet 5 (fCall fn_value (fCons (fVar 0) (fCons (fVar 6) fNil))))
  (sIf (fTB (fBin oLe (fBin oMul (fBin oIx (fVar 5) (fC (.int 0))) (fVar 2)) (fBin oMul (fVar 1) (fBin oIx (fVar 5) (fC (.int 1))))))
  (sSet 3 (fVar 6))
  (sSet 4 (fVar 6))))))
  (sSeq (sSet 5 (fCall fn_value (fCons (fVar 0) (fCons (fVar 3) fNil))))
  (sRet (fOp oTup (fCons (fVar 3) (fCons (fBin oEq (fBin oMul (fBin oIx (fVar 5) (fC (.int 0))) (fVar 2)) (fBin oMul (fVar 1) (fBin oIx (fVar 5) (fC (.int 1))))) fNil)))))))
def fn_floor_code : FnS := mkFn 3 7 A_floor_code b_floor_code
/-! below_step(form, low): slots 0 form, 1 low, 2 _, 3 exponent, 4 power -/
def A_below_step : List Nat := (([2] ++ ([3] ++ ([2] ++ []))) ++ ([4] ++ []))
def b_below_step : FS :=
  (sSeq (sPat (bTup 3 (bCons (bName 2) (bCons (bName 3) (bCons (bName 2) bNil)))) (fCall fn_parts (fCons (fVar 0) (fCons (fVar 1) fNil))))
  (sSeq (sSet 4 (fBin oAdd (fCall fn_least_power (fCons (fVar 0) fNil)) (fOp oMax (fCons (fBin oSub (fVar 3) (fC (.int 1))) (fCons (fC (.int 0)) fNil)))))
  (sRet (fIf (fTB (fBin oGe (fVar 4) (fC (.int 0)))) (fOp oTup (fCons (fCall fn_power_of (fCons (fVar 4) fNil)) (fCons (fC (.int 1)) fNil))) (fOp oTup (fCons (fC (.int 1)) (fCons (fCall fn_power_of (fCons (fBin oSub (fC (.int 0)) (fVar 4)) fNil)) fNil)))))))
def fn_below_step : FnS := mkFn 2 5 A_below_step b_below_step
/-! is_nearer_above(form, low, top, bottom): slots 0 form, 1 low, 2 top, 3 bottom, 4 below, 5 step, 6 double, 7 whole -/
def A_is_nearer_above : List Nat := ([4] ++ ([5] ++ ([6] ++ ([7] ++ []))))
def b_is_nearer_above : FS :=
  (sSeq (sSet 4 (fCall fn_value (fCons (fVar 0) (fCons (fVar 1) fNil))))
  (sSeq (sSet 5 (fCall fn_below_step (fCons (fVar 0) (fCons (fVar 1) fNil))))
  (sSeq (sSet 6 (fBin oMul (fBin oMul (fC (.int 2)) (fBin oSub (fBin oMul (fVar 2) (fBin oIx (fVar 4) (fC (.int 1)))) (fBin oMul (fBin oIx (fVar 4) (fC (.int 0))) (fVar 3)))) (fBin oIx (fVar 5) (fC (.int 1)))))
  (sSeq (sSet 7 (fBin oMul (fBin oMul (fBin oIx (fVar 5) (fC (.int 0))) (fVar 3)) (fBin oIx (fVar 4) (fC (.int 1)))))
  (sRet (fOr (fBin oGt (fVar 6) (fVar 7)) (fAnd (fBin oEq (fVar 6) (fVar 7)) (fBin oEq (fBin oMod (fVar 1) (fC (.int 2))) (fC (.int 1))))))))))
def fn_is_nearer_above : FnS := mkFn 4 8 A_is_nearer_above b_is_nearer_above
/-! rounded(form, fraction, way): slots 0 form, 1 fraction, 2 way, 3 top, 4 bottom, 5 sign, 6 low, 7 is_just, 8 head, 9 goes_up -/
def A_rounded : List Nat := ([] ++ (([] ++ []) ++ (([3] ++ ([4] ++ [])) ++ ([5] ++ ([3] ++ (([6] ++ ([7] ++ [])) ++ ([8] ++ (([] ++ []) ++ ([9] ++ (([9] ++ []) ++ (([] ++ []) ++ [])))))))))))
def b_rounded : FS :=
  (sSeq (sExpr (fCall fn_check_form (fCons (fVar 0) fNil)))
  (sSeq (sIf (fTB (fBin oNinT (fVar 2) (fC (.tup ct_WAYS))))
  sNever
  sNext)
  (sSeq (sPat (bTup 2 (bCons (bName 3) (bCons (bName 4) bNil))) (fVar 1))
  (sSeq (sSet 5 (fOp oInt (fCons (fBin oLt (fVar 3) (fC (.int 0))) fNil)))
  (sSeq (sSet 3 (fOp oAbs (fCons (fVar 3) fNil)))
  (sSeq (sPat (bTup 2 (bCons (bName 6) (bCons (bName 7) bNil))) (fCall fn_floor_code (fCons (fVar 0) (fCons (fVar 3) (fCons (fVar 4) fNil)))))
  (sSeq (sSet 8 (fBin oMul (fVar 5) (fCall fn_power_of (fCons (fBin oAdd (fBin oIx (fVar 0) (fC (.int 0))) (fBin oIx (fVar 0) (fC (.int 1)))) fNil))))
  (sSeq (sIf (fTru (fVar 7))
  (sRet (fBin oAdd (fVar 8) (fVar 6)))
  sNext)
  (sSeq (sSet 9 (fOr (fAnd (fBin oEq (fVar 2) (fC (.str (PySem.Str.ofString "up")))) (fBin oEq (fVar 5) (fC (.int 0)))) (fAnd (fBin oEq (fVar 2) (fC (.str (PySem.Str.ofString "down")))) (fBin oEq (fVar 5) (fC (.int 1))))))
  (sSeq (sIf (fTB (fBin oEq (fVar 2) (fC (.str (PySem.Str.ofString "even")))))
  (sSet 9 (fCall fn_is_nearer_above (fCons (fVar 0) (fCons (fVar 6) (fCons (fVar 3) (fCons (fVar 4) fNil))))))
  sNext)
  (sSeq (sIf (fNotT (fTru (fVar 9)))
  (sRet (fBin oAdd (fVar 8) (fVar 6)))
  sNext)
  (sRet (fIf (fTB (fBin oEq (fVar 6) (fCall fn_greatest (fCons (fVar 0) fNil)))) (fCall fn_endless (fCons (fVar 0) (fCons (fVar 5) fNil))) (fBin oAdd (fBin oAdd (fVar 8) (fVar 6)) (fC (.int 1))))))))))))))))
def fn_rounded : FnS := mkFn 3 10 A_rounded b_rounded
/-! signed_nought(form, sign): slots 0 form, 1 sign -/
def A_signed_nought : List Nat := []
def b_signed_nought : FS :=
  (sRet (fBin oMul (fVar 1) (fCall fn_power_of (fCons (fBin oAdd (fBin oIx (fVar 0) (fC (.int 0))) (fBin oIx (fVar 0) (fC (.int 1)))) fNil))))
def fn_signed_nought : FnS := mkFn 2 2 A_signed_nought b_signed_nought
/-! add(form, one, other, way): slots 0 form, 1 one, 2 other, 3 way, 4 left, 5 right, 6 top, 7 signs, 8 sign -/
def A_add : List Nat := ([] ++ ([] ++ (([] ++ []) ++ (([] ++ []) ++ (((([] ++ []) ++ []) ++ []) ++ ([4, 5] ++ ([6] ++ ((([7] ++ ([8] ++ [])) ++ []) ++ []))))))))
def b_add : FS :=
  (sSeq (sExpr (fCall fn_check_code (fCons (fVar 0) (fCons (fVar 1) fNil))))
  (sSeq (sExpr (fCall fn_check_code (fCons (fVar 0) (fCons (fVar 2) fNil))))
  (sSeq (sIf (fTB (fBin oNinT (fVar 3) (fC (.tup ct_WAYS))))
  sNever
  sNext)
  (sSeq (sIf (fTB (fBin oInT (fC (.str (PySem.Str.ofString "none"))) (fOp oTup (fCons (fCall fn_kind (fCons (fVar 0) (fCons (fVar 1) fNil))) (fCons (fCall fn_kind (fCons (fVar 0) (fCons (fVar 2) fNil))) fNil)))))
  (sRet (fCall fn_nothing (fCons (fVar 0) fNil)))
  sNext)
  (sSeq (sIf (fOrT (fTB (fBin oEq (fCall fn_kind (fCons (fVar 0) (fCons (fVar 1) fNil))) (fC (.str (PySem.Str.ofString "endless"))))) (fTB (fBin oEq (fCall fn_kind (fCons (fVar 0) (fCons (fVar 2) fNil))) (fC (.str (PySem.Str.ofString "endless"))))))
  (sSeq (sIf (fAndT (fTB (fBin oEq (fCall fn_kind (fCons (fVar 0) (fCons (fVar 1) fNil))) (fCall fn_kind (fCons (fVar 0) (fCons (fVar 2) fNil))))) (fTB (fBin oNe (fVar 1) (fVar 2))))
  (sRet (fCall fn_nothing (fCons (fVar 0) fNil)))
  sNext)
  (sRet (fIf (fTB (fBin oEq (fCall fn_kind (fCons (fVar 0) (fCons (fVar 1) fNil))) (fC (.str (PySem.Str.ofString "endless"))))) (fVar 1) (fVar 2))))
  sNext)
  (sSeq (sPar 4 5 (fCons (fCall fn_value (fCons (fVar 0) (fCons (fVar 1) fNil))) (fCons (fCall fn_value (fCons (fVar 0) (fCons (fVar 2) fNil))) fNil)))
  (sSeq (sSet 6 (fBin oAdd (fBin oMul (fBin oIx (fVar 4) (fC (.int 0))) (fBin oIx (fVar 5) (fC (.int 1)))) (fBin oMul (fBin oIx (fVar 5) (fC (.int 0))) (fBin oIx (fVar 4) (fC (.int 1))))))
  (sSeq (sIf (fTB (fBin oEq (fVar 6) (fC (.int 0))))
  (sSeq (sSet 7 (fOp oTup (fCons (fBin oIx (fCall fn_parts (fCons (fVar 0) (fCons (fVar 1) fNil))) (fC (.int 0))) (fCons (fBin oIx (fCall fn_parts (fCons (fVar 0) (fCons (fVar 2) fNil))) (fC (.int 0))) fNil))))
  (sSeq (sSet 8 (fIf (fTB (fBin oEq (fBin oIx (fVar 7) (fC (.int 0))) (fBin oIx (fVar 7) (fC (.int 1))))) (fBin oIx (fVar 7) (fC (.int 0))) (fOp oInt (fCons (fBin oEq (fVar 3) (fC (.str (PySem.Str.ofString "down")))) fNil))))
  (sRet (fCall fn_signed_nought (fCons (fVar 0) (fCons (fVar 8) fNil))))))
  sNext)
  (sRet (fCall fn_rounded (fCons (fVar 0) (fCons (fCall fn_reduced (fCons (fVar 6) (fCons (fBin oMul (fBin oIx (fVar 4) (fC (.int 1))) (fBin oIx (fVar 5) (fC (.int 1)))) fNil))) (fCons (fVar 3) fNil)))))))))))))
def fn_add : FnS := mkFn 4 9 A_add b_add
/-! turned(form, one): slots 0 form, 1 one, 2 half -/
def A_turned : List Nat := ([] ++ ([2] ++ []))
def b_turned : FS :=
  (sSeq (sExpr (fCall fn_check_code (fCons (fVar 0) (fCons (fVar 1) fNil))))
  (sSeq (sSet 2 (fCall fn_power_of (fCons (fBin oAdd (fBin oIx (fVar 0) (fC (.int 0))) (fBin oIx (fVar 0) (fC (.int 1)))) fNil)))
  (sRet (fIf (fTB (fBin oGe (fVar 1) (fVar 2))) (fBin oSub (fVar 1) (fVar 2)) (fBin oAdd (fVar 1) (fVar 2))))))
def fn_turned : FnS := mkFn 2 3 A_turned b_turned
/-! multiply(form, one, other, way): slots 0 form, 1 one, 2 other, 3 way, 4 kinds, 5 sign, 6 left, 7 right -/
def A_multiply : List Nat := ([] ++ ([] ++ (([] ++ []) ++ ([4] ++ ([5] ++ (([] ++ []) ++ (([] ++ []) ++ (([] ++ []) ++ ([6, 7] ++ [])))))))))
def b_multiply : FS :=
  (sSeq (sExpr (fCall fn_check_code (fCons (fVar 0) (fCons (fVar 1) fNil))))
  (sSeq (sExpr (fCall fn_check_code (fCons (fVar 0) (fCons (fVar 2) fNil))))
  (sSeq (sIf (fTB (fBin oNinT (fVar 3) (fC (.tup ct_WAYS))))
  sNever
  sNext)
  (sSeq (sSet 4 (fOp oTup (fCons (fCall fn_kind (fCons (fVar 0) (fCons (fVar 1) fNil))) (fCons (fCall fn_kind (fCons (fVar 0) (fCons (fVar 2) fNil))) fNil))))
  (sSeq (sSet 5 (fBin oXor (fBin oIx (fCall fn_parts (fCons (fVar 0) (fCons (fVar 1) fNil))) (fC (.int 0))) (fBin oIx (fCall fn_parts (fCons (fVar 0) (fCons (fVar 2) fNil))) (fC (.int 0)))))
  (sSeq (sIf (fOrT (fTB (fBin oInT (fC (.str (PySem.Str.ofString "none"))) (fVar 4))) (fAndT (fTB (fBin oInT (fC (.str (PySem.Str.ofString "endless"))) (fVar 4))) (fTB (fBin oInT (fC (.str (PySem.Str.ofString "nought"))) (fVar 4)))))
  (sRet (fCall fn_nothing (fCons (fVar 0) fNil)))
  sNext)
  (sSeq (sIf (fTB (fBin oInT (fC (.str (PySem.Str.ofString "endless"))) (fVar 4)))
  (sRet (fCall fn_endless (fCons (fVar 0) (fCons (fVar 5) fNil))))
  sNext)
  (sSeq (sIf (fTB (fBin oInT (fC (.str (PySem.Str.ofString "nought"))) (fVar 4)))
  (sRet (fCall fn_signed_nought (fCons (fVar 0) (fCons (fVar 5) fNil))))
  sNext)
  (sSeq (sPar 6 7 (fCons (fCall fn_value (fCons (fVar 0) (fCons (fVar 1) fNil))) (fCons (fCall fn_value (fCons (fVar 0) (fCons (fVar 2) fNil))) fNil)))
  (sRet (fCall fn_rounded (fCons (fVar 0) (fCons (fCall fn_reduced (fCons (fBin oMul (fBin oIx (fVar 6) (fC (.int 0))) (fBin oIx (fVar 7) (fC (.int 0)))) (fCons (fBin oMul (fBin oIx (fVar 6) (fC (.int 1))) (fBin oIx (fVar 7) (fC (.int 1)))) fNil))) (fCons (fVar 3) fNil))))))))))))))
def fn_multiply : FnS := mkFn 4 8 A_multiply b_multiply
/-! divide(form, one, other, way): slots 0 form, 1 one, 2 other, 3 way, 4 kinds, 5 sign, 6 left, 7 right, 8 top, 9 bottom -/
def A_divide : List Nat := ([] ++ ([] ++ (([] ++ []) ++ ([4] ++ ([5] ++ (([] ++ []) ++ (([] ++ []) ++ (([] ++ []) ++ ([6, 7] ++ ([8, 9] ++ []))))))))))
def b_divide : FS :=
  (sSeq (sExpr (fCall fn_check_code (fCons (fVar 0) (fCons (fVar 1) fNil))))
  (sSeq (sExpr (fCall fn_check_code (fCons (fVar 0) (fCons (fVar 2) fNil))))
  (sSeq (sIf (fTB (fBin oNinT (fVar 3) (fC (.tup ct_WAYS))))
  sNever
  sNext)
  (sSeq (sSet 4 (fOp oTup (fCons (fCall fn_kind (fCons (fVar 0) (fCons (fVar 1) fNil))) (fCons (fCall fn_kind (fCons (fVar 0) (fCons (fVar 2) fNil))) fNil))))
  (sSeq (sSet 5 (fBin oXor (fBin oIx (fCall fn_parts (fCons (fVar 0) (fCons (fVar 1) fNil))) (fC (.int 0))) (fBin oIx (fCall fn_parts (fCons (fVar 0) (fCons (fVar 2) fNil))) (fC (.int 0)))))
  (sSeq (sIf (fOrT (fTB (fBin oInT (fC (.str (PySem.Str.ofString "none"))) (fVar 4))) (fTB (fBin oInT (fVar 4) (fOp oTup (fCons (fOp oTup (fCons (fC (.str (PySem.Str.ofString "endless"))) (fCons (fC (.str (PySem.Str.ofString "endless"))) fNil))) (fCons (fOp oTup (fCons (fC (.str (PySem.Str.ofString "nought"))) (fCons (fC (.str (PySem.Str.ofString "nought"))) fNil))) fNil))))))
  (sRet (fCall fn_nothing (fCons (fVar 0) fNil)))
  sNext)
  (sSeq (sIf (fOrT (fTB (fBin oEq (fBin oIx (fVar 4) (fC (.int 0))) (fC (.str (PySem.Str.ofString "endless"))))) (fTB (fBin oEq (fBin oIx (fVar 4) (fC (.int 1))) (fC (.str (PySem.Str.ofString "nought"))))))
  (sRet (fCall fn_endless (fCons (fVar 0) (fCons (fVar 5) fNil))))
  sNext)
  (sSeq (sIf (fOrT (fTB (fBin oEq (fBin oIx (fVar 4) (fC (.int 1))) (fC (.str (PySem.Str.ofString "endless"))))) (fTB (fBin oEq (fBin oIx (fVar 4) (fC (.int 0))) (fC (.str (PySem.Str.ofString "nought"))))))
  (sRet (fCall fn_signed_nought (fCons (fVar 0) (fCons (fVar 5) fNil))))
  sNext)
  (sSeq (sPar 6 7 (fCons (fCall fn_value (fCons (fVar 0) (fCons (fVar 1) fNil))) (fCons (fCall fn_value (fCons (fVar 0) (fCons (fVar 2) fNil))) fNil)))
  (sSeq (sPar 8 9 (fCons (fBin oMul (fBin oIx (fVar 6) (fC (.int 0))) (fBin oIx (fVar 7) (fC (.int 1)))) (fCons (fBin oMul (fBin oIx (fVar 6) (fC (.int 1))) (fBin oIx (fVar 7) (fC (.int 0)))) fNil)))
  (sRet (fCall fn_rounded (fCons (fVar 0) (fCons (fIf (fTB (fBin oLt (fVar 9) (fC (.int 0)))) (fCall fn_reduced (fCons (fBin oSub (fC (.int 0)) (fVar 8)) (fCons (fBin oSub (fC (.int 0)) (fVar 9)) fNil))) (fCall fn_reduced (fCons (fVar 8) (fCons (fVar 9) fNil)))) (fCons (fVar 3) fNil)))))))))))))))
def fn_divide : FnS := mkFn 4 10 A_divide b_divide
/-! place_of(form, code): slots 0 form, 1 code, 2 half -/
def A_place_of : List Nat := ([2] ++ [])
def b_place_of : FS :=
  (sSeq (sSet 2 (fCall fn_power_of (fCons (fBin oAdd (fBin oIx (fVar 0) (fC (.int 0))) (fBin oIx (fVar 0) (fC (.int 1)))) fNil)))
  (sRet (fIf (fTB (fBin oGe (fVar 1) (fVar 2))) (fBin oSub (fVar 2) (fVar 1)) (fVar 1))))
def fn_place_of : FnS := mkFn 2 3 A_place_of b_place_of
/-! less(form, one, other): slots 0 form, 1 one, 2 other -/
def A_less : List Nat := ([] ++ ([] ++ (([] ++ []) ++ [])))
def b_less : FS :=
  (sSeq (sExpr (fCall fn_check_code (fCons (fVar 0) (fCons (fVar 1) fNil))))
  (sSeq (sExpr (fCall fn_check_code (fCons (fVar 0) (fCons (fVar 2) fNil))))
  (sSeq (sIf (fTB (fBin oInT (fC (.str (PySem.Str.ofString "none"))) (fOp oTup (fCons (fCall fn_kind (fCons (fVar 0) (fCons (fVar 1) fNil))) (fCons (fCall fn_kind (fCons (fVar 0) (fCons (fVar 2) fNil))) fNil)))))
  (sRet (fC (.bl false)))
  sNext)
  (sRet (fBin oLt (fCall fn_place_of (fCons (fVar 0) (fCons (fVar 1) fNil))) (fCall fn_place_of (fCons (fVar 0) (fCons (fVar 2) fNil))))))))
def fn_less : FnS := mkFn 3 3 A_less b_less
/-! next_up(form, code): slots 0 form, 1 code, 2 half -/
def A_next_up : List Nat := (([] ++ []) ++ ([2] ++ (([] ++ []) ++ [])))
def b_next_up : FS :=
  (sSeq (sIf (fOrT (fTB (fBin oEq (fCall fn_kind (fCons (fVar 0) (fCons (fVar 1) fNil))) (fC (.str (PySem.Str.ofString "none"))))) (fTB (fBin oEq (fVar 1) (fCall fn_endless (fCons (fVar 0) (fCons (fC (.int 0)) fNil))))))
  (sRet (fC .non))
  sNext)
  (sSeq (sSet 2 (fCall fn_power_of (fCons (fBin oAdd (fBin oIx (fVar 0) (fC (.int 0))) (fBin oIx (fVar 0) (fC (.int 1)))) fNil)))
  (sSeq (sIf (fTB (fBin oInT (fVar 1) (fOp oTup (fCons (fC (.int 0)) (fCons (fVar 2) fNil)))))
  (sRet (fC (.int 1)))
  sNext)
  (sRet (fIf (fTB (fBin oGt (fVar 1) (fVar 2))) (fBin oSub (fVar 1) (fC (.int 1))) (fBin oAdd (fVar 1) (fC (.int 1))))))))
def fn_next_up : FnS := mkFn 2 3 A_next_up b_next_up
/-! summed(form, codes, way): slots 0 form, 1 codes, 2 way, 3 now, 4 exact, 5 code, 6 told -/
def A_summed : List Nat := ([3] ++ ([4] ++ (([5] ++ ([3] ++ ([6] ++ ([4] ++ [4])))) ++ [])))
def b_summed : FS :=
  (sSeq (sSet 3 (fC (.int 0)))
  (sSeq (sSet 4 (fOp oTup (fCons (fC (.int 0)) (fCons (fC (.int 1)) fNil))))
  (sSeq (sFor (itSeq (fVar 1)) (bName 5)
  (sSeq (sSet 3 (fCall fn_add (fCons (fVar 0) (fCons (fVar 3) (fCons (fVar 5) (fCons (fVar 2) fNil))))))
  (sSeq (sSet 6 (fCall fn_value (fCons (fVar 0) (fCons (fVar 5) fNil))))
  (sIf (fOrT (fTB (fBin oIsN (fVar 6) (fC .non))) (fTB (fBin oIsN (fVar 4) (fC .non))))
  (sSet 4 (fC .non))
  (sSet 4 (fCall fn_reduced (fCons (fBin oAdd (fBin oMul (fBin oIx (fVar 4) (fC (.int 0))) (fBin oIx (fVar 6) (fC (.int 1)))) (fBin oMul (fBin oIx (fVar 6) (fC (.int 0))) (fBin oIx (fVar 4) (fC (.int 1))))) (fCons (fBin oMul (fBin oIx (fVar 4) (fC (.int 1))) (fBin oIx (fVar 6) (fC (.int 1)))) fNil))))))))
  (sRet (fOp oTup (fCons (fVar 3) (fCons (fVar 4) fNil)))))))
def fn_summed : FnS := mkFn 3 7 A_summed b_summed
/-! _law_begin(script): slots 0 script, 1 seed, 2 cell -/
def A__law_begin : List Nat := ([1] ++ (([2] ++ [1]) ++ []))
def b__law_begin : FS :=
  (sSeq (sSet 1 (fC (.int 1)))
  (sSeq (sFor (itSeq (fVar 0)) (bName 2)
  (sSet 1 (fBin oMod (fBin oAdd (fBin oAdd (fBin oMul (fVar 1) (fC (.int 69621))) (fBin oMod (fOp oInt (fCons (fVar 2) fNil)) (fC (.int 2147483629)))) (fC (.int 7))) (fC (.int 2147483647)))))
  (sRet (fMkSt (fCons (fOp oList (fCons (fVar 0) fNil)) (fCons (fC (.int 0)) (fCons (fC (.int 0)) (fCons (fVar 1) fNil))))))))
def fn__law_begin : FnS := mkFn 1 3 A__law_begin b__law_begin
/-! _law_take(d, many): slots 0 d, 1 many, 2 digit, 3 small -/
def A__law_take : List Nat := ((([] ++ ([] ++ (([3] ++ ([] ++ [])) ++ []))) ++ []) ++ ((([2] ++ ([] ++ [])) ++ []) ++ ([] ++ [])))
def b__law_take : FS :=
  (sSeq (sIf (fAndT (fTB (fBin oEq (fStGet 0 2) (fC (.int 0)))) (fTB (fBin oLt (fStGet 0 1) (fStLen 0))))
  (sSeq (sStSet 0 2 (fOp oAbs (fCons (fOp oInt (fCons (fStIx 0) fNil)) fNil)))
  (sSeq (sStSet 0 1 (fBin oAdd (fStGet 0 1) (fC (.int 1))))
  (sIf (fTB (fBin oLt (fStGet 0 2) (fBin oPow (fC (.int 10)) (fC (.int 18)))))
  (sSeq (sSet 3 (fOp oInt (fCons (fStGet 0 2) fNil)))
  (sSeq (sStSet 0 2 (fC (.int 0)))
  (sRet (fBin oMod (fVar 3) (fVar 1)))))
  sNext)))
  sNext)
  (sSeq (sIf (fTB (fBin oGt (fStGet 0 2) (fC (.int 0))))
  (sSeq (sSet 2 (fBin oMod (fOp oInt (fCons (fStGet 0 2) fNil)) (fVar 1)))
  (sSeq (sStSet 0 2 (fBin oDiv (fOp oInt (fCons (fStGet 0 2) fNil)) (fVar 1)))
  (sRet (fVar 2))))
  sNext)
  (sSeq (sStSet 0 3 (fBin oMod (fOp oInt (fCons (fBin oAdd (fBin oMul (fStGet 0 3) (fC (.int 48271))) (fC (.int 11))) fNil)) (fC (.int 2147483647))))
  (sRet (fBin oMod (fOp oInt (fCons (fBin oDiv (fStGet 0 3) (fC (.int 3))) fNil)) (fVar 1))))))
def fn__law_take : FnS := mkFn 2 4 A__law_take b__law_take
/-! _law_raise(times): slots 0 times, 1 found, 2 k -/
def A__law_raise : List Nat := ([1] ++ (([2] ++ [1]) ++ []))
def b__law_raise : FS :=
  (sSeq (sSet 1 (fC (.int 1)))
  (sSeq (sFor (itRng (fCons (fVar 0) fNil)) (bName 2)
  (sSet 1 (fBin oMul (fC (.int 2)) (fVar 1))))
  (sRet (fVar 1))))
def fn__law_raise : FnS := mkFn 1 3 A__law_raise b__law_raise
/-! _law_less(one, other): slots 0 one, 1 other -/
def A__law_less : List Nat := []
def b__law_less : FS :=
  (sRet (fBin oLt (fBin oMul (fBin oIx (fVar 0) (fC (.int 0))) (fBin oIx (fVar 1) (fC (.int 1)))) (fBin oMul (fBin oIx (fVar 1) (fC (.int 0))) (fBin oIx (fVar 0) (fC (.int 1))))))
def fn__law_less : FnS := mkFn 2 2 A__law_less b__law_less
/-! _law_part1(d, form, top, one, other): slots 0 d, 1 form, 2 top, 3 one, 4 other, 5 code, 6 a, 7 b, 8 most, 9 limit, 10 numbers, 11 room, 12 k, 13 codes, 14 way, 15 told, 16 power, 17 two, 18 part, 19 low, 20 high, 21 again, 22 up, 23 number, 24 back, 25 sign, 26 gap -/
def A__law_part1 : List Nat := (([5] ++ ([15] ++ (([] ++ []) ++ (([14] ++ ([21] ++ (([] ++ []) ++ ([] ++ [])))) ++ ([16] ++ ([17] ++ (([22] ++ (([] ++ []) ++ ([] ++ ([] ++ [])))) ++ []))))))) ++ ([6] ++ ([7] ++ (([] ++ []) ++ ([8] ++ ([9] ++ ([10] ++ ([11] ++ (([12] ++ ([18] ++ ([11] ++ []))) ++ ([13] ++ (([14] ++ ([] ++ [])) ++ ((([19] ++ ([20] ++ ([5] ++ ([15] ++ (([24] ++ ([25] ++ ([26] ++ ([] ++ [])))) ++ []))))) ++ []) ++ (([] ++ []) ++ [])))))))))))))
def b__law_part1 : FS :=
  (sSeq (sFor (itSeq (fOp oTup (fCons (fVar 3) (fCons (fVar 4) fNil)))) (bName 5)
  (sSeq (sSet 15 (fCall fn_value (fCons (fVar 1) (fCons (fVar 5) fNil))))
  (sSeq (sIf (fTB (fBin oIsN (fVar 15) (fC .non)))
  sCont
  sNext)
  (sSeq (sFor (itSeq (fOp oTup (fCons (fC (.str (PySem.Str.ofString "even"))) (fCons (fC (.str (PySem.Str.ofString "zero"))) (fCons (fC (.str (PySem.Str.ofString "up"))) (fCons (fC (.str (PySem.Str.ofString "down"))) fNil)))))) (bName 14)
  (sSeq (sSet 21 (fCall fn_rounded (fCons (fVar 1) (fCons (fVar 15) (fCons (fVar 14) fNil)))))
  (sSeq (sIf (fAndT (fTB (fBin oNe (fVar 21) (fVar 5))) (fTB (fBin oNe (fBin oIx (fVar 15) (fC (.int 0))) (fC (.int 0)))))
  (sRet (fC (.bl false)))
  sNext)
  (sIf (fAndT (fTB (fBin oEq (fBin oIx (fVar 15) (fC (.int 0))) (fC (.int 0)))) (fTB (fBin oNe (fVar 21) (fC (.int 0)))))
  (sRet (fC (.bl false)))
  sNext))))
  (sSeq (sSet 16 (fCall fn__law_take (fCons (fVar 0) (fCons (fBin oIx (fVar 1) (fC (.int 0))) fNil))))
  (sSeq (sSet 17 (fCall fn_rounded (fCons (fVar 1) (fCons (fOp oTup (fCons (fCall fn__law_raise (fCons (fVar 16) fNil)) (fCons (fC (.int 1)) fNil))) (fCons (fC (.str (PySem.Str.ofString "even"))) fNil)))))
  (sIf (fTB (fBin oEq (fCall fn_value (fCons (fVar 1) (fCons (fVar 17) fNil))) (fOp oTup (fCons (fCall fn__law_raise (fCons (fVar 16) fNil)) (fCons (fC (.int 1)) fNil)))))
  (sSeq (sSet 22 (fCall fn_multiply (fCons (fVar 1) (fCons (fVar 5) (fCons (fVar 17) (fCons (fC (.str (PySem.Str.ofString "zero"))) fNil))))))
  (sIf (fAndT (fNotT (fTru (fCall fn__law_less (fCons (fOp oTup (fCons (fBin oMul (fOp oAbs (fCons (fBin oIx (fVar 15) (fC (.int 0))) fNil)) (fCall fn__law_raise (fCons (fVar 16) fNil))) (fCons (fBin oIx (fVar 15) (fC (.int 1))) fNil))) (fCons (fCall fn_value (fCons (fVar 1) (fCons (fVar 2) fNil))) fNil))))) (fTB (fBin oNe (fBin oMul (fBin oMul (fOp oAbs (fCons (fBin oIx (fVar 15) (fC (.int 0))) fNil)) (fCall fn__law_raise (fCons (fVar 16) fNil))) (fBin oIx (fCall fn_value (fCons (fVar 1) (fCons (fVar 2) fNil))) (fC (.int 1)))) (fBin oMul (fBin oIx (fCall fn_value (fCons (fVar 1) (fCons (fVar 2) fNil))) (fC (.int 0))) (fBin oIx (fVar 15) (fC (.int 1)))))))
  (sIf (fAndT (fTB (fBin oNotN (fCall fn_value (fCons (fVar 1) (fCons (fVar 22) fNil))) (fC .non))) (fTB (fBin oNe (fBin oMul (fOp oAbs (fCons (fBin oIx (fCall fn_value (fCons (fVar 1) (fCons (fVar 22) fNil))) (fC (.int 0))) fNil)) (fBin oIx (fCall fn_value (fCons (fVar 1) (fCons (fVar 2) fNil))) (fC (.int 1)))) (fBin oMul (fBin oIx (fCall fn_value (fCons (fVar 1) (fCons (fVar 2) fNil))) (fC (.int 0))) (fBin oIx (fCall fn_value (fCons (fVar 1) (fCons (fVar 22) fNil))) (fC (.int 1)))))))
  (sRet (fC (.bl false)))
  sNext)
  (sIf (fOrT (fTB (fBin oIsN (fCall fn_value (fCons (fVar 1) (fCons (fVar 22) fNil))) (fC .non))) (fTB (fBin oNe (fBin oMul (fBin oIx (fCall fn_value (fCons (fVar 1) (fCons (fVar 22) fNil))) (fC (.int 0))) (fBin oIx (fVar 15) (fC (.int 1)))) (fBin oMul (fBin oMul (fBin oIx (fVar 15) (fC (.int 0))) (fCall fn__law_raise (fCons (fVar 16) fNil))) (fBin oIx (fCall fn_value (fCons (fVar 1) (fCons (fVar 22) fNil))) (fC (.int 1)))))))
  (sRet (fC (.bl false)))
  (sIf (fTB (fBin oNe (fCall fn_divide (fCons (fVar 1) (fCons (fVar 22) (fCons (fVar 17) (fCons (fC (.str (PySem.Str.ofString "even"))) fNil))))) (fVar 5)))
  (sRet (fC (.bl false)))
  sNext))))
  sNext)))))))
  (sSeq (sSet 6 (fCall fn_value (fCons (fVar 1) (fCons (fVar 3) fNil))))
  (sSeq (sSet 7 (fCall fn_value (fCons (fVar 1) (fCons (fVar 4) fNil))))
  (sSeq (sIf (fAndT (fTB (fBin oNotN (fVar 6) (fC .non))) (fAndT (fTB (fBin oNotN (fVar 7) (fC .non))) (fAndT (fTB (fBin oGt (fBin oIx (fVar 6) (fC (.int 0))) (fC (.int 0)))) (fAndT (fTB (fBin oGt (fBin oIx (fVar 7) (fC (.int 0))) (fC (.int 0)))) (fTB (fBin oNe (fBin oLt (fVar 3) (fVar 4)) (fCall fn__law_less (fCons (fVar 6) (fCons (fVar 7) fNil)))))))))
  (sRet (fC (.bl false)))
  sNext)
  (sSeq (sSet 8 (fCall fn__law_raise (fCons (fBin oAdd (fBin oIx (fVar 1) (fC (.int 1))) (fC (.int 1))) fNil)))
  (sSeq (sSet 9 (fCall fn_value (fCons (fVar 1) (fCons (fVar 2) fNil))))
  (sSeq (sSet 10 (fOp oLst fNil))
  (sSeq (sSet 11 (fOp oMin (fCons (fVar 8) (fCons (fBin oDiv (fBin oIx (fVar 9) (fC (.int 0))) (fBin oIx (fVar 9) (fC (.int 1)))) fNil))))
  (sSeq (sFor (itRng (fCons (fCall fn__law_take (fCons (fVar 0) (fCons (fC (.int 7)) fNil))) fNil)) (bName 12)
  (sSeq (sSet 18 (fCall fn__law_take (fCons (fVar 0) (fCons (fBin oAdd (fVar 11) (fC (.int 1))) fNil))))
  (sSeq (sSet 11 (fBin oSub (fVar 11) (fVar 18)))
  (sExpr (fMt 10 oAppend (fCons (fVar 18) fNil))))))
  (sSeq (sSet 13 (fOp oTuple (fCons (fLock 10 (fLc [23] (itSeq (fVar 10)) (bName 23) fYes (fCall fn_rounded (fCons (fVar 1) (fCons (fOp oTup (fCons (fVar 23) (fCons (fC (.int 1)) fNil))) (fCons (fC (.str (PySem.Str.ofString "even"))) fNil)))))) fNil)))
  (sSeq (sFor (itSeq (fOp oTup (fCons (fC (.str (PySem.Str.ofString "even"))) (fCons (fC (.str (PySem.Str.ofString "zero"))) (fCons (fC (.str (PySem.Str.ofString "up"))) (fCons (fC (.str (PySem.Str.ofString "down"))) fNil)))))) (bName 14)
  (sIf (fOrT (fTB (fBin oNe (fBin oIx (fCall fn_summed (fCons (fVar 1) (fCons (fVar 13) (fCons (fVar 14) fNil)))) (fC (.int 1))) (fOp oTup (fCons (fOp oSum (fCons (fVar 10) fNil)) (fCons (fC (.int 1)) fNil))))) (fOrT (fTB (fBin oNe (fCall fn_value (fCons (fVar 1) (fCons (fBin oIx (fCall fn_summed (fCons (fVar 1) (fCons (fVar 13) (fCons (fVar 14) fNil)))) (fC (.int 0))) fNil))) (fOp oTup (fCons (fOp oSum (fCons (fVar 10) fNil)) (fCons (fC (.int 1)) fNil))))) (fTB (fBin oNe (fCall fn_value (fCons (fVar 1) (fCons (fBin oIx (fCall fn_summed (fCons (fVar 1) (fCons (fUn oRev (fVar 13)) (fCons (fVar 14) fNil)))) (fC (.int 0))) fNil))) (fOp oTup (fCons (fOp oSum (fCons (fVar 10) fNil)) (fCons (fC (.int 1)) fNil)))))))
  (sRet (fC (.bl false)))
  sNext))
  (sSeq (sIf (fAndT (fTB (fBin oNotN (fVar 6) (fC .non))) (fAndT (fTB (fBin oNotN (fVar 7) (fC .non))) (fTB (fBin oNe (fBin oIx (fVar 7) (fC (.int 0))) (fC (.int 0))))))
  (sSeq (sSet 19 (fCall fn_divide (fCons (fVar 1) (fCons (fVar 3) (fCons (fVar 4) (fCons (fC (.str (PySem.Str.ofString "down"))) fNil))))))
  (sSeq (sSet 20 (fCall fn_divide (fCons (fVar 1) (fCons (fVar 3) (fCons (fVar 4) (fCons (fC (.str (PySem.Str.ofString "up"))) fNil))))))
  (sFor (itSeq (fOp oTup (fCons (fVar 19) (fCons (fVar 20) fNil)))) (bName 5)
  (sSeq (sSet 15 (fCall fn_value (fCons (fVar 1) (fCons (fVar 5) fNil))))
  (sIf (fTB (fBin oNotN (fVar 15) (fC .non)))
  (sSeq (sSet 24 (fOp oTup (fCons (fBin oMul (fBin oIx (fVar 15) (fC (.int 0))) (fBin oIx (fVar 7) (fC (.int 0)))) (fCons (fBin oMul (fBin oIx (fVar 15) (fC (.int 1))) (fBin oIx (fVar 7) (fC (.int 1)))) fNil))))
  (sSeq (sSet 25 (fIf (fTB (fBin oGt (fBin oIx (fVar 7) (fC (.int 0))) (fC (.int 0)))) (fC (.int 1)) (fUn oNeg (fC (.int 1)))))
  (sSeq (sSet 26 (fBin oMul (fVar 25) (fBin oSub (fBin oMul (fBin oIx (fVar 24) (fC (.int 0))) (fBin oIx (fVar 6) (fC (.int 1)))) (fBin oMul (fBin oIx (fVar 6) (fC (.int 0))) (fBin oIx (fVar 24) (fC (.int 1)))))))
  (sIf (fOrT (fAndT (fTB (fBin oEq (fVar 5) (fVar 19))) (fAndT (fTB (fBin oNe (fVar 19) (fVar 20))) (fTB (fBin oGe (fVar 26) (fC (.int 0)))))) (fOrT (fAndT (fTB (fBin oEq (fVar 5) (fVar 20))) (fAndT (fTB (fBin oNe (fVar 19) (fVar 20))) (fTB (fBin oLe (fVar 26) (fC (.int 0)))))) (fAndT (fTB (fBin oEq (fVar 19) (fVar 20))) (fTB (fBin oNe (fVar 26) (fC (.int 0)))))))
  (sRet (fC (.bl false)))
  sNext))))
  sNext)))))
  sNext)
  (sSeq (sIf (fAndT (fTB (fBin oInT (fCall fn_kind (fCons (fVar 1) (fCons (fVar 3) fNil))) (fOp oTup (fCons (fC (.str (PySem.Str.ofString "small"))) (fCons (fC (.str (PySem.Str.ofString "full"))) fNil))))) (fTB (fBin oNe (fBin oEq (fBin oIx (fCall fn_parts (fCons (fVar 1) (fCons (fVar 3) fNil))) (fC (.int 1))) (fC (.int 0))) (fBin oEq (fCall fn_kind (fCons (fVar 1) (fCons (fVar 3) fNil))) (fC (.str (PySem.Str.ofString "small")))))))
  (sRet (fC (.bl false)))
  sNext)
  (sRet (fAnd (fBin oEq (fCall fn_turned (fCons (fVar 1) (fCons (fCall fn_turned (fCons (fVar 1) (fCons (fVar 3) fNil))) fNil))) (fVar 3)) (fUn oNotB (fCall fn_less (fCons (fVar 1) (fCons (fVar 3) (fCons (fVar 3) fNil))))))))))))))))))))
def fn__law_part1 : FnS := mkFn 5 27 A__law_part1 b__law_part1
/-! law(script): slots 0 script, 1 d, 2 form, 3 whole, 4 half, 5 top, 6 one, 7 other, 8 now, 9 steps, 10 before -/
def A_law : List Nat := ([1] ++ ([2] ++ ([3] ++ ([4] ++ ([5] ++ ((([8] ++ ([9] ++ ([10] ++ (([8] ++ ([9] ++ (([] ++ []) ++ [10]))) ++ ([] ++ []))))) ++ []) ++ ([6] ++ ([7] ++ []))))))))
def b_law : FS :=
  (sSeq (sSet 1 (fCall fn__law_begin (fCons (fVar 0) fNil)))
  (sSeq (sSet 2 (fOp oTup (fCons (fBin oAdd (fC (.int 2)) (fCall fn__law_take (fCons (fVar 1) (fCons (fC (.int 3)) fNil)))) (fCons (fBin oAdd (fC (.int 1)) (fCall fn__law_take (fCons (fVar 1) (fCons (fC (.int 4)) fNil)))) fNil))))
  (sSeq (sSet 3 (fCall fn_size (fCons (fVar 2) fNil)))
  (sSeq (sSet 4 (fBin oDiv (fVar 3) (fC (.int 2))))
  (sSeq (sSet 5 (fCall fn_greatest (fCons (fVar 2) fNil)))
  (sSeq (sIf (fTB (fBin oEq (fCall fn__law_take (fCons (fVar 1) (fCons (fC (.int 3)) fNil))) (fC (.int 0))))
  (sSeq (sSet 8 (fBin oAdd (fVar 4) (fVar 5)))
  (sSeq (sSet 9 (fC (.int 0)))
  (sSeq (sSet 10 (fCall fn_value (fCons (fVar 2) (fCons (fVar 8) fNil))))
  (sSeq (sWhile fuel0 (fTB (fBin oNe (fVar 8) (fVar 5)))
  (sSeq (sSet 8 (fCall fn_next_up (fCons (fVar 2) (fCons (fVar 8) fNil))))
  (sSeq (sSet 9 (fBin oAdd (fVar 9) (fC (.int 1))))
  (sSeq (sIf (fNotT (fTru (fCall fn__law_less (fCons (fVar 10) (fCons (fCall fn_value (fCons (fVar 2) (fCons (fVar 8) fNil))) fNil)))))
  (sRet (fC (.bl false)))
  sNext)
  (sSet 10 (fCall fn_value (fCons (fVar 2) (fCons (fVar 8) fNil))))))))
  (sIf (fOrT (fTB (fBin oNe (fVar 9) (fBin oMul (fC (.int 2)) (fVar 5)))) (fOrT (fTB (fBin oNe (fCall fn_next_up (fCons (fVar 2) (fCons (fVar 5) fNil))) (fBin oAdd (fVar 5) (fC (.int 1))))) (fTB (fBin oNe (fCall fn_kind (fCons (fVar 2) (fCons (fBin oAdd (fVar 5) (fC (.int 1))) fNil))) (fC (.str (PySem.Str.ofString "endless")))))))
  (sRet (fC (.bl false)))
  sNext)))))
  sNext)
  (sSeq (sSet 6 (fCall fn__law_take (fCons (fVar 1) (fCons (fVar 3) fNil))))
  (sSeq (sSet 7 (fCall fn__law_take (fCons (fVar 1) (fCons (fVar 3) fNil))))
  (sRet (fCall fn__law_part1 (fCons (fVar 1) (fCons (fVar 2) (fCons (fVar 5) (fCons (fVar 6) (fCons (fVar 7) fNil)))))))))))))))
def fn_law : FnS := mkFn 1 11 A_law b_law
end
end K43
end

section
set_option Elab.async false
set_option linter.all false
set_option maxRecDepth 100000
set_option maxHeartbeats 4000000
namespace K43
open PySem PySem.Spec PyProof.Rows L2 QL
def top (i : Nat) : Stmt := PySem.Challenge.pw_machinehall_k43_whole_codes_of_moving_po.main.body.getD i (.Pass ⟨0, 0, 0, 0⟩)
def vt_WAYS : List V := [.str (PySem.Str.ofString "even"), .str (PySem.Str.ofString "zero"), .str (PySem.Str.ofString "up"), .str (PySem.Str.ofString "down")]
structure Bl (K : PySem.W.Frag) (mg : Str → Option Value) : Prop where
  z_abs : mg "abs" = none
  z_int : mg "int" = none
  z_len : mg "len" = none
  z_list : mg "list" = none
  z_max : mg "max" = none
  z_min : mg "min" = none
  z_range : mg "range" = none
  z_sum : mg "sum" = none
  z_tuple : mg "tuple" = none
  t_WAYS : GTup K mg "WAYS" vt_WAYS
section
variable {P : Program} {w : World} {K : PySem.W.Frag} {mg : Str → Option Value} {base : Heap}
abbrev s_check_form : Stmt := top 4
theorem sc_check_form : FnScope ["form", "exponent", "places"] ["form"] (defScope s_check_form) := ⟨rfl, rfl, rfl, by decide +kernel, rfl, by decide +kernel, by decide +kernel⟩
theorem ok_check_form (Z : Bl K mg) (d : Df K mg "check_form" s_check_form)  : Cal P w K mg base "check_form" 1 1 fn_check_form :=
  cal_ok (A := A_check_form) (body := b_check_form) d sc_check_form (fun f cdv Ar outer s H E hr => have nd := sc_check_form.nd;
  (qs_cons (qs_pat (qg_tup rfl (qg_cons (qg_name (i := 1) nd) (qg_cons (qg_name (i := 2) nd) qg_nil))) (qx_var 0))
  (qs_one (qs_if (qt_bool (qw_or (qt_not (qt_chain qc_le qc_le qx_int (qx_var 1) qx_int)) (qw_or1 (qt_not (qt_chain qc_le qc_le qx_int (qx_var 2) qx_int)))))
  (qs_one qs_never)
  qs_nil)))) (fun _ _ _ _ _ _ us hl => match us, hl with | [_], _ => rfl)
abbrev s_power_of : Stmt := top 5
theorem sc_power_of : FnScope ["number", "found", "_"] ["number"] (defScope s_power_of) := ⟨rfl, rfl, rfl, by decide +kernel, rfl, by decide +kernel, by decide +kernel⟩
theorem ok_power_of (Z : Bl K mg) (d : Df K mg "power_of" s_power_of)  : Cal P w K mg base "power_of" 1 1 fn_power_of :=
  cal_ok (A := A_power_of) (body := b_power_of) d sc_power_of (fun f cdv Ar outer s H E hr => have nd := sc_power_of.nd;
  (qs_cons (qs_set (i := 1) nd qx_int)
  (qs_cons (qs_for PassesOwn.never rfl (qi_rng1 (by rfl) Z.z_range (qa_cons (qx_var 0) qa_nil)) (qg_name (i := 2) nd)
  (qs_one (qs_aug (i := 1) qg_mul nd qx_int)))
  (qs_one (qs_ret (qx_var 1)))))) (fun _ _ _ _ _ _ us hl => match us, hl with | [_], _ => rfl)
abbrev s_bias : Stmt := top 6
theorem sc_bias : FnScope ["form"] ["form"] (defScope s_bias) := ⟨rfl, rfl, rfl, by decide +kernel, rfl, by decide +kernel, by decide +kernel⟩
theorem ok_bias (Z : Bl K mg) (d : Df K mg "bias" s_bias) (C_power_of : Cal P w K mg base "power_of" 1 1 fn_power_of) : Cal P w K mg base "bias" 2 1 fn_bias :=
  cal_ok (A := A_bias) (body := b_bias) d sc_bias (fun f cdv Ar outer s H E hr => have nd := sc_bias.nd;
  (qs_one (qs_ret (qo_sub (qx_cal C_power_of hr (by rfl) (qa_cons (qo_sub (qx_ix (qx_var 0) qx_int) qx_int) qa_nil)) qx_int)))) (fun _ _ _ _ _ _ us hl => match us, hl with | [_], _ => rfl)
abbrev s_least_power : Stmt := top 7
theorem sc_least_power : FnScope ["form"] ["form"] (defScope s_least_power) := ⟨rfl, rfl, rfl, by decide +kernel, rfl, by decide +kernel, by decide +kernel⟩
theorem ok_least_power (Z : Bl K mg) (d : Df K mg "least_power" s_least_power) (C_bias : Cal P w K mg base "bias" 2 1 fn_bias) : Cal P w K mg base "least_power" 3 1 fn_least_power :=
  cal_ok (A := A_least_power) (body := b_least_power) d sc_least_power (fun f cdv Ar outer s H E hr => have nd := sc_least_power.nd;
  (qs_one (qs_ret (qo_sub (qo_sub qx_int (qx_cal C_bias hr (by rfl) (qa_cons (qx_var 0) qa_nil))) (qx_ix (qx_var 0) qx_int))))) (fun _ _ _ _ _ _ us hl => match us, hl with | [_], _ => rfl)
abbrev s_size : Stmt := top 8
theorem sc_size : FnScope ["form"] ["form"] (defScope s_size) := ⟨rfl, rfl, rfl, by decide +kernel, rfl, by decide +kernel, by decide +kernel⟩
theorem ok_size (Z : Bl K mg) (d : Df K mg "size" s_size) (C_check_form : Cal P w K mg base "check_form" 1 1 fn_check_form) (C_power_of : Cal P w K mg base "power_of" 1 1 fn_power_of) : Cal P w K mg base "size" 2 1 fn_size :=
  cal_ok (A := A_size) (body := b_size) d sc_size (fun f cdv Ar outer s H E hr => have nd := sc_size.nd;
  (qs_cons (qs_expr (qx_cal C_check_form hr (by rfl) (qa_cons (qx_var 0) qa_nil)))
  (qs_one (qs_ret (qx_cal C_power_of hr (by rfl) (qa_cons (qo_add (qo_add qx_int (qx_ix (qx_var 0) qx_int)) (qx_ix (qx_var 0) qx_int)) qa_nil)))))) (fun _ _ _ _ _ _ us hl => match us, hl with | [_], _ => rfl)
abbrev s_check_code : Stmt := top 9
theorem sc_check_code : FnScope ["form", "code"] ["form", "code"] (defScope s_check_code) := ⟨rfl, rfl, rfl, by decide +kernel, rfl, by decide +kernel, by decide +kernel⟩
theorem ok_check_code (Z : Bl K mg) (d : Df K mg "check_code" s_check_code) (C_check_form : Cal P w K mg base "check_form" 2 1 fn_check_form) (C_size : Cal P w K mg base "size" 2 1 fn_size) : Cal P w K mg base "check_code" 3 2 fn_check_code :=
  cal_ok (A := A_check_code) (body := b_check_code) d sc_check_code (fun f cdv Ar outer s H E hr => have nd := sc_check_code.nd;
  (qs_cons (qs_expr (qx_cal C_check_form hr (by rfl) (qa_cons (qx_var 0) qa_nil)))
  (qs_one (qs_if (qt_not (qt_chain qc_le qc_lt qx_int (qx_var 1) (qx_cal C_size hr (by rfl) (qa_cons (qx_var 0) qa_nil))))
  (qs_one qs_never)
  qs_nil)))) (fun _ _ _ _ _ _ us hl => match us, hl with | [_, _], _ => rfl)
abbrev s_parts : Stmt := top 10
theorem sc_parts : FnScope ["form", "code"] ["form", "code"] (defScope s_parts) := ⟨rfl, rfl, rfl, by decide +kernel, rfl, by decide +kernel, by decide +kernel⟩
theorem ok_parts (Z : Bl K mg) (d : Df K mg "parts" s_parts) (C_check_code : Cal P w K mg base "check_code" 3 2 fn_check_code) (C_power_of : Cal P w K mg base "power_of" 3 1 fn_power_of) : Cal P w K mg base "parts" 4 2 fn_parts :=
  cal_ok (A := A_parts) (body := b_parts) d sc_parts (fun f cdv Ar outer s H E hr => have nd := sc_parts.nd;
  (qs_cons (qs_expr (qx_cal C_check_code hr (by rfl) (qa_cons (qx_var 0) (qa_cons (qx_var 1) qa_nil))))
  (qs_one (qs_ret (qx_tup (qa_cons (qo_div (qx_var 1) (qx_cal C_power_of hr (by rfl) (qa_cons (qo_add (qx_ix (qx_var 0) qx_int) (qx_ix (qx_var 0) qx_int)) qa_nil))) (qa_cons (qo_mod (qo_div (qx_var 1) (qx_cal C_power_of hr (by rfl) (qa_cons (qx_ix (qx_var 0) qx_int) qa_nil))) (qx_cal C_power_of hr (by rfl) (qa_cons (qx_ix (qx_var 0) qx_int) qa_nil))) (qa_cons (qo_mod (qx_var 1) (qx_cal C_power_of hr (by rfl) (qa_cons (qx_ix (qx_var 0) qx_int) qa_nil))) qa_nil)))))))) (fun _ _ _ _ _ _ us hl => match us, hl with | [_, _], _ => rfl)
abbrev s_kind : Stmt := top 11
theorem sc_kind : FnScope ["form", "code", "_", "exponent", "places"] ["form", "code"] (defScope s_kind) := ⟨rfl, rfl, rfl, by decide +kernel, rfl, by decide +kernel, by decide +kernel⟩
theorem ok_kind (Z : Bl K mg) (d : Df K mg "kind" s_kind) (C_parts : Cal P w K mg base "parts" 4 2 fn_parts) (C_power_of : Cal P w K mg base "power_of" 4 1 fn_power_of) : Cal P w K mg base "kind" 5 2 fn_kind :=
  cal_ok (A := A_kind) (body := b_kind) d sc_kind (fun f cdv Ar outer s H E hr => have nd := sc_kind.nd;
  (qs_cons (qs_pat (qg_tup rfl (qg_cons (qg_name (i := 2) nd) (qg_cons (qg_name (i := 3) nd) (qg_cons (qg_name (i := 4) nd) qg_nil)))) (qx_cal C_parts hr (by rfl) (qa_cons (qx_var 0) (qa_cons (qx_var 1) qa_nil))))
  (qs_cons (qs_if (qt_cmp (qc_eq hr.units) (qx_var 3) (qo_sub (qx_cal C_power_of hr (by rfl) (qa_cons (qx_ix (qx_var 0) qx_int) qa_nil)) qx_int) (nomark _))
  (qs_one (qs_ret (qx_if (qt_cmp (qc_eq hr.units) (qx_var 4) qx_int (nomark _)) qx_str qx_str)))
  qs_nil)
  (qs_cons (qs_if (qt_cmp (qc_eq hr.units) (qx_var 3) qx_int (nomark _))
  (qs_one (qs_ret (qx_if (qt_cmp (qc_eq hr.units) (qx_var 4) qx_int (nomark _)) qx_str qx_str)))
  qs_nil)
  (qs_one (qs_ret qx_str)))))) (fun _ _ _ _ _ _ us hl => match us, hl with | [_, _], _ => rfl)
abbrev s_reduced : Stmt := top 12
theorem sc_reduced : FnScope ["top", "bottom", "one", "other"] ["top", "bottom"] (defScope s_reduced) := ⟨rfl, rfl, rfl, by decide +kernel, rfl, by decide +kernel, by decide +kernel⟩
theorem ok_reduced (Z : Bl K mg) (d : Df K mg "reduced" s_reduced)  : Cal P w K mg base "reduced" 1 2 fn_reduced :=
  cal_ok (A := A_reduced) (body := b_reduced) d sc_reduced (fun f cdv Ar outer s H E hr => have nd := sc_reduced.nd;
  (qs_cons (qs_par (i := 2) (j := 3) rfl nd (qa_cons (qx_callB (cb_abs) (by rfl) Z.z_abs (by decide +kernel) (qa_cons (qx_var 0) qa_nil)) (qa_cons (qx_callB (cb_abs) (by rfl) Z.z_abs (by decide +kernel) (qa_cons (qx_var 1) qa_nil)) qa_nil)))
  (qs_cons (qs_while fuel0 PassesOwn.never (qt_tru (qx_var 3))
  (qs_one (qs_par (i := 2) (j := 3) rfl nd (qa_cons (qx_var 3) (qa_cons (qo_mod (qx_var 2) (qx_var 3)) qa_nil)))))
  (qs_one (qs_ret (qx_if (qt_cmp qc_gt (qx_var 2) qx_int (nomark _)) (qx_tup (qa_cons (qo_div (qx_var 0) (qx_var 2)) (qa_cons (qo_div (qx_var 1) (qx_var 2)) qa_nil))) (qx_tup (qa_cons qx_int (qa_cons qx_int qa_nil))))))))) (fun _ _ _ _ _ _ us hl => match us, hl with | [_, _], _ => rfl)
abbrev s_value : Stmt := top 13
theorem sc_value : FnScope ["form", "code", "sign", "exponent", "places", "whole", "power"] ["form", "code"] (defScope s_value) := ⟨rfl, rfl, rfl, by decide +kernel, rfl, by decide +kernel, by decide +kernel⟩
theorem ok_value (Z : Bl K mg) (d : Df K mg "value" s_value) (C_kind : Cal P w K mg base "kind" 5 2 fn_kind) (C_parts : Cal P w K mg base "parts" 5 2 fn_parts) (C_power_of : Cal P w K mg base "power_of" 5 1 fn_power_of) (C_least_power : Cal P w K mg base "least_power" 5 1 fn_least_power) (C_reduced : Cal P w K mg base "reduced" 5 2 fn_reduced) : Cal P w K mg base "value" 6 2 fn_value :=
  cal_ok (A := A_value) (body := b_value) d sc_value (fun f cdv Ar outer s H E hr => have nd := sc_value.nd;
  (qs_cons (qs_if (qt_cmp (qc_inT hr) (qx_cal C_kind hr (by rfl) (qa_cons (qx_var 0) (qa_cons (qx_var 1) qa_nil))) (qx_tup (qa_cons qx_str (qa_cons qx_str qa_nil))) (by rfl))
  (qs_one (qs_ret qx_non))
  qs_nil)
  (qs_cons (qs_pat (qg_tup rfl (qg_cons (qg_name (i := 2) nd) (qg_cons (qg_name (i := 3) nd) (qg_cons (qg_name (i := 4) nd) qg_nil)))) (qx_cal C_parts hr (by rfl) (qa_cons (qx_var 0) (qa_cons (qx_var 1) qa_nil))))
  (qs_cons (qs_set (i := 5) nd (qx_if (qt_cmp (qc_eq hr.units) (qx_var 3) qx_int (nomark _)) (qx_var 4) (qo_add (qx_var 4) (qx_cal C_power_of hr (by rfl) (qa_cons (qx_ix (qx_var 0) qx_int) qa_nil)))))
  (qs_cons (qs_set (i := 6) nd (qo_add (qx_cal C_least_power hr (by rfl) (qa_cons (qx_var 0) qa_nil)) (qx_callB (cb_max rfl) (by rfl) Z.z_max (by decide +kernel) (qa_cons (qo_sub (qx_var 3) qx_int) (qa_cons qx_int qa_nil)))))
  (qs_cons (qs_set (i := 5) nd (qx_if (qt_cmp (qc_eq hr.units) (qx_var 2) qx_int (nomark _)) (qo_sub qx_int (qx_var 5)) (qx_var 5)))
  (qs_cons (qs_if (qt_cmp qc_ge (qx_var 6) qx_int (nomark _))
  (qs_one (qs_ret (qx_tup (qa_cons (qo_mul (qx_var 5) (qx_cal C_power_of hr (by rfl) (qa_cons (qx_var 6) qa_nil))) (qa_cons qx_int qa_nil)))))
  qs_nil)
  (qs_one (qs_ret (qx_cal C_reduced hr (by rfl) (qa_cons (qx_var 5) (qa_cons (qx_cal C_power_of hr (by rfl) (qa_cons (qo_sub qx_int (qx_var 6)) qa_nil)) qa_nil)))))))))))) (fun _ _ _ _ _ _ us hl => match us, hl with | [_, _], _ => rfl)
abbrev s_greatest : Stmt := top 14
theorem sc_greatest : FnScope ["form"] ["form"] (defScope s_greatest) := ⟨rfl, rfl, rfl, by decide +kernel, rfl, by decide +kernel, by decide +kernel⟩
theorem ok_greatest (Z : Bl K mg) (d : Df K mg "greatest" s_greatest) (C_check_form : Cal P w K mg base "check_form" 1 1 fn_check_form) (C_power_of : Cal P w K mg base "power_of" 1 1 fn_power_of) : Cal P w K mg base "greatest" 2 1 fn_greatest :=
  cal_ok (A := A_greatest) (body := b_greatest) d sc_greatest (fun f cdv Ar outer s H E hr => have nd := sc_greatest.nd;
  (qs_cons (qs_expr (qx_cal C_check_form hr (by rfl) (qa_cons (qx_var 0) qa_nil)))
  (qs_one (qs_ret (qo_sub (qo_sub (qx_cal C_power_of hr (by rfl) (qa_cons (qo_add (qx_ix (qx_var 0) qx_int) (qx_ix (qx_var 0) qx_int)) qa_nil)) (qx_cal C_power_of hr (by rfl) (qa_cons (qx_ix (qx_var 0) qx_int) qa_nil))) qx_int))))) (fun _ _ _ _ _ _ us hl => match us, hl with | [_], _ => rfl)
abbrev s_endless : Stmt := top 15
theorem sc_endless : FnScope ["form", "sign"] ["form", "sign"] (defScope s_endless) := ⟨rfl, rfl, rfl, by decide +kernel, rfl, by decide +kernel, by decide +kernel⟩
theorem ok_endless (Z : Bl K mg) (d : Df K mg "endless" s_endless) (C_power_of : Cal P w K mg base "power_of" 1 1 fn_power_of) : Cal P w K mg base "endless" 2 2 fn_endless :=
  cal_ok (A := A_endless) (body := b_endless) d sc_endless (fun f cdv Ar outer s H E hr => have nd := sc_endless.nd;
  (qs_one (qs_ret (qo_sub (qo_add (qo_mul (qx_var 1) (qx_cal C_power_of hr (by rfl) (qa_cons (qo_add (qx_ix (qx_var 0) qx_int) (qx_ix (qx_var 0) qx_int)) qa_nil))) (qx_cal C_power_of hr (by rfl) (qa_cons (qo_add (qx_ix (qx_var 0) qx_int) (qx_ix (qx_var 0) qx_int)) qa_nil))) (qx_cal C_power_of hr (by rfl) (qa_cons (qx_ix (qx_var 0) qx_int) qa_nil)))))) (fun _ _ _ _ _ _ us hl => match us, hl with | [_, _], _ => rfl)
abbrev s_nothing : Stmt := top 16
theorem sc_nothing : FnScope ["form"] ["form"] (defScope s_nothing) := ⟨rfl, rfl, rfl, by decide +kernel, rfl, by decide +kernel, by decide +kernel⟩
theorem ok_nothing (Z : Bl K mg) (d : Df K mg "nothing" s_nothing) (C_power_of : Cal P w K mg base "power_of" 1 1 fn_power_of) : Cal P w K mg base "nothing" 2 1 fn_nothing :=
  cal_ok (A := A_nothing) (body := b_nothing) d sc_nothing (fun f cdv Ar outer s H E hr => have nd := sc_nothing.nd;
  (qs_one (qs_ret (qo_add (qo_sub (qx_cal C_power_of hr (by rfl) (qa_cons (qo_add (qx_ix (qx_var 0) qx_int) (qx_ix (qx_var 0) qx_int)) qa_nil)) (qx_cal C_power_of hr (by rfl) (qa_cons (qx_ix (qx_var 0) qx_int) qa_nil))) (qx_cal C_power_of hr (by rfl) (qa_cons (qo_sub (qx_ix (qx_var 0) qx_int) qx_int) qa_nil)))))) (fun _ _ _ _ _ _ us hl => match us, hl with | [_], _ => rfl)
abbrev s_floor_code : Stmt := top 17
theorem sc_floor_code : FnScope ["form", "top", "bottom", "low", "high", "told", "middle"] ["form", "top", "bottom"] (defScope s_floor_code) := ⟨rfl, rfl, rfl, by decide +kernel, rfl, by decide +kernel, by decide +kernel⟩
theorem ok_floor_code (Z : Bl K mg) (d : Df K mg "floor_code" s_floor_code) (C_greatest : Cal P w K mg base "greatest" 6 1 fn_greatest) (C_value : Cal P w K mg base "value" 6 2 fn_value) : Cal P w K mg base "floor_code" 7 3 fn_floor_code :=
  cal_ok (A := A_floor_code) (body := b_floor_code) d sc_floor_code (fun f cdv Ar outer s H E hr => have nd := sc_floor_code.nd;
  (qs_cons (qs_par (i := 3) (j := 4) rfl nd (qa_cons qx_int (qa_cons (qo_add (qx_cal C_greatest hr (by rfl) (qa_cons (qx_var 0) qa_nil)) qx_int) qa_nil)))
  (qs_cons (qs_while fuel0 PassesOwn.never (qt_cmp qc_gt (qo_sub (qx_var 4) (qx_var 3)) qx_int (nomark _))
  (qs_cons (qs_set (i := 6) nd (qo_div (qo_add (qx_var 3) (qx_var 4)) qx_int))
  (qs_cons (qs_set (i := 5) nd (qx_cal C_value hr (by rfl) (qa_cons (qx_var 0) (qa_cons (qx_var 6) qa_nil))))
  (qs_one (qs_if (qt_cmp qc_le (qo_mul (qx_ix (qx_var 5) qx_int) (qx_var 2)) (qo_mul (qx_var 1) (qx_ix (qx_var 5) qx_int)) (nomark _))
  (qs_one (qs_set (i := 3) nd (qx_var 6)))
  (qs_one (qs_set (i := 4) nd (qx_var 6))))))))
  (qs_cons (qs_set (i := 5) nd (qx_cal C_value hr (by rfl) (qa_cons (qx_var 0) (qa_cons (qx_var 3) qa_nil))))
  (qs_one (qs_ret (qx_tup (qa_cons (qx_var 3) (qa_cons (qo_cmp (qc_eq hr.units) (qo_mul (qx_ix (qx_var 5) qx_int) (qx_var 2)) (qo_mul (qx_var 1) (qx_ix (qx_var 5) qx_int)) (nomark _)) qa_nil))))))))) (fun _ _ _ _ _ _ us hl => match us, hl with | [_, _, _], _ => rfl)
abbrev s_below_step : Stmt := top 20
theorem sc_below_step : FnScope ["form", "low", "_", "exponent", "power"] ["form", "low"] (defScope s_below_step) := ⟨rfl, rfl, rfl, by decide +kernel, rfl, by decide +kernel, by decide +kernel⟩
theorem ok_below_step (Z : Bl K mg) (d : Df K mg "below_step" s_below_step) (C_parts : Cal P w K mg base "parts" 4 2 fn_parts) (C_least_power : Cal P w K mg base "least_power" 4 1 fn_least_power) (C_power_of : Cal P w K mg base "power_of" 4 1 fn_power_of) : Cal P w K mg base "below_step" 5 2 fn_below_step :=
  cal_ok (A := A_below_step) (body := b_below_step) d sc_below_step (fun f cdv Ar outer s H E hr => have nd := sc_below_step.nd;
  (qs_cons (qs_pat (qg_tup rfl (qg_cons (qg_name (i := 2) nd) (qg_cons (qg_name (i := 3) nd) (qg_cons (qg_name (i := 2) nd) qg_nil)))) (qx_cal C_parts hr (by rfl) (qa_cons (qx_var 0) (qa_cons (qx_var 1) qa_nil))))
  (qs_cons (qs_set (i := 4) nd (qo_add (qx_cal C_least_power hr (by rfl) (qa_cons (qx_var 0) qa_nil)) (qx_callB (cb_max rfl) (by rfl) Z.z_max (by decide +kernel) (qa_cons (qo_sub (qx_var 3) qx_int) (qa_cons qx_int qa_nil)))))
  (qs_one (qs_ret (qx_if (qt_cmp qc_ge (qx_var 4) qx_int (nomark _)) (qx_tup (qa_cons (qx_cal C_power_of hr (by rfl) (qa_cons (qx_var 4) qa_nil)) (qa_cons qx_int qa_nil))) (qx_tup (qa_cons qx_int (qa_cons (qx_cal C_power_of hr (by rfl) (qa_cons (qo_sub qx_int (qx_var 4)) qa_nil)) qa_nil))))))))) (fun _ _ _ _ _ _ us hl => match us, hl with | [_, _], _ => rfl)
abbrev s_is_nearer_above : Stmt := top 19
theorem sc_is_nearer_above : FnScope ["form", "low", "top", "bottom", "below", "step", "double", "whole"] ["form", "low", "top", "bottom"] (defScope s_is_nearer_above) := ⟨rfl, rfl, rfl, by decide +kernel, rfl, by decide +kernel, by decide +kernel⟩
theorem ok_is_nearer_above (Z : Bl K mg) (d : Df K mg "is_nearer_above" s_is_nearer_above) (C_value : Cal P w K mg base "value" 6 2 fn_value) (C_below_step : Cal P w K mg base "below_step" 6 2 fn_below_step) : Cal P w K mg base "is_nearer_above" 7 4 fn_is_nearer_above :=
  cal_ok (A := A_is_nearer_above) (body := b_is_nearer_above) d sc_is_nearer_above (fun f cdv Ar outer s H E hr => have nd := sc_is_nearer_above.nd;
  (qs_cons (qs_set (i := 4) nd (qx_cal C_value hr (by rfl) (qa_cons (qx_var 0) (qa_cons (qx_var 1) qa_nil))))
  (qs_cons (qs_set (i := 5) nd (qx_cal C_below_step hr (by rfl) (qa_cons (qx_var 0) (qa_cons (qx_var 1) qa_nil))))
  (qs_cons (qs_set (i := 6) nd (qo_mul (qo_mul qx_int (qo_sub (qo_mul (qx_var 2) (qx_ix (qx_var 4) qx_int)) (qo_mul (qx_ix (qx_var 4) qx_int) (qx_var 3)))) (qx_ix (qx_var 5) qx_int)))
  (qs_cons (qs_set (i := 7) nd (qo_mul (qo_mul (qx_ix (qx_var 5) qx_int) (qx_var 3)) (qx_ix (qx_var 4) qx_int)))
  (qs_one (qs_ret (qx_or (qo_cmp qc_gt (qx_var 6) (qx_var 7) (nomark _)) (qx_one (qx_and (qo_cmp (qc_eq hr.units) (qx_var 6) (qx_var 7) (nomark _)) (qx_one (qo_cmp (qc_eq hr.units) (qo_mod (qx_var 1) qx_int) qx_int (nomark _))))))))))))) (fun _ _ _ _ _ _ us hl => match us, hl with | [_, _, _, _], _ => rfl)
abbrev s_rounded : Stmt := top 18
theorem sc_rounded : FnScope ["form", "fraction", "way", "top", "bottom", "sign", "low", "is_just", "head", "goes_up"] ["form", "fraction", "way"] (defScope s_rounded) := ⟨rfl, rfl, rfl, by decide +kernel, rfl, by decide +kernel, by decide +kernel⟩
theorem ok_rounded (Z : Bl K mg) (d : Df K mg "rounded" s_rounded) (C_check_form : Cal P w K mg base "check_form" 7 1 fn_check_form) (C_floor_code : Cal P w K mg base "floor_code" 7 3 fn_floor_code) (C_power_of : Cal P w K mg base "power_of" 7 1 fn_power_of) (C_is_nearer_above : Cal P w K mg base "is_nearer_above" 7 4 fn_is_nearer_above) (C_greatest : Cal P w K mg base "greatest" 7 1 fn_greatest) (C_endless : Cal P w K mg base "endless" 7 2 fn_endless) : Cal P w K mg base "rounded" 8 3 fn_rounded :=
  cal_ok (A := A_rounded) (body := b_rounded) d sc_rounded (fun f cdv Ar outer s H E hr => have nd := sc_rounded.nd;
  (qs_cons (qs_expr (qx_cal C_check_form hr (by rfl) (qa_cons (qx_var 0) qa_nil)))
  (qs_cons (qs_if (qt_cmp (qc_ninT hr) (qx_var 2) (qx_globT Z.t_WAYS (ds := ct_WAYS) (by rfl) (by rfl)) (by rfl))
  (qs_one qs_never)
  qs_nil)
  (qs_cons (qs_pat (qg_tup rfl (qg_cons (qg_name (i := 3) nd) (qg_cons (qg_name (i := 4) nd) qg_nil))) (qx_var 1))
  (qs_cons (qs_set (i := 5) nd (qx_callTy (ct_int) (by rfl) Z.z_int (by decide +kernel) (qa_cons (qo_cmp qc_lt (qx_var 3) qx_int (nomark _)) qa_nil)))
  (qs_cons (qs_set (i := 3) nd (qx_callB (cb_abs) (by rfl) Z.z_abs (by decide +kernel) (qa_cons (qx_var 3) qa_nil)))
  (qs_cons (qs_pat (qg_tup rfl (qg_cons (qg_name (i := 6) nd) (qg_cons (qg_name (i := 7) nd) qg_nil))) (qx_cal C_floor_code hr (by rfl) (qa_cons (qx_var 0) (qa_cons (qx_var 3) (qa_cons (qx_var 4) qa_nil)))))
  (qs_cons (qs_set (i := 8) nd (qo_mul (qx_var 5) (qx_cal C_power_of hr (by rfl) (qa_cons (qo_add (qx_ix (qx_var 0) qx_int) (qx_ix (qx_var 0) qx_int)) qa_nil))))
  (qs_cons (qs_if (qt_tru (qx_var 7))
  (qs_one (qs_ret (qo_add (qx_var 8) (qx_var 6))))
  qs_nil)
  (qs_cons (qs_set (i := 9) nd (qx_or (qx_and (qo_cmp (qc_eq hr.units) (qx_var 2) qx_str (nomark _)) (qx_one (qo_cmp (qc_eq hr.units) (qx_var 5) qx_int (nomark _)))) (qx_one (qx_and (qo_cmp (qc_eq hr.units) (qx_var 2) qx_str (nomark _)) (qx_one (qo_cmp (qc_eq hr.units) (qx_var 5) qx_int (nomark _)))))))
  (qs_cons (qs_if (qt_cmp (qc_eq hr.units) (qx_var 2) qx_str (nomark _))
  (qs_one (qs_set (i := 9) nd (qx_cal C_is_nearer_above hr (by rfl) (qa_cons (qx_var 0) (qa_cons (qx_var 6) (qa_cons (qx_var 3) (qa_cons (qx_var 4) qa_nil)))))))
  qs_nil)
  (qs_cons (qs_if (qt_not (qt_tru (qx_var 9)))
  (qs_one (qs_ret (qo_add (qx_var 8) (qx_var 6))))
  qs_nil)
  (qs_one (qs_ret (qx_if (qt_cmp (qc_eq hr.units) (qx_var 6) (qx_cal C_greatest hr (by rfl) (qa_cons (qx_var 0) qa_nil)) (nomark _)) (qx_cal C_endless hr (by rfl) (qa_cons (qx_var 0) (qa_cons (qx_var 5) qa_nil))) (qo_add (qo_add (qx_var 8) (qx_var 6)) qx_int)))))))))))))))) (fun _ _ _ _ _ _ us hl => match us, hl with | [_, _, _], _ => rfl)
abbrev s_signed_nought : Stmt := top 21
theorem sc_signed_nought : FnScope ["form", "sign"] ["form", "sign"] (defScope s_signed_nought) := ⟨rfl, rfl, rfl, by decide +kernel, rfl, by decide +kernel, by decide +kernel⟩
theorem ok_signed_nought (Z : Bl K mg) (d : Df K mg "signed_nought" s_signed_nought) (C_power_of : Cal P w K mg base "power_of" 1 1 fn_power_of) : Cal P w K mg base "signed_nought" 2 2 fn_signed_nought :=
  cal_ok (A := A_signed_nought) (body := b_signed_nought) d sc_signed_nought (fun f cdv Ar outer s H E hr => have nd := sc_signed_nought.nd;
  (qs_one (qs_ret (qo_mul (qx_var 1) (qx_cal C_power_of hr (by rfl) (qa_cons (qo_add (qx_ix (qx_var 0) qx_int) (qx_ix (qx_var 0) qx_int)) qa_nil)))))) (fun _ _ _ _ _ _ us hl => match us, hl with | [_, _], _ => rfl)
abbrev s_add : Stmt := top 22
theorem sc_add : FnScope ["form", "one", "other", "way", "left", "right", "top", "signs", "sign"] ["form", "one", "other", "way"] (defScope s_add) := ⟨rfl, rfl, rfl, by decide +kernel, rfl, by decide +kernel, by decide +kernel⟩
theorem ok_add (Z : Bl K mg) (d : Df K mg "add" s_add) (C_check_code : Cal P w K mg base "check_code" 8 2 fn_check_code) (C_kind : Cal P w K mg base "kind" 8 2 fn_kind) (C_nothing : Cal P w K mg base "nothing" 8 1 fn_nothing) (C_value : Cal P w K mg base "value" 8 2 fn_value) (C_parts : Cal P w K mg base "parts" 8 2 fn_parts) (C_signed_nought : Cal P w K mg base "signed_nought" 8 2 fn_signed_nought) (C_rounded : Cal P w K mg base "rounded" 8 3 fn_rounded) (C_reduced : Cal P w K mg base "reduced" 8 2 fn_reduced) : Cal P w K mg base "add" 9 4 fn_add :=
  cal_ok (A := A_add) (body := b_add) d sc_add (fun f cdv Ar outer s H E hr => have nd := sc_add.nd;
  (qs_cons (qs_expr (qx_cal C_check_code hr (by rfl) (qa_cons (qx_var 0) (qa_cons (qx_var 1) qa_nil))))
  (qs_cons (qs_expr (qx_cal C_check_code hr (by rfl) (qa_cons (qx_var 0) (qa_cons (qx_var 2) qa_nil))))
  (qs_cons (qs_if (qt_cmp (qc_ninT hr) (qx_var 3) (qx_globT Z.t_WAYS (ds := ct_WAYS) (by rfl) (by rfl)) (by rfl))
  (qs_one qs_never)
  qs_nil)
  (qs_cons (qs_if (qt_cmp (qc_inT hr) qx_str (qx_tup (qa_cons (qx_cal C_kind hr (by rfl) (qa_cons (qx_var 0) (qa_cons (qx_var 1) qa_nil))) (qa_cons (qx_cal C_kind hr (by rfl) (qa_cons (qx_var 0) (qa_cons (qx_var 2) qa_nil))) qa_nil))) (by rfl))
  (qs_one (qs_ret (qx_cal C_nothing hr (by rfl) (qa_cons (qx_var 0) qa_nil))))
  qs_nil)
  (qs_cons (qs_if (qt_bool (qw_or (qt_cmp (qc_eq hr.units) (qx_cal C_kind hr (by rfl) (qa_cons (qx_var 0) (qa_cons (qx_var 1) qa_nil))) qx_str (nomark _)) (qw_or1 (qt_cmp (qc_eq hr.units) (qx_cal C_kind hr (by rfl) (qa_cons (qx_var 0) (qa_cons (qx_var 2) qa_nil))) qx_str (nomark _)))))
  (qs_cons (qs_if (qt_bool (qw_and (qt_cmp (qc_eq hr.units) (qx_cal C_kind hr (by rfl) (qa_cons (qx_var 0) (qa_cons (qx_var 1) qa_nil))) (qx_cal C_kind hr (by rfl) (qa_cons (qx_var 0) (qa_cons (qx_var 2) qa_nil))) (nomark _)) (qw_and1 (qt_cmp (qc_ne hr.units) (qx_var 1) (qx_var 2) (nomark _)))))
  (qs_one (qs_ret (qx_cal C_nothing hr (by rfl) (qa_cons (qx_var 0) qa_nil))))
  qs_nil)
  (qs_one (qs_ret (qx_if (qt_cmp (qc_eq hr.units) (qx_cal C_kind hr (by rfl) (qa_cons (qx_var 0) (qa_cons (qx_var 1) qa_nil))) qx_str (nomark _)) (qx_var 1) (qx_var 2)))))
  qs_nil)
  (qs_cons (qs_par (i := 4) (j := 5) rfl nd (qa_cons (qx_cal C_value hr (by rfl) (qa_cons (qx_var 0) (qa_cons (qx_var 1) qa_nil))) (qa_cons (qx_cal C_value hr (by rfl) (qa_cons (qx_var 0) (qa_cons (qx_var 2) qa_nil))) qa_nil)))
  (qs_cons (qs_set (i := 6) nd (qo_add (qo_mul (qx_ix (qx_var 4) qx_int) (qx_ix (qx_var 5) qx_int)) (qo_mul (qx_ix (qx_var 5) qx_int) (qx_ix (qx_var 4) qx_int))))
  (qs_cons (qs_if (qt_cmp (qc_eq hr.units) (qx_var 6) qx_int (nomark _))
  (qs_cons (qs_set (i := 7) nd (qx_tup (qa_cons (qx_ix (qx_cal C_parts hr (by rfl) (qa_cons (qx_var 0) (qa_cons (qx_var 1) qa_nil))) qx_int) (qa_cons (qx_ix (qx_cal C_parts hr (by rfl) (qa_cons (qx_var 0) (qa_cons (qx_var 2) qa_nil))) qx_int) qa_nil))))
  (qs_cons (qs_set (i := 8) nd (qx_if (qt_cmp (qc_eq hr.units) (qx_ix (qx_var 7) qx_int) (qx_ix (qx_var 7) qx_int) (nomark _)) (qx_ix (qx_var 7) qx_int) (qx_callTy (ct_int) (by rfl) Z.z_int (by decide +kernel) (qa_cons (qo_cmp (qc_eq hr.units) (qx_var 3) qx_str (nomark _)) qa_nil))))
  (qs_one (qs_ret (qx_cal C_signed_nought hr (by rfl) (qa_cons (qx_var 0) (qa_cons (qx_var 8) qa_nil)))))))
  qs_nil)
  (qs_one (qs_ret (qx_cal C_rounded hr (by rfl) (qa_cons (qx_var 0) (qa_cons (qx_cal C_reduced hr (by rfl) (qa_cons (qx_var 6) (qa_cons (qo_mul (qx_ix (qx_var 4) qx_int) (qx_ix (qx_var 5) qx_int)) qa_nil))) (qa_cons (qx_var 3) qa_nil))))))))))))))) (fun _ _ _ _ _ _ us hl => match us, hl with | [_, _, _, _], _ => rfl)
abbrev s_turned : Stmt := top 23
theorem sc_turned : FnScope ["form", "one", "half"] ["form", "one"] (defScope s_turned) := ⟨rfl, rfl, rfl, by decide +kernel, rfl, by decide +kernel, by decide +kernel⟩
theorem ok_turned (Z : Bl K mg) (d : Df K mg "turned" s_turned) (C_check_code : Cal P w K mg base "check_code" 3 2 fn_check_code) (C_power_of : Cal P w K mg base "power_of" 3 1 fn_power_of) : Cal P w K mg base "turned" 4 2 fn_turned :=
  cal_ok (A := A_turned) (body := b_turned) d sc_turned (fun f cdv Ar outer s H E hr => have nd := sc_turned.nd;
  (qs_cons (qs_expr (qx_cal C_check_code hr (by rfl) (qa_cons (qx_var 0) (qa_cons (qx_var 1) qa_nil))))
  (qs_cons (qs_set (i := 2) nd (qx_cal C_power_of hr (by rfl) (qa_cons (qo_add (qx_ix (qx_var 0) qx_int) (qx_ix (qx_var 0) qx_int)) qa_nil)))
  (qs_one (qs_ret (qx_if (qt_cmp qc_ge (qx_var 1) (qx_var 2) (nomark _)) (qo_sub (qx_var 1) (qx_var 2)) (qo_add (qx_var 1) (qx_var 2)))))))) (fun _ _ _ _ _ _ us hl => match us, hl with | [_, _], _ => rfl)
abbrev s_multiply : Stmt := top 24
theorem sc_multiply : FnScope ["form", "one", "other", "way", "kinds", "sign", "left", "right"] ["form", "one", "other", "way"] (defScope s_multiply) := ⟨rfl, rfl, rfl, by decide +kernel, rfl, by decide +kernel, by decide +kernel⟩
theorem ok_multiply (Z : Bl K mg) (d : Df K mg "multiply" s_multiply) (C_check_code : Cal P w K mg base "check_code" 8 2 fn_check_code) (C_kind : Cal P w K mg base "kind" 8 2 fn_kind) (C_parts : Cal P w K mg base "parts" 8 2 fn_parts) (C_nothing : Cal P w K mg base "nothing" 8 1 fn_nothing) (C_endless : Cal P w K mg base "endless" 8 2 fn_endless) (C_signed_nought : Cal P w K mg base "signed_nought" 8 2 fn_signed_nought) (C_value : Cal P w K mg base "value" 8 2 fn_value) (C_rounded : Cal P w K mg base "rounded" 8 3 fn_rounded) (C_reduced : Cal P w K mg base "reduced" 8 2 fn_reduced) : Cal P w K mg base "multiply" 9 4 fn_multiply :=
  cal_ok (A := A_multiply) (body := b_multiply) d sc_multiply (fun f cdv Ar outer s H E hr => have nd := sc_multiply.nd;
  (qs_cons (qs_expr (qx_cal C_check_code hr (by rfl) (qa_cons (qx_var 0) (qa_cons (qx_var 1) qa_nil))))
  (qs_cons (qs_expr (qx_cal C_check_code hr (by rfl) (qa_cons (qx_var 0) (qa_cons (qx_var 2) qa_nil))))
  (qs_cons (qs_if (qt_cmp (qc_ninT hr) (qx_var 3) (qx_globT Z.t_WAYS (ds := ct_WAYS) (by rfl) (by rfl)) (by rfl))
  (qs_one qs_never)
  qs_nil)
  (qs_cons (qs_set (i := 4) nd (qx_tup (qa_cons (qx_cal C_kind hr (by rfl) (qa_cons (qx_var 0) (qa_cons (qx_var 1) qa_nil))) (qa_cons (qx_cal C_kind hr (by rfl) (qa_cons (qx_var 0) (qa_cons (qx_var 2) qa_nil))) qa_nil))))
  (qs_cons (qs_set (i := 5) nd (qo_xor (qx_ix (qx_cal C_parts hr (by rfl) (qa_cons (qx_var 0) (qa_cons (qx_var 1) qa_nil))) qx_int) (qx_ix (qx_cal C_parts hr (by rfl) (qa_cons (qx_var 0) (qa_cons (qx_var 2) qa_nil))) qx_int)))
  (qs_cons (qs_if (qt_bool (qw_or (qt_cmp (qc_inT hr) qx_str (qx_var 4) (by rfl)) (qw_or1 (qt_bool (qw_and (qt_cmp (qc_inT hr) qx_str (qx_var 4) (by rfl)) (qw_and1 (qt_cmp (qc_inT hr) qx_str (qx_var 4) (by rfl))))))))
  (qs_one (qs_ret (qx_cal C_nothing hr (by rfl) (qa_cons (qx_var 0) qa_nil))))
  qs_nil)
  (qs_cons (qs_if (qt_cmp (qc_inT hr) qx_str (qx_var 4) (by rfl))
  (qs_one (qs_ret (qx_cal C_endless hr (by rfl) (qa_cons (qx_var 0) (qa_cons (qx_var 5) qa_nil)))))
  qs_nil)
  (qs_cons (qs_if (qt_cmp (qc_inT hr) qx_str (qx_var 4) (by rfl))
  (qs_one (qs_ret (qx_cal C_signed_nought hr (by rfl) (qa_cons (qx_var 0) (qa_cons (qx_var 5) qa_nil)))))
  qs_nil)
  (qs_cons (qs_par (i := 6) (j := 7) rfl nd (qa_cons (qx_cal C_value hr (by rfl) (qa_cons (qx_var 0) (qa_cons (qx_var 1) qa_nil))) (qa_cons (qx_cal C_value hr (by rfl) (qa_cons (qx_var 0) (qa_cons (qx_var 2) qa_nil))) qa_nil)))
  (qs_one (qs_ret (qx_cal C_rounded hr (by rfl) (qa_cons (qx_var 0) (qa_cons (qx_cal C_reduced hr (by rfl) (qa_cons (qo_mul (qx_ix (qx_var 6) qx_int) (qx_ix (qx_var 7) qx_int)) (qa_cons (qo_mul (qx_ix (qx_var 6) qx_int) (qx_ix (qx_var 7) qx_int)) qa_nil))) (qa_cons (qx_var 3) qa_nil)))))))))))))))) (fun _ _ _ _ _ _ us hl => match us, hl with | [_, _, _, _], _ => rfl)
abbrev s_divide : Stmt := top 25
theorem sc_divide : FnScope ["form", "one", "other", "way", "kinds", "sign", "left", "right", "top", "bottom"] ["form", "one", "other", "way"] (defScope s_divide) := ⟨rfl, rfl, rfl, by decide +kernel, rfl, by decide +kernel, by decide +kernel⟩
theorem ok_divide (Z : Bl K mg) (d : Df K mg "divide" s_divide) (C_check_code : Cal P w K mg base "check_code" 8 2 fn_check_code) (C_kind : Cal P w K mg base "kind" 8 2 fn_kind) (C_parts : Cal P w K mg base "parts" 8 2 fn_parts) (C_nothing : Cal P w K mg base "nothing" 8 1 fn_nothing) (C_endless : Cal P w K mg base "endless" 8 2 fn_endless) (C_signed_nought : Cal P w K mg base "signed_nought" 8 2 fn_signed_nought) (C_value : Cal P w K mg base "value" 8 2 fn_value) (C_rounded : Cal P w K mg base "rounded" 8 3 fn_rounded) (C_reduced : Cal P w K mg base "reduced" 8 2 fn_reduced) : Cal P w K mg base "divide" 9 4 fn_divide :=
  cal_ok (A := A_divide) (body := b_divide) d sc_divide (fun f cdv Ar outer s H E hr => have nd := sc_divide.nd;
  (qs_cons (qs_expr (qx_cal C_check_code hr (by rfl) (qa_cons (qx_var 0) (qa_cons (qx_var 1) qa_nil))))
  (qs_cons (qs_expr (qx_cal C_check_code hr (by rfl) (qa_cons (qx_var 0) (qa_cons (qx_var 2) qa_nil))))
  (qs_cons (qs_if (qt_cmp (qc_ninT hr) (qx_var 3) (qx_globT Z.t_WAYS (ds := ct_WAYS) (by rfl) (by rfl)) (by rfl))
  (qs_one qs_never)
  qs_nil)
  (qs_cons (qs_set (i := 4) nd (qx_tup (qa_cons (qx_cal C_kind hr (by rfl) (qa_cons (qx_var 0) (qa_cons (qx_var 1) qa_nil))) (qa_cons (qx_cal C_kind hr (by rfl) (qa_cons (qx_var 0) (qa_cons (qx_var 2) qa_nil))) qa_nil))))
  (qs_cons (qs_set (i := 5) nd (qo_xor (qx_ix (qx_cal C_parts hr (by rfl) (qa_cons (qx_var 0) (qa_cons (qx_var 1) qa_nil))) qx_int) (qx_ix (qx_cal C_parts hr (by rfl) (qa_cons (qx_var 0) (qa_cons (qx_var 2) qa_nil))) qx_int)))
  (qs_cons (qs_if (qt_bool (qw_or (qt_cmp (qc_inT hr) qx_str (qx_var 4) (by rfl)) (qw_or1 (qt_cmp (qc_inT hr) (qx_var 4) (qx_tup (qa_cons (qx_tup (qa_cons qx_str (qa_cons qx_str qa_nil))) (qa_cons (qx_tup (qa_cons qx_str (qa_cons qx_str qa_nil))) qa_nil))) (by rfl)))))
  (qs_one (qs_ret (qx_cal C_nothing hr (by rfl) (qa_cons (qx_var 0) qa_nil))))
  qs_nil)
  (qs_cons (qs_if (qt_bool (qw_or (qt_cmp (qc_eq hr.units) (qx_ix (qx_var 4) qx_int) qx_str (nomark _)) (qw_or1 (qt_cmp (qc_eq hr.units) (qx_ix (qx_var 4) qx_int) qx_str (nomark _)))))
  (qs_one (qs_ret (qx_cal C_endless hr (by rfl) (qa_cons (qx_var 0) (qa_cons (qx_var 5) qa_nil)))))
  qs_nil)
  (qs_cons (qs_if (qt_bool (qw_or (qt_cmp (qc_eq hr.units) (qx_ix (qx_var 4) qx_int) qx_str (nomark _)) (qw_or1 (qt_cmp (qc_eq hr.units) (qx_ix (qx_var 4) qx_int) qx_str (nomark _)))))
  (qs_one (qs_ret (qx_cal C_signed_nought hr (by rfl) (qa_cons (qx_var 0) (qa_cons (qx_var 5) qa_nil)))))
  qs_nil)
  (qs_cons (qs_par (i := 6) (j := 7) rfl nd (qa_cons (qx_cal C_value hr (by rfl) (qa_cons (qx_var 0) (qa_cons (qx_var 1) qa_nil))) (qa_cons (qx_cal C_value hr (by rfl) (qa_cons (qx_var 0) (qa_cons (qx_var 2) qa_nil))) qa_nil)))
  (qs_cons (qs_par (i := 8) (j := 9) rfl nd (qa_cons (qo_mul (qx_ix (qx_var 6) qx_int) (qx_ix (qx_var 7) qx_int)) (qa_cons (qo_mul (qx_ix (qx_var 6) qx_int) (qx_ix (qx_var 7) qx_int)) qa_nil)))
  (qs_one (qs_ret (qx_cal C_rounded hr (by rfl) (qa_cons (qx_var 0) (qa_cons (qx_if (qt_cmp qc_lt (qx_var 9) qx_int (nomark _)) (qx_cal C_reduced hr (by rfl) (qa_cons (qo_sub qx_int (qx_var 8)) (qa_cons (qo_sub qx_int (qx_var 9)) qa_nil))) (qx_cal C_reduced hr (by rfl) (qa_cons (qx_var 8) (qa_cons (qx_var 9) qa_nil)))) (qa_cons (qx_var 3) qa_nil))))))))))))))))) (fun _ _ _ _ _ _ us hl => match us, hl with | [_, _, _, _], _ => rfl)
abbrev s_place_of : Stmt := top 27
theorem sc_place_of : FnScope ["form", "code", "half"] ["form", "code"] (defScope s_place_of) := ⟨rfl, rfl, rfl, by decide +kernel, rfl, by decide +kernel, by decide +kernel⟩
theorem ok_place_of (Z : Bl K mg) (d : Df K mg "place_of" s_place_of) (C_power_of : Cal P w K mg base "power_of" 1 1 fn_power_of) : Cal P w K mg base "place_of" 2 2 fn_place_of :=
  cal_ok (A := A_place_of) (body := b_place_of) d sc_place_of (fun f cdv Ar outer s H E hr => have nd := sc_place_of.nd;
  (qs_cons (qs_set (i := 2) nd (qx_cal C_power_of hr (by rfl) (qa_cons (qo_add (qx_ix (qx_var 0) qx_int) (qx_ix (qx_var 0) qx_int)) qa_nil)))
  (qs_one (qs_ret (qx_if (qt_cmp qc_ge (qx_var 1) (qx_var 2) (nomark _)) (qo_sub (qx_var 2) (qx_var 1)) (qx_var 1)))))) (fun _ _ _ _ _ _ us hl => match us, hl with | [_, _], _ => rfl)
abbrev s_less : Stmt := top 26
theorem sc_less : FnScope ["form", "one", "other"] ["form", "one", "other"] (defScope s_less) := ⟨rfl, rfl, rfl, by decide +kernel, rfl, by decide +kernel, by decide +kernel⟩
theorem ok_less (Z : Bl K mg) (d : Df K mg "less" s_less) (C_check_code : Cal P w K mg base "check_code" 5 2 fn_check_code) (C_kind : Cal P w K mg base "kind" 5 2 fn_kind) (C_place_of : Cal P w K mg base "place_of" 5 2 fn_place_of) : Cal P w K mg base "less" 6 3 fn_less :=
  cal_ok (A := A_less) (body := b_less) d sc_less (fun f cdv Ar outer s H E hr => have nd := sc_less.nd;
  (qs_cons (qs_expr (qx_cal C_check_code hr (by rfl) (qa_cons (qx_var 0) (qa_cons (qx_var 1) qa_nil))))
  (qs_cons (qs_expr (qx_cal C_check_code hr (by rfl) (qa_cons (qx_var 0) (qa_cons (qx_var 2) qa_nil))))
  (qs_cons (qs_if (qt_cmp (qc_inT hr) qx_str (qx_tup (qa_cons (qx_cal C_kind hr (by rfl) (qa_cons (qx_var 0) (qa_cons (qx_var 1) qa_nil))) (qa_cons (qx_cal C_kind hr (by rfl) (qa_cons (qx_var 0) (qa_cons (qx_var 2) qa_nil))) qa_nil))) (by rfl))
  (qs_one (qs_ret qx_bl))
  qs_nil)
  (qs_one (qs_ret (qo_cmp qc_lt (qx_cal C_place_of hr (by rfl) (qa_cons (qx_var 0) (qa_cons (qx_var 1) qa_nil))) (qx_cal C_place_of hr (by rfl) (qa_cons (qx_var 0) (qa_cons (qx_var 2) qa_nil))) (nomark _)))))))) (fun _ _ _ _ _ _ us hl => match us, hl with | [_, _, _], _ => rfl)
abbrev s_next_up : Stmt := top 28
theorem sc_next_up : FnScope ["form", "code", "half"] ["form", "code"] (defScope s_next_up) := ⟨rfl, rfl, rfl, by decide +kernel, rfl, by decide +kernel, by decide +kernel⟩
theorem ok_next_up (Z : Bl K mg) (d : Df K mg "next_up" s_next_up) (C_kind : Cal P w K mg base "kind" 5 2 fn_kind) (C_endless : Cal P w K mg base "endless" 5 2 fn_endless) (C_power_of : Cal P w K mg base "power_of" 5 1 fn_power_of) : Cal P w K mg base "next_up" 6 2 fn_next_up :=
  cal_ok (A := A_next_up) (body := b_next_up) d sc_next_up (fun f cdv Ar outer s H E hr => have nd := sc_next_up.nd;
  (qs_cons (qs_if (qt_bool (qw_or (qt_cmp (qc_eq hr.units) (qx_cal C_kind hr (by rfl) (qa_cons (qx_var 0) (qa_cons (qx_var 1) qa_nil))) qx_str (nomark _)) (qw_or1 (qt_cmp (qc_eq hr.units) (qx_var 1) (qx_cal C_endless hr (by rfl) (qa_cons (qx_var 0) (qa_cons qx_int qa_nil))) (nomark _)))))
  (qs_one (qs_ret qx_non))
  qs_nil)
  (qs_cons (qs_set (i := 2) nd (qx_cal C_power_of hr (by rfl) (qa_cons (qo_add (qx_ix (qx_var 0) qx_int) (qx_ix (qx_var 0) qx_int)) qa_nil)))
  (qs_cons (qs_if (qt_cmp (qc_inT hr) (qx_var 1) (qx_tup (qa_cons qx_int (qa_cons (qx_var 2) qa_nil))) (by rfl))
  (qs_one (qs_ret qx_int))
  qs_nil)
  (qs_one (qs_ret (qx_if (qt_cmp qc_gt (qx_var 1) (qx_var 2) (nomark _)) (qo_sub (qx_var 1) qx_int) (qo_add (qx_var 1) qx_int)))))))) (fun _ _ _ _ _ _ us hl => match us, hl with | [_, _], _ => rfl)
abbrev s_summed : Stmt := top 29
theorem sc_summed : FnScope ["form", "codes", "way", "now", "exact", "code", "told"] ["form", "codes", "way"] (defScope s_summed) := ⟨rfl, rfl, rfl, by decide +kernel, rfl, by decide +kernel, by decide +kernel⟩
theorem ok_summed (Z : Bl K mg) (d : Df K mg "summed" s_summed) (C_add : Cal P w K mg base "add" 9 4 fn_add) (C_value : Cal P w K mg base "value" 9 2 fn_value) (C_reduced : Cal P w K mg base "reduced" 9 2 fn_reduced) : Cal P w K mg base "summed" 10 3 fn_summed :=
  cal_ok (A := A_summed) (body := b_summed) d sc_summed (fun f cdv Ar outer s H E hr => have nd := sc_summed.nd;
  (qs_cons (qs_set (i := 3) nd qx_int)
  (qs_cons (qs_set (i := 4) nd (qx_tup (qa_cons qx_int (qa_cons qx_int qa_nil))))
  (qs_cons (qs_for PassesOwn.never rfl (qi_seq (qx_var 1)) (qg_name (i := 5) nd)
  (qs_cons (qs_set (i := 3) nd (qx_cal C_add hr (by rfl) (qa_cons (qx_var 0) (qa_cons (qx_var 3) (qa_cons (qx_var 5) (qa_cons (qx_var 2) qa_nil))))))
  (qs_cons (qs_set (i := 6) nd (qx_cal C_value hr (by rfl) (qa_cons (qx_var 0) (qa_cons (qx_var 5) qa_nil))))
  (qs_one (qs_if (qt_bool (qw_or (qt_cmp qc_isN (qx_var 6) qx_non (nomark _)) (qw_or1 (qt_cmp qc_isN (qx_var 4) qx_non (nomark _)))))
  (qs_one (qs_set (i := 4) nd qx_non))
  (qs_one (qs_set (i := 4) nd (qx_cal C_reduced hr (by rfl) (qa_cons (qo_add (qo_mul (qx_ix (qx_var 4) qx_int) (qx_ix (qx_var 6) qx_int)) (qo_mul (qx_ix (qx_var 6) qx_int) (qx_ix (qx_var 4) qx_int))) (qa_cons (qo_mul (qx_ix (qx_var 4) qx_int) (qx_ix (qx_var 6) qx_int)) qa_nil))))))))))
  (qs_one (qs_ret (qx_tup (qa_cons (qx_var 3) (qa_cons (qx_var 4) qa_nil))))))))) (fun _ _ _ _ _ _ us hl => match us, hl with | [_, _, _], _ => rfl)
abbrev s__law_begin : Stmt := top 31
theorem sc__law_begin : FnScope ["script", "seed", "cell"] ["script"] (defScope s__law_begin) := ⟨rfl, rfl, rfl, by decide +kernel, rfl, by decide +kernel, by decide +kernel⟩
theorem ok__law_begin (Z : Bl K mg) (d : Df K mg "_law_begin" s__law_begin)  : Cal P w K mg base "_law_begin" 1 1 fn__law_begin :=
  cal_ok (A := A__law_begin) (body := b__law_begin) d sc__law_begin (fun f cdv Ar outer s H E hr => have nd := sc__law_begin.nd;
  (qs_cons (qs_set (i := 1) nd qx_int)
  (qs_cons (qs_for PassesOwn.never rfl (qi_seq (qx_var 0)) (qg_name (i := 2) nd)
  (qs_one (qs_set (i := 1) nd (qo_mod (qo_add (qo_add (qo_mul (qx_var 1) qx_int) (qo_mod (qx_callTy (ct_int) (by rfl) Z.z_int (by decide +kernel) (qa_cons (qx_var 2) qa_nil)) qx_int)) qx_int) qx_int))))
  (qs_one (qs_ret (qx_mkst (qa_cons (qx_callTy (ct_list) (by rfl) Z.z_list (by decide +kernel) (qa_cons (qx_var 0) qa_nil)) (qa_cons qx_int (qa_cons qx_int (qa_cons (qx_var 1) qa_nil)))))))))) (fun _ _ _ _ _ _ us hl => match us, hl with | [_], _ => rfl)
abbrev s__law_take : Stmt := top 32
theorem sc__law_take : FnScope ["d", "many", "digit", "small"] ["d", "many"] (defScope s__law_take) := ⟨rfl, rfl, rfl, by decide +kernel, rfl, by decide +kernel, by decide +kernel⟩
theorem ok__law_take (Z : Bl K mg) (d : Df K mg "_law_take" s__law_take)  : Cal P w K mg base "_law_take" 1 2 fn__law_take :=
  cal_ok (A := A__law_take) (body := b__law_take) d sc__law_take (fun f cdv Ar outer s H E hr => have nd := sc__law_take.nd;
  (qs_cons (qs_if (qt_bool (qw_and (qt_cmp (qc_eq hr.units) (qx_stget 2) qx_int (nomark _)) (qw_and1 (qt_cmp qc_lt (qx_stget 1) (qx_stlen (by rfl) Z.z_len) (nomark _)))))
  (qs_cons (qs_stset 2 (qx_callB (cb_abs) (by rfl) Z.z_abs (by decide +kernel) (qa_cons (qx_callTy (ct_int) (by rfl) Z.z_int (by decide +kernel) (qa_cons qx_stix qa_nil)) qa_nil)))
  (qs_cons (qs_stset 1 (qo_add (qx_stget 1) qx_int))
  (qs_one (qs_if (qt_cmp qc_lt (qx_stget 2) (qo_pow qx_int qx_int) (nomark _))
  (qs_cons (qs_set (i := 3) nd (qx_callTy (ct_int) (by rfl) Z.z_int (by decide +kernel) (qa_cons (qx_stget 2) qa_nil)))
  (qs_cons (qs_stset 2 qx_int)
  (qs_one (qs_ret (qo_mod (qx_var 3) (qx_var 1))))))
  qs_nil))))
  qs_nil)
  (qs_cons (qs_if (qt_cmp qc_gt (qx_stget 2) qx_int (nomark _))
  (qs_cons (qs_set (i := 2) nd (qo_mod (qx_callTy (ct_int) (by rfl) Z.z_int (by decide +kernel) (qa_cons (qx_stget 2) qa_nil)) (qx_var 1)))
  (qs_cons (qs_stset 2 (qo_div (qx_callTy (ct_int) (by rfl) Z.z_int (by decide +kernel) (qa_cons (qx_stget 2) qa_nil)) (qx_var 1)))
  (qs_one (qs_ret (qx_var 2)))))
  qs_nil)
  (qs_cons (qs_stset 3 (qo_mod (qx_callTy (ct_int) (by rfl) Z.z_int (by decide +kernel) (qa_cons (qo_add (qo_mul (qx_stget 3) qx_int) qx_int) qa_nil)) qx_int))
  (qs_one (qs_ret (qo_mod (qx_callTy (ct_int) (by rfl) Z.z_int (by decide +kernel) (qa_cons (qo_div (qx_stget 3) qx_int) qa_nil)) (qx_var 1)))))))) (fun _ _ _ _ _ _ us hl => match us, hl with | [_, _], _ => rfl)
abbrev s__law_raise : Stmt := top 33
theorem sc__law_raise : FnScope ["times", "found", "k"] ["times"] (defScope s__law_raise) := ⟨rfl, rfl, rfl, by decide +kernel, rfl, by decide +kernel, by decide +kernel⟩
theorem ok__law_raise (Z : Bl K mg) (d : Df K mg "_law_raise" s__law_raise)  : Cal P w K mg base "_law_raise" 1 1 fn__law_raise :=
  cal_ok (A := A__law_raise) (body := b__law_raise) d sc__law_raise (fun f cdv Ar outer s H E hr => have nd := sc__law_raise.nd;
  (qs_cons (qs_set (i := 1) nd qx_int)
  (qs_cons (qs_for PassesOwn.never rfl (qi_rng1 (by rfl) Z.z_range (qa_cons (qx_var 0) qa_nil)) (qg_name (i := 2) nd)
  (qs_one (qs_set (i := 1) nd (qo_mul qx_int (qx_var 1)))))
  (qs_one (qs_ret (qx_var 1)))))) (fun _ _ _ _ _ _ us hl => match us, hl with | [_], _ => rfl)
abbrev s__law_less : Stmt := top 34
theorem sc__law_less : FnScope ["one", "other"] ["one", "other"] (defScope s__law_less) := ⟨rfl, rfl, rfl, by decide +kernel, rfl, by decide +kernel, by decide +kernel⟩
theorem ok__law_less (Z : Bl K mg) (d : Df K mg "_law_less" s__law_less)  : Cal P w K mg base "_law_less" 1 2 fn__law_less :=
  cal_ok (A := A__law_less) (body := b__law_less) d sc__law_less (fun f cdv Ar outer s H E hr => have nd := sc__law_less.nd;
  (qs_one (qs_ret (qo_cmp qc_lt (qo_mul (qx_ix (qx_var 0) qx_int) (qx_ix (qx_var 1) qx_int)) (qo_mul (qx_ix (qx_var 1) qx_int) (qx_ix (qx_var 0) qx_int)) (nomark _))))) (fun _ _ _ _ _ _ us hl => match us, hl with | [_, _], _ => rfl)
abbrev s__law_part1 : Stmt := top 35
theorem sc__law_part1 : FnScope ["d", "form", "top", "one", "other", "code", "a", "b", "most", "limit", "numbers", "room", "k", "codes", "way", "told", "power", "two", "part", "low", "high", "again", "up", "number", "back", "sign", "gap"] ["d", "form", "top", "one", "other"] (defScope s__law_part1) := ⟨rfl, rfl, rfl, by decide +kernel, rfl, by decide +kernel, by decide +kernel⟩
theorem ok__law_part1 (Z : Bl K mg) (d : Df K mg "_law_part1" s__law_part1) (C_value : Cal P w K mg base "value" 10 2 fn_value) (C_rounded : Cal P w K mg base "rounded" 10 3 fn_rounded) (C__law_take : Cal P w K mg base "_law_take" 10 2 fn__law_take) (C__law_raise : Cal P w K mg base "_law_raise" 10 1 fn__law_raise) (C_multiply : Cal P w K mg base "multiply" 10 4 fn_multiply) (C__law_less : Cal P w K mg base "_law_less" 10 2 fn__law_less) (C_divide : Cal P w K mg base "divide" 10 4 fn_divide) (C_summed : Cal P w K mg base "summed" 10 3 fn_summed) (C_kind : Cal P w K mg base "kind" 10 2 fn_kind) (C_parts : Cal P w K mg base "parts" 10 2 fn_parts) (C_turned : Cal P w K mg base "turned" 10 2 fn_turned) (C_less : Cal P w K mg base "less" 10 3 fn_less) : Cal P w K mg base "_law_part1" 11 5 fn__law_part1 :=
  cal_ok (A := A__law_part1) (body := b__law_part1) d sc__law_part1 (fun f cdv Ar outer s H E hr => have nd := sc__law_part1.nd;
  (qs_cons (qs_for PassesOwn.never rfl (qi_seq (qx_tup (qa_cons (qx_var 3) (qa_cons (qx_var 4) qa_nil)))) (qg_name (i := 5) nd)
  (qs_cons (qs_set (i := 15) nd (qx_cal C_value hr (by rfl) (qa_cons (qx_var 1) (qa_cons (qx_var 5) qa_nil))))
  (qs_cons (qs_if (qt_cmp qc_isN (qx_var 15) qx_non (nomark _))
  (qs_one qs_cont)
  qs_nil)
  (qs_cons (qs_for PassesOwn.never rfl (qi_seq (qx_tup (qa_cons qx_str (qa_cons qx_str (qa_cons qx_str (qa_cons qx_str qa_nil)))))) (qg_name (i := 14) nd)
  (qs_cons (qs_set (i := 21) nd (qx_cal C_rounded hr (by rfl) (qa_cons (qx_var 1) (qa_cons (qx_var 15) (qa_cons (qx_var 14) qa_nil)))))
  (qs_cons (qs_if (qt_bool (qw_and (qt_cmp (qc_ne hr.units) (qx_var 21) (qx_var 5) (nomark _)) (qw_and1 (qt_cmp (qc_ne hr.units) (qx_ix (qx_var 15) qx_int) qx_int (nomark _)))))
  (qs_one (qs_ret qx_bl))
  qs_nil)
  (qs_one (qs_if (qt_bool (qw_and (qt_cmp (qc_eq hr.units) (qx_ix (qx_var 15) qx_int) qx_int (nomark _)) (qw_and1 (qt_cmp (qc_ne hr.units) (qx_var 21) qx_int (nomark _)))))
  (qs_one (qs_ret qx_bl))
  qs_nil)))))
  (qs_cons (qs_set (i := 16) nd (qx_cal C__law_take hr (by rfl) (qa_cons (qx_var 0) (qa_cons (qx_ix (qx_var 1) qx_int) qa_nil))))
  (qs_cons (qs_set (i := 17) nd (qx_cal C_rounded hr (by rfl) (qa_cons (qx_var 1) (qa_cons (qx_tup (qa_cons (qx_cal C__law_raise hr (by rfl) (qa_cons (qx_var 16) qa_nil)) (qa_cons qx_int qa_nil))) (qa_cons qx_str qa_nil)))))
  (qs_one (qs_if (qt_cmp (qc_eq hr.units) (qx_cal C_value hr (by rfl) (qa_cons (qx_var 1) (qa_cons (qx_var 17) qa_nil))) (qx_tup (qa_cons (qx_cal C__law_raise hr (by rfl) (qa_cons (qx_var 16) qa_nil)) (qa_cons qx_int qa_nil))) (nomark _))
  (qs_cons (qs_set (i := 22) nd (qx_cal C_multiply hr (by rfl) (qa_cons (qx_var 1) (qa_cons (qx_var 5) (qa_cons (qx_var 17) (qa_cons qx_str qa_nil))))))
  (qs_one (qs_if (qt_bool (qw_and (qt_not (qt_tru (qx_cal C__law_less hr (by rfl) (qa_cons (qx_tup (qa_cons (qo_mul (qx_callB (cb_abs) (by rfl) Z.z_abs (by decide +kernel) (qa_cons (qx_ix (qx_var 15) qx_int) qa_nil)) (qx_cal C__law_raise hr (by rfl) (qa_cons (qx_var 16) qa_nil))) (qa_cons (qx_ix (qx_var 15) qx_int) qa_nil))) (qa_cons (qx_cal C_value hr (by rfl) (qa_cons (qx_var 1) (qa_cons (qx_var 2) qa_nil))) qa_nil))))) (qw_and1 (qt_cmp (qc_ne hr.units) (qo_mul (qo_mul (qx_callB (cb_abs) (by rfl) Z.z_abs (by decide +kernel) (qa_cons (qx_ix (qx_var 15) qx_int) qa_nil)) (qx_cal C__law_raise hr (by rfl) (qa_cons (qx_var 16) qa_nil))) (qx_ix (qx_cal C_value hr (by rfl) (qa_cons (qx_var 1) (qa_cons (qx_var 2) qa_nil))) qx_int)) (qo_mul (qx_ix (qx_cal C_value hr (by rfl) (qa_cons (qx_var 1) (qa_cons (qx_var 2) qa_nil))) qx_int) (qx_ix (qx_var 15) qx_int)) (nomark _)))))
  (qs_one (qs_if (qt_bool (qw_and (qt_cmp qc_notN (qx_cal C_value hr (by rfl) (qa_cons (qx_var 1) (qa_cons (qx_var 22) qa_nil))) qx_non (nomark _)) (qw_and1 (qt_cmp (qc_ne hr.units) (qo_mul (qx_callB (cb_abs) (by rfl) Z.z_abs (by decide +kernel) (qa_cons (qx_ix (qx_cal C_value hr (by rfl) (qa_cons (qx_var 1) (qa_cons (qx_var 22) qa_nil))) qx_int) qa_nil)) (qx_ix (qx_cal C_value hr (by rfl) (qa_cons (qx_var 1) (qa_cons (qx_var 2) qa_nil))) qx_int)) (qo_mul (qx_ix (qx_cal C_value hr (by rfl) (qa_cons (qx_var 1) (qa_cons (qx_var 2) qa_nil))) qx_int) (qx_ix (qx_cal C_value hr (by rfl) (qa_cons (qx_var 1) (qa_cons (qx_var 22) qa_nil))) qx_int)) (nomark _)))))
  (qs_one (qs_ret qx_bl))
  qs_nil))
  (qs_one (qs_if (qt_bool (qw_or (qt_cmp qc_isN (qx_cal C_value hr (by rfl) (qa_cons (qx_var 1) (qa_cons (qx_var 22) qa_nil))) qx_non (nomark _)) (qw_or1 (qt_cmp (qc_ne hr.units) (qo_mul (qx_ix (qx_cal C_value hr (by rfl) (qa_cons (qx_var 1) (qa_cons (qx_var 22) qa_nil))) qx_int) (qx_ix (qx_var 15) qx_int)) (qo_mul (qo_mul (qx_ix (qx_var 15) qx_int) (qx_cal C__law_raise hr (by rfl) (qa_cons (qx_var 16) qa_nil))) (qx_ix (qx_cal C_value hr (by rfl) (qa_cons (qx_var 1) (qa_cons (qx_var 22) qa_nil))) qx_int)) (nomark _)))))
  (qs_one (qs_ret qx_bl))
  (qs_one (qs_if (qt_cmp (qc_ne hr.units) (qx_cal C_divide hr (by rfl) (qa_cons (qx_var 1) (qa_cons (qx_var 22) (qa_cons (qx_var 17) (qa_cons qx_str qa_nil))))) (qx_var 5) (nomark _))
  (qs_one (qs_ret qx_bl))
  qs_nil)))))))
  qs_nil))))))))
  (qs_cons (qs_set (i := 6) nd (qx_cal C_value hr (by rfl) (qa_cons (qx_var 1) (qa_cons (qx_var 3) qa_nil))))
  (qs_cons (qs_set (i := 7) nd (qx_cal C_value hr (by rfl) (qa_cons (qx_var 1) (qa_cons (qx_var 4) qa_nil))))
  (qs_cons (qs_if (qt_bool (qw_and (qt_cmp qc_notN (qx_var 6) qx_non (nomark _)) (qw_and (qt_cmp qc_notN (qx_var 7) qx_non (nomark _)) (qw_and (qt_cmp qc_gt (qx_ix (qx_var 6) qx_int) qx_int (nomark _)) (qw_and (qt_cmp qc_gt (qx_ix (qx_var 7) qx_int) qx_int (nomark _)) (qw_and1 (qt_cmp (qc_ne hr.units) (qo_cmp qc_lt (qx_var 3) (qx_var 4) (nomark _)) (qx_cal C__law_less hr (by rfl) (qa_cons (qx_var 6) (qa_cons (qx_var 7) qa_nil))) (nomark _))))))))
  (qs_one (qs_ret qx_bl))
  qs_nil)
  (qs_cons (qs_set (i := 8) nd (qx_cal C__law_raise hr (by rfl) (qa_cons (qo_add (qx_ix (qx_var 1) qx_int) qx_int) qa_nil)))
  (qs_cons (qs_set (i := 9) nd (qx_cal C_value hr (by rfl) (qa_cons (qx_var 1) (qa_cons (qx_var 2) qa_nil))))
  (qs_cons (qs_set (i := 10) nd (qx_lst qa_nil))
  (qs_cons (qs_set (i := 11) nd (qx_callB (cb_min rfl) (by rfl) Z.z_min (by decide +kernel) (qa_cons (qx_var 8) (qa_cons (qo_div (qx_ix (qx_var 9) qx_int) (qx_ix (qx_var 9) qx_int)) qa_nil))))
  (qs_cons (qs_for PassesOwn.never rfl (qi_rng1 (by rfl) Z.z_range (qa_cons (qx_cal C__law_take hr (by rfl) (qa_cons (qx_var 0) (qa_cons qx_int qa_nil))) qa_nil)) (qg_name (i := 12) nd)
  (qs_cons (qs_set (i := 18) nd (qx_cal C__law_take hr (by rfl) (qa_cons (qx_var 0) (qa_cons (qo_add (qx_var 11) qx_int) qa_nil))))
  (qs_cons (qs_set (i := 11) nd (qo_sub (qx_var 11) (qx_var 18)))
  (qs_one (qs_expr (qx_mt (i := 10) cm_append PySem.F.plainAttrs_list PySem.F.slot_list_append PySem.F.type_list_append (qa_cons (qx_var 18) qa_nil)))))))
  (qs_cons (qs_set (i := 13) nd (qx_callTy (ct_tuple) (by rfl) Z.z_tuple (by decide +kernel) (qa_cons (qx_lock 10 (qx_lc (by decide) rfl nd (qi_seq (qx_var 10)) (blkOk_by (own := [("number", 23)]) (by rfl)) (fun _ _ _ _ _ => (qg_name (i := 23) nd)) (fun _ _ _ _ _ => qts_nil) (fun _ _ _ _ _ => (qx_cal C_rounded hr (by rfl) (qa_cons (qx_var 1) (qa_cons (qx_tup (qa_cons (qx_var 23) (qa_cons qx_int qa_nil))) (qa_cons qx_str qa_nil))))))) qa_nil)))
  (qs_cons (qs_for PassesOwn.never rfl (qi_seq (qx_tup (qa_cons qx_str (qa_cons qx_str (qa_cons qx_str (qa_cons qx_str qa_nil)))))) (qg_name (i := 14) nd)
  (qs_one (qs_if (qt_bool (qw_or (qt_cmp (qc_ne hr.units) (qx_ix (qx_cal C_summed hr (by rfl) (qa_cons (qx_var 1) (qa_cons (qx_var 13) (qa_cons (qx_var 14) qa_nil)))) qx_int) (qx_tup (qa_cons (qx_callB (cb_sum rfl) (by rfl) Z.z_sum (by decide +kernel) (qa_cons (qx_var 10) qa_nil)) (qa_cons qx_int qa_nil))) (nomark _)) (qw_or (qt_cmp (qc_ne hr.units) (qx_cal C_value hr (by rfl) (qa_cons (qx_var 1) (qa_cons (qx_ix (qx_cal C_summed hr (by rfl) (qa_cons (qx_var 1) (qa_cons (qx_var 13) (qa_cons (qx_var 14) qa_nil)))) qx_int) qa_nil))) (qx_tup (qa_cons (qx_callB (cb_sum rfl) (by rfl) Z.z_sum (by decide +kernel) (qa_cons (qx_var 10) qa_nil)) (qa_cons qx_int qa_nil))) (nomark _)) (qw_or1 (qt_cmp (qc_ne hr.units) (qx_cal C_value hr (by rfl) (qa_cons (qx_var 1) (qa_cons (qx_ix (qx_cal C_summed hr (by rfl) (qa_cons (qx_var 1) (qa_cons (qx_rev (qx_var 13)) (qa_cons (qx_var 14) qa_nil)))) qx_int) qa_nil))) (qx_tup (qa_cons (qx_callB (cb_sum rfl) (by rfl) Z.z_sum (by decide +kernel) (qa_cons (qx_var 10) qa_nil)) (qa_cons qx_int qa_nil))) (nomark _))))))
  (qs_one (qs_ret qx_bl))
  qs_nil)))
  (qs_cons (qs_if (qt_bool (qw_and (qt_cmp qc_notN (qx_var 6) qx_non (nomark _)) (qw_and (qt_cmp qc_notN (qx_var 7) qx_non (nomark _)) (qw_and1 (qt_cmp (qc_ne hr.units) (qx_ix (qx_var 7) qx_int) qx_int (nomark _))))))
  (qs_cons (qs_set (i := 19) nd (qx_cal C_divide hr (by rfl) (qa_cons (qx_var 1) (qa_cons (qx_var 3) (qa_cons (qx_var 4) (qa_cons qx_str qa_nil))))))
  (qs_cons (qs_set (i := 20) nd (qx_cal C_divide hr (by rfl) (qa_cons (qx_var 1) (qa_cons (qx_var 3) (qa_cons (qx_var 4) (qa_cons qx_str qa_nil))))))
  (qs_one (qs_for PassesOwn.never rfl (qi_seq (qx_tup (qa_cons (qx_var 19) (qa_cons (qx_var 20) qa_nil)))) (qg_name (i := 5) nd)
  (qs_cons (qs_set (i := 15) nd (qx_cal C_value hr (by rfl) (qa_cons (qx_var 1) (qa_cons (qx_var 5) qa_nil))))
  (qs_one (qs_if (qt_cmp qc_notN (qx_var 15) qx_non (nomark _))
  (qs_cons (qs_set (i := 24) nd (qx_tup (qa_cons (qo_mul (qx_ix (qx_var 15) qx_int) (qx_ix (qx_var 7) qx_int)) (qa_cons (qo_mul (qx_ix (qx_var 15) qx_int) (qx_ix (qx_var 7) qx_int)) qa_nil))))
  (qs_cons (qs_set (i := 25) nd (qx_if (qt_cmp qc_gt (qx_ix (qx_var 7) qx_int) qx_int (nomark _)) qx_int (qo_neg qx_int)))
  (qs_cons (qs_set (i := 26) nd (qo_mul (qx_var 25) (qo_sub (qo_mul (qx_ix (qx_var 24) qx_int) (qx_ix (qx_var 6) qx_int)) (qo_mul (qx_ix (qx_var 6) qx_int) (qx_ix (qx_var 24) qx_int)))))
  (qs_one (qs_if (qt_bool (qw_or (qt_bool (qw_and (qt_cmp (qc_eq hr.units) (qx_var 5) (qx_var 19) (nomark _)) (qw_and (qt_cmp (qc_ne hr.units) (qx_var 19) (qx_var 20) (nomark _)) (qw_and1 (qt_cmp qc_ge (qx_var 26) qx_int (nomark _)))))) (qw_or (qt_bool (qw_and (qt_cmp (qc_eq hr.units) (qx_var 5) (qx_var 20) (nomark _)) (qw_and (qt_cmp (qc_ne hr.units) (qx_var 19) (qx_var 20) (nomark _)) (qw_and1 (qt_cmp qc_le (qx_var 26) qx_int (nomark _)))))) (qw_or1 (qt_bool (qw_and (qt_cmp (qc_eq hr.units) (qx_var 19) (qx_var 20) (nomark _)) (qw_and1 (qt_cmp (qc_ne hr.units) (qx_var 26) qx_int (nomark _)))))))))
  (qs_one (qs_ret qx_bl))
  qs_nil)))))
  qs_nil)))))))
  qs_nil)
  (qs_cons (qs_if (qt_bool (qw_and (qt_cmp (qc_inT hr) (qx_cal C_kind hr (by rfl) (qa_cons (qx_var 1) (qa_cons (qx_var 3) qa_nil))) (qx_tup (qa_cons qx_str (qa_cons qx_str qa_nil))) (by rfl)) (qw_and1 (qt_cmp (qc_ne hr.units) (qo_cmp (qc_eq hr.units) (qx_ix (qx_cal C_parts hr (by rfl) (qa_cons (qx_var 1) (qa_cons (qx_var 3) qa_nil))) qx_int) qx_int (nomark _)) (qo_cmp (qc_eq hr.units) (qx_cal C_kind hr (by rfl) (qa_cons (qx_var 1) (qa_cons (qx_var 3) qa_nil))) qx_str (nomark _)) (nomark _)))))
  (qs_one (qs_ret qx_bl))
  qs_nil)
  (qs_one (qs_ret (qx_and (qo_cmp (qc_eq hr.units) (qx_cal C_turned hr (by rfl) (qa_cons (qx_var 1) (qa_cons (qx_cal C_turned hr (by rfl) (qa_cons (qx_var 1) (qa_cons (qx_var 3) qa_nil))) qa_nil))) (qx_var 3) (nomark _)) (qx_one (qx_not (qx_cal C_less hr (by rfl) (qa_cons (qx_var 1) (qa_cons (qx_var 3) (qa_cons (qx_var 3) qa_nil))))))))))))))))))))))) (fun _ _ _ _ _ _ us hl => match us, hl with | [_, _, _, _, _], _ => rfl)
abbrev s_law : Stmt := top 36
theorem sc_law : FnScope ["script", "d", "form", "whole", "half", "top", "one", "other", "now", "steps", "before"] ["script"] (defScope s_law) := ⟨rfl, rfl, rfl, by decide +kernel, rfl, by decide +kernel, by decide +kernel⟩
theorem ok_law (Z : Bl K mg) (d : Df K mg "law" s_law) (C__law_begin : Cal P w K mg base "_law_begin" 11 1 fn__law_begin) (C__law_take : Cal P w K mg base "_law_take" 11 2 fn__law_take) (C_size : Cal P w K mg base "size" 11 1 fn_size) (C_greatest : Cal P w K mg base "greatest" 11 1 fn_greatest) (C_value : Cal P w K mg base "value" 11 2 fn_value) (C_next_up : Cal P w K mg base "next_up" 11 2 fn_next_up) (C__law_less : Cal P w K mg base "_law_less" 11 2 fn__law_less) (C_kind : Cal P w K mg base "kind" 11 2 fn_kind) (C__law_part1 : Cal P w K mg base "_law_part1" 11 5 fn__law_part1) : Cal P w K mg base "law" 12 1 fn_law :=
  cal_ok (A := A_law) (body := b_law) d sc_law (fun f cdv Ar outer s H E hr => have nd := sc_law.nd;
  (qs_cons (qs_set (i := 1) nd (qx_cal C__law_begin hr (by rfl) (qa_cons (qx_var 0) qa_nil)))
  (qs_cons (qs_set (i := 2) nd (qx_tup (qa_cons (qo_add qx_int (qx_cal C__law_take hr (by rfl) (qa_cons (qx_var 1) (qa_cons qx_int qa_nil)))) (qa_cons (qo_add qx_int (qx_cal C__law_take hr (by rfl) (qa_cons (qx_var 1) (qa_cons qx_int qa_nil)))) qa_nil))))
  (qs_cons (qs_set (i := 3) nd (qx_cal C_size hr (by rfl) (qa_cons (qx_var 2) qa_nil)))
  (qs_cons (qs_set (i := 4) nd (qo_div (qx_var 3) qx_int))
  (qs_cons (qs_set (i := 5) nd (qx_cal C_greatest hr (by rfl) (qa_cons (qx_var 2) qa_nil)))
  (qs_cons (qs_if (qt_cmp (qc_eq hr.units) (qx_cal C__law_take hr (by rfl) (qa_cons (qx_var 1) (qa_cons qx_int qa_nil))) qx_int (nomark _))
  (qs_cons (qs_set (i := 8) nd (qo_add (qx_var 4) (qx_var 5)))
  (qs_cons (qs_set (i := 9) nd qx_int)
  (qs_cons (qs_set (i := 10) nd (qx_cal C_value hr (by rfl) (qa_cons (qx_var 2) (qa_cons (qx_var 8) qa_nil))))
  (qs_cons (qs_while fuel0 PassesOwn.never (qt_cmp (qc_ne hr.units) (qx_var 8) (qx_var 5) (nomark _))
  (qs_cons (qs_set (i := 8) nd (qx_cal C_next_up hr (by rfl) (qa_cons (qx_var 2) (qa_cons (qx_var 8) qa_nil))))
  (qs_cons (qs_set (i := 9) nd (qo_add (qx_var 9) qx_int))
  (qs_cons (qs_if (qt_not (qt_tru (qx_cal C__law_less hr (by rfl) (qa_cons (qx_var 10) (qa_cons (qx_cal C_value hr (by rfl) (qa_cons (qx_var 2) (qa_cons (qx_var 8) qa_nil))) qa_nil)))))
  (qs_one (qs_ret qx_bl))
  qs_nil)
  (qs_one (qs_set (i := 10) nd (qx_cal C_value hr (by rfl) (qa_cons (qx_var 2) (qa_cons (qx_var 8) qa_nil)))))))))
  (qs_one (qs_if (qt_bool (qw_or (qt_cmp (qc_ne hr.units) (qx_var 9) (qo_mul qx_int (qx_var 5)) (nomark _)) (qw_or (qt_cmp (qc_ne hr.units) (qx_cal C_next_up hr (by rfl) (qa_cons (qx_var 2) (qa_cons (qx_var 5) qa_nil))) (qo_add (qx_var 5) qx_int) (nomark _)) (qw_or1 (qt_cmp (qc_ne hr.units) (qx_cal C_kind hr (by rfl) (qa_cons (qx_var 2) (qa_cons (qo_add (qx_var 5) qx_int) qa_nil))) qx_str (nomark _))))))
  (qs_one (qs_ret qx_bl))
  qs_nil))))))
  qs_nil)
  (qs_cons (qs_set (i := 6) nd (qx_cal C__law_take hr (by rfl) (qa_cons (qx_var 1) (qa_cons (qx_var 3) qa_nil))))
  (qs_cons (qs_set (i := 7) nd (qx_cal C__law_take hr (by rfl) (qa_cons (qx_var 1) (qa_cons (qx_var 3) qa_nil))))
  (qs_one (qs_ret (qx_cal C__law_part1 hr (by rfl) (qa_cons (qx_var 1) (qa_cons (qx_var 2) (qa_cons (qx_var 5) (qa_cons (qx_var 6) (qa_cons (qx_var 7) qa_nil))))))))))))))))) (fun _ _ _ _ _ _ us hl => match us, hl with | [_], _ => rfl)
end
theorem law_fn {P : Program} {w : World} {K : PySem.W.Frag} {mg : Str → Option Value} {base : Heap} {f : Addr} {fd : FuncData} (Z : Bl K mg) (F : FunD K "law" "law" (defArgs s_law) (defBody s_law) (defScope s_law) [] [] f fd) (C__law_begin : Cal P w K mg base "_law_begin" 11 1 fn__law_begin) (C__law_take : Cal P w K mg base "_law_take" 11 2 fn__law_take) (C_size : Cal P w K mg base "size" 11 1 fn_size) (C_greatest : Cal P w K mg base "greatest" 11 1 fn_greatest) (C_value : Cal P w K mg base "value" 11 2 fn_value) (C_next_up : Cal P w K mg base "next_up" 11 2 fn_next_up) (C__law_less : Cal P w K mg base "_law_less" 11 2 fn__law_less) (C_kind : Cal P w K mg base "kind" 11 2 fn_kind) (C__law_part1 : Cal P w K mg base "_law_part1" 11 5 fn__law_part1) : FnOk P w K mg base CX0 12 f fd ["script"] (spF K 1 fn_law) :=
  fn_okD (A := A_law) (body := b_law) F sc_law fun cdv Ar outer s H E hr => have nd := sc_law.nd;
  (qs_cons (qs_set (i := 1) nd (qx_cal C__law_begin hr (by rfl) (qa_cons (qx_var 0) qa_nil)))
  (qs_cons (qs_set (i := 2) nd (qx_tup (qa_cons (qo_add qx_int (qx_cal C__law_take hr (by rfl) (qa_cons (qx_var 1) (qa_cons qx_int qa_nil)))) (qa_cons (qo_add qx_int (qx_cal C__law_take hr (by rfl) (qa_cons (qx_var 1) (qa_cons qx_int qa_nil)))) qa_nil))))
  (qs_cons (qs_set (i := 3) nd (qx_cal C_size hr (by rfl) (qa_cons (qx_var 2) qa_nil)))
  (qs_cons (qs_set (i := 4) nd (qo_div (qx_var 3) qx_int))
  (qs_cons (qs_set (i := 5) nd (qx_cal C_greatest hr (by rfl) (qa_cons (qx_var 2) qa_nil)))
  (qs_cons (qs_if (qt_cmp (qc_eq hr.units) (qx_cal C__law_take hr (by rfl) (qa_cons (qx_var 1) (qa_cons qx_int qa_nil))) qx_int (nomark _))
  (qs_cons (qs_set (i := 8) nd (qo_add (qx_var 4) (qx_var 5)))
  (qs_cons (qs_set (i := 9) nd qx_int)
  (qs_cons (qs_set (i := 10) nd (qx_cal C_value hr (by rfl) (qa_cons (qx_var 2) (qa_cons (qx_var 8) qa_nil))))
  (qs_cons (qs_while fuel0 PassesOwn.never (qt_cmp (qc_ne hr.units) (qx_var 8) (qx_var 5) (nomark _))
  (qs_cons (qs_set (i := 8) nd (qx_cal C_next_up hr (by rfl) (qa_cons (qx_var 2) (qa_cons (qx_var 8) qa_nil))))
  (qs_cons (qs_set (i := 9) nd (qo_add (qx_var 9) qx_int))
  (qs_cons (qs_if (qt_not (qt_tru (qx_cal C__law_less hr (by rfl) (qa_cons (qx_var 10) (qa_cons (qx_cal C_value hr (by rfl) (qa_cons (qx_var 2) (qa_cons (qx_var 8) qa_nil))) qa_nil)))))
  (qs_one (qs_ret qx_bl))
  qs_nil)
  (qs_one (qs_set (i := 10) nd (qx_cal C_value hr (by rfl) (qa_cons (qx_var 2) (qa_cons (qx_var 8) qa_nil)))))))))
  (qs_one (qs_if (qt_bool (qw_or (qt_cmp (qc_ne hr.units) (qx_var 9) (qo_mul qx_int (qx_var 5)) (nomark _)) (qw_or (qt_cmp (qc_ne hr.units) (qx_cal C_next_up hr (by rfl) (qa_cons (qx_var 2) (qa_cons (qx_var 5) qa_nil))) (qo_add (qx_var 5) qx_int) (nomark _)) (qw_or1 (qt_cmp (qc_ne hr.units) (qx_cal C_kind hr (by rfl) (qa_cons (qx_var 2) (qa_cons (qo_add (qx_var 5) qx_int) qa_nil))) qx_str (nomark _))))))
  (qs_one (qs_ret qx_bl))
  qs_nil))))))
  qs_nil)
  (qs_cons (qs_set (i := 6) nd (qx_cal C__law_take hr (by rfl) (qa_cons (qx_var 1) (qa_cons (qx_var 3) qa_nil))))
  (qs_cons (qs_set (i := 7) nd (qx_cal C__law_take hr (by rfl) (qa_cons (qx_var 1) (qa_cons (qx_var 3) qa_nil))))
  (qs_one (qs_ret (qx_cal C__law_part1 hr (by rfl) (qa_cons (qx_var 1) (qa_cons (qx_var 2) (qa_cons (qx_var 5) (qa_cons (qx_var 6) (qa_cons (qx_var 7) qa_nil))))))))))))))))
end K43
end

section
set_option Elab.async false
set_option linter.all false
set_option maxRecDepth 100000
set_option maxHeartbeats 0
namespace K43
open PySem PySem.Spec PyProof.Rows L2 QL
def dd_check_form : He.DefD := ⟨("check_form", none), "check_form", "check_form", defArgs s_check_form, defBody s_check_form, defScope s_check_form, [], []⟩
def dd_power_of : He.DefD := ⟨("power_of", none), "power_of", "power_of", defArgs s_power_of, defBody s_power_of, defScope s_power_of, [], []⟩
def dd_bias : He.DefD := ⟨("bias", none), "bias", "bias", defArgs s_bias, defBody s_bias, defScope s_bias, [], []⟩
def dd_least_power : He.DefD := ⟨("least_power", none), "least_power", "least_power", defArgs s_least_power, defBody s_least_power, defScope s_least_power, [], []⟩
def dd_size : He.DefD := ⟨("size", none), "size", "size", defArgs s_size, defBody s_size, defScope s_size, [], []⟩
def dd_check_code : He.DefD := ⟨("check_code", none), "check_code", "check_code", defArgs s_check_code, defBody s_check_code, defScope s_check_code, [], []⟩
def dd_parts : He.DefD := ⟨("parts", none), "parts", "parts", defArgs s_parts, defBody s_parts, defScope s_parts, [], []⟩
def dd_kind : He.DefD := ⟨("kind", none), "kind", "kind", defArgs s_kind, defBody s_kind, defScope s_kind, [], []⟩
def dd_reduced : He.DefD := ⟨("reduced", none), "reduced", "reduced", defArgs s_reduced, defBody s_reduced, defScope s_reduced, [], []⟩
def dd_value : He.DefD := ⟨("value", none), "value", "value", defArgs s_value, defBody s_value, defScope s_value, [], []⟩
def dd_greatest : He.DefD := ⟨("greatest", none), "greatest", "greatest", defArgs s_greatest, defBody s_greatest, defScope s_greatest, [], []⟩
def dd_endless : He.DefD := ⟨("endless", none), "endless", "endless", defArgs s_endless, defBody s_endless, defScope s_endless, [], []⟩
def dd_nothing : He.DefD := ⟨("nothing", none), "nothing", "nothing", defArgs s_nothing, defBody s_nothing, defScope s_nothing, [], []⟩
def dd_floor_code : He.DefD := ⟨("floor_code", none), "floor_code", "floor_code", defArgs s_floor_code, defBody s_floor_code, defScope s_floor_code, [], []⟩
def dd_below_step : He.DefD := ⟨("below_step", none), "below_step", "below_step", defArgs s_below_step, defBody s_below_step, defScope s_below_step, [], []⟩
def dd_is_nearer_above : He.DefD := ⟨("is_nearer_above", none), "is_nearer_above", "is_nearer_above", defArgs s_is_nearer_above, defBody s_is_nearer_above, defScope s_is_nearer_above, [], []⟩
def dd_rounded : He.DefD := ⟨("rounded", none), "rounded", "rounded", defArgs s_rounded, defBody s_rounded, defScope s_rounded, [], []⟩
def dd_signed_nought : He.DefD := ⟨("signed_nought", none), "signed_nought", "signed_nought", defArgs s_signed_nought, defBody s_signed_nought, defScope s_signed_nought, [], []⟩
def dd_add : He.DefD := ⟨("add", none), "add", "add", defArgs s_add, defBody s_add, defScope s_add, [], []⟩
def dd_turned : He.DefD := ⟨("turned", none), "turned", "turned", defArgs s_turned, defBody s_turned, defScope s_turned, [], []⟩
def dd_multiply : He.DefD := ⟨("multiply", none), "multiply", "multiply", defArgs s_multiply, defBody s_multiply, defScope s_multiply, [], []⟩
def dd_divide : He.DefD := ⟨("divide", none), "divide", "divide", defArgs s_divide, defBody s_divide, defScope s_divide, [], []⟩
def dd_place_of : He.DefD := ⟨("place_of", none), "place_of", "place_of", defArgs s_place_of, defBody s_place_of, defScope s_place_of, [], []⟩
def dd_less : He.DefD := ⟨("less", none), "less", "less", defArgs s_less, defBody s_less, defScope s_less, [], []⟩
def dd_next_up : He.DefD := ⟨("next_up", none), "next_up", "next_up", defArgs s_next_up, defBody s_next_up, defScope s_next_up, [], []⟩
def dd_summed : He.DefD := ⟨("summed", none), "summed", "summed", defArgs s_summed, defBody s_summed, defScope s_summed, [], []⟩
def dd__law_begin : He.DefD := ⟨("_law_begin", none), "_law_begin", "_law_begin", defArgs s__law_begin, defBody s__law_begin, defScope s__law_begin, [], []⟩
def dd__law_take : He.DefD := ⟨("_law_take", none), "_law_take", "_law_take", defArgs s__law_take, defBody s__law_take, defScope s__law_take, [], []⟩
def dd__law_raise : He.DefD := ⟨("_law_raise", none), "_law_raise", "_law_raise", defArgs s__law_raise, defBody s__law_raise, defScope s__law_raise, [], []⟩
def dd__law_less : He.DefD := ⟨("_law_less", none), "_law_less", "_law_less", defArgs s__law_less, defBody s__law_less, defScope s__law_less, [], []⟩
def dd__law_part1 : He.DefD := ⟨("_law_part1", none), "_law_part1", "_law_part1", defArgs s__law_part1, defBody s__law_part1, defScope s__law_part1, [], []⟩
def dd_law : He.DefD := ⟨("law", none), "law", "law", defArgs s_law, defBody s_law, defScope s_law, [], []⟩
def hfn : List He.DefD := [dd_check_form, dd_power_of, dd_bias, dd_least_power, dd_size, dd_check_code, dd_parts, dd_kind, dd_reduced, dd_value, dd_greatest, dd_endless, dd_nothing, dd_floor_code, dd_below_step, dd_is_nearer_above, dd_rounded, dd_signed_nought, dd_add, dd_turned, dd_multiply, dd_divide, dd_place_of, dd_less, dd_next_up, dd_summed, dd__law_begin, dd__law_take, dd__law_raise, dd__law_less, dd__law_part1, dd_law]
def hfa : List He.Fa := [.glo "check_form", .glo "power_of", .glo "bias", .glo "least_power", .glo "size", .glo "check_code", .glo "parts", .glo "kind", .glo "reduced", .glo "value", .glo "greatest", .glo "endless", .glo "nothing", .glo "floor_code", .glo "below_step", .glo "is_nearer_above", .glo "rounded", .glo "signed_nought", .glo "add", .glo "turned", .glo "multiply", .glo "divide", .glo "place_of", .glo "less", .glo "next_up", .glo "summed", .glo "_law_begin", .glo "_law_take", .glo "_law_raise", .glo "_law_less", .glo "_law_part1", .glo "law", .free "abs", .free "int", .free "len", .free "list", .free "max", .free "min", .free "range", .free "sum", .free "tuple", .glo "WAYS"]
abbrev R : PySem.W.OpenRow := PySem.W.OpenLaw.row PySem.Challenge.rw_machinehall_k43_whole_codes_of_moving_po
def hex (K : PySem.W.Frag) : Bool := true && He.tupB K "WAYS" [.str (PySem.Str.ofString "even"), .str (PySem.Str.ofString "zero"), .str (PySem.Str.ofString "up"), .str (PySem.Str.ofString "down")]
abbrev hk : PySem.W.Hook := hookE 37 hfa hfn hex
def ob (s : PySem.W.SharedT) : AlE := obsEG 37 hfa hfn hex (HandSHeadRun.getT s)
theorem ob_eq (s : PySem.W.SharedT) : ob s = hk.obs s.abs := obsEG_eq (HandSHeadRun.getT_eq s)
def loose0 : List PySem.Str := ["check_form", "power_of", "bias", "least_power", "size", "check_code", "parts", "kind", "reduced", "value", "greatest", "endless", "nothing", "floor_code", "rounded", "is_nearer_above", "below_step", "signed_nought", "add", "turned", "multiply", "divide", "less", "place_of", "next_up"]
def loose1 : List PySem.Str := ["summed", "_law_begin", "_law_take", "_law_raise", "_law_less", "_law_part1", "MachineError", "WAYS"]
def loose : List PySem.Str := loose0 ++ loose1
theorem run (w : World) : HandSHeadRun.RunEq R (PySem.W.view R.prog [36]) hk ob 4000 loose w := by
  intro os
  kernel_rfl
theorem facts {P : Program} {w : World} {K : PySem.W.Frag} {h : Heap} {mg : Str → Option Value} {f : Addr} (X : K.In h) (G : h.Ns mainGlobals mg) (hfa0 : mg ("law" : Str) = some (.ref f)) (ce : SaysE hfa hfn hex K) :
    ∃ fd : FuncData, (∀ (s : Shared) (v : Value), BindsTo s fd ⟨[v], []⟩ [("script", v)]) ∧ ∀ base : Heap, K.In base → base.Ns mainGlobals mg → FnOk P w K mg base CX0 12 f fd ["script"] (spF K 1 fn_law) := by
  have c := ce.d
  have e0 := ce.own
  simp only [hex, Bool.and_eq_true] at e0
  have Z : Bl K mg := ⟨He.free_ok X G (c.fact 32 (f := .free "abs") rfl), He.free_ok X G (c.fact 33 (f := .free "int") rfl), He.free_ok X G (c.fact 34 (f := .free "len") rfl), He.free_ok X G (c.fact 35 (f := .free "list") rfl), He.free_ok X G (c.fact 36 (f := .free "max") rfl), He.free_ok X G (c.fact 37 (f := .free "min") rfl), He.free_ok X G (c.fact 38 (f := .free "range") rfl), He.free_ok X G (c.fact 39 (f := .free "sum") rfl), He.free_ok X G (c.fact 40 (f := .free "tuple") rfl), gtup_ok X G (c.fact 41 (f := .glo "WAYS") rfl) e0.2 rfl⟩
  have d_check_form : Df K mg "check_form" s_check_form := by
    obtain ⟨fd, F⟩ := c.def_ 0 (d := dd_check_form) rfl
    exact ⟨_, fd, F, He.glo_ok X G (c.fact 0 (f := .glo "check_form") rfl)⟩
  have d_power_of : Df K mg "power_of" s_power_of := by
    obtain ⟨fd, F⟩ := c.def_ 1 (d := dd_power_of) rfl
    exact ⟨_, fd, F, He.glo_ok X G (c.fact 1 (f := .glo "power_of") rfl)⟩
  have d_bias : Df K mg "bias" s_bias := by
    obtain ⟨fd, F⟩ := c.def_ 2 (d := dd_bias) rfl
    exact ⟨_, fd, F, He.glo_ok X G (c.fact 2 (f := .glo "bias") rfl)⟩
  have d_least_power : Df K mg "least_power" s_least_power := by
    obtain ⟨fd, F⟩ := c.def_ 3 (d := dd_least_power) rfl
    exact ⟨_, fd, F, He.glo_ok X G (c.fact 3 (f := .glo "least_power") rfl)⟩
  have d_size : Df K mg "size" s_size := by
    obtain ⟨fd, F⟩ := c.def_ 4 (d := dd_size) rfl
    exact ⟨_, fd, F, He.glo_ok X G (c.fact 4 (f := .glo "size") rfl)⟩
  have d_check_code : Df K mg "check_code" s_check_code := by
    obtain ⟨fd, F⟩ := c.def_ 5 (d := dd_check_code) rfl
    exact ⟨_, fd, F, He.glo_ok X G (c.fact 5 (f := .glo "check_code") rfl)⟩
  have d_parts : Df K mg "parts" s_parts := by
    obtain ⟨fd, F⟩ := c.def_ 6 (d := dd_parts) rfl
    exact ⟨_, fd, F, He.glo_ok X G (c.fact 6 (f := .glo "parts") rfl)⟩
  have d_kind : Df K mg "kind" s_kind := by
    obtain ⟨fd, F⟩ := c.def_ 7 (d := dd_kind) rfl
    exact ⟨_, fd, F, He.glo_ok X G (c.fact 7 (f := .glo "kind") rfl)⟩
  have d_reduced : Df K mg "reduced" s_reduced := by
    obtain ⟨fd, F⟩ := c.def_ 8 (d := dd_reduced) rfl
    exact ⟨_, fd, F, He.glo_ok X G (c.fact 8 (f := .glo "reduced") rfl)⟩
  have d_value : Df K mg "value" s_value := by
    obtain ⟨fd, F⟩ := c.def_ 9 (d := dd_value) rfl
    exact ⟨_, fd, F, He.glo_ok X G (c.fact 9 (f := .glo "value") rfl)⟩
  have d_greatest : Df K mg "greatest" s_greatest := by
    obtain ⟨fd, F⟩ := c.def_ 10 (d := dd_greatest) rfl
    exact ⟨_, fd, F, He.glo_ok X G (c.fact 10 (f := .glo "greatest") rfl)⟩
  have d_endless : Df K mg "endless" s_endless := by
    obtain ⟨fd, F⟩ := c.def_ 11 (d := dd_endless) rfl
    exact ⟨_, fd, F, He.glo_ok X G (c.fact 11 (f := .glo "endless") rfl)⟩
  have d_nothing : Df K mg "nothing" s_nothing := by
    obtain ⟨fd, F⟩ := c.def_ 12 (d := dd_nothing) rfl
    exact ⟨_, fd, F, He.glo_ok X G (c.fact 12 (f := .glo "nothing") rfl)⟩
  have d_floor_code : Df K mg "floor_code" s_floor_code := by
    obtain ⟨fd, F⟩ := c.def_ 13 (d := dd_floor_code) rfl
    exact ⟨_, fd, F, He.glo_ok X G (c.fact 13 (f := .glo "floor_code") rfl)⟩
  have d_below_step : Df K mg "below_step" s_below_step := by
    obtain ⟨fd, F⟩ := c.def_ 14 (d := dd_below_step) rfl
    exact ⟨_, fd, F, He.glo_ok X G (c.fact 14 (f := .glo "below_step") rfl)⟩
  have d_is_nearer_above : Df K mg "is_nearer_above" s_is_nearer_above := by
    obtain ⟨fd, F⟩ := c.def_ 15 (d := dd_is_nearer_above) rfl
    exact ⟨_, fd, F, He.glo_ok X G (c.fact 15 (f := .glo "is_nearer_above") rfl)⟩
  have d_rounded : Df K mg "rounded" s_rounded := by
    obtain ⟨fd, F⟩ := c.def_ 16 (d := dd_rounded) rfl
    exact ⟨_, fd, F, He.glo_ok X G (c.fact 16 (f := .glo "rounded") rfl)⟩
  have d_signed_nought : Df K mg "signed_nought" s_signed_nought := by
    obtain ⟨fd, F⟩ := c.def_ 17 (d := dd_signed_nought) rfl
    exact ⟨_, fd, F, He.glo_ok X G (c.fact 17 (f := .glo "signed_nought") rfl)⟩
  have d_add : Df K mg "add" s_add := by
    obtain ⟨fd, F⟩ := c.def_ 18 (d := dd_add) rfl
    exact ⟨_, fd, F, He.glo_ok X G (c.fact 18 (f := .glo "add") rfl)⟩
  have d_turned : Df K mg "turned" s_turned := by
    obtain ⟨fd, F⟩ := c.def_ 19 (d := dd_turned) rfl
    exact ⟨_, fd, F, He.glo_ok X G (c.fact 19 (f := .glo "turned") rfl)⟩
  have d_multiply : Df K mg "multiply" s_multiply := by
    obtain ⟨fd, F⟩ := c.def_ 20 (d := dd_multiply) rfl
    exact ⟨_, fd, F, He.glo_ok X G (c.fact 20 (f := .glo "multiply") rfl)⟩
  have d_divide : Df K mg "divide" s_divide := by
    obtain ⟨fd, F⟩ := c.def_ 21 (d := dd_divide) rfl
    exact ⟨_, fd, F, He.glo_ok X G (c.fact 21 (f := .glo "divide") rfl)⟩
  have d_place_of : Df K mg "place_of" s_place_of := by
    obtain ⟨fd, F⟩ := c.def_ 22 (d := dd_place_of) rfl
    exact ⟨_, fd, F, He.glo_ok X G (c.fact 22 (f := .glo "place_of") rfl)⟩
  have d_less : Df K mg "less" s_less := by
    obtain ⟨fd, F⟩ := c.def_ 23 (d := dd_less) rfl
    exact ⟨_, fd, F, He.glo_ok X G (c.fact 23 (f := .glo "less") rfl)⟩
  have d_next_up : Df K mg "next_up" s_next_up := by
    obtain ⟨fd, F⟩ := c.def_ 24 (d := dd_next_up) rfl
    exact ⟨_, fd, F, He.glo_ok X G (c.fact 24 (f := .glo "next_up") rfl)⟩
  have d_summed : Df K mg "summed" s_summed := by
    obtain ⟨fd, F⟩ := c.def_ 25 (d := dd_summed) rfl
    exact ⟨_, fd, F, He.glo_ok X G (c.fact 25 (f := .glo "summed") rfl)⟩
  have d__law_begin : Df K mg "_law_begin" s__law_begin := by
    obtain ⟨fd, F⟩ := c.def_ 26 (d := dd__law_begin) rfl
    exact ⟨_, fd, F, He.glo_ok X G (c.fact 26 (f := .glo "_law_begin") rfl)⟩
  have d__law_take : Df K mg "_law_take" s__law_take := by
    obtain ⟨fd, F⟩ := c.def_ 27 (d := dd__law_take) rfl
    exact ⟨_, fd, F, He.glo_ok X G (c.fact 27 (f := .glo "_law_take") rfl)⟩
  have d__law_raise : Df K mg "_law_raise" s__law_raise := by
    obtain ⟨fd, F⟩ := c.def_ 28 (d := dd__law_raise) rfl
    exact ⟨_, fd, F, He.glo_ok X G (c.fact 28 (f := .glo "_law_raise") rfl)⟩
  have d__law_less : Df K mg "_law_less" s__law_less := by
    obtain ⟨fd, F⟩ := c.def_ 29 (d := dd__law_less) rfl
    exact ⟨_, fd, F, He.glo_ok X G (c.fact 29 (f := .glo "_law_less") rfl)⟩
  have d__law_part1 : Df K mg "_law_part1" s__law_part1 := by
    obtain ⟨fd, F⟩ := c.def_ 30 (d := dd__law_part1) rfl
    exact ⟨_, fd, F, He.glo_ok X G (c.fact 30 (f := .glo "_law_part1") rfl)⟩
  obtain ⟨fdL, FL⟩ := c.def_ 31 (d := dd_law) rfl
  have e := hfa0.symm.trans (He.glo_ok X G (c.fact 31 (f := .glo "law") rfl))
  cases e
  have b := FunD.bindsA (ps := ["script"]) FL fun _ _ _ _ _ _ us hl => match us, hl with | [_], _ => rfl
  refine ⟨fdL, fun s v => b s [v] rfl, fun base _ _ => ?_⟩
  have C_check_form : Cal P w K mg base "check_form" 1 1 fn_check_form := ok_check_form Z d_check_form 
  have C_power_of : Cal P w K mg base "power_of" 1 1 fn_power_of := ok_power_of Z d_power_of 
  have C_bias : Cal P w K mg base "bias" 2 1 fn_bias := ok_bias Z d_bias (C_power_of.mono (by decide))
  have C_least_power : Cal P w K mg base "least_power" 3 1 fn_least_power := ok_least_power Z d_least_power (C_bias.mono (by decide))
  have C_size : Cal P w K mg base "size" 2 1 fn_size := ok_size Z d_size (C_check_form.mono (by decide)) (C_power_of.mono (by decide))
  have C_check_code : Cal P w K mg base "check_code" 3 2 fn_check_code := ok_check_code Z d_check_code (C_check_form.mono (by decide)) (C_size.mono (by decide))
  have C_parts : Cal P w K mg base "parts" 4 2 fn_parts := ok_parts Z d_parts (C_check_code.mono (by decide)) (C_power_of.mono (by decide))
  have C_kind : Cal P w K mg base "kind" 5 2 fn_kind := ok_kind Z d_kind (C_parts.mono (by decide)) (C_power_of.mono (by decide))
  have C_reduced : Cal P w K mg base "reduced" 1 2 fn_reduced := ok_reduced Z d_reduced 
  have C_value : Cal P w K mg base "value" 6 2 fn_value := ok_value Z d_value (C_kind.mono (by decide)) (C_parts.mono (by decide)) (C_power_of.mono (by decide)) (C_least_power.mono (by decide)) (C_reduced.mono (by decide))
  have C_greatest : Cal P w K mg base "greatest" 2 1 fn_greatest := ok_greatest Z d_greatest (C_check_form.mono (by decide)) (C_power_of.mono (by decide))
  have C_endless : Cal P w K mg base "endless" 2 2 fn_endless := ok_endless Z d_endless (C_power_of.mono (by decide))
  have C_nothing : Cal P w K mg base "nothing" 2 1 fn_nothing := ok_nothing Z d_nothing (C_power_of.mono (by decide))
  have C_floor_code : Cal P w K mg base "floor_code" 7 3 fn_floor_code := ok_floor_code Z d_floor_code (C_greatest.mono (by decide)) (C_value.mono (by decide))
  have C_below_step : Cal P w K mg base "below_step" 5 2 fn_below_step := ok_below_step Z d_below_step (C_parts.mono (by decide)) (C_least_power.mono (by decide)) (C_power_of.mono (by decide))
  have C_is_nearer_above : Cal P w K mg base "is_nearer_above" 7 4 fn_is_nearer_above := ok_is_nearer_above Z d_is_nearer_above (C_value.mono (by decide)) (C_below_step.mono (by decide))
  have C_rounded : Cal P w K mg base "rounded" 8 3 fn_rounded := ok_rounded Z d_rounded (C_check_form.mono (by decide)) (C_floor_code.mono (by decide)) (C_power_of.mono (by decide)) (C_is_nearer_above.mono (by decide)) (C_greatest.mono (by decide)) (C_endless.mono (by decide))
  have C_signed_nought : Cal P w K mg base "signed_nought" 2 2 fn_signed_nought := ok_signed_nought Z d_signed_nought (C_power_of.mono (by decide))
  have C_add : Cal P w K mg base "add" 9 4 fn_add := ok_add Z d_add (C_check_code.mono (by decide)) (C_kind.mono (by decide)) (C_nothing.mono (by decide)) (C_value.mono (by decide)) (C_parts.mono (by decide)) (C_signed_nought.mono (by decide)) (C_rounded.mono (by decide)) (C_reduced.mono (by decide))
  have C_turned : Cal P w K mg base "turned" 4 2 fn_turned := ok_turned Z d_turned (C_check_code.mono (by decide)) (C_power_of.mono (by decide))
  have C_multiply : Cal P w K mg base "multiply" 9 4 fn_multiply := ok_multiply Z d_multiply (C_check_code.mono (by decide)) (C_kind.mono (by decide)) (C_parts.mono (by decide)) (C_nothing.mono (by decide)) (C_endless.mono (by decide)) (C_signed_nought.mono (by decide)) (C_value.mono (by decide)) (C_rounded.mono (by decide)) (C_reduced.mono (by decide))
  have C_divide : Cal P w K mg base "divide" 9 4 fn_divide := ok_divide Z d_divide (C_check_code.mono (by decide)) (C_kind.mono (by decide)) (C_parts.mono (by decide)) (C_nothing.mono (by decide)) (C_endless.mono (by decide)) (C_signed_nought.mono (by decide)) (C_value.mono (by decide)) (C_rounded.mono (by decide)) (C_reduced.mono (by decide))
  have C_place_of : Cal P w K mg base "place_of" 2 2 fn_place_of := ok_place_of Z d_place_of (C_power_of.mono (by decide))
  have C_less : Cal P w K mg base "less" 6 3 fn_less := ok_less Z d_less (C_check_code.mono (by decide)) (C_kind.mono (by decide)) (C_place_of.mono (by decide))
  have C_next_up : Cal P w K mg base "next_up" 6 2 fn_next_up := ok_next_up Z d_next_up (C_kind.mono (by decide)) (C_endless.mono (by decide)) (C_power_of.mono (by decide))
  have C_summed : Cal P w K mg base "summed" 10 3 fn_summed := ok_summed Z d_summed (C_add.mono (by decide)) (C_value.mono (by decide)) (C_reduced.mono (by decide))
  have C__law_begin : Cal P w K mg base "_law_begin" 1 1 fn__law_begin := ok__law_begin Z d__law_begin 
  have C__law_take : Cal P w K mg base "_law_take" 1 2 fn__law_take := ok__law_take Z d__law_take 
  have C__law_raise : Cal P w K mg base "_law_raise" 1 1 fn__law_raise := ok__law_raise Z d__law_raise 
  have C__law_less : Cal P w K mg base "_law_less" 1 2 fn__law_less := ok__law_less Z d__law_less 
  have C__law_part1 : Cal P w K mg base "_law_part1" 11 5 fn__law_part1 := ok__law_part1 Z d__law_part1 (C_value.mono (by decide)) (C_rounded.mono (by decide)) (C__law_take.mono (by decide)) (C__law_raise.mono (by decide)) (C_multiply.mono (by decide)) (C__law_less.mono (by decide)) (C_divide.mono (by decide)) (C_summed.mono (by decide)) (C_kind.mono (by decide)) (C_parts.mono (by decide)) (C_turned.mono (by decide)) (C_less.mono (by decide))
  exact law_fn Z FL (C__law_begin.mono (by decide)) (C__law_take.mono (by decide)) (C_size.mono (by decide)) (C_greatest.mono (by decide)) (C_value.mono (by decide)) (C_next_up.mono (by decide)) (C__law_less.mono (by decide)) (C_kind.mono (by decide)) (C__law_part1.mono (by decide))
end K43
end

section
set_option Elab.async false
set_option linter.all false
set_option maxRecDepth 100000
namespace K43
open PySem PySem.Spec PyProof.Rows L2 QL
/-! ### numbers -/
def pw (i : Int) : Int := 2 ^ i.toNat
theorem pw_pos (i : Int) : 0 < pw i := Int.pow_pos (by decide)
theorem pw_succ {i : Int} (h : 0 ≤ i) : pw (i + 1) = 2 * pw i := by
  unfold pw
  rw [show (i + 1).toNat = i.toNat + 1 by omega, Int.pow_succ, Int.mul_comm]
theorem pw_nat (n : Nat) : pw n = ((2 ^ n : Nat) : Int) := by simp [pw]
@[simp] theorem pw_max {i : Int} : pw (max i 0) = pw i := by
  unfold pw
  rw [show (max i 0).toNat = i.toNat by omega]
theorem pw_le {i : Int} {n : Nat} (h : i ≤ n) : pw i ≤ 2 ^ n := by
  unfold pw
  exact_mod_cast Nat.pow_le_pow_right (by decide) (by omega)
theorem pw_add {i j : Int} (hi : 0 ≤ i) (hj : 0 ≤ j) : pw (i + j) = pw i * pw j := by
  unfold pw
  rw [show (i + j).toNat = i.toNat + j.toNat by omega, Int.pow_add]
theorem dm {a b q r : Int} (h : a = b * q + r) (h0 : 0 ≤ r) (h1 : r < b) : a / b = q ∧ a % b = r :=
  (Int.ediv_emod_unique (by omega)).mpr ⟨by omega, h0, h1⟩
theorem mul_bound {a b A B : Int} (h1 : -A ≤ a) (h2 : a ≤ A) (h3 : -B ≤ b) (h4 : b ≤ B) : -(A * B) ≤ a * b ∧ a * b ≤ A * B := by
  have k1 := Int.mul_nonneg (show 0 ≤ A - a by omega) (show 0 ≤ B - b by omega)
  have k2 := Int.mul_nonneg (show 0 ≤ A - a by omega) (show 0 ≤ B + b by omega)
  have k3 := Int.mul_nonneg (show 0 ≤ A + a by omega) (show 0 ≤ B - b by omega)
  have k4 := Int.mul_nonneg (show 0 ≤ A + a by omega) (show 0 ≤ B + b by omega)
  constructor <;> grind

/-! ### what a code means: V Q m over 2 ^ L -/
def U (Q e p : Nat) : Nat := if e = 0 then p else (Q + p) * 2 ^ (e - 1)
def V (Q m : Nat) : Nat := U Q (m / Q) (m % Q)
def stp (Q m : Nat) : Nat := 2 ^ (m / Q - 1)
theorem V_at {Q e p : Nat} (h : p < Q) : V Q (Q * e + p) = U Q e p := by
  unfold V
  rw [Nat.mul_add_div (by omega), Nat.div_eq_of_lt h, Nat.mul_add_mod, Nat.mod_eq_of_lt h, Nat.add_zero]
theorem V_succ {Q : Nat} (hQ : 0 < Q) (m : Nat) : V Q (m + 1) = V Q m + stp Q m := by
  have hm := Nat.div_add_mod m Q
  have hp := Nat.mod_lt m hQ
  unfold stp
  generalize m / Q = e at *
  generalize m % Q = p at *
  subst hm
  rw [V_at hp]
  by_cases z : p + 1 < Q
  · rw [Nat.add_assoc, V_at z]
    unfold U
    by_cases h : e = 0
    · subst h; simp
    · rw [if_neg h, if_neg h, ← Nat.add_assoc, Nat.add_mul (Q + p) 1]
      omega
  · have e1 : Q * e + p + 1 = Q * (e + 1) + 0 := by rw [Nat.mul_succ]; omega
    rw [e1, V_at hQ]
    unfold U
    rw [if_neg (by omega)]
    by_cases h : e = 0
    · subst h; simp; omega
    · rw [if_neg h, show e + 1 - 1 = (e - 1) + 1 by omega, Nat.pow_succ]
      have : Q + p = 2 * Q - 1 := by omega
      generalize 2 ^ (e - 1) = w at *
      have h1 : (Q + p) * w + w = (Q + p + 1) * w := by rw [Nat.add_mul (Q + p) 1]; omega
      rw [h1, show Q + p + 1 = Q * 2 by omega, Nat.add_zero]
      grind
theorem stp_pos (Q m : Nat) : 0 < stp Q m := Nat.pow_pos (by decide)
theorem V_lt {Q : Nat} (hQ : 0 < Q) {m n : Nat} (h : m < n) : V Q m < V Q n := by
  induction n with
  | zero => omega
  | succ n ih =>
    have := V_succ hQ n
    have := stp_pos Q n
    by_cases z : m = n
    · subst z; omega
    · have := ih (by omega); omega
theorem V_le {Q : Nat} (hQ : 0 < Q) {m n : Nat} (h : m ≤ n) : V Q m ≤ V Q n := by
  by_cases z : m = n
  · rw [z]; exact Nat.le_refl _
  · exact Nat.le_of_lt (V_lt hQ (by omega))
theorem V_le_iff {Q : Nat} (hQ : 0 < Q) {m n : Nat} : V Q m ≤ V Q n ↔ m ≤ n := ⟨fun h => by
  by_cases z : m ≤ n
  · exact z
  · have := V_lt hQ (show n < m by omega); omega, V_le hQ⟩
theorem V_inj {Q : Nat} (hQ : 0 < Q) {m n : Nat} (h : V Q m = V Q n) : m = n :=
  Nat.le_antisymm ((V_le_iff hQ).mp (by omega)) ((V_le_iff hQ).mp (by omega))
theorem V_small {Q : Nat} (hQ : 0 < Q) {n : Nat} (h : n < 2 * Q) : V Q n = n := by
  by_cases z : n < Q
  · have := V_at (Q := Q) (e := 0) z
    simpa [U] using this
  · have := V_at (Q := Q) (e := 1) (p := n - Q) (by omega)
    rw [show Q * 1 + (n - Q) = n by omega] at this
    rw [this]
    unfold U
    rw [if_neg (by omega)]
    simp
    omega
theorem V_twice {Q : Nat} (hQ : 0 < Q) : V Q (2 * Q) = 2 * Q := by
  have := V_at (Q := Q) (e := 2) (p := 0) hQ
  rw [show Q * 2 + 0 = 2 * Q by omega] at this
  rw [this]
  unfold U
  rw [if_neg (by omega)]
  simp
  omega
theorem V_zero {Q : Nat} (hQ : 0 < Q) : V Q 0 = 0 := V_small hQ (by omega)
theorem V_dbl {Q : Nat} (hQ : 0 < Q) (m : Nat) : ∃ n, V Q n = 2 * V Q m := by
  by_cases z : m < Q
  · exact ⟨2 * m, by rw [V_small hQ (by omega), V_small hQ (by omega)]⟩
  · refine ⟨m + Q, ?_⟩
    have hm := Nat.div_add_mod m Q
    have hp := Nat.mod_lt m hQ
    have he : 1 ≤ m / Q := (Nat.one_le_div_iff hQ).mpr (by omega)
    generalize m / Q = e at *
    generalize m % Q = p at *
    subst hm
    rw [show Q * e + p + Q = Q * (e + 1) + p by rw [Nat.mul_succ]; omega, V_at hp, V_at hp]
    unfold U
    rw [if_neg (by omega), if_neg (by omega), show e + 1 - 1 = (e - 1) + 1 by omega, Nat.pow_succ]
    grind
theorem V_pow {Q : Nat} (hQ : 0 < Q) (m : Nat) : ∀ k : Nat, ∃ n, V Q n = V Q m * 2 ^ k
  | 0 => ⟨m, by simp⟩
  | k + 1 => by
    obtain ⟨n, hn⟩ := V_pow hQ m k
    obtain ⟨n2, h2⟩ := V_dbl hQ n
    exact ⟨n2, by rw [h2, hn, Nat.pow_succ]; grind⟩
/-- low is the greatest code up to g that means at most t over b -/
structure IsF (Q g L : Nat) (t b : Int) (low : Nat) : Prop where
  le : low ≤ g
  lo : (V Q low : Int) * b ≤ t * 2 ^ L
  hi : low < g → t * 2 ^ L < (V Q (low + 1) : Int) * b
theorem mul_lt {a b c : Int} (h : a < b) (hc : 0 < c) : a * c < b * c := Int.mul_lt_mul_of_pos_right h hc
theorem mul_le {a b c : Int} (h : a ≤ b) (hc : 0 < c) : a * c ≤ b * c := Int.mul_le_mul_of_nonneg_right h (by omega)
theorem IsF.uniq {Q g L : Nat} (hQ : 0 < Q) {t b : Int} (hb : 0 < b) {m n : Nat} (h : IsF Q g L t b m) (k : IsF Q g L t b n) : m = n := by
  have aux : ∀ {m n : Nat}, IsF Q g L t b m → IsF Q g L t b n → ¬ m < n := fun {m n} h k z => by
    have h1 := h.hi (by have := k.le; omega)
    have h2 := k.lo
    have h3 : (V Q (m + 1) : Int) * b ≤ (V Q n : Int) * b := mul_le (by have := V_le hQ (show m + 1 ≤ n by omega); omega) hb
    omega
  have := aux h k
  have := aux k h
  omega
/-- a fraction that is a code's -/
theorem IsF.just {Q g L : Nat} (hQ : 0 < Q) {t b : Int} (hb : 0 < b) {m n : Nat} (h : IsF Q g L t b m) (hn : n ≤ g) (e : t * 2 ^ L = (V Q n : Int) * b) : m = n :=
  h.uniq hQ hb ⟨hn, by omega, fun z => by rw [e]; exact mul_lt (by have := V_lt hQ (show n < n + 1 by omega); omega) hb⟩
/-- beyond the greatest -/
theorem IsF.top {Q g L : Nat} (hQ : 0 < Q) {t b : Int} (hb : 0 < b) {m : Nat} (h : IsF Q g L t b m) (e : (V Q g : Int) * b ≤ t * 2 ^ L) : m = g :=
  h.uniq hQ hb ⟨Nat.le_refl _, e, fun z => absurd z (by omega)⟩

/-! ### fractions in lowest terms -/
def gc (t b : Int) : Int := (Int.gcd t b : Int)
def red (t b : Int) : Int × Int := (t / gc t b, b / gc t b)
theorem gc_pos {t b : Int} (h : 0 < b) : 0 < gc t b := by
  unfold gc
  have : 0 < Int.gcd t b := Int.gcd_pos_of_ne_zero_right _ (by omega)
  omega
theorem gc_l (t b : Int) : gc t b * (t / gc t b) = t := Int.mul_ediv_cancel' (Int.gcd_dvd_left ..)
theorem gc_r (t b : Int) : gc t b * (b / gc t b) = b := Int.mul_ediv_cancel' (Int.gcd_dvd_right ..)
theorem red_pos {t b : Int} (h : 0 < b) : 0 < (red t b).2 := by
  have h1 := gc_r t b
  have h2 := gc_pos (t := t) h
  show 0 < b / gc t b
  by_cases z : 0 < b / gc t b
  · exact z
  · have : gc t b * (b / gc t b) ≤ 0 := Int.mul_nonpos_of_nonneg_of_nonpos (by omega) (by omega)
    omega
theorem red_cross {t b : Int} : (red t b).1 * b = t * (red t b).2 := by
  have h1 := gc_l t b
  have h2 := gc_r t b
  show t / gc t b * b = t * (b / gc t b)
  generalize t / gc t b = x at *
  generalize b / gc t b = y at *
  generalize gc t b = g at *
  rw [← h1, ← h2]
  grind
theorem red_bound {t b : Int} (h : 0 < b) : (red t b).2 ≤ b ∧ -(t.natAbs : Int) ≤ (red t b).1 ∧ (red t b).1 ≤ t.natAbs := by
  have h1 := gc_l t b
  have h2 := gc_r t b
  have h3 := gc_pos (t := t) h
  refine ⟨Int.ediv_le_self _ (by omega), ?_⟩
  show -(t.natAbs : Int) ≤ t / gc t b ∧ t / gc t b ≤ t.natAbs
  have h4 : (t / gc t b).natAbs ≤ t.natAbs := by
    have h5 := congrArg Int.natAbs h1
    rw [Int.natAbs_mul] at h5
    have := Nat.le_mul_of_pos_left (t / gc t b).natAbs (show 0 < (gc t b).natAbs by omega)
    omega
  omega
theorem gc_scale {t b k : Int} (hk : 0 < k) : gc (t * k) (b * k) = gc t b * k := by
  unfold gc
  rw [Int.gcd_mul_right]
  push_cast
  rw [Int.natAbs_of_nonneg (by omega)]
theorem red_scale {t b k : Int} (hk : 0 < k) (hb : 0 < b) : red (t * k) (b * k) = red t b := by
  have h3 := gc_pos (t := t) hb
  unfold red
  rw [gc_scale hk, Int.mul_ediv_mul_of_pos_left _ _ hk, Int.mul_ediv_mul_of_pos_left _ _ hk]
theorem red_one (t : Int) : red t 1 = (t, 1) := by
  unfold red gc
  simp
theorem red_whole {n b : Int} (hb : 0 < b) : red (n * b) b = (n, 1) := by
  have := red_scale (t := n) (b := 1) hb (by omega)
  rw [Int.one_mul] at this
  rw [this, red_one]
end K43
end

section
set_option Elab.async false
set_option linter.all false
set_option maxRecDepth 100000
set_option maxHeartbeats 4000000
namespace K43
open PySem PySem.Spec PyProof.Rows L2 QL
/-! ### words -/
@[simp] theorem w_lay_none : PyData.canLay0 (.str (PySem.Str.ofString "none")) = true := by decide +kernel
@[simp] theorem w_none_endless : (PySem.Str.ofString "none" == PySem.Str.ofString "endless") = false := by decide +kernel
@[simp] theorem w_none_nought : (PySem.Str.ofString "none" == PySem.Str.ofString "nought") = false := by decide +kernel
@[simp] theorem w_none_small : (PySem.Str.ofString "none" == PySem.Str.ofString "small") = false := by decide +kernel
@[simp] theorem w_none_full : (PySem.Str.ofString "none" == PySem.Str.ofString "full") = false := by decide +kernel
@[simp] theorem w_none_even : (PySem.Str.ofString "none" == PySem.Str.ofString "even") = false := by decide +kernel
@[simp] theorem w_none_zero : (PySem.Str.ofString "none" == PySem.Str.ofString "zero") = false := by decide +kernel
@[simp] theorem w_none_up : (PySem.Str.ofString "none" == PySem.Str.ofString "up") = false := by decide +kernel
@[simp] theorem w_none_down : (PySem.Str.ofString "none" == PySem.Str.ofString "down") = false := by decide +kernel
@[simp] theorem w_lay_endless : PyData.canLay0 (.str (PySem.Str.ofString "endless")) = true := by decide +kernel
@[simp] theorem w_endless_none : (PySem.Str.ofString "endless" == PySem.Str.ofString "none") = false := by decide +kernel
@[simp] theorem w_endless_nought : (PySem.Str.ofString "endless" == PySem.Str.ofString "nought") = false := by decide +kernel
@[simp] theorem w_endless_small : (PySem.Str.ofString "endless" == PySem.Str.ofString "small") = false := by decide +kernel
@[simp] theorem w_endless_full : (PySem.Str.ofString "endless" == PySem.Str.ofString "full") = false := by decide +kernel
@[simp] theorem w_endless_even : (PySem.Str.ofString "endless" == PySem.Str.ofString "even") = false := by decide +kernel
@[simp] theorem w_endless_zero : (PySem.Str.ofString "endless" == PySem.Str.ofString "zero") = false := by decide +kernel
@[simp] theorem w_endless_up : (PySem.Str.ofString "endless" == PySem.Str.ofString "up") = false := by decide +kernel
@[simp] theorem w_endless_down : (PySem.Str.ofString "endless" == PySem.Str.ofString "down") = false := by decide +kernel
@[simp] theorem w_lay_nought : PyData.canLay0 (.str (PySem.Str.ofString "nought")) = true := by decide +kernel
@[simp] theorem w_nought_none : (PySem.Str.ofString "nought" == PySem.Str.ofString "none") = false := by decide +kernel
@[simp] theorem w_nought_endless : (PySem.Str.ofString "nought" == PySem.Str.ofString "endless") = false := by decide +kernel
@[simp] theorem w_nought_small : (PySem.Str.ofString "nought" == PySem.Str.ofString "small") = false := by decide +kernel
@[simp] theorem w_nought_full : (PySem.Str.ofString "nought" == PySem.Str.ofString "full") = false := by decide +kernel
@[simp] theorem w_nought_even : (PySem.Str.ofString "nought" == PySem.Str.ofString "even") = false := by decide +kernel
@[simp] theorem w_nought_zero : (PySem.Str.ofString "nought" == PySem.Str.ofString "zero") = false := by decide +kernel
@[simp] theorem w_nought_up : (PySem.Str.ofString "nought" == PySem.Str.ofString "up") = false := by decide +kernel
@[simp] theorem w_nought_down : (PySem.Str.ofString "nought" == PySem.Str.ofString "down") = false := by decide +kernel
@[simp] theorem w_lay_small : PyData.canLay0 (.str (PySem.Str.ofString "small")) = true := by decide +kernel
@[simp] theorem w_small_none : (PySem.Str.ofString "small" == PySem.Str.ofString "none") = false := by decide +kernel
@[simp] theorem w_small_endless : (PySem.Str.ofString "small" == PySem.Str.ofString "endless") = false := by decide +kernel
@[simp] theorem w_small_nought : (PySem.Str.ofString "small" == PySem.Str.ofString "nought") = false := by decide +kernel
@[simp] theorem w_small_full : (PySem.Str.ofString "small" == PySem.Str.ofString "full") = false := by decide +kernel
@[simp] theorem w_small_even : (PySem.Str.ofString "small" == PySem.Str.ofString "even") = false := by decide +kernel
@[simp] theorem w_small_zero : (PySem.Str.ofString "small" == PySem.Str.ofString "zero") = false := by decide +kernel
@[simp] theorem w_small_up : (PySem.Str.ofString "small" == PySem.Str.ofString "up") = false := by decide +kernel
@[simp] theorem w_small_down : (PySem.Str.ofString "small" == PySem.Str.ofString "down") = false := by decide +kernel
@[simp] theorem w_lay_full : PyData.canLay0 (.str (PySem.Str.ofString "full")) = true := by decide +kernel
@[simp] theorem w_full_none : (PySem.Str.ofString "full" == PySem.Str.ofString "none") = false := by decide +kernel
@[simp] theorem w_full_endless : (PySem.Str.ofString "full" == PySem.Str.ofString "endless") = false := by decide +kernel
@[simp] theorem w_full_nought : (PySem.Str.ofString "full" == PySem.Str.ofString "nought") = false := by decide +kernel
@[simp] theorem w_full_small : (PySem.Str.ofString "full" == PySem.Str.ofString "small") = false := by decide +kernel
@[simp] theorem w_full_even : (PySem.Str.ofString "full" == PySem.Str.ofString "even") = false := by decide +kernel
@[simp] theorem w_full_zero : (PySem.Str.ofString "full" == PySem.Str.ofString "zero") = false := by decide +kernel
@[simp] theorem w_full_up : (PySem.Str.ofString "full" == PySem.Str.ofString "up") = false := by decide +kernel
@[simp] theorem w_full_down : (PySem.Str.ofString "full" == PySem.Str.ofString "down") = false := by decide +kernel
@[simp] theorem w_lay_even : PyData.canLay0 (.str (PySem.Str.ofString "even")) = true := by decide +kernel
@[simp] theorem w_even_none : (PySem.Str.ofString "even" == PySem.Str.ofString "none") = false := by decide +kernel
@[simp] theorem w_even_endless : (PySem.Str.ofString "even" == PySem.Str.ofString "endless") = false := by decide +kernel
@[simp] theorem w_even_nought : (PySem.Str.ofString "even" == PySem.Str.ofString "nought") = false := by decide +kernel
@[simp] theorem w_even_small : (PySem.Str.ofString "even" == PySem.Str.ofString "small") = false := by decide +kernel
@[simp] theorem w_even_full : (PySem.Str.ofString "even" == PySem.Str.ofString "full") = false := by decide +kernel
@[simp] theorem w_even_zero : (PySem.Str.ofString "even" == PySem.Str.ofString "zero") = false := by decide +kernel
@[simp] theorem w_even_up : (PySem.Str.ofString "even" == PySem.Str.ofString "up") = false := by decide +kernel
@[simp] theorem w_even_down : (PySem.Str.ofString "even" == PySem.Str.ofString "down") = false := by decide +kernel
@[simp] theorem w_lay_zero : PyData.canLay0 (.str (PySem.Str.ofString "zero")) = true := by decide +kernel
@[simp] theorem w_zero_none : (PySem.Str.ofString "zero" == PySem.Str.ofString "none") = false := by decide +kernel
@[simp] theorem w_zero_endless : (PySem.Str.ofString "zero" == PySem.Str.ofString "endless") = false := by decide +kernel
@[simp] theorem w_zero_nought : (PySem.Str.ofString "zero" == PySem.Str.ofString "nought") = false := by decide +kernel
@[simp] theorem w_zero_small : (PySem.Str.ofString "zero" == PySem.Str.ofString "small") = false := by decide +kernel
@[simp] theorem w_zero_full : (PySem.Str.ofString "zero" == PySem.Str.ofString "full") = false := by decide +kernel
@[simp] theorem w_zero_even : (PySem.Str.ofString "zero" == PySem.Str.ofString "even") = false := by decide +kernel
@[simp] theorem w_zero_up : (PySem.Str.ofString "zero" == PySem.Str.ofString "up") = false := by decide +kernel
@[simp] theorem w_zero_down : (PySem.Str.ofString "zero" == PySem.Str.ofString "down") = false := by decide +kernel
@[simp] theorem w_lay_up : PyData.canLay0 (.str (PySem.Str.ofString "up")) = true := by decide +kernel
@[simp] theorem w_up_none : (PySem.Str.ofString "up" == PySem.Str.ofString "none") = false := by decide +kernel
@[simp] theorem w_up_endless : (PySem.Str.ofString "up" == PySem.Str.ofString "endless") = false := by decide +kernel
@[simp] theorem w_up_nought : (PySem.Str.ofString "up" == PySem.Str.ofString "nought") = false := by decide +kernel
@[simp] theorem w_up_small : (PySem.Str.ofString "up" == PySem.Str.ofString "small") = false := by decide +kernel
@[simp] theorem w_up_full : (PySem.Str.ofString "up" == PySem.Str.ofString "full") = false := by decide +kernel
@[simp] theorem w_up_even : (PySem.Str.ofString "up" == PySem.Str.ofString "even") = false := by decide +kernel
@[simp] theorem w_up_zero : (PySem.Str.ofString "up" == PySem.Str.ofString "zero") = false := by decide +kernel
@[simp] theorem w_up_down : (PySem.Str.ofString "up" == PySem.Str.ofString "down") = false := by decide +kernel
@[simp] theorem w_lay_down : PyData.canLay0 (.str (PySem.Str.ofString "down")) = true := by decide +kernel
@[simp] theorem w_down_none : (PySem.Str.ofString "down" == PySem.Str.ofString "none") = false := by decide +kernel
@[simp] theorem w_down_endless : (PySem.Str.ofString "down" == PySem.Str.ofString "endless") = false := by decide +kernel
@[simp] theorem w_down_nought : (PySem.Str.ofString "down" == PySem.Str.ofString "nought") = false := by decide +kernel
@[simp] theorem w_down_small : (PySem.Str.ofString "down" == PySem.Str.ofString "small") = false := by decide +kernel
@[simp] theorem w_down_full : (PySem.Str.ofString "down" == PySem.Str.ofString "full") = false := by decide +kernel
@[simp] theorem w_down_even : (PySem.Str.ofString "down" == PySem.Str.ofString "even") = false := by decide +kernel
@[simp] theorem w_down_zero : (PySem.Str.ofString "down" == PySem.Str.ofString "zero") = false := by decide +kernel
@[simp] theorem w_down_up : (PySem.Str.ofString "down" == PySem.Str.ofString "up") = false := by decide +kernel

theorem smallI_of' {i : Int} (h1 : -1000000 ≤ i) (h2 : i ≤ 1000000) : smallI i = true := smallI_of (by omega) (by omega)
theorem smallT {n : Nat} (h : n ≤ 1000) : n ≤ sizeLine := sizeLine_ge (by omega)
theorem f_power_of {i : Int} (h0 : -100 ≤ i) (h : i < 190) : fn_power_of [.d (.int i)] = some (.d (.int (pw i)), [.d (.int i)]) := by
  simp only [fn_power_of, mkFn, b_power_of, A_power_of]
  have hs : smallI i = true := smallI_of (by omega) (by omega)
  have : ∃ e', forL (bName 2) (sAug 1 oIMul (fC (.int 2))) (rngL 0 i.toNat) [some (.d (.int i)), some (.d (.int 1)), none] = some (.nx e') ∧ ∃ o, e' = [some (.d (.int i)), some (.d (.int (pw i.toNat))), o] := by
    refine for_rng (fun k e => ∃ o, e = [some (.d (.int i)), some (.d (.int (pw (k : Int)))), o]) ⟨none, rfl⟩ ?_
    rintro k e hk ⟨o, rfl⟩
    simp [pw_succ, Int.mul_comm]
  obtain ⟨e', h1, o, rfl⟩ := this
  simp [h1, hs]
theorem f_raise {i : Int} (h0 : -100 ≤ i) (h : i < 190) : fn__law_raise [.d (.int i)] = some (.d (.int (pw i)), [.d (.int i)]) := by
  simp only [fn__law_raise, mkFn, b__law_raise, A__law_raise]
  have hs : smallI i = true := smallI_of (by omega) (by omega)
  have : ∃ e', forL (bName 2) (sSet 1 (fBin oMul (fC (.int 2)) (fVar 1))) (rngL 0 i.toNat) [some (.d (.int i)), some (.d (.int 1)), none] = some (.nx e') ∧ ∃ o, e' = [some (.d (.int i)), some (.d (.int (pw i.toNat))), o] := by
    refine for_rng (fun k e => ∃ o, e = [some (.d (.int i)), some (.d (.int (pw (k : Int)))), o]) ⟨none, rfl⟩ ?_
    rintro k e hk ⟨o, rfl⟩
    have h1 := pw_pos (k : Int)
    have h2 := pw_le (i := (k : Int)) (n := 190) (by omega)
    have h3 : mulC 2 (pw (k : Int)) = true := mulC_of (by omega) (by omega) (by omega) (by omega)
    simp [pw_succ, h3]
  obtain ⟨e', h1, o, rfl⟩ := this
  simp [h1, hs]
/-! ### the drawing -/
def GS : M → Prop
  | .st _ p c z => 0 ≤ p ∧ 0 ≤ c ∧ 0 ≤ z ∧ z < 2 ^ 32
  | _ => False
theorem f_take {st : M} {many : Int} (g : GS st) (h0 : 0 < many) (h1 : many < 2 ^ 100) :
    ∃ r st', fn__law_take [.m st, .d (.int many)] = some (.d (.int r), [.m st', .d (.int many)]) ∧ 0 ≤ r ∧ r < many ∧ GS st' := by
  cases st with
  | lst xs => exact g.elim
  | st ns p c z =>
    obtain ⟨g1, g2, g3, g4⟩ := g
    simp only [fn__law_take, mkFn, b__law_take, A__law_take]
    have hm : mulC z 48271 = true := mulC_of (by omega) (by omega) (by omega) (by omega)
    have hd3 : ∀ n, divC n 3 = true := fun n => divC_of (by omega) (by omega)
    have hdm : ∀ n, divC n many = true := fun n => divC_of (by omega) (by omega)
    have mod : ∀ n : Int, 0 ≤ n % many ∧ n % many < many := fun n => ⟨Int.emod_nonneg _ (by omega), Int.emod_lt_of_pos _ h0⟩
    have divs : ∀ n : Int, 0 ≤ n → 0 ≤ n / many := fun n hn => Int.ediv_nonneg hn (by omega)
    have seedR : ∀ n : Int, 0 ≤ n % 2147483647 ∧ n % 2147483647 < 2 ^ 32 := fun n => by omega
    by_cases hc : c = 0
    · subst hc
      by_cases hp : p < ns.length
      · obtain ⟨i, hi⟩ : ∃ i, getI ns p = some i := by
          unfold getI
          rw [if_pos g1]
          exact ⟨_, List.getElem?_eq_getElem (by omega)⟩
        generalize ha : (if i < 0 then -i else i) = a
        have ha0 : 0 ≤ a := by rw [← ha]; split <;> omega
        by_cases hs : a < 1000000000000000000
        · refine ⟨a % many, .st ns (p + 1) 0 z, ?_, (mod a).1, (mod a).2, by omega, by omega, g3, g4⟩
          simp -implicitDefEqProofs [hp, hi, ha, hs, h0]
        · have hn : 0 < a := by omega
          refine ⟨a % many, .st ns (p + 1) (a / many) z, ?_, (mod a).1, (mod a).2, by omega, divs a ha0, g3, g4⟩
          simp -implicitDefEqProofs [hp, hi, ha, hs, h0, hn, hdm]
      · refine ⟨_, .st ns p 0 ((z * 48271 + 11) % 2147483647), ?_, (mod ((z * 48271 + 11) % 2147483647 / 3)).1, (mod ((z * 48271 + 11) % 2147483647 / 3)).2, g1, g2, seedR _⟩
        simp -implicitDefEqProofs [hp, h0, hm, hd3]
    · have hn : 0 < c := by omega
      refine ⟨c % many, .st ns p (c / many) z, ?_, (mod c).1, (mod c).2, g1, divs c g2, g3, g4⟩
      simp -implicitDefEqProofs [hc, h0, hn, hdm]
theorem f_begin {ns : List Int} : ∃ z, fn__law_begin [.lk (.lst (ns.map D.int))] = some (.m (.st ns 0 0 z), [.lk (.lst (ns.map D.int))]) ∧ GS (.st ns 0 0 z) := by
  simp only [fn__law_begin, mkFn, b__law_begin, A__law_begin]
  have := for_list (b := bName 2) (f := sSet 1 (fBin oMod (fBin oAdd (fBin oAdd (fBin oMul (fVar 1) (fC (.int 69621))) (fBin oMod (fOp oInt (fCons (fVar 2) fNil)) (fC (.int 2147483629)))) (fC (.int 7))) (fC (.int 2147483647)))) (xs := ns.map D.int) (e := [some (.lk (.lst (ns.map D.int))), some (.d (.int 1)), none])
    (fun k e => ∃ z o, e = [some (.lk (.lst (ns.map D.int))), some (.d (.int z)), o] ∧ 0 ≤ z ∧ z < 2 ^ 32) ⟨1, none, rfl, by omega, by omega⟩ ?_
  · obtain ⟨e', h1, z, o, rfl, h2, h3⟩ := this
    refine ⟨z, ?_, by omega, by omega, h2, h3⟩
    simp -implicitDefEqProofs [h1]
  · rintro k x e hx ⟨z, o, rfl, h2, h3⟩
    rw [List.getElem?_map] at hx
    cases hn : ns[k]? with
    | none => rw [hn] at hx; cases hx
    | some i =>
      rw [hn] at hx
      cases hx
      have hm : mulC z 69621 = true := mulC_of (by omega) (by omega) (by omega) (by omega)
      refine ⟨_, _, rfl, ?_, (z * 69621 + i % 2147483629 + 7) % 2147483647, some (.d (.int i)), rfl, by omega, by omega⟩
      simp -implicitDefEqProofs [hm]


/-! ### forms -/
structure Fm (e p : Int) (Q T H L g : Nat) : Prop where
  e2 : 2 ≤ e
  e4 : e ≤ 4
  p1 : 1 ≤ p
  p4 : p ≤ 4
  hQ : pw p = Q
  hT : pw e = T
  hT2 : 2 * pw (e - 1) = T
  hH : pw (e + p) = H
  hS : pw (1 + e + p) = 2 * H
  hHQ : H = T * Q
  hL : (L : Int) = pw (e - 1) + p - 2
  hg : g + Q + 1 = H
  Q2 : 2 ≤ Q
  Q16 : Q ≤ 16
  T4 : 4 ≤ T
  T16 : T ≤ 16
  H256 : H ≤ 256
  L1 : 1 ≤ L
  L10 : L ≤ 10
  pL : p ≤ L
theorem fm_ok {e p : Int} (h1 : 2 ≤ e) (h2 : e ≤ 4) (h3 : 1 ≤ p) (h4 : p ≤ 4) : ∃ Q T H L g, Fm e p Q T H L g := by
  have he : e = 2 ∨ e = 3 ∨ e = 4 := by omega
  have hp : p = 1 ∨ p = 2 ∨ p = 3 ∨ p = 4 := by omega
  rcases he with rfl | rfl | rfl <;> rcases hp with rfl | rfl | rfl | rfl
  · exact ⟨2, 4, 8, 1, 5, by omega, by omega, by omega, by omega, by decide, by decide, by decide, by decide, by decide, by omega, by decide, by omega, by omega, by omega, by omega, by omega, by omega, by omega, by omega, by omega⟩
  · exact ⟨4, 4, 16, 2, 11, by omega, by omega, by omega, by omega, by decide, by decide, by decide, by decide, by decide, by omega, by decide, by omega, by omega, by omega, by omega, by omega, by omega, by omega, by omega, by omega⟩
  · exact ⟨8, 4, 32, 3, 23, by omega, by omega, by omega, by omega, by decide, by decide, by decide, by decide, by decide, by omega, by decide, by omega, by omega, by omega, by omega, by omega, by omega, by omega, by omega, by omega⟩
  · exact ⟨16, 4, 64, 4, 47, by omega, by omega, by omega, by omega, by decide, by decide, by decide, by decide, by decide, by omega, by decide, by omega, by omega, by omega, by omega, by omega, by omega, by omega, by omega, by omega⟩
  · exact ⟨2, 8, 16, 3, 13, by omega, by omega, by omega, by omega, by decide, by decide, by decide, by decide, by decide, by omega, by decide, by omega, by omega, by omega, by omega, by omega, by omega, by omega, by omega, by omega⟩
  · exact ⟨4, 8, 32, 4, 27, by omega, by omega, by omega, by omega, by decide, by decide, by decide, by decide, by decide, by omega, by decide, by omega, by omega, by omega, by omega, by omega, by omega, by omega, by omega, by omega⟩
  · exact ⟨8, 8, 64, 5, 55, by omega, by omega, by omega, by omega, by decide, by decide, by decide, by decide, by decide, by omega, by decide, by omega, by omega, by omega, by omega, by omega, by omega, by omega, by omega, by omega⟩
  · exact ⟨16, 8, 128, 6, 111, by omega, by omega, by omega, by omega, by decide, by decide, by decide, by decide, by decide, by omega, by decide, by omega, by omega, by omega, by omega, by omega, by omega, by omega, by omega, by omega⟩
  · exact ⟨2, 16, 32, 7, 29, by omega, by omega, by omega, by omega, by decide, by decide, by decide, by decide, by decide, by omega, by decide, by omega, by omega, by omega, by omega, by omega, by omega, by omega, by omega, by omega⟩
  · exact ⟨4, 16, 64, 8, 59, by omega, by omega, by omega, by omega, by decide, by decide, by decide, by decide, by decide, by omega, by decide, by omega, by omega, by omega, by omega, by omega, by omega, by omega, by omega, by omega⟩
  · exact ⟨8, 16, 128, 9, 119, by omega, by omega, by omega, by omega, by decide, by decide, by decide, by decide, by decide, by omega, by decide, by omega, by omega, by omega, by omega, by omega, by omega, by omega, by omega, by omega⟩
  · exact ⟨16, 16, 256, 10, 239, by omega, by omega, by omega, by omega, by decide, by decide, by decide, by decide, by decide, by omega, by decide, by omega, by omega, by omega, by omega, by omega, by omega, by omega, by omega, by omega⟩

abbrev fD (e p : Int) : D := .tup [.int e, .int p]
section
variable {e p : Int} {Q T H L g : Nat}
theorem f_check_form (h : Fm e p Q T H L g) : fn_check_form [.d (fD e p)] = some (.d .non, [.d (fD e p)]) := by
  have h1 := h.e2
  have h2 := h.e4
  have h3 := h.p1
  have h4 := h.p4
  have h5 : e ≤ 5 := by omega
  have h6 : p ≤ 8 := by omega
  simp -implicitDefEqProofs [fn_check_form, mkFn, b_check_form, A_check_form, h1, h3, h5, h6]
theorem f_bias (h : Fm e p Q T H L g) : fn_bias [.d (fD e p)] = some (.d (.int (pw (e - 1) - 1)), [.d (fD e p)]) := by
  have h1 := f_power_of (i := e - 1) (by have := h.e2; omega) (by have := h.e4; omega)
  simp -implicitDefEqProofs [fn_bias, mkFn, b_bias, A_bias, h1]
theorem f_least (h : Fm e p Q T H L g) : fn_least_power [.d (fD e p)] = some (.d (.int (-L)), [.d (fD e p)]) := by
  have h1 := f_bias h
  have h2 : 1 - (pw (e - 1) - 1) - p = -(L : Int) := by have := h.hL; omega
  simp -implicitDefEqProofs [fn_least_power, mkFn, b_least_power, A_least_power, h1, h2]
theorem f_size (h : Fm e p Q T H L g) : fn_size [.d (fD e p)] = some (.d (.int (2 * (H : Int))), [.d (fD e p)]) := by
  have h1 := f_power_of (i := 1 + e + p) (by have := h.e2; have := h.p1; omega) (by have := h.e4; have := h.p4; omega)
  rw [h.hS] at h1
  simp -implicitDefEqProofs [fn_size, mkFn, b_size, A_size, h1, f_check_form h]
/-- a code: its sign and the rest -/
structure Cd (H : Nat) (c : Int) (s m : Nat) : Prop where
  eq : c = s * H + m
  s1 : s ≤ 1
  mH : m < H
theorem Cd.rng {c : Int} {s m : Nat} (h : Cd H c s m) : 0 ≤ c ∧ c < 2 * (H : Int) := by
  have := h.eq
  have := h.mH
  have h1 := h.s1
  have : s = 0 ∨ s = 1 := by omega
  rcases this with rfl | rfl <;> omega
theorem cd_of {c : Int} (h0 : 0 ≤ c) (h1 : c < 2 * (H : Int)) : ∃ s m, Cd H c s m := by
  by_cases z : c < H
  · exact ⟨0, c.toNat, by omega, by omega, by omega⟩
  · exact ⟨1, (c - H).toNat, by omega, by omega, by omega⟩
theorem f_check_code (h : Fm e p Q T H L g) {c : Int} {s m : Nat} (hc : Cd H c s m) : fn_check_code [.d (fD e p), .d (.int c)] = some (.d .non, [.d (fD e p), .d (.int c)]) := by
  have h1 := hc.rng
  simp -implicitDefEqProofs [fn_check_code, mkFn, b_check_code, A_check_code, f_check_form h, f_size h, h1.1, h1.2]
theorem f_parts (h : Fm e p Q T H L g) {c : Int} {s m : Nat} (hc : Cd H c s m) : fn_parts [.d (fD e p), .d (.int c)] = some (.d (.tup [.int s, .int (m / Q : Nat), .int (m % Q : Nat)]), [.d (fD e p), .d (.int c)]) := by
  simp only [fn_parts, mkFn, b_parts, A_parts]
  have a1 := f_power_of (i := e + p) (by have := h.e2; have := h.p1; omega) (by have := h.e4; have := h.p4; omega)
  have a2 := f_power_of (i := p) (by have := h.p1; omega) (by have := h.p4; omega)
  have a3 := f_power_of (i := e) (by have := h.e2; omega) (by have := h.e4; omega)
  rw [h.hH] at a1
  rw [h.hQ] at a2
  rw [h.hT] at a3
  have q := h.Q2
  have t := h.T4
  have H0 : 0 < H := by rw [h.hHQ]; exact Nat.mul_pos (by omega) (by omega)
  have e1 : c / (H : Int) = s := (dm (q := (s : Int)) (r := (m : Int)) (by rw [hc.eq]; grind) (by omega) (by have := hc.mH; omega)).1
  have hm := Nat.div_add_mod m Q
  have hp := Nat.mod_lt m (show 0 < Q by omega)
  have hd : m / Q < T := by
    rw [Nat.div_lt_iff_lt_mul (by omega), ← h.hHQ]
    exact hc.mH
  have hce := hc.eq
  have hh := h.hHQ
  have hcc := f_check_code h hc
  generalize m / Q = x at *
  generalize m % Q = y at *
  have e2 := dm (a := c) (b := (Q : Int)) (q := s * T + x) (r := y) (by
    rw [hce, ← hm, hh]
    push_cast
    grind) (by omega) (by omega)
  have e3 : ((s : Int) * T + x) % (T : Int) = x := (dm (b := (T : Int)) (q := s) (r := (x : Int)) (by grind) (by omega) (by omega)).2
  have i1 : (0 : Int) < Q := by omega
  have i2 : (0 : Int) < T := by omega
  have i3 : (0 : Int) < H := by omega
  have d1 : ∀ n, divC n (Q : Int) = true := fun n => divC_of i1 (by have := h.Q16; omega)
  have d2 : ∀ n, divC n (H : Int) = true := fun n => divC_of i3 (by have := h.H256; omega)
  have z3 : 3 ≤ sizeLine := smallT (by decide)
  generalize fn_power_of = F at *
  generalize fn_check_code = G at *
  generalize (x : Int) = x' at *
  generalize (y : Int) = y' at *
  generalize (Q : Int) = q' at *
  generalize (T : Int) = t' at *
  generalize (H : Int) = h' at *
  generalize (s : Int) = s' at *
  simp -implicitDefEqProofs [hcc, a1, a2, a3, e1, e2.1, e2.2, e3, i1, i2, i3, d1, d2, z3]
end
end K43
end

section
set_option Elab.async false
set_option linter.all false
set_option maxRecDepth 100000
set_option maxHeartbeats 4000000
namespace K43
open PySem PySem.Spec PyProof.Rows L2 QL
section
variable {e p : Int} {Q T H L g : Nat}
def kd (Q g m : Nat) : Str := if m ≤ g then (if m = 0 then PySem.Str.ofString "nought" else if m < Q then PySem.Str.ofString "small" else PySem.Str.ofString "full") else if m = g + 1 then PySem.Str.ofString "endless" else PySem.Str.ofString "none"
/-- exponent and places -/
structure Ep (Q T g m x y : Nat) : Prop where
  hx : m / Q = x
  hy : m % Q = y
  hm : Q * x + y = m
  hyQ : y < Q
  hxT : x < T
  fin : m ≤ g ↔ x + 1 < T
  sub : m < Q ↔ x = 0
  non : x = 0 → y = m
  top : x + 1 = T → (y = 0 ↔ m = g + 1)
theorem ep_of (h : Fm e p Q T H L g) {m : Nat} (hm : m < H) : ∃ x y, Ep Q T g m x y := by
  have q := h.Q2
  have t := h.T4
  have h1 := Nat.div_add_mod m Q
  have h2 := Nat.mod_lt m (show 0 < Q by omega)
  have h3 : m / Q < T := by
    rw [Nat.div_lt_iff_lt_mul (by omega), ← h.hHQ]
    exact hm
  have hh := h.hHQ
  have hg := h.hg
  obtain ⟨t', rfl⟩ : ∃ t', T = t' + 1 := ⟨T - 1, by omega⟩
  have e1 : (t' + 1) * Q = Q * t' + Q := by rw [Nat.add_mul, Nat.mul_comm]; omega
  have key : ∀ x, x < t' → Q * x + Q ≤ Q * t' := fun x hx => by
    have := Nat.mul_le_mul_left Q (show x + 1 ≤ t' by omega)
    rwa [Nat.mul_succ] at this
  have key0 : ∀ x, 0 < x → Q ≤ Q * x := fun x hx => Nat.le_mul_of_pos_right Q hx
  refine ⟨m / Q, m % Q, rfl, rfl, h1, h2, h3, ?_, ?_, ?_, ?_⟩
  all_goals generalize m / Q = x at *
  all_goals generalize m % Q = y at *
  · constructor
    · intro hm'
      by_cases z : x < t'
      · omega
      · have : x = t' := by omega
        subst this
        omega
    · intro hx
      have := key x (by omega)
      omega
  · constructor
    · intro hm'
      by_cases z : x = 0
      · exact z
      · have := key0 x (by omega)
        omega
    · intro z
      subst z
      simp at h1
      omega
  · intro z
    subst z
    simp at h1
    exact h1
  · intro z
    have : x = t' := by omega
    subst this
    omega
theorem f_kind (h : Fm e p Q T H L g) {c : Int} {s m : Nat} (hc : Cd H c s m) : fn_kind [.d (fD e p), .d (.int c)] = some (.d (.str (kd Q g m)), [.d (fD e p), .d (.int c)]) := by
  simp only [fn_kind, mkFn, b_kind, A_kind]
  obtain ⟨x, y, E⟩ := ep_of h hc.mH
  have a1 := f_parts h hc
  have a3 := f_power_of (i := e) (by have := h.e2; omega) (by have := h.e4; omega)
  rw [h.hT] at a3
  rw [E.hx, E.hy] at a1
  have t := h.T4
  have q := h.Q2
  have f1 := E.fin
  have f2 := E.sub
  have f3 := E.non
  have f4 := E.top
  have hxT := E.hxT
  have g1 := h.hg
  generalize fn_power_of = F at *
  generalize fn_parts = G at *
  unfold kd
  have c1 : ((x : Int) = T - 1) ↔ ¬ m ≤ g := by omega
  have c2 : x = 0 ↔ m < Q := by omega
  by_cases z : m ≤ g
  · by_cases z2 : m = 0
    · have : y = 0 := by have := f3 (by omega); omega
      simp -implicitDefEqProofs [a1, a3, c1, c2, z, z2, this, show 0 < Q by omega]
    · by_cases z3 : m < Q
      · have : ¬ y = 0 := by have := f3 (by omega); omega
        simp -implicitDefEqProofs [a1, a3, c1, c2, z, z2, z3, this]
      · simp -implicitDefEqProofs [a1, a3, c1, c2, z, z2, z3]
  · by_cases z2 : m = g + 1
    · have : y = 0 := by have := f4 (by omega); omega
      rw [if_neg z, if_pos z2]
      simp -implicitDefEqProofs [a1, a3, c1, c2, z, this]
    · have : ¬ y = 0 := by have := f4 (by omega); omega
      simp -implicitDefEqProofs [a1, a3, c1, c2, z, z2, this]
abbrev rT : Fn1 Bool := fTru (fVar 3)
abbrev rB : FS := (sPar 2 3 (fCons (fVar 3) (fCons (fBin oMod (fVar 2) (fVar 3)) fNil)))
theorem f_reduced {t b : Int} (h1 : -(2 ^ 90) < t) (h2 : t < 2 ^ 90) (h3 : 0 < b) (h4 : b < 2 ^ 90) : fn_reduced [.d (.int t), .d (.int b)] = some (.d (.tup [.int (red t b).1, .int (red t b).2]), [.d (.int t), .d (.int b)]) := by
  simp only [fn_reduced, mkFn, b_reduced, A_reduced]
  have : ∃ e', whileN rT rB (fuel0 [some (.d (.int t)), some (.d (.int b)), some (.d (.int (t.natAbs : Nat))), some (.d (.int (b.natAbs : Nat)))]) [some (.d (.int t)), some (.d (.int b)), some (.d (.int (t.natAbs : Nat))), some (.d (.int (b.natAbs : Nat)))] = some (.nx e') ∧
      e' = [some (.d (.int t)), some (.d (.int b)), some (.d (.int (gc t b))), some (.d (.int 0))] := by
    refine while0 (fun m e => ∃ x y : Nat, e = [some (.d (.int t)), some (.d (.int b)), some (.d (.int x)), some (.d (.int y))] ∧ Nat.gcd x y = Int.gcd t b ∧ ((y ≤ x ∧ (x + y) * 2 ^ m ≤ 3 ^ m) ∨ ∃ k, m = k + 1 ∧ (x + y) * 2 ^ k ≤ 3 ^ k)) _ 201 (by decide) ⟨t.natAbs, b.natAbs, rfl, rfl, .inr ⟨200, rfl, ?_⟩⟩ ?_
    · have : t.natAbs + b.natAbs ≤ 2 ^ 92 := by omega
      exact Nat.le_trans (Nat.mul_le_mul_right _ this) (by decide +kernel)
    · rintro m e ⟨x, y, rfl, hg, hm⟩
      by_cases z : y = 0
      · subst z
        refine .inl ⟨[some (.d (.int t)), some (.d (.int b)), some (.d (.int x)), some (.d (.int (0 : Nat)))], by simp, ?_⟩
        rw [Nat.gcd_zero_right] at hg
        rw [hg]
        rfl
      · have hgr : Nat.gcd y (x % y) = Int.gcd t b := by
          rw [← hg, Nat.gcd_comm x y, Nat.gcd_rec y x, Nat.gcd_comm]
        have t1 : rT [some (.d (.int t)), some (.d (.int b)), some (.d (.int x)), some (.d (.int y))] = some (true, [some (.d (.int t)), some (.d (.int b)), some (.d (.int x)), some (.d (.int y))]) := by
          simp [z]
        have hy0 : 0 < y := by omega
        have hr := Nat.mod_lt x hy0
        have t2 : rB [some (.d (.int t)), some (.d (.int b)), some (.d (.int x)), some (.d (.int y))] = some (.nx [some (.d (.int t)), some (.d (.int b)), some (.d (.int y)), some (.d (.int (x % y : Nat)))]) := by
          simp [hy0]
        have sml : ∀ k, y ≤ x → (x + y) * 2 ^ (k + 1) ≤ 3 ^ (k + 1) → (y + x % y) * 2 ^ k ≤ 3 ^ k := fun k hyx hk => by
          have h5 : 3 * (y + x % y) ≤ 2 * (x + y) := by
            have := Nat.div_add_mod x y
            have : 1 ≤ x / y := (Nat.one_le_div_iff hy0).mpr hyx
            have := Nat.le_mul_of_pos_right y this
            omega
          rw [Nat.pow_succ, Nat.pow_succ] at hk
          have h6 := Nat.mul_le_mul_right (2 ^ k) h5
          generalize 2 ^ k = A at *
          generalize 3 ^ k = B at *
          have h7 : (x + y) * (A * 2) = 2 * (x + y) * A := by grind
          have h8 : 3 * (y + x % y) * A = 3 * ((y + x % y) * A) := by grind
          omega
        rcases hm with ⟨hyx, hm⟩ | ⟨k, rfl, hk⟩
        · cases m with
          | zero => simp at hm; omega
          | succ m => exact .inr ⟨_, _, m, t1, t2, by omega, y, x % y, rfl, hgr, .inl ⟨by omega, sml m hyx hm⟩⟩
        · by_cases hyx : y ≤ x
          · cases k with
            | zero => simp at hk; omega
            | succ k => exact .inr ⟨_, _, k, t1, t2, by omega, y, x % y, rfl, hgr, .inl ⟨by omega, sml k hyx hk⟩⟩
          · have e1 : x % y = x := Nat.mod_eq_of_lt (by omega)
            refine .inr ⟨_, _, k, t1, t2, by omega, y, x % y, rfl, hgr, .inl ⟨by omega, ?_⟩⟩
            rw [e1, Nat.add_comm]
            exact hk
  obtain ⟨e', u, rfl⟩ := this
  have hg := gc_pos (t := t) h3
  have hgb : gc t b < 2 ^ 91 := by
    have := gc_r t b
    have : gc t b ≤ b := Int.le_of_dvd h3 (Int.gcd_dvd_right ..)
    omega
  have hd : ∀ n, divC n (gc t b) = true := fun n => divC_of hg (by omega)
  have e1 : (if t < 0 then -t else t) = (t.natAbs : Nat) := by split <;> omega
  have e2 : (if b < 0 then -b else b) = (b.natAbs : Nat) := by split <;> omega
  have z2 : 2 ≤ sizeLine := smallT (by decide)
  unfold red
  generalize gc t b = G at *
  generalize ht : ((t.natAbs : Nat) : Int) = ta at *
  generalize hb : ((b.natAbs : Nat) : Int) = ba at *
  simp -implicitDefEqProofs [e1, e2, u, hg, hd, z2]
end
end K43
end

section
set_option Elab.async false
set_option linter.all false
set_option maxRecDepth 100000
set_option maxHeartbeats 4000000
namespace K43
open PySem PySem.Spec PyProof.Rows L2 QL
section
variable {e p : Int} {Q T H L g : Nat}
def sV (s v : Nat) : Int := if s = 1 then -(v : Int) else v
theorem V_wv {Q m x y : Nat} (h1 : m / Q = x) (h2 : m % Q = y) : V Q m = (if x = 0 then y else y + Q) * 2 ^ (x - 1) := by
  unfold V U
  rw [h1, h2]
  by_cases z : x = 0
  · rw [if_pos z, if_pos z, z]; simp
  · rw [if_neg z, if_neg z, Nat.add_comm]
theorem V_bound (h : Fm e p Q T H L g) {m : Nat} (hm : m < H) : V Q m ≤ 2 ^ 20 := by
  obtain ⟨x, y, E⟩ := ep_of h hm
  rw [V_wv E.hx E.hy]
  have h1 := E.hxT
  have h2 := h.T16
  have h3 := E.hyQ
  have h4 := h.Q16
  have h5 : 2 ^ (x - 1) ≤ 2 ^ 14 := Nat.pow_le_pow_right (by decide) (by omega)
  have h6 : (if x = 0 then y else y + Q) ≤ 2 ^ 5 := by split <;> omega
  exact Nat.le_trans (Nat.mul_le_mul h6 h5) (by decide)
theorem pL_pos (L : Nat) : (0 : Int) < 2 ^ L := Int.pow_pos (by decide)
theorem pL_le {L : Nat} (h : L ≤ 10) : (2 : Int) ^ L ≤ 1024 := by
  have : (2 : Nat) ^ L ≤ 2 ^ 10 := Nat.pow_le_pow_right (by decide) h
  exact_mod_cast this
theorem f_value_none (h : Fm e p Q T H L g) {c : Int} {s m : Nat} (hc : Cd H c s m) (hm : g < m) : fn_value [.d (fD e p), .d (.int c)] = some (.d .non, [.d (fD e p), .d (.int c)]) := by
  simp only [fn_value, mkFn, b_value, A_value]
  have a1 := f_kind h hc
  have z2 : 2 ≤ sizeLine := smallT (by decide)
  unfold kd at a1
  rw [if_neg (by omega)] at a1
  generalize fn_kind = F at *
  by_cases z : m = g + 1
  · rw [if_pos z] at a1
    simp -implicitDefEqProofs [a1, z2]
  · rw [if_neg z] at a1
    simp -implicitDefEqProofs [a1, z2]
theorem kd_fin {m : Nat} (hm : m ≤ g) : (kd Q g m == PySem.Str.ofString "none") = false ∧ (kd Q g m == PySem.Str.ofString "endless") = false ∧ (PySem.Str.ofString "none" == kd Q g m) = false ∧ (PySem.Str.ofString "endless" == kd Q g m) = false ∧ PyData.canLay0 (.str (kd Q g m)) = true := by
  unfold kd
  rw [if_pos hm]
  (repeat' split) <;> simp
theorem f_value (h : Fm e p Q T H L g) {c : Int} {s m : Nat} (hc : Cd H c s m) (hm : m ≤ g) :
    fn_value [.d (fD e p), .d (.int c)] = some (.d (.tup [.int (red (sV s (V Q m)) (2 ^ L)).1, .int (red (sV s (V Q m)) (2 ^ L)).2]), [.d (fD e p), .d (.int c)]) := by
  simp only [fn_value, mkFn, b_value, A_value]
  obtain ⟨x, y, E⟩ := ep_of h hc.mH
  have a1 := f_kind h hc
  have k1 := kd_fin (Q := Q) hm
  have a2 := f_parts h hc
  rw [E.hx, E.hy] at a2
  have a3 := f_power_of (i := p) (by have := h.p1; omega) (by have := h.p4; omega)
  rw [h.hQ] at a3
  have a4 := f_least h
  have hxT := E.hxT
  have hyQ := E.hyQ
  have Q16 := h.Q16
  have T16 := h.T16
  have L10 := h.L10
  have a5 : ∀ i : Int, 0 ≤ i → i < 32 → fn_power_of [.d (.int i)] = some (.d (.int (pw i)), [.d (.int i)]) := fun i h1 h2 => f_power_of (by omega) (by omega)
  have a6 := @f_reduced
  have z2 : 2 ≤ sizeLine := smallT (by decide)
  obtain ⟨w, hw⟩ : ∃ w : Nat, w = x - 1 := ⟨_, rfl⟩
  have hmx : (if (0 : Int) > (x : Int) - 1 then (0 : Int) else (x : Int) - 1) = w := by split <;> omega
  obtain ⟨wv, hwv⟩ : ∃ wv : Nat, wv = (if x = 0 then y else y + Q) := ⟨_, rfl⟩
  have hV := V_wv (Q := Q) E.hx E.hy
  rw [← hwv, ← hw] at hV
  have hwb : wv ≤ 32 := by rw [hwv]; split <;> omega
  have hwi : (if x = 0 then (y : Int) else (y : Int) + Q) = wv := by rw [hwv]; split <;> simp
  -- the answer
  have key : (0 ≤ -(L : Int) + w → red (sV s (V Q m)) (2 ^ L) = (sV s wv * pw (-(L : Int) + w), 1)) ∧ (¬ 0 ≤ -(L : Int) + w → red (sV s (V Q m)) (2 ^ L) = red (sV s wv) (pw (0 - (-(L : Int) + w)))) := by
    have hs : sV s (V Q m) = sV s wv * 2 ^ w := by
      rw [hV]
      unfold sV
      split <;> push_cast <;> grind
    constructor
    · intro z
      obtain ⟨k, hk⟩ : ∃ k : Nat, w = L + k := ⟨w - L, by omega⟩
      rw [hs, hk, Int.pow_add, show -(L : Int) + ((L + k : Nat) : Int) = (k : Int) by omega, pw_nat]
      rw [show sV s wv * (2 ^ L * 2 ^ k) = (sV s wv * ((2 ^ k : Nat) : Int)) * 2 ^ L by push_cast; grind]
      exact red_whole (pL_pos L)
    · intro z
      obtain ⟨k, hk⟩ : ∃ k : Nat, L = w + k := ⟨L - w, by omega⟩
      rw [hs, hk, Int.pow_add, show 0 - (-((w + k : Nat) : Int) + (w : Int)) = (k : Int) by omega, pw_nat, Int.mul_comm (2 ^ w)]
      exact red_scale (pL_pos w) (by push_cast; exact pL_pos k)
  have hs1 := hc.s1
  have hsw : -32 ≤ sV s wv ∧ sV s wv ≤ 32 := by unfold sV; split <;> omega
  have hsg : (if s = 1 then (0 : Int) - wv else wv) = sV s wv := by unfold sV; split <;> simp
  generalize fn_power_of = F at *
  generalize fn_kind = F1 at *
  generalize fn_parts = F2 at *
  generalize fn_least_power = F3 at *
  generalize fn_reduced = F4 at *
  generalize sV s (V Q m) = TT at *
  generalize sV s wv = W at *
  clear hV hwv hw E
  have cx : (x = 0) ↔ ((x : Int) = 0) := by omega
  have cs : (s = 1) ↔ ((s : Int) = 1) := by omega
  simp only [cx] at hwi
  simp only [cs] at hsg
  have hpb : -10 ≤ -(L : Int) + w ∧ -(L : Int) + w ≤ 14 := by omega
  clear cx cs hc hs1 hxT hyQ
  generalize (x : Int) = xi at *
  generalize (y : Int) = yi at *
  generalize (s : Int) = si at *
  generalize (Q : Int) = qi at *
  generalize (wv : Int) = vi at *
  generalize hpi : -(L : Int) + w = pi at *
  generalize -(L : Int) = li at *
  generalize (w : Int) = wi at *
  have fin : ∀ vv, (xi = 0 → vv = yi) → (¬ xi = 0 → vv = yi + qi) → vv = vi := fun vv h1 h2 => by
    by_cases z : xi = 0
    · rw [h1 z, ← hwi, if_pos z]
    · rw [h2 z, ← hwi, if_neg z]
  by_cases zx : xi = 0 <;> by_cases zs : si = 1 <;> by_cases z : 0 ≤ pi
  all_goals first | rw [if_pos zx] at hwi | rw [if_neg zx] at hwi
  all_goals first | rw [if_pos zs] at hsg | rw [if_neg zs] at hsg
  all_goals first
  | have b1 := a5 pi z (by omega)
    have b2 := pw_le (i := pi) (n := 14) (by omega)
    have b3 := pw_pos pi
    have b4 : mulC W (pw pi) = true := mulC_of (by omega) (by omega) (by omega) (by omega)
    rw [key.1 z]
    first
    | simp -implicitDefEqProofs [a1, k1, a2, a3, a4, hmx, hwi, hsg, eq_true zx, eq_true zs, eq_true z, z2, b1, b4, hpi]
      done
    | simp -implicitDefEqProofs [a1, k1, a2, a3, a4, hmx, hwi, hsg, eq_true zx, eq_false zs, eq_true z, z2, b1, b4, hpi]
      done
    | simp -implicitDefEqProofs [a1, k1, a2, a3, a4, hmx, hwi, hsg, eq_false zx, eq_true zs, eq_true z, z2, b1, b4, hpi]
      done
    | simp -implicitDefEqProofs [a1, k1, a2, a3, a4, hmx, hwi, hsg, eq_false zx, eq_false zs, eq_true z, z2, b1, b4, hpi]
      done
  | have b1 := a5 (0 - pi) (by omega) (by omega)
    have b2 := pw_le (i := 0 - pi) (n := 14) (by omega)
    have b3 := pw_pos (0 - pi)
    have b4 := a6 (t := W) (b := pw (0 - pi)) (by omega) (by omega) (by omega) (by omega)
    rw [key.2 z]
    rw [Int.zero_sub] at *
    first
    | simp -implicitDefEqProofs [a1, k1, a2, a3, a4, hmx, hwi, hsg, eq_true zx, eq_true zs, eq_false z, z2, b1, b4, hpi]
      done
    | simp -implicitDefEqProofs [a1, k1, a2, a3, a4, hmx, hwi, hsg, eq_true zx, eq_false zs, eq_false z, z2, b1, b4, hpi]
      done
    | simp -implicitDefEqProofs [a1, k1, a2, a3, a4, hmx, hwi, hsg, eq_false zx, eq_true zs, eq_false z, z2, b1, b4, hpi]
      done
    | simp -implicitDefEqProofs [a1, k1, a2, a3, a4, hmx, hwi, hsg, eq_false zx, eq_false zs, eq_false z, z2, b1, b4, hpi]
      done
end
end K43
end

section
set_option Elab.async false
set_option linter.all false
set_option maxRecDepth 100000
set_option maxHeartbeats 4000000
namespace K43
open PySem PySem.Spec PyProof.Rows L2 QL
section
variable {e p : Int} {Q T H L g : Nat}
theorem f_greatest (h : Fm e p Q T H L g) : fn_greatest [.d (fD e p)] = some (.d (.int g), [.d (fD e p)]) := by
  have a1 := f_power_of (i := e + p) (by have := h.e2; have := h.p1; omega) (by have := h.e4; have := h.p4; omega)
  have a2 := f_power_of (i := p) (by have := h.p1; omega) (by have := h.p4; omega)
  rw [h.hH] at a1
  rw [h.hQ] at a2
  have e1 : (H : Int) - Q - 1 = g := by have := h.hg; omega
  simp -implicitDefEqProofs [fn_greatest, mkFn, b_greatest, A_greatest, f_check_form h, a1, a2, e1]
theorem f_endless (h : Fm e p Q T H L g) {s : Nat} (hs : s ≤ 1) : fn_endless [.d (fD e p), .d (.int s)] = some (.d (.int (s * H + g + 1)), [.d (fD e p), .d (.int s)]) := by
  have a1 := f_power_of (i := e + p) (by have := h.e2; have := h.p1; omega) (by have := h.e4; have := h.p4; omega)
  have a2 := f_power_of (i := p) (by have := h.p1; omega) (by have := h.p4; omega)
  rw [h.hH] at a1
  rw [h.hQ] at a2
  have := h.H256
  have m1 : mulC (s : Int) (H : Int) = true := mulC_of (by omega) (by omega) (by omega) (by omega)
  have e1 : (s : Int) * H + H - Q = s * H + g + 1 := by have := h.hg; omega
  generalize (s : Int) = si at *
  simp -implicitDefEqProofs [fn_endless, mkFn, b_endless, A_endless, a1, a2, m1, e1]
theorem f_signed (h : Fm e p Q T H L g) {s : Nat} (hs : s ≤ 1) : fn_signed_nought [.d (fD e p), .d (.int s)] = some (.d (.int (s * H)), [.d (fD e p), .d (.int s)]) := by
  have a1 := f_power_of (i := e + p) (by have := h.e2; have := h.p1; omega) (by have := h.e4; have := h.p4; omega)
  rw [h.hH] at a1
  have := h.H256
  have m1 : mulC (s : Int) (H : Int) = true := mulC_of (by omega) (by omega) (by omega) (by omega)
  generalize (s : Int) = si at *
  simp -implicitDefEqProofs [fn_signed_nought, mkFn, b_signed_nought, A_signed_nought, a1, m1]
theorem cmp_le {n d v Z t b : Int} (hc : n * Z = v * d) (hd : 0 < d) (hZ : 0 < Z) : n * b ≤ t * d ↔ v * b ≤ t * Z := by
  rw [← Int.mul_le_mul_right hZ, ← Int.mul_le_mul_right hd (b := v * b)]
  rw [show n * b * Z = n * Z * b by grind, hc, show v * d * b = v * b * d by grind, show t * d * Z = t * Z * d by grind]
theorem cmp_eq {n d v Z t b : Int} (hc : n * Z = v * d) (hd : 0 < d) (hZ : 0 < Z) : n * b = t * d ↔ v * b = t * Z := by
  constructor
  · intro h
    refine Int.eq_of_mul_eq_mul_right (show d ≠ 0 by omega) ?_
    rw [show v * b * d = v * d * b by grind, ← hc, show n * Z * b = n * b * Z by grind, h]
    grind
  · intro h
    refine Int.eq_of_mul_eq_mul_right (show Z ≠ 0 by omega) ?_
    rw [show n * b * Z = n * Z * b by grind, hc, show v * d * b = v * b * d by grind, h]
    grind
theorem cmp_lt {n d v Z t b : Int} (hc : n * Z = v * d) (hd : 0 < d) (hZ : 0 < Z) : n * b < t * d ↔ v * b < t * Z := by
  have h1 := cmp_le (t := t) (b := b) hc hd hZ
  have h2 := cmp_eq (t := t) (b := b) hc hd hZ
  omega
theorem cd_pos (h : Fm e p Q T H L g) {m : Nat} (hm : m ≤ g) : Cd H (m : Int) 0 m := ⟨by omega, by omega, by have := h.hg; omega⟩
theorem sV0 (v : Nat) : sV 0 v = v := rfl
theorem red_b {h : Fm e p Q T H L g} {s v : Nat} (hv : v ≤ 2 ^ 20) : -(2 ^ 20) ≤ (red (sV s v) (2 ^ L)).1 ∧ (red (sV s v) (2 ^ L)).1 ≤ 2 ^ 20 ∧ 0 < (red (sV s v) (2 ^ L)).2 ∧ (red (sV s v) (2 ^ L)).2 ≤ 1024 := by
  have h1 := red_bound (t := sV s v) (pL_pos L)
  have h2 := red_pos (t := sV s v) (pL_pos L)
  have h3 := pL_le h.L10
  have h4 : (sV s v).natAbs = v := by unfold sV; split <;> omega
  rw [h4] at h1
  omega
abbrev flT : Fn1 Bool := (fTB (fBin oGt (fBin oSub (fVar 4) (fVar 3)) (fC (.int 1))))
abbrev flB (F : FnS) : FS := (sSeq (sSet 6 (fBin oDiv (fBin oAdd (fVar 3) (fVar 4)) (fC (.int 2))))
  (sSeq (sSet 5 (fCall F (fCons (fVar 0) (fCons (fVar 6) fNil))))
  (sIf (fTB (fBin oLe (fBin oMul (fBin oIx (fVar 5) (fC (.int 0))) (fVar 2)) (fBin oMul (fVar 1) (fBin oIx (fVar 5) (fC (.int 1))))))
  (sSet 3 (fVar 6))
  (sSet 4 (fVar 6)))))
@[simp] theorem divC_two {n : Int} : divC n 2 = true := divC_of (by omega) (by omega)
theorem f_floor (h : Fm e p Q T H L g) {t b : Int} (t0 : 0 ≤ t) (t1 : t < 2 ^ 90) (b0 : 0 < b) (b1 : b < 2 ^ 90) :
    ∃ low, IsF Q g L t b low ∧ fn_floor_code [.d (fD e p), .d (.int t), .d (.int b)] = some (.d (.tup [.int (low : Nat), .bl (decide ((V Q low : Int) * b = t * 2 ^ L))]), [.d (fD e p), .d (.int t), .d (.int b)]) := by
  simp only [fn_floor_code, mkFn, b_floor_code, A_floor_code]
  have a1 := f_greatest h
  have a2 : ∀ m : Nat, m ≤ g → fn_value [.d (fD e p), .d (.int m)] = _ := fun m hm => f_value h (cd_pos h hm) hm
  simp only [sV0] at a2
  have hQ0 : 0 < Q := by have := h.Q2; omega
  have hZ := pL_pos L
  have bnd : ∀ m : Nat, m ≤ g → -(2 ^ 20) ≤ (red (V Q m) (2 ^ L)).1 ∧ (red (V Q m) (2 ^ L)).1 ≤ 2 ^ 20 ∧ 0 < (red (V Q m) (2 ^ L)).2 ∧ (red (V Q m) (2 ^ L)).2 ≤ 1024 := fun m hm =>
    red_b (h := h) (s := 0) (V_bound h (by have := h.hg; omega))
  have crs : ∀ m : Nat, (red (V Q m) (2 ^ L)).1 * 2 ^ L = V Q m * (red (V Q m) (2 ^ L)).2 := fun m => red_cross
  have g256 : g ≤ 256 := by have := h.hg; have := h.H256; omega
  generalize fn_greatest = F1 at *
  generalize fn_value = F2 at *
  have : ∃ e', whileN flT (flB F2) (fuel0 [some (.d (fD e p)), some (.d (.int t)), some (.d (.int b)), some (.d (.int 0)), some (.d (.int ((g : Int) + 1))), none, none]) [some (.d (fD e p)), some (.d (.int t)), some (.d (.int b)), some (.d (.int 0)), some (.d (.int ((g : Int) + 1))), none, none] = some (.nx e') ∧
      ∃ (low : Nat) (o5 o6 : Option S) (o4 : Option S), e' = [some (.d (fD e p)), some (.d (.int t)), some (.d (.int b)), some (.d (.int low)), o4, o5, o6] ∧ IsF Q g L t b low := by
    refine while0 (fun k e0 => ∃ (low high : Nat) (o5 o6 : Option S), e0 = [some (.d (fD e p)), some (.d (.int t)), some (.d (.int b)), some (.d (.int low)), some (.d (.int high)), o5, o6] ∧ low < high ∧ high ≤ g + 1 ∧ (V Q low : Int) * b ≤ t * 2 ^ L ∧ (high ≤ g → t * 2 ^ L < (V Q high : Int) * b) ∧ high - low = k) _ (g + 1) (by omega) ⟨0, g + 1, none, none, by simp, by omega, by omega, ?_, by omega, by omega⟩ ?_
    · rw [V_zero hQ0]
      have := Int.mul_nonneg t0 (show (0 : Int) ≤ 2 ^ L by omega)
      simpa using this
    · rintro k e0 ⟨low, high, o5, o6, rfl, h1, h2, h3, h4, rfl⟩
      by_cases z : high - low ≤ 1
      · have zi : ¬ (1 : Int) < (high : Int) - low := by omega
        have e1 : high = low + 1 := by omega
        refine .inl ⟨_, by simp -implicitDefEqProofs [zi], low, o5, o6, some (.d (.int high)), rfl, ⟨by omega, h3, fun q => ?_⟩⟩
        rw [← e1]
        exact h4 (by omega)
      · have zi : (1 : Int) < (high : Int) - low := by omega
        obtain ⟨mid, hmid⟩ : ∃ mid : Nat, mid = (low + high) / 2 := ⟨_, rfl⟩
        have emid : ((low : Int) + high) / 2 = mid := by omega
        have v1 := a2 mid (by omega)
        have v2 := bnd mid (by omega)
        have v3 := cmp_le (t := t) (b := b) (crs mid) v2.2.2.1 hZ
        generalize (red (V Q mid) (2 ^ L)).1 = n at *
        generalize (red (V Q mid) (2 ^ L)).2 = d at *
        have m1 : mulC n b = true := mulC_of (by omega) (by omega) (by omega) (by omega)
        have m2 : mulC t d = true := mulC_of (by omega) (by omega) (by omega) (by omega)
        have tt : flT [some (.d (fD e p)), some (.d (.int t)), some (.d (.int b)), some (.d (.int low)), some (.d (.int high)), o5, o6] = some (true, [some (.d (fD e p)), some (.d (.int t)), some (.d (.int b)), some (.d (.int low)), some (.d (.int high)), o5, o6]) := by
          simp -implicitDefEqProofs [zi]
        by_cases q : n * b ≤ t * d
        · refine .inr ⟨_, [some (.d (fD e p)), some (.d (.int t)), some (.d (.int b)), some (.d (.int mid)), some (.d (.int high)), some (.d (.tup [.int n, .int d])), some (.d (.int mid))], high - mid, tt, ?_, by omega, mid, high, _, _, rfl, by omega, h2, v3.mp q, h4, rfl⟩
          generalize (mid : Int) = mi at *
          generalize (low : Int) = li at *
          generalize (high : Int) = hi at *
          simp -implicitDefEqProofs [emid, v1, m1, m2, q]
        · refine .inr ⟨_, [some (.d (fD e p)), some (.d (.int t)), some (.d (.int b)), some (.d (.int low)), some (.d (.int mid)), some (.d (.tup [.int n, .int d])), some (.d (.int mid))], mid - low, tt, ?_, by omega, low, mid, _, _, rfl, by omega, by omega, h3, fun _ => by have := mt v3.mpr q; omega, rfl⟩
          generalize (mid : Int) = mi at *
          generalize (low : Int) = li at *
          generalize (high : Int) = hi at *
          simp -implicitDefEqProofs [emid, v1, m1, m2, q]
  obtain ⟨e', u, low, o5, o6, o4, rfl, hF⟩ := this
  have v1 := a2 low hF.le
  have v2 := bnd low hF.le
  have v3 := cmp_eq (t := t) (b := b) (crs low) v2.2.2.1 hZ
  generalize (red (V Q low) (2 ^ L)).1 = n at *
  generalize (red (V Q low) (2 ^ L)).2 = d at *
  have m1 : mulC n b = true := mulC_of (by omega) (by omega) (by omega) (by omega)
  have m2 : mulC t d = true := mulC_of (by omega) (by omega) (by omega) (by omega)
  have z2 : 2 ≤ sizeLine := smallT (by decide)
  refine ⟨low, hF, ?_⟩
  generalize (low : Int) = li at *
  generalize (g : Int) = gi at *
  simp -implicitDefEqProofs [a1, u, v1, v3, m1, m2, z2]
end
end K43
end

section
set_option Elab.async false
set_option linter.all false
set_option maxRecDepth 100000
set_option maxHeartbeats 4000000
namespace K43
open PySem PySem.Spec PyProof.Rows L2 QL
section
variable {e p : Int} {Q T H L g : Nat}
theorem f_step (h : Fm e p Q T H L g) {low : Nat} (hl : low ≤ g) : ∃ n d : Int, fn_below_step [.d (fD e p), .d (.int low)] = some (.d (.tup [.int n, .int d]), [.d (fD e p), .d (.int low)]) ∧ 0 < n ∧ n ≤ 2 ^ 14 ∧ 0 < d ∧ d ≤ 2 ^ 14 := by
  simp only [fn_below_step, mkFn, b_below_step, A_below_step]
  have a2 := f_parts h (cd_pos h hl)
  have a4 := f_least h
  have a5 : ∀ i : Int, 0 ≤ i → i < 32 → fn_power_of [.d (.int i)] = some (.d (.int (pw i)), [.d (.int i)]) := fun i h1 h2 => f_power_of (by omega) (by omega)
  obtain ⟨x, y, E⟩ := ep_of h (cd_pos h hl).mH
  rw [E.hx, E.hy] at a2
  have hxT := E.hxT
  have T16 := h.T16
  have L10 := h.L10
  have z2 : 2 ≤ sizeLine := smallT (by decide)
  obtain ⟨mx, hmx⟩ : ∃ mx, (if (0 : Int) > (x : Int) - 1 then (0 : Int) else (x : Int) - 1) = mx := ⟨_, rfl⟩
  have hmb : 0 ≤ mx ∧ mx ≤ 14 := by rw [← hmx]; split <;> omega
  obtain ⟨pi, hpi⟩ : ∃ pi, -(L : Int) + mx = pi := ⟨_, rfl⟩
  have s0 : (((0 : Nat) : Int)) = 0 := rfl
  generalize fn_power_of = F at *
  generalize fn_parts = F2 at *
  generalize fn_least_power = F3 at *
  generalize (low : Int) = lo at *
  generalize ((0 : Nat) : Int) = zo at *
  have hLi : -10 ≤ -(L : Int) := by omega
  have hLj : -(L : Int) ≤ 0 := by omega
  generalize -(L : Int) = li at *
  generalize (x : Int) = xi at *
  generalize (y : Int) = yi at *
  by_cases z : 0 ≤ pi
  · have b1 := a5 pi z (by omega)
    have b2 := pw_le (i := pi) (n := 14) (by omega)
    have b3 := pw_pos pi
    exact ⟨pw pi, 1, by simp -implicitDefEqProofs [a2, a4, hmx, hpi, eq_true z, b1, z2], b3, by omega, by omega, by omega⟩
  · have b1 := a5 (0 - pi) (by omega) (by omega)
    have b2 := pw_le (i := 0 - pi) (n := 10) (by omega)
    have b3 := pw_pos (0 - pi)
    rw [Int.zero_sub] at b1 b2 b3
    exact ⟨1, pw (-pi), by simp -implicitDefEqProofs [a2, a4, hmx, hpi, eq_false z, b1, z2], by omega, by omega, b3, by omega⟩
theorem f_near (h : Fm e p Q T H L g) {low : Nat} (hl : low ≤ g) {t b : Int} (t0 : 0 ≤ t) (t1 : t < 2 ^ 90) (b0 : 0 < b) (b1 : b < 2 ^ 90) :
    ∃ nb : Bool, fn_is_nearer_above [.d (fD e p), .d (.int low), .d (.int t), .d (.int b)] = some (.d (.bl nb), [.d (fD e p), .d (.int low), .d (.int t), .d (.int b)]) := by
  simp only [fn_is_nearer_above, mkFn, b_is_nearer_above, A_is_nearer_above]
  have v1 := f_value h (cd_pos h hl) hl
  have v2 := red_b (h := h) (s := 0) (V_bound h (cd_pos h hl).mH)
  obtain ⟨sn, sd, v3, v4, v5, v6, v7⟩ := f_step h hl
  generalize (red (sV 0 (V Q low)) (2 ^ L)).1 = n at *
  generalize (red (sV 0 (V Q low)) (2 ^ L)).2 = d at *
  generalize fn_value = F1 at *
  generalize fn_below_step = F2 at *
  generalize (low : Int) = lo at *
  have k1 := mul_bound (a := t) (A := 2 ^ 90) (b := d) (B := 2 ^ 20) (by omega) (by omega) (by omega) (by omega)
  have k2 := mul_bound (a := n) (A := 2 ^ 20) (b := b) (B := 2 ^ 90) (by omega) (by omega) (by omega) (by omega)
  have k3 := mul_bound (a := sn) (A := 2 ^ 20) (b := b) (B := 2 ^ 90) (by omega) (by omega) (by omega) (by omega)
  have m1 : mulC t d = true := mulC_of (by omega) (by omega) (by omega) (by omega)
  have m2 : mulC n b = true := mulC_of (by omega) (by omega) (by omega) (by omega)
  have m3 : mulC 2 (t * d - n * b) = true := mulC_of (by omega) (by omega) (by omega) (by omega)
  have m4 : mulC (2 * (t * d - n * b)) sd = true := mulC_of (by omega) (by omega) (by omega) (by omega)
  have m5 : mulC sn b = true := mulC_of (by omega) (by omega) (by omega) (by omega)
  have m6 : mulC (sn * b) d = true := mulC_of (by omega) (by omega) (by omega) (by omega)
  by_cases q1 : sn * b * d < 2 * (t * d - n * b) * sd
  · exact ⟨true, by simp -implicitDefEqProofs [v1, v3, m1, m2, m3, m4, m5, m6, q1]⟩
  · by_cases q2 : 2 * (t * d - n * b) * sd = sn * b * d
    · exact ⟨decide (lo % 2 = 1), by simp -implicitDefEqProofs [v1, v3, m1, m2, m3, m4, m5, m6, q2]⟩
    · exact ⟨false, by simp -implicitDefEqProofs [v1, v3, m1, m2, m3, m4, m5, m6, eq_false q1, eq_false q2]⟩
inductive Way where
  | even | zero | up | down
def Way.w : Way → Str
  | .even => PySem.Str.ofString "even"
  | .zero => PySem.Str.ofString "zero"
  | .up => PySem.Str.ofString "up"
  | .down => PySem.Str.ofString "down"
def Way.goes : Way → Nat → Bool → Bool
  | .even, _, nb => nb
  | .zero, _, _ => false
  | .up, s, _ => decide (s = 0)
  | .down, s, _ => decide (s = 1)
def sgn (t : Int) : Nat := if t < 0 then 1 else 0
/-- what rounding gives -/
def rnd (Q H L : Nat) (t b : Int) (low : Nat) (up : Bool) : Int := sgn t * H + low + (if (V Q low : Int) * b = t.natAbs * 2 ^ L then 0 else if up then 1 else 0)
theorem f_rounded (h : Fm e p Q T H L g) {t b : Int} (t0 : -(2 ^ 90) < t) (t1 : t < 2 ^ 90) (b0 : 0 < b) (b1 : b < 2 ^ 90) (W : Way) :
    ∃ low nb, IsF Q g L t.natAbs b low ∧ fn_rounded [.d (fD e p), .d (.tup [.int t, .int b]), .d (.str W.w)] = some (.d (.int (rnd Q H L t b low (W.goes (sgn t) nb))), [.d (fD e p), .d (.tup [.int t, .int b]), .d (.str W.w)]) := by
  simp only [fn_rounded, mkFn, b_rounded, A_rounded]
  have c1 := f_check_form h
  obtain ⟨low, hF, c2⟩ := f_floor h (t := (t.natAbs : Int)) (b := b) (by omega) (by omega) b0 b1
  have c3 := f_power_of (i := e + p) (by have := h.e2; have := h.p1; omega) (by have := h.e4; have := h.p4; omega)
  rw [h.hH] at c3
  obtain ⟨nb, c4⟩ := f_near h hF.le (t := (t.natAbs : Int)) (b := b) (by omega) (by omega) b0 b1
  have c5 := f_greatest h
  have c6 : fn_endless [.d (fD e p), .d (.int (sgn t : Nat))] = _ := f_endless h (s := sgn t) (by unfold sgn; split <;> omega)
  have H256 := h.H256
  have eabs : (if t < 0 then -t else t) = (t.natAbs : Int) := by split <;> omega
  have hsg : (if t < 0 then (1 : Int) else 0) = (sgn t : Nat) := by unfold sgn; split <;> rfl
  have z2 : 2 ≤ sizeLine := smallT (by decide)
  have hs2 : sgn t = 0 ∨ sgn t = 1 := by unfold sgn; split <;> omega
  have m1 : mulC ((sgn t : Nat) : Int) (H : Int) = true := mulC_of (by omega) (by omega) (by omega) (by omega)
  refine ⟨low, nb, hF, ?_⟩
  unfold rnd
  have hlg : ((low : Int) = g) → (sgn t : Int) * H + g + 1 = sgn t * H + low + 1 := fun q => by rw [q]
  have hs0 : ((sgn t : Nat) : Int) = 0 ↔ sgn t = 0 := by omega
  have hs1 : ((sgn t : Nat) : Int) = 1 ↔ sgn t = 1 := by omega
  generalize fn_check_form = F1 at *
  generalize fn_floor_code = F2 at *
  generalize fn_power_of = F3 at *
  generalize fn_is_nearer_above = F4 at *
  generalize fn_greatest = F5 at *
  generalize fn_endless = F6 at *
  generalize hs : sgn t = sn at *
  generalize ((V Q low : Nat) : Int) = v at *
  generalize ((t.natAbs : Nat) : Int) = ta at *
  generalize (sn : Int) = si at *
  generalize (low : Int) = lo at *
  generalize (H : Int) = hh at *
  generalize (g : Int) = gi at *
  by_cases q : v * b = ta * 2 ^ L
  · cases W <;> simp -implicitDefEqProofs [Way.w, ct_WAYS, c1, c2, c3, eabs, hsg, m1, eq_true q]
  · have k1 : (sn = 0) ↔ si = 0 := hs0.symm
    have k2 : (sn = 1) ↔ si = 1 := hs1.symm
    by_cases zg : lo = gi
    · have hl := hlg zg
      cases W with
      | even => cases nb <;> simp -implicitDefEqProofs [Way.w, Way.goes, ct_WAYS, c1, c2, c3, c4, c5, c6, eabs, hsg, m1, eq_false q, eq_true zg, hl]
      | zero => simp -implicitDefEqProofs [Way.w, Way.goes, ct_WAYS, c1, c2, c3, c5, c6, eabs, hsg, m1, eq_false q, eq_true zg, hl]
      | up =>
        by_cases zs : si = 0
        · simp -implicitDefEqProofs [Way.w, Way.goes, ct_WAYS, c1, c2, c3, c5, c6, eabs, hsg, m1, eq_false q, eq_true zg, hl, k1, eq_true zs]
        · simp -implicitDefEqProofs [Way.w, Way.goes, ct_WAYS, c1, c2, c3, c5, c6, eabs, hsg, m1, eq_false q, eq_true zg, hl, k1, eq_false zs]
      | down =>
        by_cases zs : si = 1
        · simp -implicitDefEqProofs [Way.w, Way.goes, ct_WAYS, c1, c2, c3, c5, c6, eabs, hsg, m1, eq_false q, eq_true zg, hl, k2, eq_true zs]
        · simp -implicitDefEqProofs [Way.w, Way.goes, ct_WAYS, c1, c2, c3, c5, c6, eabs, hsg, m1, eq_false q, eq_true zg, hl, k2, eq_false zs]
    · cases W with
      | even => cases nb <;> simp -implicitDefEqProofs [Way.w, Way.goes, ct_WAYS, c1, c2, c3, c4, c5, c6, eabs, hsg, m1, eq_false q, eq_false zg]
      | zero => simp -implicitDefEqProofs [Way.w, Way.goes, ct_WAYS, c1, c2, c3, c5, c6, eabs, hsg, m1, eq_false q, eq_false zg]
      | up =>
        by_cases zs : si = 0
        · simp -implicitDefEqProofs [Way.w, Way.goes, ct_WAYS, c1, c2, c3, c5, c6, eabs, hsg, m1, eq_false q, eq_false zg, k1, eq_true zs]
        · simp -implicitDefEqProofs [Way.w, Way.goes, ct_WAYS, c1, c2, c3, c5, c6, eabs, hsg, m1, eq_false q, eq_false zg, k1, eq_false zs]
      | down =>
        by_cases zs : si = 1
        · simp -implicitDefEqProofs [Way.w, Way.goes, ct_WAYS, c1, c2, c3, c5, c6, eabs, hsg, m1, eq_false q, eq_false zg, k2, eq_true zs]
        · simp -implicitDefEqProofs [Way.w, Way.goes, ct_WAYS, c1, c2, c3, c5, c6, eabs, hsg, m1, eq_false q, eq_false zg, k2, eq_false zs]
end
end K43
end

section
set_option Elab.async false
set_option linter.all false
set_option maxRecDepth 100000
set_option maxHeartbeats 4000000
namespace K43
open PySem PySem.Spec PyProof.Rows L2 QL
section
variable {e p : Int} {Q T H L g : Nat}
/-- the words of a code that means something -/
structure Kf (k : Str) (z : Prop) [Decidable z] : Prop where
  a : (k == PySem.Str.ofString "none") = false
  b : (k == PySem.Str.ofString "endless") = false
  c : (PySem.Str.ofString "none" == k) = false
  d : (PySem.Str.ofString "endless" == k) = false
  l : PyData.canLay0 (.str k) = true
  n : (k == PySem.Str.ofString "nought") = decide z
  n' : (PySem.Str.ofString "nought" == k) = decide z
theorem kf {m : Nat} (hm : m ≤ g) : Kf (kd Q g m) (m = 0) := by
  obtain ⟨a, b, c, d, l⟩ := kd_fin (Q := Q) hm
  refine ⟨a, b, c, d, l, ?_, ?_⟩
  all_goals
    unfold kd
    rw [if_pos hm]
    by_cases z : m = 0
    · rw [if_pos z, decide_eq_true z]
      exact beq_self_eq_true _
    · rw [if_neg z, decide_eq_false z]
      by_cases z2 : m < Q
      · rw [if_pos z2]
        first | exact w_small_nought | exact w_nought_small
      · rw [if_neg z2]
        first | exact w_full_nought | exact w_nought_full
theorem xor_n {s t : Nat} (hs : s ≤ 1) (ht : t ≤ 1) : Builtin.bitXor (s : Int) (t : Int) = ((s + t) % 2 : Nat) := by
  have h1 : s = 0 ∨ s = 1 := by omega
  have h2 : t = 0 ∨ t = 1 := by omega
  rcases h1 with rfl | rfl <;> rcases h2 with rfl | rfl <;> decide
/-- value of a code, as numbers -/
theorem val_of (h : Fm e p Q T H L g) {c : Int} {s m : Nat} (hc : Cd H c s m) (hm : m ≤ g) : ∃ n d : Int, fn_value [.d (fD e p), .d (.int c)] = some (.d (.tup [.int n, .int d]), [.d (fD e p), .d (.int c)]) ∧
    n * 2 ^ L = sV s (V Q m) * d ∧ 0 < d ∧ d ≤ 1024 ∧ -(2 ^ 20) ≤ n ∧ n ≤ 2 ^ 20 ∧ (n, d) = red (sV s (V Q m)) (2 ^ L) :=
  have b := red_b (h := h) (s := s) (V_bound h hc.mH)
  ⟨_, _, f_value h hc hm, red_cross, b.2.2.1, b.2.2.2, b.1, b.2.1, rfl⟩
theorem cancel {a b k : Int} (hk : 0 < k) (h : a * k = b * k) : a = b := Int.eq_of_mul_eq_mul_right (by omega) h
theorem f_mul0 (h : Fm e p Q T H L g) {c1 c2 : Int} {s1 m1 s2 m2 : Nat} (h1 : Cd H c1 s1 m1) (h2 : Cd H c2 s2 m2) (k1 : m1 = 0) (k2 : m2 ≤ g) (W : Way) :
    fn_multiply [.d (fD e p), .d (.int c1), .d (.int c2), .d (.str W.w)] = some (.d (.int (((s1 + s2) % 2 : Nat) * H)), [.d (fD e p), .d (.int c1), .d (.int c2), .d (.str W.w)]) := by
  simp only [fn_multiply, mkFn, b_multiply, A_multiply]
  have a1 := f_check_code h h1
  have a2 := f_check_code h h2
  have a3 := f_kind h h1
  have a4 := f_kind h h2
  have a5 := f_parts h h1
  have a6 := f_parts h h2
  have a7 := f_signed h (s := (s1 + s2) % 2) (by omega)
  have K1 := kf (Q := Q) (g := g) (m := m1) (by omega)
  have K2 := kf (Q := Q) k2
  have x1 := xor_n h1.s1 h2.s1
  have z2 : 2 ≤ sizeLine := smallT (by decide)
  generalize kd Q g m1 = kk1 at *
  generalize kd Q g m2 = kk2 at *
  generalize fn_check_code = F1 at *
  generalize fn_kind = F2 at *
  generalize fn_parts = F3 at *
  generalize fn_signed_nought = F4 at *
  generalize (((s1 + s2) % 2 : Nat) : Int) = sx at *
  generalize (s1 : Int) = si1 at *
  generalize (s2 : Int) = si2 at *
  have n1 := K1.n
  rw [decide_eq_true k1] at n1
  cases W <;> simp -implicitDefEqProofs [Way.w, ct_WAYS, a1, a2, a3, a4, a5, a6, a7, x1, K1.a, K1.b, K1.l, K2.a, K2.b, K2.l, n1, z2]
theorem f_mul (h : Fm e p Q T H L g) {c1 c2 : Int} {s1 m1 s2 m2 : Nat} (h1 : Cd H c1 s1 m1) (h2 : Cd H c2 s2 m2) (k1 : m1 ≤ g) (k2 : m2 ≤ g) (z1 : m1 ≠ 0) (z2' : m2 ≠ 0) (W : Way) :
    ∃ (t b : Int) (low : Nat) (nb : Bool), 0 < b ∧ t * (2 ^ L * 2 ^ L) = sV s1 (V Q m1) * sV s2 (V Q m2) * b ∧ IsF Q g L t.natAbs b low ∧
    fn_multiply [.d (fD e p), .d (.int c1), .d (.int c2), .d (.str W.w)] = some (.d (.int (rnd Q H L t b low (W.goes (sgn t) nb))), [.d (fD e p), .d (.int c1), .d (.int c2), .d (.str W.w)]) := by
  simp only [fn_multiply, mkFn, b_multiply, A_multiply]
  have a1 := f_check_code h h1
  have a2 := f_check_code h h2
  have a3 := f_kind h h1
  have a4 := f_kind h h2
  have a5 := f_parts h h1
  have a6 := f_parts h h2
  obtain ⟨n1, d1, b1, b2, b3, b4, b5, b6, _⟩ := val_of h h1 k1
  obtain ⟨n2, d2, b1', b2', b3', b4', b5', b6', _⟩ := val_of h h2 k2
  have K1 := kf (Q := Q) (g := g) k1
  have K2 := kf (Q := Q) k2
  have x1 := xor_n h1.s1 h2.s1
  have z2 : 2 ≤ sizeLine := smallT (by decide)
  have mb1 := mul_bound (a := n1) (A := 2 ^ 20) (b := n2) (B := 2 ^ 20) (by omega) (by omega) (by omega) (by omega)
  have mb2 := mul_bound (a := d1) (A := 1024) (b := d2) (B := 1024) (by omega) (by omega) (by omega) (by omega)
  have dd : 0 < d1 * d2 := Int.mul_pos b3 b3'
  have q1 := f_reduced (t := n1 * n2) (b := d1 * d2) (by omega) (by omega) dd (by omega)
  have q2 := red_bound (t := n1 * n2) dd
  have q3 := red_pos (t := n1 * n2) dd
  have q4 := red_cross (t := n1 * n2) (b := d1 * d2)
  obtain ⟨low, nb, q5, q6⟩ := f_rounded h (t := (red (n1 * n2) (d1 * d2)).1) (b := (red (n1 * n2) (d1 * d2)).2) (by omega) (by omega) q3 (by omega) W
  refine ⟨_, _, low, nb, q3, ?_, q5, ?_⟩
  · generalize (red (n1 * n2) (d1 * d2)).1 = t at *
    generalize (red (n1 * n2) (d1 * d2)).2 = b at *
    refine cancel dd ?_
    rw [show t * (2 ^ L * 2 ^ L) * (d1 * d2) = t * (d1 * d2) * (2 ^ L * 2 ^ L) by grind, q4]
    rw [show n1 * n2 * b * (2 ^ L * 2 ^ L) = (n1 * 2 ^ L) * (n2 * 2 ^ L) * b by grind, b2, b2']
    grind
  · generalize (red (n1 * n2) (d1 * d2)).1 = t at *
    generalize (red (n1 * n2) (d1 * d2)).2 = b at *
    have m1' : mulC n1 n2 = true := mulC_of (by omega) (by omega) (by omega) (by omega)
    have m2' : mulC d1 d2 = true := mulC_of (by omega) (by omega) (by omega) (by omega)
    generalize kd Q g m1 = kk1 at *
    generalize kd Q g m2 = kk2 at *
    generalize fn_check_code = F1 at *
    generalize fn_kind = F2 at *
    generalize fn_parts = F3 at *
    generalize fn_value = F4 at *
    generalize fn_reduced = F5 at *
    generalize fn_rounded = F6 at *
    generalize (((s1 + s2) % 2 : Nat) : Int) = sx at *
    generalize (s1 : Int) = si1 at *
    generalize (s2 : Int) = si2 at *
    have n1 := K1.n
    have n2 := K2.n
    rw [decide_eq_false z1] at n1
    rw [decide_eq_false z2'] at n2
    generalize rnd Q H L t b low (W.goes (sgn t) nb) = rr at *
    cases W <;> simp only [Way.w] at q6 <;> simp -implicitDefEqProofs [Way.w, ct_WAYS, a1, a2, a3, a4, a5, a6, x1, K1.a, K1.b, K1.l, K2.a, K2.b, K2.l, n1, n2, z2, b1, b1', m1', m2', q1, q6]
theorem f_div0 (h : Fm e p Q T H L g) {c1 c2 : Int} {s1 m1 s2 m2 : Nat} (h1 : Cd H c1 s1 m1) (h2 : Cd H c2 s2 m2) (k1 : m1 = 0) (k2 : m2 ≤ g) (z2' : m2 ≠ 0) (W : Way) :
    fn_divide [.d (fD e p), .d (.int c1), .d (.int c2), .d (.str W.w)] = some (.d (.int (((s1 + s2) % 2 : Nat) * H)), [.d (fD e p), .d (.int c1), .d (.int c2), .d (.str W.w)]) := by
  simp only [fn_divide, mkFn, b_divide, A_divide]
  have a1 := f_check_code h h1
  have a2 := f_check_code h h2
  have a3 := f_kind h h1
  have a4 := f_kind h h2
  have a5 := f_parts h h1
  have a6 := f_parts h h2
  have a7 := f_signed h (s := (s1 + s2) % 2) (by omega)
  have K1 := kf (Q := Q) (g := g) (m := m1) (by omega)
  have K2 := kf (Q := Q) k2
  have x1 := xor_n h1.s1 h2.s1
  have z2 : 2 ≤ sizeLine := smallT (by decide)
  generalize kd Q g m1 = kk1 at *
  generalize kd Q g m2 = kk2 at *
  generalize fn_check_code = F1 at *
  generalize fn_kind = F2 at *
  generalize fn_parts = F3 at *
  generalize fn_signed_nought = F4 at *
  generalize (((s1 + s2) % 2 : Nat) : Int) = sx at *
  generalize (s1 : Int) = si1 at *
  generalize (s2 : Int) = si2 at *
  have n1 := K1.n
  have n2 := K2.n
  have n1' := K1.n'
  have n2' := K2.n'
  rw [decide_eq_true k1] at n1 n1'
  rw [decide_eq_false z2'] at n2 n2'
  cases W <;> simp -implicitDefEqProofs [Way.w, ct_WAYS, a1, a2, a3, a4, a5, a6, a7, x1, K1.a, K1.b, K1.c, K1.d, K1.l, K2.a, K2.b, K2.c, K2.d, K2.l, n1, n2, n1', n2', z2]
theorem f_div (h : Fm e p Q T H L g) {c1 c2 : Int} {s1 m1 s2 m2 : Nat} (h1 : Cd H c1 s1 m1) (h2 : Cd H c2 s2 m2) (k1 : m1 ≤ g) (k2 : m2 ≤ g) (z1 : m1 ≠ 0) (z2' : m2 ≠ 0) (W : Way) :
    ∃ (t b : Int) (low : Nat) (nb : Bool), 0 < b ∧ t * sV s2 (V Q m2) = sV s1 (V Q m1) * b ∧ IsF Q g L t.natAbs b low ∧
    fn_divide [.d (fD e p), .d (.int c1), .d (.int c2), .d (.str W.w)] = some (.d (.int (rnd Q H L t b low (W.goes (sgn t) nb))), [.d (fD e p), .d (.int c1), .d (.int c2), .d (.str W.w)]) := by
  simp only [fn_divide, mkFn, b_divide, A_divide]
  have a1 := f_check_code h h1
  have a2 := f_check_code h h2
  have a3 := f_kind h h1
  have a4 := f_kind h h2
  have a5 := f_parts h h1
  have a6 := f_parts h h2
  obtain ⟨n1, d1, b1, b2, b3, b4, b5, b6, _⟩ := val_of h h1 k1
  obtain ⟨n2, d2, b1', b2', b3', b4', b5', b6', _⟩ := val_of h h2 k2
  have K1 := kf (Q := Q) (g := g) k1
  have K2 := kf (Q := Q) k2
  have x1 := xor_n h1.s1 h2.s1
  have z2 : 2 ≤ sizeLine := smallT (by decide)
  have hV2 : 0 < V Q m2 := by
    have := V_lt (Q := Q) (by have := h.Q2; omega) (show 0 < m2 by omega)
    omega
  have hn2 : n2 ≠ 0 := fun z => by
    rw [z, Int.zero_mul] at b2'
    have : sV s2 (V Q m2) ≠ 0 := by unfold sV; split <;> omega
    exact absurd b2'.symm (Int.mul_ne_zero this (by omega))
  have mb1 := mul_bound (a := n1) (A := 2 ^ 20) (b := d2) (B := 1024) (by omega) (by omega) (by omega) (by omega)
  have mb2 := mul_bound (a := d1) (A := 1024) (b := n2) (B := 2 ^ 20) (by omega) (by omega) (by omega) (by omega)
  have hdn : d1 * n2 ≠ 0 := Int.mul_ne_zero (by omega) hn2
  obtain ⟨tp, bt, hsel, hbt, hcr, hb1, hb2⟩ : ∃ tp bt : Int, ((d1 * n2 < 0 → tp = 0 - n1 * d2 ∧ bt = 0 - d1 * n2) ∧ (¬ d1 * n2 < 0 → tp = n1 * d2 ∧ bt = d1 * n2)) ∧ 0 < bt ∧ tp * (d1 * n2) = n1 * d2 * bt ∧ (-(2 ^ 40) ≤ tp ∧ tp ≤ 2 ^ 40) ∧ bt ≤ 2 ^ 40 := by
    by_cases z : d1 * n2 < 0
    · exact ⟨0 - n1 * d2, 0 - d1 * n2, ⟨fun _ => ⟨rfl, rfl⟩, fun q => absurd z q⟩, by omega, by grind, by omega, by omega⟩
    · exact ⟨n1 * d2, d1 * n2, ⟨fun q => absurd q z, fun _ => ⟨rfl, rfl⟩⟩, by omega, by grind, by omega, by omega⟩
  have q1 := f_reduced (t := tp) (b := bt) (by omega) (by omega) hbt (by omega)
  have q2 := red_bound (t := tp) hbt
  have q3 := red_pos (t := tp) hbt
  have q4 := red_cross (t := tp) (b := bt)
  obtain ⟨low, nb, q5, q6⟩ := f_rounded h (t := (red tp bt).1) (b := (red tp bt).2) (by omega) (by omega) q3 (by omega) W
  refine ⟨_, _, low, nb, q3, ?_, q5, ?_⟩
  · generalize (red tp bt).1 = t at *
    generalize (red tp bt).2 = b at *
    have hZ := pL_pos L
    generalize sV s1 (V Q m1) = A at *
    generalize sV s2 (V Q m2) = B at *
    generalize (2 : Int) ^ L = Z at *
    -- t d1 n2 = n1 d2 b
    have e1 : t * (d1 * n2) = n1 * d2 * b := by
      refine cancel hbt ?_
      rw [show t * (d1 * n2) * bt = t * bt * (d1 * n2) by grind, q4, show tp * b * (d1 * n2) = tp * (d1 * n2) * b by grind, hcr]
      grind
    have hk : 0 < d1 * d2 * Z := Int.mul_pos (Int.mul_pos b3 b3') hZ
    refine cancel hk ?_
    rw [show t * B * (d1 * d2 * Z) = t * d1 * (B * d2) * Z by grind, ← b2', show t * d1 * (n2 * Z) * Z = t * (d1 * n2) * Z * Z by grind, e1]
    rw [show A * b * (d1 * d2 * Z) = (A * d1) * d2 * b * Z by grind, ← b2]
    grind
  · have m1' : mulC n1 d2 = true := mulC_of (by omega) (by omega) (by omega) (by omega)
    have m2' : mulC d1 n2 = true := mulC_of (by omega) (by omega) (by omega) (by omega)
    generalize (red tp bt).1 = t at *
    generalize (red tp bt).2 = b at *
    generalize kd Q g m1 = kk1 at *
    generalize kd Q g m2 = kk2 at *
    generalize fn_check_code = F1 at *
    generalize fn_kind = F2 at *
    generalize fn_parts = F3 at *
    generalize fn_value = F4 at *
    generalize fn_reduced = F5 at *
    generalize fn_rounded = F6 at *
    generalize (((s1 + s2) % 2 : Nat) : Int) = sx at *
    generalize (s1 : Int) = si1 at *
    generalize (s2 : Int) = si2 at *
    have kn1 := K1.n
    have kn2 := K2.n
    have kn1' := K1.n'
    have kn2' := K2.n'
    rw [decide_eq_false z1] at kn1 kn1'
    rw [decide_eq_false z2'] at kn2 kn2'
    generalize rnd Q H L t b low (W.goes (sgn t) nb) = rr at *
    by_cases zz : d1 * n2 < 0
    · obtain ⟨e1, e2⟩ := hsel.1 zz
      rw [e1, e2, Int.zero_sub, Int.zero_sub] at q1
      cases W <;> simp only [Way.w] at q6 <;> simp -implicitDefEqProofs [Way.w, ct_WAYS, a1, a2, a3, a4, a5, a6, x1, K1.a, K1.b, K1.c, K1.d, K1.l, K2.a, K2.b, K2.c, K2.d, K2.l, kn1, kn2, kn1', kn2', z2, b1, b1', m1', m2', q1, q6, eq_true zz]
    · obtain ⟨e1, e2⟩ := hsel.2 zz
      rw [e1, e2] at q1
      cases W <;> simp only [Way.w] at q6 <;> simp -implicitDefEqProofs [Way.w, ct_WAYS, a1, a2, a3, a4, a5, a6, x1, K1.a, K1.b, K1.c, K1.d, K1.l, K2.a, K2.b, K2.c, K2.d, K2.l, kn1, kn2, kn1', kn2', z2, b1, b1', m1', m2', q1, q6, eq_false zz]
end
end K43
end

section
set_option Elab.async false
set_option linter.all false
set_option maxRecDepth 100000
set_option maxHeartbeats 4000000
namespace K43
open PySem PySem.Spec PyProof.Rows L2 QL
section
variable {e p : Int} {Q T H L g : Nat}
theorem Q0 (h : Fm e p Q T H L g) : 0 < Q := by have := h.Q2; omega
theorem sV_abs (s v : Nat) : (sV s v).natAbs = v := by unfold sV; split <;> omega
theorem sV_sgn {s v : Nat} (hs : s ≤ 1) (hv : 0 < v) : sgn (sV s v) = s := by
  have h1 : s = 0 ∨ s = 1 := by omega
  rcases h1 with rfl | rfl <;> unfold sgn sV <;> simp <;> omega
theorem V_pos (h : Fm e p Q T H L g) {m : Nat} (hm : m ≠ 0) : 0 < V Q m := by
  have := V_lt (Q0 h) (show 0 < m by omega)
  omega
/-- the sign of a fraction that is like another -/
theorem sgn_like {t b n Z : Int} (hb : 0 < b) (hZ : 0 < Z) (h : t * Z = n * b) : sgn t = sgn n := by
  unfold sgn
  by_cases z : n < 0
  · have h1 : n * b < 0 := Int.mul_neg_of_neg_of_pos z hb
    have : t < 0 := by
      by_cases q : t < 0
      · exact q
      · have := Int.mul_nonneg (show 0 ≤ t by omega) (show 0 ≤ Z by omega)
        omega
    rw [if_pos z, if_pos this]
  · have h1 : 0 ≤ n * b := Int.mul_nonneg (by omega) (by omega)
    have : ¬ t < 0 := fun q => by
      have := Int.mul_neg_of_neg_of_pos q hZ
      omega
    rw [if_neg z, if_neg this]
theorem abs_like {t b n Z : Int} (hb : 0 < b) (hZ : 0 < Z) (h : t * Z = n * b) : (t.natAbs : Int) * Z = (n.natAbs : Int) * b := by
  have h1 := congrArg Int.natAbs h
  rw [Int.natAbs_mul, Int.natAbs_mul] at h1
  have e1 : (Z.natAbs : Int) = Z := by omega
  have e2 : (b.natAbs : Int) = b := by omega
  have h2 : ((t.natAbs * Z.natAbs : Nat) : Int) = ((n.natAbs * b.natAbs : Nat) : Int) := by rw [h1]
  rw [Int.natCast_mul, Int.natCast_mul, e1, e2] at h2
  exact h2
/-- what rounding does to the value of a code -/
theorem rnd_just (h : Fm e p Q T H L g) {t b : Int} {s m low : Nat} (hb : 0 < b) (hs : s ≤ 1) (hm : m ≤ g) (hF : IsF Q g L t.natAbs b low) (hv : t * 2 ^ L = sV s (V Q m) * b) (u : Bool) :
    low = m ∧ rnd Q H L t b low u = (if m = 0 then (0 : Int) else s * H + m) := by
  have a := abs_like hb (pL_pos L) hv
  rw [sV_abs] at a
  have e1 := hF.just (Q0 h) hb hm a
  subst e1
  refine ⟨rfl, ?_⟩
  unfold rnd
  rw [if_pos a.symm, sgn_like hb (pL_pos L) hv]
  by_cases z : low = 0
  · subst z
    rw [V_zero (Q0 h)]
    have : sgn (sV s 0) = 0 := by unfold sgn sV; split <;> simp
    rw [this]
    simp
  · rw [if_neg z, sV_sgn hs (V_pos h z)]
    omega
theorem f_round_code (h : Fm e p Q T H L g) {s m : Nat} (hs : s ≤ 1) (hm : m ≤ g) {n d : Int} (hd : 0 < d) (hd2 : d < 2 ^ 90) (h1 : -(2 ^ 90) < n) (h2 : n < 2 ^ 90) (hv : n * 2 ^ L = sV s (V Q m) * d) (W : Way) :
    fn_rounded [.d (fD e p), .d (.tup [.int n, .int d]), .d (.str W.w)] = some (.d (.int (if m = 0 then (0 : Int) else s * H + m)), [.d (fD e p), .d (.tup [.int n, .int d]), .d (.str W.w)]) := by
  obtain ⟨low, nb, hF, e1⟩ := f_rounded h h1 h2 hd hd2 W
  rw [e1, (rnd_just h hd hs hm hF hv _).2]
/-- sums of codes that are not negative, where the sum is one -/
theorem f_add (h : Fm e p Q T H L g) {m1 m2 m : Nat} (k1 : m1 ≤ g) (k2 : m2 ≤ g) (k : m ≤ g) (hV : V Q m = V Q m1 + V Q m2) (W : Way) :
    fn_add [.d (fD e p), .d (.int (m1 : Nat)), .d (.int (m2 : Nat)), .d (.str W.w)] = some (.d (.int (m : Nat)), [.d (fD e p), .d (.int (m1 : Nat)), .d (.int (m2 : Nat)), .d (.str W.w)]) := by
  simp only [fn_add, mkFn, b_add, A_add]
  have h1 := cd_pos h k1
  have h2 := cd_pos h k2
  have a1 := f_check_code h h1
  have a2 := f_check_code h h2
  have a3 := f_kind h h1
  have a4 := f_kind h h2
  have a5 := f_parts h h1
  have a6 := f_parts h h2
  have a7 := f_signed h (s := 0) (by omega)
  obtain ⟨n1, d1, b1, b2, b3, b4, b5, b6, _⟩ := val_of h h1 k1
  obtain ⟨n2, d2, b1', b2', b3', b4', b5', b6', _⟩ := val_of h h2 k2
  rw [sV0] at b2 b2'
  have K1 := kf (Q := Q) (g := g) k1
  have K2 := kf (Q := Q) k2
  have z2 : 2 ≤ sizeLine := smallT (by decide)
  have mb1 := mul_bound (a := n1) (A := 2 ^ 20) (b := d2) (B := 1024) (by omega) (by omega) (by omega) (by omega)
  have mb2 := mul_bound (a := n2) (A := 2 ^ 20) (b := d1) (B := 1024) (by omega) (by omega) (by omega) (by omega)
  have mb3 := mul_bound (a := d1) (A := 1024) (b := d2) (B := 1024) (by omega) (by omega) (by omega) (by omega)
  have dd : 0 < d1 * d2 := Int.mul_pos b3 b3'
  have m1' : mulC n1 d2 = true := mulC_of (by omega) (by omega) (by omega) (by omega)
  have m2' : mulC n2 d1 = true := mulC_of (by omega) (by omega) (by omega) (by omega)
  have m3' : mulC d1 d2 = true := mulC_of (by omega) (by omega) (by omega) (by omega)
  have hsum : (n1 * d2 + n2 * d1) * 2 ^ L = (V Q m : Int) * (d1 * d2) := by
    rw [hV]
    push_cast
    rw [show (n1 * d2 + n2 * d1) * 2 ^ L = n1 * 2 ^ L * d2 + n2 * 2 ^ L * d1 by grind, b2, b2']
    grind
  by_cases z : m = 0
  · have e0 : V Q m1 + V Q m2 = 0 := by rw [← hV, z, V_zero (Q0 h)]
    have e1 : m1 = 0 := by
      by_cases q : m1 = 0
      · exact q
      · have := V_pos h q; omega
    have e2 : m2 = 0 := by
      by_cases q : m2 = 0
      · exact q
      · have := V_pos h q; omega
    have etop : n1 * d2 + n2 * d1 = 0 := by
      refine cancel (pL_pos L) ?_
      rw [hsum, z, V_zero (Q0 h)]
      simp
    subst z
    generalize kd Q g m1 = kk1 at *
    generalize kd Q g m2 = kk2 at *
    generalize fn_check_code = F1 at *
    generalize fn_kind = F2 at *
    generalize fn_parts = F3 at *
    generalize fn_value = F4 at *
    generalize fn_signed_nought = F5 at *
    generalize (m1 : Int) = mi1 at *
    generalize (m2 : Int) = mi2 at *
    simp only [Int.natCast_zero] at a5 a6 a7
    cases W <;> simp -implicitDefEqProofs [Way.w, ct_WAYS, a1, a2, a3, a4, a5, a6, a7, K1.a, K1.b, K1.l, K2.a, K2.b, K2.l, z2, b1, b1', m1', m2', m3', etop]
  · have hpos : 0 < V Q m := V_pos h z
    have etop : ¬ n1 * d2 + n2 * d1 = 0 := fun q => by
      rw [q, Int.zero_mul] at hsum
      have := Int.mul_pos (show (0 : Int) < V Q m by omega) dd
      omega
    have q1 := f_reduced (t := n1 * d2 + n2 * d1) (b := d1 * d2) (by omega) (by omega) dd (by omega)
    have q2 := red_bound (t := n1 * d2 + n2 * d1) dd
    have q3 := red_pos (t := n1 * d2 + n2 * d1) dd
    have q4 := red_cross (t := n1 * d2 + n2 * d1) (b := d1 * d2)
    have q5 : (red (n1 * d2 + n2 * d1) (d1 * d2)).1 * 2 ^ L = sV 0 (V Q m) * (red (n1 * d2 + n2 * d1) (d1 * d2)).2 := by
      rw [sV0]
      refine cancel dd ?_
      generalize (red (n1 * d2 + n2 * d1) (d1 * d2)).1 = t at *
      generalize (red (n1 * d2 + n2 * d1) (d1 * d2)).2 = b at *
      rw [show t * 2 ^ L * (d1 * d2) = t * (d1 * d2) * 2 ^ L by grind, q4, show (n1 * d2 + n2 * d1) * b * 2 ^ L = (n1 * d2 + n2 * d1) * 2 ^ L * b by grind, hsum]
      grind
    have q6 := f_round_code h (s := 0) (by omega) k q3 (by omega) (by omega) (by omega) q5 W
    rw [if_neg z] at q6
    generalize (red (n1 * d2 + n2 * d1) (d1 * d2)).1 = t at *
    generalize (red (n1 * d2 + n2 * d1) (d1 * d2)).2 = b at *
    have em : (((0 : Nat) : Int) * H + (m : Int)) = m := by simp
    rw [em] at q6
    generalize kd Q g m1 = kk1 at *
    generalize kd Q g m2 = kk2 at *
    generalize fn_check_code = F1 at *
    generalize fn_kind = F2 at *
    generalize fn_parts = F3 at *
    generalize fn_value = F4 at *
    generalize fn_rounded = F5 at *
    generalize fn_reduced = F6 at *
    generalize (m1 : Int) = mi1 at *
    generalize (m2 : Int) = mi2 at *
    generalize (m : Int) = mi at *
    cases W <;> simp only [Way.w] at q6 <;> simp -implicitDefEqProofs [Way.w, ct_WAYS, a1, a2, a3, a4, K1.a, K1.b, K1.l, K2.a, K2.b, K2.l, z2, b1, b1', m1', m2', m3', eq_false etop, q1, q6]
theorem f_turned (h : Fm e p Q T H L g) {c : Int} {s m : Nat} (hc : Cd H c s m) : ∃ c2, fn_turned [.d (fD e p), .d (.int c)] = some (.d (.int c2), [.d (fD e p), .d (.int c)]) ∧ Cd H c2 (1 - s) m := by
  simp only [fn_turned, mkFn, b_turned, A_turned]
  have a1 := f_check_code h hc
  have a2 := f_power_of (i := e + p) (by have := h.e2; have := h.p1; omega) (by have := h.e4; have := h.p4; omega)
  rw [h.hH] at a2
  have e1 := hc.eq
  have e2 := hc.mH
  have hs : s = 0 ∨ s = 1 := by have := hc.s1; omega
  generalize fn_check_code = F1 at *
  generalize fn_power_of = F2 at *
  rcases hs with rfl | rfl
  · have z : ¬ (H : Int) ≤ c := by omega
    refine ⟨c + H, ?_, ⟨by omega, by omega, e2⟩⟩
    generalize (H : Int) = hh at *
    simp -implicitDefEqProofs [a1, a2, eq_false z]
  · have z : (H : Int) ≤ c := by omega
    refine ⟨c - H, ?_, ⟨by omega, by omega, e2⟩⟩
    generalize (H : Int) = hh at *
    simp -implicitDefEqProofs [a1, a2, eq_true z]
theorem Cd.eqc {c c2 : Int} {s m : Nat} (h1 : Cd H c s m) (h2 : Cd H c2 s m) : c = c2 := by rw [h1.eq, h2.eq]
theorem kd_lay (Q g m : Nat) : PyData.canLay0 (.str (kd Q g m)) = true := by
  unfold kd
  (repeat' split) <;> simp
theorem f_less_self (h : Fm e p Q T H L g) {c : Int} {s m : Nat} (hc : Cd H c s m) : fn_less [.d (fD e p), .d (.int c), .d (.int c)] = some (.d (.bl false), [.d (fD e p), .d (.int c), .d (.int c)]) := by
  simp only [fn_less, mkFn, b_less, A_less]
  have a1 := f_check_code h hc
  have a2 := f_kind h hc
  have l := kd_lay Q g m
  have z2 : 2 ≤ sizeLine := smallT (by decide)
  obtain ⟨q, hq⟩ : ∃ q, fn_place_of [.d (fD e p), .d (.int c)] = some (.d (.int q), [.d (fD e p), .d (.int c)]) := by
    simp only [fn_place_of, mkFn, b_place_of, A_place_of]
    have a2 := f_power_of (i := e + p) (by have := h.e2; have := h.p1; omega) (by have := h.e4; have := h.p4; omega)
    rw [h.hH] at a2
    generalize fn_power_of = F2 at *
    generalize (H : Int) = hh at *
    by_cases z : hh ≤ c
    · exact ⟨hh - c, by simp -implicitDefEqProofs [a2, eq_true z]⟩
    · exact ⟨c, by simp -implicitDefEqProofs [a2, eq_false z]⟩
  generalize kd Q g m = k at *
  generalize fn_check_code = F1 at *
  generalize fn_kind = F2 at *
  generalize fn_place_of = F3 at *
  cases z : (k == PySem.Str.ofString "none")
  · simp -implicitDefEqProofs [a1, a2, hq, z, l, z2]
  · simp -implicitDefEqProofs [a1, a2, hq, z, l, z2]
theorem f_lawless {a b c d : Int} (h1 : mulC a d = true) (h2 : mulC c b = true) : fn__law_less [.d (.tup [.int a, .int b]), .d (.tup [.int c, .int d])] = some (.d (.bl (decide (a * d < c * b))), [.d (.tup [.int a, .int b]), .d (.tup [.int c, .int d])]) := by
  simp -implicitDefEqProofs [fn__law_less, mkFn, b__law_less, A__law_less, h1, h2]
end
end K43
end

section
set_option Elab.async false
set_option linter.all false
set_option maxRecDepth 100000
set_option maxHeartbeats 4000000
namespace K43
open PySem PySem.Spec PyProof.Rows L2 QL
section
variable {e p : Int} {Q T H L g : Nat}
theorem cmp2 {n d w n' d' w' Z : Int} (h : n * Z = w * d) (h' : n' * Z = w' * d') (hd : 0 < d) (hd' : 0 < d') (hZ : 0 < Z) : (n * d' < n' * d ↔ w < w') ∧ (n * d' = n' * d ↔ w = w') := by
  constructor
  · rw [cmp_lt h hd hZ, h']
    exact Int.mul_lt_mul_right hd'
  · rw [cmp_eq h hd hZ, h']
    exact ⟨fun q => cancel hd' q, fun q => by rw [q]⟩
theorem pow_one_red (n : Nat) : red (sV 0 (n * 2 ^ L)) (2 ^ L) = ((n : Int), 1) := by
  rw [sV0]
  push_cast
  exact red_whole (pL_pos L)
structure Rp (Q g L R : Nat) (cf : Nat → Nat) : Prop where
  le : ∀ n, n ≤ R → cf n ≤ g
  v : ∀ n, n ≤ R → V Q (cf n) = n * 2 ^ L
theorem rp_of {R : Nat} (rep : ∀ n, n ≤ R → ∃ m, m ≤ g ∧ V Q m = n * 2 ^ L) : ∃ cf, Rp Q g L R cf :=
  ⟨fun n => if hn : n ≤ R then (rep n hn).choose else 0, fun n hn => by rw [dif_pos hn]; exact (rep n hn).choose_spec.1, fun n hn => by rw [dif_pos hn]; exact (rep n hn).choose_spec.2⟩
theorem val_whole (h : Fm e p Q T H L g) {R n : Nat} {cf : Nat → Nat} (rp : Rp Q g L R cf) (hn : n ≤ R) : fn_value [.d (fD e p), .d (.int (cf n : Nat))] = some (.d (.tup [.int n, .int 1]), [.d (fD e p), .d (.int (cf n : Nat))]) := by
  rw [f_value h (cd_pos h (rp.le n hn)) (rp.le n hn), rp.v n hn, pow_one_red]
theorem f_summed (h : Fm e p Q T H L g) {R : Nat} {cf : Nat → Nat} (rp : Rp Q g L R cf) (hR : R ≤ 1000) {N : List Nat} (hS : N.sum ≤ R) (W : Way) :
    fn_summed [.d (fD e p), .d (.tup (N.map fun n => D.int (cf n : Nat))), .d (.str W.w)] = some (.d (.tup [.int (cf N.sum : Nat), .tup [.int N.sum, .int 1]]), [.d (fD e p), .d (.tup (N.map fun n => D.int (cf n : Nat))), .d (.str W.w)]) := by
  simp only [fn_summed, mkFn, b_summed, A_summed]
  have z2 : 2 ≤ sizeLine := smallT (by decide)
  have c0 : cf 0 = 0 := V_inj (Q0 h) (by rw [rp.v 0 (by omega), V_zero (Q0 h)]; simp)
  have hA : ∀ a b : Nat, a + b ≤ R → fn_add [.d (fD e p), .d (.int (cf a : Nat)), .d (.int (cf b : Nat)), .d (.str W.w)] = some (.d (.int (cf (a + b) : Nat)), [.d (fD e p), .d (.int (cf a : Nat)), .d (.int (cf b : Nat)), .d (.str W.w)]) := fun a b hab =>
    f_add h (rp.le a (by omega)) (rp.le b (by omega)) (rp.le _ hab) (by rw [rp.v _ hab, rp.v a (by omega), rp.v b (by omega), Nat.add_mul]) W
  have hV : ∀ a : Nat, a ≤ R → _ := fun a ha => val_whole h rp ha
  have hRd : ∀ a : Int, 0 ≤ a → a ≤ 100000 → fn_reduced [.d (.int a), .d (.int 1)] = some (.d (.tup [.int a, .int 1]), [.d (.int a), .d (.int 1)]) := fun a h0 h1 => by
    have := f_reduced (t := a) (b := 1) (by omega) (by omega) (by omega) (by omega)
    rwa [red_one] at this
  generalize fn_add = F1 at *
  generalize fn_value = F2 at *
  generalize fn_reduced = F3 at *
  obtain ⟨ww, hww⟩ : ∃ ww, D.str W.w = ww := ⟨_, rfl⟩
  rw [hww] at hA ⊢
  have this := for_list (b := bName 5) (f := (sSeq (sSet 3 (fCall F1 (fCons (fVar 0) (fCons (fVar 3) (fCons (fVar 5) (fCons (fVar 2) fNil))))))
  (sSeq (sSet 6 (fCall F2 (fCons (fVar 0) (fCons (fVar 5) fNil))))
  (sIf (fOrT (fTB (fBin oIsN (fVar 6) (fC .non))) (fTB (fBin oIsN (fVar 4) (fC .non))))
  (sSet 4 (fC .non))
  (sSet 4 (fCall F3 (fCons (fBin oAdd (fBin oMul (fBin oIx (fVar 4) (fC (.int 0))) (fBin oIx (fVar 6) (fC (.int 1)))) (fBin oMul (fBin oIx (fVar 6) (fC (.int 0))) (fBin oIx (fVar 4) (fC (.int 1))))) (fCons (fBin oMul (fBin oIx (fVar 4) (fC (.int 1))) (fBin oIx (fVar 6) (fC (.int 1)))) fNil)))))))) (xs := N.map fun n => D.int (cf n : Nat))
    (e := [some (.d (fD e p)), some (.d (.tup (N.map fun n => D.int (cf n : Nat)))), some (.d ww), some (.d (.int 0)), some (.d (.tup [.int 0, .int 1])), none, none])
    (fun k e0 => ∃ o5 o6 : Option S, e0 = [some (.d (fD e p)), some (.d (.tup (N.map fun n => D.int (cf n : Nat)))), some (.d ww), some (.d (.int (cf (N.take k).sum : Nat))), some (.d (.tup [.int ((N.take k).sum : Nat), .int 1])), o5, o6]) ⟨none, none, by simp [c0]⟩ ?_
  · obtain ⟨e', u, o5, o6, rfl⟩ := this
    rw [List.length_map, List.take_length] at u
    simp -implicitDefEqProofs [u, z2]
  · rintro k x e0 hx ⟨o5, o6, rfl⟩
    rw [List.getElem?_map] at hx
    have hk : k < N.length := by
      by_cases q : k < N.length
      · exact q
      · rw [List.getElem?_eq_none (by omega)] at hx
        cases hx
    rw [List.getElem?_eq_getElem hk] at hx
    cases hx
    have htk : N.take (k + 1) = N.take k ++ [N[k]] := (List.take_append_getElem hk).symm
    have hsum : (N.take (k + 1)).sum = (N.take k).sum + N[k] := by rw [htk, List.sum_append]; simp
    have hle : (N.take (k + 1)).sum ≤ N.sum := by
      have := congrArg List.sum (List.take_append_drop (k + 1) N)
      rw [List.sum_append] at this
      omega
    have u1 := hA (N.take k).sum N[k] (by omega)
    have u2 := hV N[k] (by omega)
    have u3 := hRd ((N.take k).sum + N[k] : Nat) (by omega) (by omega)
    rw [hsum]
    generalize (N.map fun n => D.int (cf n : Nat)) = CC at *
    generalize (N.take k).sum = a at *
    generalize N[k] = b at *
    push_cast at u3 ⊢
    have m1 : mulC (a : Int) 1 = true := mulC_of (by omega) (by omega) (by omega) (by omega)
    have m2 : mulC (b : Int) 1 = true := mulC_of (by omega) (by omega) (by omega) (by omega)
    have m3 : mulC 1 1 = true := mulC_of (by omega) (by omega) (by omega) (by omega)
    generalize ((cf a : Nat) : Int) = ca at *
    generalize ((cf b : Nat) : Int) = cb at *
    generalize ((cf (a + b) : Nat) : Int) = cab at *
    generalize (a : Int) = ai at *
    generalize (b : Int) = bi at *
    simp -implicitDefEqProofs [u1, u2, u3, m1, m2, m3]
/-- next_up of a code that means something -/
theorem f_next (h : Fm e p Q T H L g) {c : Int} {s m : Nat} (hc : Cd H c s m) (hm : m ≤ g) : fn_next_up [.d (fD e p), .d (.int c)] = some (.d (.int (if m = 0 then 1 else if s = 1 then c - 1 else c + 1)), [.d (fD e p), .d (.int c)]) := by
  simp only [fn_next_up, mkFn, b_next_up, A_next_up]
  have a1 := f_kind h hc
  have K := kf (Q := Q) hm
  have a2 := f_endless h (s := 0) (by omega)
  have a3 := f_power_of (i := e + p) (by have := h.e2; have := h.p1; omega) (by have := h.e4; have := h.p4; omega)
  rw [h.hH] at a3
  have e1 := hc.eq
  have e2 := hc.mH
  have hg := h.hg
  have hq2 := h.Q2
  have hs : s = 0 ∨ s = 1 := by have := hc.s1; omega
  have n1 : ¬ c = ((0 : Nat) : Int) * H + g + 1 := by rcases hs with rfl | rfl <;> omega
  have z2 : 2 ≤ sizeLine := smallT (by decide)
  have c1 : (m = 0) ↔ (c = 0 ∨ c = H) := by rcases hs with rfl | rfl <;> omega
  have c2 : m ≠ 0 → (s = 1 ↔ (H : Int) < c) := fun z => by rcases hs with rfl | rfl <;> omega
  simp only [Int.natCast_zero] at a2 n1
  generalize kd Q g m = k at *
  generalize fn_kind = F1 at *
  generalize fn_endless = F2 at *
  generalize fn_power_of = F3 at *
  generalize 0 * (H : Int) + g + 1 = en at *
  generalize (H : Int) = hh at *
  by_cases z : m = 0
  · rw [if_pos z]
    have := c1.mp z
    by_cases q : c = 0
    · subst q
      simp -implicitDefEqProofs [a1, a2, a3, K.a, K.l, n1, z2]
    · have q2 : c = hh := by omega
      have q3 : hh = c := q2.symm
      simp -implicitDefEqProofs [a1, a2, a3, K.a, K.l, n1, z2, eq_true q3]
  · rw [if_neg z]
    have q1 : ¬ (0 : Int) = c := fun q => z (c1.mpr (.inl q.symm))
    have q2 : ¬ hh = c := fun q => z (c1.mpr (.inr q.symm))
    by_cases zs : s = 1
    · rw [if_pos zs]
      have q3 := (c2 z).mp zs
      simp -implicitDefEqProofs [a1, a2, a3, K.a, K.l, n1, z2, eq_false q1, eq_false q2, eq_true q3]
    · rw [if_neg zs]
      have q3 := mt (c2 z).mpr zs
      simp -implicitDefEqProofs [a1, a2, a3, K.a, K.l, n1, z2, eq_false q1, eq_false q2, eq_false q3]
end
end K43
end

section
set_option Elab.async false
set_option linter.all false
set_option maxRecDepth 100000
set_option maxHeartbeats 8000000
namespace K43
open PySem PySem.Spec PyProof.Rows L2 QL
def bC : FS :=
  (sSeq (sSet 15 (fCall fn_value (fCons (fVar 1) (fCons (fVar 5) fNil))))
  (sSeq (sIf (fTB (fBin oIsN (fVar 15) (fC .non)))
  sCont
  sNext)
  (sSeq (sFor (itSeq (fOp oTup (fCons (fC (.str (PySem.Str.ofString "even"))) (fCons (fC (.str (PySem.Str.ofString "zero"))) (fCons (fC (.str (PySem.Str.ofString "up"))) (fCons (fC (.str (PySem.Str.ofString "down"))) fNil)))))) (bName 14)
  (sSeq (sSet 21 (fCall fn_rounded (fCons (fVar 1) (fCons (fVar 15) (fCons (fVar 14) fNil)))))
  (sSeq (sIf (fAndT (fTB (fBin oNe (fVar 21) (fVar 5))) (fTB (fBin oNe (fBin oIx (fVar 15) (fC (.int 0))) (fC (.int 0)))))
  (sRet (fC (.bl false)))
  sNext)
  (sIf (fAndT (fTB (fBin oEq (fBin oIx (fVar 15) (fC (.int 0))) (fC (.int 0)))) (fTB (fBin oNe (fVar 21) (fC (.int 0)))))
  (sRet (fC (.bl false)))
  sNext))))
  (sSeq (sSet 16 (fCall fn__law_take (fCons (fVar 0) (fCons (fBin oIx (fVar 1) (fC (.int 0))) fNil))))
  (sSeq (sSet 17 (fCall fn_rounded (fCons (fVar 1) (fCons (fOp oTup (fCons (fCall fn__law_raise (fCons (fVar 16) fNil)) (fCons (fC (.int 1)) fNil))) (fCons (fC (.str (PySem.Str.ofString "even"))) fNil)))))
  (sIf (fTB (fBin oEq (fCall fn_value (fCons (fVar 1) (fCons (fVar 17) fNil))) (fOp oTup (fCons (fCall fn__law_raise (fCons (fVar 16) fNil)) (fCons (fC (.int 1)) fNil)))))
  (sSeq (sSet 22 (fCall fn_multiply (fCons (fVar 1) (fCons (fVar 5) (fCons (fVar 17) (fCons (fC (.str (PySem.Str.ofString "zero"))) fNil))))))
  (sIf (fAndT (fNotT (fTru (fCall fn__law_less (fCons (fOp oTup (fCons (fBin oMul (fOp oAbs (fCons (fBin oIx (fVar 15) (fC (.int 0))) fNil)) (fCall fn__law_raise (fCons (fVar 16) fNil))) (fCons (fBin oIx (fVar 15) (fC (.int 1))) fNil))) (fCons (fCall fn_value (fCons (fVar 1) (fCons (fVar 2) fNil))) fNil))))) (fTB (fBin oNe (fBin oMul (fBin oMul (fOp oAbs (fCons (fBin oIx (fVar 15) (fC (.int 0))) fNil)) (fCall fn__law_raise (fCons (fVar 16) fNil))) (fBin oIx (fCall fn_value (fCons (fVar 1) (fCons (fVar 2) fNil))) (fC (.int 1)))) (fBin oMul (fBin oIx (fCall fn_value (fCons (fVar 1) (fCons (fVar 2) fNil))) (fC (.int 0))) (fBin oIx (fVar 15) (fC (.int 1)))))))
  (sIf (fAndT (fTB (fBin oNotN (fCall fn_value (fCons (fVar 1) (fCons (fVar 22) fNil))) (fC .non))) (fTB (fBin oNe (fBin oMul (fOp oAbs (fCons (fBin oIx (fCall fn_value (fCons (fVar 1) (fCons (fVar 22) fNil))) (fC (.int 0))) fNil)) (fBin oIx (fCall fn_value (fCons (fVar 1) (fCons (fVar 2) fNil))) (fC (.int 1)))) (fBin oMul (fBin oIx (fCall fn_value (fCons (fVar 1) (fCons (fVar 2) fNil))) (fC (.int 0))) (fBin oIx (fCall fn_value (fCons (fVar 1) (fCons (fVar 22) fNil))) (fC (.int 1)))))))
  (sRet (fC (.bl false)))
  sNext)
  (sIf (fOrT (fTB (fBin oIsN (fCall fn_value (fCons (fVar 1) (fCons (fVar 22) fNil))) (fC .non))) (fTB (fBin oNe (fBin oMul (fBin oIx (fCall fn_value (fCons (fVar 1) (fCons (fVar 22) fNil))) (fC (.int 0))) (fBin oIx (fVar 15) (fC (.int 1)))) (fBin oMul (fBin oMul (fBin oIx (fVar 15) (fC (.int 0))) (fCall fn__law_raise (fCons (fVar 16) fNil))) (fBin oIx (fCall fn_value (fCons (fVar 1) (fCons (fVar 22) fNil))) (fC (.int 1)))))))
  (sRet (fC (.bl false)))
  (sIf (fTB (fBin oNe (fCall fn_divide (fCons (fVar 1) (fCons (fVar 22) (fCons (fVar 17) (fCons (fC (.str (PySem.Str.ofString "even"))) fNil))))) (fVar 5)))
  (sRet (fC (.bl false)))
  sNext))))
  sNext))))))
section
variable {e p : Int} {Q T H L g : Nat}
theorem mulS {a b : Int} (h1 : -(2 ^ 100) < a) (h2 : a < 2 ^ 100) (h3 : -(2 ^ 100) < b) (h4 : b < 2 ^ 100) : mulC a b = true := mulC_of (by omega) (by omega) (by omega) (by omega)
theorem body_code (h : Fm e p Q T H L g) {st : M} (gs : GS st) {c : Int} {s m : Nat} (hc : Cd H c s m) {o3 o4 o14 o15 o16 o17 o21 o22 : Option S} :
    ∃ (st' : M) (q14 q15 q16 q17 q21 q22 : Option S), GS st' ∧ (bC [some (.m st), some (.d (fD e p)), some (.d (.int g)), o3, o4, some (.d (.int c)), none, none, none, none, none, none, none, none, o14, o15, o16, o17, none, none, none, o21, o22, none, none, none, none] = some (.nx [some (.m st'), some (.d (fD e p)), some (.d (.int g)), o3, o4, some (.d (.int c)), none, none, none, none, none, none, none, none, q14, q15, q16, q17, none, none, none, q21, q22, none, none, none, none]) ∨ bC [some (.m st), some (.d (fD e p)), some (.d (.int g)), o3, o4, some (.d (.int c)), none, none, none, none, none, none, none, none, o14, o15, o16, o17, none, none, none, o21, o22, none, none, none, none] = some (.ct [some (.m st'), some (.d (fD e p)), some (.d (.int g)), o3, o4, some (.d (.int c)), none, none, none, none, none, none, none, none, q14, q15, q16, q17, none, none, none, q21, q22, none, none, none, none])) := by
  unfold bC
  have T1 := @f_take
  by_cases hm : m ≤ g
  · obtain ⟨n, d, v1, v2, v3, v4, v5, v6, v7⟩ := val_of h hc hm
    have hR := fun W => f_round_code h hc.s1 hm v3 (by omega) (by omega) (by omega) v2 W
    have hR1 := hR .even
    have hR2 := hR .zero
    have hR3 := hR .up
    have hR4 := hR .down
    simp only [Way.w] at hR1 hR2 hR3 hR4
    have hnz : n = 0 ↔ m = 0 := by
      constructor
      · intro z
        rw [z, Int.zero_mul] at v2
        by_cases q : m = 0
        · exact q
        · have h1 := V_pos h q
          have h2 : sV s (V Q m) ≠ 0 := by unfold sV; split <;> omega
          exact absurd v2.symm (Int.mul_ne_zero h2 (by omega))
      · intro z
        rw [z, V_zero (Q0 h)] at v2
        refine cancel (pL_pos L) ?_
        rw [v2]
        unfold sV
        split <;> simp
    have hcode : ¬ m = 0 → (s : Int) * H + m = c := fun _ => hc.eq.symm
    obtain ⟨r, st', t1, t2, t3, t4⟩ := T1 (many := e) gs (by have := h.e2; omega) (by have := h.e4; omega)
    have e4 := h.e4
    have R1 := pw_pos r
    have R2 := pw_le (i := r) (n := 4) (by omega)
    have fr := f_raise (i := r) (by omega) (by omega)
    obtain ⟨low2, nb2, hF2, w1⟩ := f_rounded h (t := pw r) (b := 1) (by omega) (by omega) (by omega) (by omega) .even
    simp only [Way.w] at w1
    have hsg : sgn (pw r) = 0 := by unfold sgn; rw [if_neg (by omega)]
    obtain ⟨m2, hm2, hc2⟩ : ∃ m2 : Nat, m2 ≤ g + 1 ∧ rnd Q H L (pw r) 1 low2 (Way.goes .even (sgn (pw r)) nb2) = (m2 : Int) := by
      unfold rnd
      rw [hsg]
      have := hF2.le
      by_cases z1 : (V Q low2 : Int) * 1 = (pw r).natAbs * 2 ^ L
      · exact ⟨low2, by omega, by rw [if_pos z1]; simp⟩
      · rw [if_neg z1]
        by_cases z2 : Way.goes .even 0 nb2 = true
        · exact ⟨low2 + 1, by omega, by rw [if_pos z2]; simp⟩
        · exact ⟨low2, by omega, by rw [if_neg z2]; simp⟩
    rw [hc2] at w1
    have hcd2 : Cd H (m2 : Int) 0 m2 := ⟨by omega, by omega, by have := h.hg; have := h.Q2; omega⟩
    have wv : (m2 ≤ g ∧ ∃ n2 d2, fn_value [.d (fD e p), .d (.int (m2 : Nat))] = some (.d (.tup [.int n2, .int d2]), [.d (fD e p), .d (.int (m2 : Nat))]) ∧ n2 * 2 ^ L = V Q m2 * d2) ∨ fn_value [.d (fD e p), .d (.int (m2 : Nat))] = some (.d .non, [.d (fD e p), .d (.int (m2 : Nat))]) := by
      by_cases z : m2 ≤ g
      · obtain ⟨n2, d2, x1, x2, _⟩ := val_of h hcd2 z
        rw [sV0] at x2
        exact .inl ⟨z, n2, d2, x1, x2⟩
      · exact .inr (f_value_none h hcd2 (by omega))
    have z2 : 2 ≤ sizeLine := smallT (by decide)
    have z4 : 4 ≤ sizeLine := smallT (by decide)
    rcases wv with ⟨hm2g, n2, d2, x1, x2⟩ | x1
    · by_cases same : n2 = pw r ∧ d2 = 1
      · obtain ⟨rfl, rfl⟩ := same
        rw [Int.mul_one] at x2
        have hV2 : V Q m2 ≠ 0 := fun q => by
          rw [q] at x2
          exact absurd x2 (by have := Int.mul_pos R1 (pL_pos L); omega)
        have hm20 : m2 ≠ 0 := fun q => hV2 (by rw [q, V_zero (Q0 h)])
        have hgt := cd_pos h (Nat.le_refl g)
        obtain ⟨Nt, Dt, y1, y2, y3, y4, y5, y6, _⟩ := val_of h hgt (Nat.le_refl g)
        rw [sV0] at y2
        have hZ := pL_pos L
        have habs : (if n < 0 then -n else n) = (n.natAbs : Int) := by split <;> omega
        have hna : (n.natAbs : Int) * 2 ^ L = V Q m * d := by
          have := abs_like v3 hZ v2
          rwa [sV_abs] at this
        have k1 : mulC (n.natAbs : Int) (pw r) = true := mulS (by omega) (by omega) (by omega) (by omega)
        have kb := mul_bound (a := (n.natAbs : Int)) (A := 2 ^ 20) (b := pw r) (B := 2 ^ 4) (by omega) (by omega) (by omega) (by omega)
        have kb2 := mul_bound (a := n) (A := 2 ^ 20) (b := pw r) (B := 2 ^ 4) (by omega) (by omega) (by omega) (by omega)
        have k2 : mulC ((n.natAbs : Int) * pw r) Dt = true := mulS (by omega) (by omega) (by omega) (by omega)
        have k3 : mulC Nt d = true := mulS (by omega) (by omega) (by omega) (by omega)
        have k4 : mulC n (pw r) = true := mulS (by omega) (by omega) (by omega) (by omega)
        have less1 := f_lawless (a := (n.natAbs : Int) * pw r) (b := d) (c := Nt) (d := Dt) k2 k3
        have hcmp := cmp2 (n := (n.natAbs : Int) * pw r) (d := d) (w := V Q m * pw r) (n' := Nt) (d' := Dt) (w' := V Q g) (Z := 2 ^ L) (by rw [show (n.natAbs : Int) * pw r * 2 ^ L = n.natAbs * 2 ^ L * pw r by grind, hna]; grind) y2 v3 y3 hZ
        by_cases z : m = 0
        · -- nought
          obtain rfl : n = 0 := hnz.mpr z
          rw [if_pos z] at hR1 hR2 hR3 hR4
          have up := f_mul0 h hc hcd2 z hm2g .zero
          have dv := f_div0 h hc hcd2 z hm2g hm20 .even
          have ec : (((s + 0) % 2 : Nat) : Int) * H = c := by
            have h1 := hc.eq
            have h2 : s = 0 ∨ s = 1 := by have := hc.s1; omega
            rcases h2 with rfl | rfl <;> simp at * <;> omega
          rw [ec] at up dv
          simp only [Way.w] at up dv
          have hlt : ((0 : Int).natAbs : Int) * pw r * Dt < Nt * d := by
            rw [hcmp.1, z, V_zero (Q0 h)]
            have : 0 < V Q g := V_pos h (by have := h.hg; have := h.hHQ; have := h.T4; have := h.Q2; have := Nat.mul_le_mul_right Q h.T4; omega)
            simp
            omega
          rw [decide_eq_true hlt] at less1
          have e0 : ((0 : Int).natAbs : Int) = 0 := rfl
          rw [e0] at less1 hlt k2
          simp only [Int.zero_mul] at less1 hlt k2
          have k5 : mulC 0 (pw r) = true := mulS (by omega) (by omega) (by omega) (by omega)
          have k6 : mulC 0 d = true := mulS (by omega) (by omega) (by omega) (by omega)
          generalize fn_value = F1 at *
          generalize fn_rounded = F2 at *
          generalize fn__law_take = F3 at *
          generalize fn__law_raise = F4 at *
          generalize fn_multiply = F5 at *
          generalize fn_divide = F6 at *
          generalize fn__law_less = F7 at *
          generalize (m2 : Int) = mi2 at *
          generalize (g : Int) = gi at *
          refine ⟨st', some (.d (.str (PySem.Str.ofString "down"))), some (.d (.tup [.int 0, .int d])), some (.d (.int r)), some (.d (.int mi2)), some (.d (.int 0)), some (.d (.int c)), t4, .inl ?_⟩
          simp -implicitDefEqProofs [forL_cons, v1, hR1, hR2, hR3, hR4, t1, fr, w1, x1, z2, z4, up, dv, less1, y1, k2, k3, k5, k6]
        · have n0 := mt hnz.mp z
          rw [if_neg z, hcode z] at hR1 hR2 hR3 hR4
          obtain ⟨t, b, low, nb, q1, q2, q3, up⟩ := f_mul h hc hcd2 hm hm2g z hm20 .zero
          rw [sV0] at q2
          have q4 : t * 2 ^ L = sV s (V Q m) * pw r * b := by
            refine cancel hZ ?_
            rw [show t * 2 ^ L * 2 ^ L = t * (2 ^ L * 2 ^ L) by grind, q2, ← x2]
            grind
          have hsR : sV s (V Q m) * pw r = sV s (V Q m * 2 ^ r.toNat) := by
            unfold sV pw
            push_cast
            split <;> grind
          rw [hsR] at q4
          have hVm := V_pos h z
          have hVR : 0 < V Q m * 2 ^ r.toNat := Nat.mul_pos hVm (Nat.pow_pos (by decide))
          have hsg2 : sgn t = s := by
            rw [sgn_like q1 hZ q4, sV_sgn hc.s1 hVR]
          have habt := abs_like q1 hZ q4
          rw [sV_abs] at habt
          have eup : rnd Q H L t b low (Way.zero.goes (sgn t) nb) = s * H + low := by
            unfold rnd
            rw [hsg2]
            show _ + (if _ then (0 : Int) else if false = true then 1 else 0) = _
            split <;> simp
          rw [eup] at up
          have cup : Cd H ((s : Int) * H + low) s low := ⟨rfl, hc.s1, by have := q3.le; have := h.hg; omega⟩
          obtain ⟨nu, du, u1, u2, u3, u4, u5, u6, _⟩ := val_of h cup q3.le
          have hnu : (nu.natAbs : Int) * 2 ^ L = V Q low * du := by
            have := abs_like u3 hZ u2
            rwa [sV_abs] at this
          have habu : (if nu < 0 then -nu else nu) = (nu.natAbs : Int) := by split <;> omega
          have k5 : mulC (nu.natAbs : Int) Dt = true := mulS (by omega) (by omega) (by omega) (by omega)
          have k6 : mulC Nt du = true := mulS (by omega) (by omega) (by omega) (by omega)
          have k7 : mulC nu d = true := mulS (by omega) (by omega) (by omega) (by omega)
          have k8 : mulC (n * pw r) du = true := mulS (by omega) (by omega) (by omega) (by omega)
          have ePr : (V Q m : Int) * pw r = ((V Q m * 2 ^ r.toNat : Nat) : Int) := by unfold pw; push_cast; rfl
          rw [ePr] at hcmp
          simp only [Way.w] at up
          by_cases big : V Q g < V Q m * 2 ^ r.toNat
          · have elow := q3.top (Q0 h) q1 (by rw [habt]; exact mul_le (by omega) q1)
            have hcmp2 := cmp2 (n := (nu.natAbs : Int)) (d := du) (w := V Q low) (n' := Nt) (d' := Dt) (w' := V Q g) (Z := 2 ^ L) hnu y2 u3 y3 hZ
            have eq1 : (nu.natAbs : Int) * Dt = Nt * du := hcmp2.2.mpr (by rw [elow])
            have nl : ¬ (n.natAbs : Int) * pw r * Dt < Nt * d := by rw [hcmp.1]; omega
            have ne : ¬ (n.natAbs : Int) * pw r * Dt = Nt * d := by rw [hcmp.2]; omega
            rw [decide_eq_false nl] at less1
            generalize fn_value = F1 at *
            generalize fn_rounded = F2 at *
            generalize fn__law_take = F3 at *
            generalize fn__law_raise = F4 at *
            generalize fn_multiply = F5 at *
            generalize fn_divide = F6 at *
            generalize fn__law_less = F7 at *
            generalize (m2 : Int) = mi2 at *
            generalize (g : Int) = gi at *
            generalize (s : Int) * H + low = cu at *
            generalize (n.natAbs : Int) = na at *
            generalize (nu.natAbs : Int) = nau at *
            refine ⟨st', some (.d (.str (PySem.Str.ofString "down"))), some (.d (.tup [.int n, .int d])), some (.d (.int r)), some (.d (.int mi2)), some (.d (.int c)), some (.d (.int cu)), t4, .inl ?_⟩
            simp -implicitDefEqProofs [forL_cons, v1, hR1, hR2, hR3, hR4, t1, fr, w1, x1, z2, z4, up, less1, y1, k1, k2, k3, k4, k5, k6, k7, k8, habs, habu, u1, eq_false n0, eq_false ne, eq1]
          · obtain ⟨m', hm'⟩ := V_pow (Q0 h) m r.toNat
            have hm'g : m' ≤ g := (V_le_iff (Q0 h)).mp (by omega)
            have elow := q3.just (Q0 h) q1 hm'g (by rw [habt, hm'])
            have hVl : V Q low = V Q m * 2 ^ r.toNat := by rw [elow, hm']
            have hlow0 : low ≠ 0 := fun q => by
              rw [q, V_zero (Q0 h)] at hVl
              omega
            rw [hVl] at u2
            have hcmp2 := cmp2 (n := nu) (d := du) (w := sV s (V Q m * 2 ^ r.toNat)) (n' := n * pw r) (d' := d) (w' := sV s (V Q m * 2 ^ r.toNat)) (Z := 2 ^ L) u2 (by
              rw [show n * pw r * 2 ^ L = n * 2 ^ L * pw r by grind, v2, ← hsR]
              grind) u3 v3 hZ
            have eq1 : nu * d = n * pw r * du := hcmp2.2.mpr rfl
            obtain ⟨t2', b2', low3, nb3, i1, i2, i3, dv⟩ := f_div h cup hcd2 q3.le hm2g hlow0 hm20 .even
            rw [sV0, hVl, ← x2, ← hsR] at i2
            have i4 : t2' * 2 ^ L = sV s (V Q m) * b2' := by
              refine cancel R1 ?_
              rw [show t2' * 2 ^ L * pw r = t2' * (pw r * 2 ^ L) by grind, i2]
              grind
            have i5 := (rnd_just h i1 hc.s1 hm i3 i4 (Way.goes .even (sgn t2') nb3)).2
            rw [i5, if_neg z, hcode z] at dv
            simp only [Way.w] at dv
            have alt : (n.natAbs : Int) * pw r * Dt < Nt * d ∨ (n.natAbs : Int) * pw r * Dt = Nt * d := by
              rw [hcmp.1, hcmp.2]; omega
            generalize fn_value = F1 at *
            generalize fn_rounded = F2 at *
            generalize fn__law_take = F3 at *
            generalize fn__law_raise = F4 at *
            generalize fn_multiply = F5 at *
            generalize fn_divide = F6 at *
            generalize fn__law_less = F7 at *
            generalize (m2 : Int) = mi2 at *
            generalize (g : Int) = gi at *
            generalize (s : Int) * H + low = cu at *
            generalize (n.natAbs : Int) = na at *
            refine ⟨st', some (.d (.str (PySem.Str.ofString "down"))), some (.d (.tup [.int n, .int d])), some (.d (.int r)), some (.d (.int mi2)), some (.d (.int c)), some (.d (.int cu)), t4, .inl ?_⟩
            rcases alt with alt | alt
            · rw [decide_eq_true alt] at less1
              simp -implicitDefEqProofs [forL_cons, v1, hR1, hR2, hR3, hR4, t1, fr, w1, x1, z2, z4, up, less1, y1, k1, k2, k3, k4, k6, k7, k8, habs, u1, eq_false n0, eq1, dv]
            · have nl : ¬ na * pw r * Dt < Nt * d := by omega
              rw [decide_eq_false nl] at less1
              simp -implicitDefEqProofs [forL_cons, v1, hR1, hR2, hR3, hR4, t1, fr, w1, x1, z2, z4, up, less1, y1, k1, k2, k3, k4, k6, k7, k8, habs, u1, eq_false n0, eq_true alt, eq1, dv]
      · have hne : ¬ (n2 = pw r ∧ d2 = 1) := same
        generalize fn_value = F1 at *
        generalize fn_rounded = F2 at *
        generalize fn__law_take = F3 at *
        generalize fn__law_raise = F4 at *
        generalize (m2 : Int) = mi2 at *
        generalize (g : Int) = gi at *
        by_cases z : m = 0
        · obtain rfl : n = 0 := hnz.mpr z
          rw [if_pos z] at hR1 hR2 hR3 hR4
          refine ⟨st', some (.d (.str (PySem.Str.ofString "down"))), some (.d (.tup [.int 0, .int d])), some (.d (.int r)), some (.d (.int mi2)), some (.d (.int 0)), o22, t4, .inl ?_⟩
          simp -implicitDefEqProofs [forL_cons, v1, hR1, hR2, hR3, hR4, t1, fr, w1, x1, z2, z4, hne]
        · have n0 := mt hnz.mp z
          rw [if_neg z, hcode z] at hR1 hR2 hR3 hR4
          refine ⟨st', some (.d (.str (PySem.Str.ofString "down"))), some (.d (.tup [.int n, .int d])), some (.d (.int r)), some (.d (.int mi2)), some (.d (.int c)), o22, t4, .inl ?_⟩
          simp -implicitDefEqProofs [forL_cons, v1, hR1, hR2, hR3, hR4, t1, fr, w1, x1, z2, z4, hne, eq_false n0]
    · generalize fn_value = F1 at *
      generalize fn_rounded = F2 at *
      generalize fn__law_take = F3 at *
      generalize fn__law_raise = F4 at *
      generalize (m2 : Int) = mi2 at *
      generalize (g : Int) = gi at *
      by_cases z : m = 0
      · obtain rfl : n = 0 := hnz.mpr z
        rw [if_pos z] at hR1 hR2 hR3 hR4
        refine ⟨st', some (.d (.str (PySem.Str.ofString "down"))), some (.d (.tup [.int 0, .int d])), some (.d (.int r)), some (.d (.int mi2)), some (.d (.int 0)), o22, t4, .inl ?_⟩
        simp -implicitDefEqProofs [forL_cons, v1, hR1, hR2, hR3, hR4, t1, fr, w1, x1, z2, z4]
      · have n0 := mt hnz.mp z
        rw [if_neg z, hcode z] at hR1 hR2 hR3 hR4
        refine ⟨st', some (.d (.str (PySem.Str.ofString "down"))), some (.d (.tup [.int n, .int d])), some (.d (.int r)), some (.d (.int mi2)), some (.d (.int c)), o22, t4, .inl ?_⟩
        simp -implicitDefEqProofs [forL_cons, v1, hR1, hR2, hR3, hR4, t1, fr, w1, x1, z2, z4, eq_false n0]
  · have v1 := f_value_none h hc (by omega)
    generalize fn_value = FV at *
    generalize (g : Int) = gi at *
    exact ⟨st, o14, some (.d .non), o16, o17, o21, o22, gs, .inr (by simp -implicitDefEqProofs [v1])⟩
end
end K43
end

section
set_option Elab.async false
set_option linter.all false
set_option maxRecDepth 100000
set_option maxHeartbeats 8000000
namespace K43
open PySem PySem.Spec PyProof.Rows L2 QL
def tMono : FS := (sIf (fAndT (fTB (fBin oNotN (fVar 6) (fC .non))) (fAndT (fTB (fBin oNotN (fVar 7) (fC .non))) (fAndT (fTB (fBin oGt (fBin oIx (fVar 6) (fC (.int 0))) (fC (.int 0)))) (fAndT (fTB (fBin oGt (fBin oIx (fVar 7) (fC (.int 0))) (fC (.int 0)))) (fTB (fBin oNe (fBin oLt (fVar 3) (fVar 4)) (fCall fn__law_less (fCons (fVar 6) (fCons (fVar 7) fNil)))))))))
  (sRet (fC (.bl false)))
  sNext)
def tNum : FS := (sSeq (sSet 18 (fCall fn__law_take (fCons (fVar 0) (fCons (fBin oAdd (fVar 11) (fC (.int 1))) fNil))))
  (sSeq (sSet 11 (fBin oSub (fVar 11) (fVar 18)))
  (sExpr (fMt 10 oAppend (fCons (fVar 18) fNil)))))
def tWays : FS := (sFor (itSeq (fOp oTup (fCons (fC (.str (PySem.Str.ofString "even"))) (fCons (fC (.str (PySem.Str.ofString "zero"))) (fCons (fC (.str (PySem.Str.ofString "up"))) (fCons (fC (.str (PySem.Str.ofString "down"))) fNil)))))) (bName 14)
  (sIf (fOrT (fTB (fBin oNe (fBin oIx (fCall fn_summed (fCons (fVar 1) (fCons (fVar 13) (fCons (fVar 14) fNil)))) (fC (.int 1))) (fOp oTup (fCons (fOp oSum (fCons (fVar 10) fNil)) (fCons (fC (.int 1)) fNil))))) (fOrT (fTB (fBin oNe (fCall fn_value (fCons (fVar 1) (fCons (fBin oIx (fCall fn_summed (fCons (fVar 1) (fCons (fVar 13) (fCons (fVar 14) fNil)))) (fC (.int 0))) fNil))) (fOp oTup (fCons (fOp oSum (fCons (fVar 10) fNil)) (fCons (fC (.int 1)) fNil))))) (fTB (fBin oNe (fCall fn_value (fCons (fVar 1) (fCons (fBin oIx (fCall fn_summed (fCons (fVar 1) (fCons (fUn oRev (fVar 13)) (fCons (fVar 14) fNil)))) (fC (.int 0))) fNil))) (fOp oTup (fCons (fOp oSum (fCons (fVar 10) fNil)) (fCons (fC (.int 1)) fNil)))))))
  (sRet (fC (.bl false)))
  sNext))
def tDiv : FS := (sIf (fAndT (fTB (fBin oNotN (fVar 6) (fC .non))) (fAndT (fTB (fBin oNotN (fVar 7) (fC .non))) (fTB (fBin oNe (fBin oIx (fVar 7) (fC (.int 0))) (fC (.int 0))))))
  (sSeq (sSet 19 (fCall fn_divide (fCons (fVar 1) (fCons (fVar 3) (fCons (fVar 4) (fCons (fC (.str (PySem.Str.ofString "down"))) fNil))))))
  (sSeq (sSet 20 (fCall fn_divide (fCons (fVar 1) (fCons (fVar 3) (fCons (fVar 4) (fCons (fC (.str (PySem.Str.ofString "up"))) fNil))))))
  (sFor (itSeq (fOp oTup (fCons (fVar 19) (fCons (fVar 20) fNil)))) (bName 5)
  (sSeq (sSet 15 (fCall fn_value (fCons (fVar 1) (fCons (fVar 5) fNil))))
  (sIf (fTB (fBin oNotN (fVar 15) (fC .non)))
  (sSeq (sSet 24 (fOp oTup (fCons (fBin oMul (fBin oIx (fVar 15) (fC (.int 0))) (fBin oIx (fVar 7) (fC (.int 0)))) (fCons (fBin oMul (fBin oIx (fVar 15) (fC (.int 1))) (fBin oIx (fVar 7) (fC (.int 1)))) fNil))))
  (sSeq (sSet 25 (fIf (fTB (fBin oGt (fBin oIx (fVar 7) (fC (.int 0))) (fC (.int 0)))) (fC (.int 1)) (fUn oNeg (fC (.int 1)))))
  (sSeq (sSet 26 (fBin oMul (fVar 25) (fBin oSub (fBin oMul (fBin oIx (fVar 24) (fC (.int 0))) (fBin oIx (fVar 6) (fC (.int 1)))) (fBin oMul (fBin oIx (fVar 6) (fC (.int 0))) (fBin oIx (fVar 24) (fC (.int 1)))))))
  (sIf (fOrT (fAndT (fTB (fBin oEq (fVar 5) (fVar 19))) (fAndT (fTB (fBin oNe (fVar 19) (fVar 20))) (fTB (fBin oGe (fVar 26) (fC (.int 0)))))) (fOrT (fAndT (fTB (fBin oEq (fVar 5) (fVar 20))) (fAndT (fTB (fBin oNe (fVar 19) (fVar 20))) (fTB (fBin oLe (fVar 26) (fC (.int 0)))))) (fAndT (fTB (fBin oEq (fVar 19) (fVar 20))) (fTB (fBin oNe (fVar 26) (fC (.int 0)))))))
  (sRet (fC (.bl false)))
  sNext))))
  sNext)))))
  sNext)
def tKind : FS := (sIf (fAndT (fTB (fBin oInT (fCall fn_kind (fCons (fVar 1) (fCons (fVar 3) fNil))) (fOp oTup (fCons (fC (.str (PySem.Str.ofString "small"))) (fCons (fC (.str (PySem.Str.ofString "full"))) fNil))))) (fTB (fBin oNe (fBin oEq (fBin oIx (fCall fn_parts (fCons (fVar 1) (fCons (fVar 3) fNil))) (fC (.int 1))) (fC (.int 0))) (fBin oEq (fCall fn_kind (fCons (fVar 1) (fCons (fVar 3) fNil))) (fC (.str (PySem.Str.ofString "small")))))))
  (sRet (fC (.bl false)))
  sNext)
section
variable {e p : Int} {Q T H L g : Nat}
/-- what a code may be worth -/
def Va (Q L g s m : Nat) (v : D) : Prop := (v = .non ∧ g < m) ∨ ∃ n d : Int, v = .tup [.int n, .int d] ∧ m ≤ g ∧ n * 2 ^ L = sV s (V Q m) * d ∧ 0 < d ∧ d ≤ 1024 ∧ -(2 ^ 20) ≤ n ∧ n ≤ 2 ^ 20
theorem va_of (h : Fm e p Q T H L g) {c : Int} {s m : Nat} (hc : Cd H c s m) : ∃ v, fn_value [.d (fD e p), .d (.int c)] = some (.d v, [.d (fD e p), .d (.int c)]) ∧ Va Q L g s m v := by
  by_cases hm : m ≤ g
  · obtain ⟨n, d, v1, v2, v3, v4, v5, v6, _⟩ := val_of h hc hm
    exact ⟨_, v1, .inr ⟨n, d, rfl, hm, v2, v3, v4, v5, v6⟩⟩
  · exact ⟨_, f_value_none h hc (by omega), .inl ⟨rfl, by omega⟩⟩
theorem pos_s {n d : Int} {s m : Nat} (hs : s ≤ 1) (h1 : n * 2 ^ L = sV s (V Q m) * d) (hd : 0 < d) (hn : 0 < n) : s = 0 := by
  by_cases z : s = 0
  · exact z
  · have h2 : sV s (V Q m) ≤ 0 := by unfold sV; rw [if_pos (by omega)]; omega
    have := Int.mul_pos hn (pL_pos L)
    have := Int.mul_nonpos_of_nonpos_of_nonneg h2 (show 0 ≤ d by omega)
    omega
theorem mono_ok (h : Fm e p Q T H L g) {one oth : Int} {s1 m1 s2 m2 : Nat} (h1 : Cd H one s1 m1) (h2 : Cd H oth s2 m2) {va vb : D} (a : Va Q L g s1 m1 va) (b : Va Q L g s2 m2 vb) {o0 o1 o2 o5 o8 o9 o10 o11 o12 o13 o14 o15 o16 o17 o18 o19 o20 o21 o22 o23 o24 o25 o26 : Option S} :
    tMono [o0, o1, o2, some (.d (.int one)), some (.d (.int oth)), o5, some (.d va), some (.d vb), o8, o9, o10, o11, o12, o13, o14, o15, o16, o17, o18, o19, o20, o21, o22, o23, o24, o25, o26] = some (.nx [o0, o1, o2, some (.d (.int one)), some (.d (.int oth)), o5, some (.d va), some (.d vb), o8, o9, o10, o11, o12, o13, o14, o15, o16, o17, o18, o19, o20, o21, o22, o23, o24, o25, o26]) := by
  unfold tMono
  rcases a with ⟨rfl, _⟩ | ⟨n1, d1, rfl, g1, a1, a2, a3, a4, a5⟩
  · generalize fn__law_less = F at *
    simp -implicitDefEqProofs
  · rcases b with ⟨rfl, _⟩ | ⟨n2, d2, rfl, g2, b1, b2, b3, b4, b5⟩
    · generalize fn__law_less = F at *
      simp -implicitDefEqProofs
    · have k1 : mulC n1 d2 = true := mulS (by omega) (by omega) (by omega) (by omega)
      have k2 : mulC n2 d1 = true := mulS (by omega) (by omega) (by omega) (by omega)
      have fl := f_lawless (a := n1) (b := d1) (c := n2) (d := d2) k1 k2
      by_cases p1 : 0 < n1
      · by_cases p2 : 0 < n2
        · have e1 := pos_s h1.s1 a1 a2 p1
          have e2 := pos_s h2.s1 b1 b2 p2
          subst e1 e2
          have c1 := h1.eq
          have c2 := h2.eq
          rw [sV0] at a1 b1
          have hc := (cmp2 (n := n1) (n' := n2) a1 b1 a2 b2 (pL_pos L)).1
          have hVV : (V Q m1 : Int) < V Q m2 ↔ one < oth := by
            have q1 := V_le_iff (Q0 h) (m := m2) (n := m1)
            simp only [Int.natCast_zero, Int.zero_mul, Int.zero_add] at c1 c2
            omega
          rw [hVV] at hc
          generalize fn__law_less = F at *
          simp -implicitDefEqProofs [fl, eq_true p1, eq_true p2, hc]
        · generalize fn__law_less = F at *
          simp -implicitDefEqProofs [eq_true p1, eq_false p2]
      · generalize fn__law_less = F at *
        simp -implicitDefEqProofs [eq_false p1]
theorem num_ok : ∀ (xs : List D) (NI : List Int) (rm : Int) (st : M), (∀ x ∈ xs, ∃ i, x = D.int i) → GS st → 0 ≤ rm → rm ≤ 1000 → NI.length + xs.length ≤ 100 → (∀ x ∈ NI, 0 ≤ x) →
    ∃ (st' : M) (N2 : List Int) (rm' : Int), GS st' ∧ 0 ≤ rm' ∧ N2.sum + rm' = NI.sum + rm ∧ (∀ x ∈ N2, 0 ≤ x) ∧ N2.length = NI.length + xs.length ∧ ∀ o1 o2 o3 o4 o5 o6 o7 o8 o9 o12 o13 o14 o15 o16 o17 o18 o19 o20 o21 o22 o23 o24 o25 o26 : Option S, ∃ q12 q18 : Option S, forL (bName 12) tNum xs [some (.m st), o1, o2, o3, o4, o5, o6, o7, o8, o9, some (.m (.lst (NI.map D.int))), some (.d (.int rm)), o12, o13, o14, o15, o16, o17, o18, o19, o20, o21, o22, o23, o24, o25, o26] = some (.nx [some (.m st'), o1, o2, o3, o4, o5, o6, o7, o8, o9, some (.m (.lst (N2.map D.int))), some (.d (.int rm')), q12, o13, o14, o15, o16, o17, q18, o19, o20, o21, o22, o23, o24, o25, o26])
  | [], NI, rm, st, _, g, h0, _, _, hn => ⟨st, NI, rm, g, h0, rfl, hn, by simp, fun o1 o2 o3 o4 o5 o6 o7 o8 o9 o12 o13 o14 o15 o16 o17 o18 o19 o20 o21 o22 o23 o24 o25 o26 => ⟨o12, o18, rfl⟩⟩
  | x :: xs, NI, rm, st, hx, g, h0, h1, hl, hn => by
    obtain ⟨i, rfl⟩ := hx x (by simp)
    obtain ⟨r, st2, t1, t2, t3, g2⟩ := f_take (many := rm + 1) g (by omega) (by omega)
    simp only [List.length_cons] at hl
    obtain ⟨st', N2, rm', g3, h2, h3, h4, h5, h6⟩ := num_ok xs (NI ++ [r]) (rm - r) st2 (fun x h => hx x (by simp [h])) g2 (by omega) (by omega) (by simp; omega) (by
      intro x hx
      rcases List.mem_append.mp hx with q | q
      · exact hn x q
      · rw [List.mem_singleton.mp q]; exact t2)
    refine ⟨st', N2, rm', g3, h2, ?_, h4, ?_, ?_⟩
    · rw [List.sum_append] at h3
      simp at h3
      omega
    · rw [h5]; simp; omega
    · intro o1 o2 o3 o4 o5 o6 o7 o8 o9 o12 o13 o14 o15 o16 o17 o18 o19 o20 o21 o22 o23 o24 o25 o26
      have zl : NI.length < sizeLine := sizeLine_gt (by omega)
      obtain ⟨q12, q18, h7⟩ := h6 o1 o2 o3 o4 o5 o6 o7 o8 o9 (some (.d (.int i))) o13 o14 o15 o16 o17 (some (.d (.int r))) o19 o20 o21 o22 o23 o24 o25 o26
      refine ⟨q12, q18, ?_⟩
      have hb : tNum [some (.m st), o1, o2, o3, o4, o5, o6, o7, o8, o9, some (.m (.lst (NI.map D.int))), some (.d (.int rm)), some (.d (.int i)), o13, o14, o15, o16, o17, o18, o19, o20, o21, o22, o23, o24, o25, o26] = some (.nx [some (.m st2), o1, o2, o3, o4, o5, o6, o7, o8, o9, some (.m (.lst ((NI ++ [r]).map D.int))), some (.d (.int (rm - r))), some (.d (.int i)), o13, o14, o15, o16, o17, some (.d (.int r)), o19, o20, o21, o22, o23, o24, o25, o26]) := by
        unfold tNum
        generalize fn__law_take = F at *
        simp -implicitDefEqProofs [t1, zl]
      rw [forL_cons]
      show whileK _ (tNum [some (.m st), o1, o2, o3, o4, o5, o6, o7, o8, o9, some (.m (.lst (NI.map D.int))), some (.d (.int rm)), some (.d (.int i)), o13, o14, o15, o16, o17, o18, o19, o20, o21, o22, o23, o24, o25, o26]) = _
      rw [hb, whileK_nx]
      exact h7
end
end K43
end

section
set_option Elab.async false
set_option linter.all false
set_option maxRecDepth 100000
set_option maxHeartbeats 8000000
namespace K43
open PySem PySem.Spec PyProof.Rows L2 QL
section
variable {e p : Int} {Q T H L g : Nat}
theorem ways_ok (h : Fm e p Q T H L g) {R : Nat} {cf : Nat → Nat} (rp : Rp Q g L R cf) (hR : R ≤ 1000) {N : List Nat} (hS : N.sum ≤ R) {N2 : List Int} (hN : N2.sum = (N.sum : Nat)) {CC : List D} (hC : CC = N.map fun n => D.int (cf n : Nat)) {o0 o2 o3 o4 o5 o6 o7 o8 o9 o11 o12 o15 o16 o17 o18 o19 o20 o21 o22 o23 o24 o25 o26 o14 : Option S} :
    tWays [o0, some (.d (fD e p)), o2, o3, o4, o5, o6, o7, o8, o9, some (.m (.lst (N2.map D.int))), o11, o12, some (.d (.tup CC)), o14, o15, o16, o17, o18, o19, o20, o21, o22, o23, o24, o25, o26] = some (.nx [o0, some (.d (fD e p)), o2, o3, o4, o5, o6, o7, o8, o9, some (.m (.lst (N2.map D.int))), o11, o12, some (.d (.tup CC)), some (.d (.str (PySem.Str.ofString "down"))), o15, o16, o17, o18, o19, o20, o21, o22, o23, o24, o25, o26]) := by
  unfold tWays
  have a := fun W => f_summed h rp hR hS W
  have b := fun W => f_summed h rp hR (N := N.reverse) (by rw [List.sum_reverse]; exact hS) W
  simp only [List.sum_reverse, List.map_reverse, ← hC] at a b
  have a1 := a .even
  have a2 := a .zero
  have a3 := a .up
  have a4 := a .down
  have b1 := b .even
  have b2 := b .zero
  have b3 := b .up
  have b4 := b .down
  have v := val_whole h rp hS
  simp only [Way.w] at a1 a2 a3 a4 b1 b2 b3 b4
  have z2 : 2 ≤ sizeLine := smallT (by decide)
  have z4 : 4 ≤ sizeLine := smallT (by decide)
  clear a b
  generalize fn_summed = F1 at *
  generalize fn_value = F2 at *
  generalize ((cf N.sum : Nat) : Int) = cs at *
  generalize ((N.sum : Nat) : Int) = sm at *
  simp -implicitDefEqProofs [forL_cons, a1, a2, a3, a4, b1, b2, b3, b4, v, oSum, hN, z2, z4]
theorem cf_round (h : Fm e p Q T H L g) {R : Nat} {cf : Nat → Nat} (rp : Rp Q g L R cf) (hR : R ≤ 1000) {n : Nat} (hn : n ≤ R) :
    fn_rounded [.d (fD e p), .d (.tup [.int n, .int 1]), .d (.str (PySem.Str.ofString "even"))] = some (.d (.int (cf n : Nat)), [.d (fD e p), .d (.tup [.int n, .int 1]), .d (.str (PySem.Str.ofString "even"))]) := by
  have a := f_round_code h (s := 0) (m := cf n) (n := n) (d := 1) (by omega) (rp.le n hn) (by omega) (by omega) (by omega) (by omega) (by rw [sV0, rp.v n hn]; push_cast; omega) .even
  have e1 : (if cf n = 0 then (0 : Int) else ((0 : Nat) : Int) * H + (cf n : Nat)) = (cf n : Nat) := by split <;> simp [*]
  rw [e1] at a
  exact a
/-- what is asked of the quotient c between lo and hi -/
def Qc (n1 d1 n2 d2 lo hi c : Int) (v : D) : Prop := v = .non ∨ ∃ nt dt : Int, v = .tup [.int nt, .int dt] ∧ 0 < dt ∧ dt ≤ 1024 ∧ -(2 ^ 20) ≤ nt ∧ nt ≤ 2 ^ 20 ∧
  (lo = hi → ((if 0 < n2 then (1 : Int) else -1) * (nt * n2 * d1 - n1 * (dt * d2))) = 0) ∧ (¬ lo = hi → c = lo → ((if 0 < n2 then (1 : Int) else -1) * (nt * n2 * d1 - n1 * (dt * d2))) < 0) ∧ (¬ lo = hi → c = hi → 0 < ((if 0 < n2 then (1 : Int) else -1) * (nt * n2 * d1 - n1 * (dt * d2))))
def tDB : FS := (sSeq (sSet 15 (fCall fn_value (fCons (fVar 1) (fCons (fVar 5) fNil))))
  (sIf (fTB (fBin oNotN (fVar 15) (fC .non)))
  (sSeq (sSet 24 (fOp oTup (fCons (fBin oMul (fBin oIx (fVar 15) (fC (.int 0))) (fBin oIx (fVar 7) (fC (.int 0)))) (fCons (fBin oMul (fBin oIx (fVar 15) (fC (.int 1))) (fBin oIx (fVar 7) (fC (.int 1)))) fNil))))
  (sSeq (sSet 25 (fIf (fTB (fBin oGt (fBin oIx (fVar 7) (fC (.int 0))) (fC (.int 0)))) (fC (.int 1)) (fUn oNeg (fC (.int 1)))))
  (sSeq (sSet 26 (fBin oMul (fVar 25) (fBin oSub (fBin oMul (fBin oIx (fVar 24) (fC (.int 0))) (fBin oIx (fVar 6) (fC (.int 1)))) (fBin oMul (fBin oIx (fVar 6) (fC (.int 0))) (fBin oIx (fVar 24) (fC (.int 1)))))))
  (sIf (fOrT (fAndT (fTB (fBin oEq (fVar 5) (fVar 19))) (fAndT (fTB (fBin oNe (fVar 19) (fVar 20))) (fTB (fBin oGe (fVar 26) (fC (.int 0)))))) (fOrT (fAndT (fTB (fBin oEq (fVar 5) (fVar 20))) (fAndT (fTB (fBin oNe (fVar 19) (fVar 20))) (fTB (fBin oLe (fVar 26) (fC (.int 0)))))) (fAndT (fTB (fBin oEq (fVar 19) (fVar 20))) (fTB (fBin oNe (fVar 26) (fC (.int 0)))))))
  (sRet (fC (.bl false)))
  sNext))))
  sNext))
theorem db_ok {n1 d1 n2 d2 lo hi c : Int} {v : D} (hc : c = lo ∨ c = hi) (hv : fn_value [.d (fD e p), .d (.int c)] = some (.d v, [.d (fD e p), .d (.int c)])) (q : Qc n1 d1 n2 d2 lo hi c v) (b1 : 0 < d1 ∧ d1 ≤ 1024) (b2 : 0 < d2 ∧ d2 ≤ 1024) (b3 : -(2 ^ 20) ≤ n1 ∧ n1 ≤ 2 ^ 20) (b4 : -(2 ^ 20) ≤ n2 ∧ n2 ≤ 2 ^ 20) {o0 o2 o3 o4 o8 o9 o10 o11 o12 o13 o14 o15 o16 o17 o18 o21 o22 o23 o24 o25 o26 : Option S} :
    ∃ q15 q24 q25 q26 : Option S, tDB [o0, some (.d (fD e p)), o2, o3, o4, some (.d (.int c)), some (.d (.tup [.int n1, .int d1])), some (.d (.tup [.int n2, .int d2])), o8, o9, o10, o11, o12, o13, o14, o15, o16, o17, o18, some (.d (.int lo)), some (.d (.int hi)), o21, o22, o23, o24, o25, o26] = some (.nx [o0, some (.d (fD e p)), o2, o3, o4, some (.d (.int c)), some (.d (.tup [.int n1, .int d1])), some (.d (.tup [.int n2, .int d2])), o8, o9, o10, o11, o12, o13, o14, q15, o16, o17, o18, some (.d (.int lo)), some (.d (.int hi)), o21, o22, o23, q24, q25, q26]) := by
  unfold tDB
  rcases q with rfl | ⟨nt, dt, rfl, u1, u2, u3, u4, u5, u6, u7⟩
  · generalize fn_value = F at *
    exact ⟨some (.d .non), o24, o25, o26, by simp -implicitDefEqProofs [hv]⟩
  · have w1 := mul_bound (a := nt) (A := 2 ^ 20) (b := n2) (B := 2 ^ 20) (by omega) (by omega) (by omega) (by omega)
    have w2 := mul_bound (a := dt) (A := 1024) (b := d2) (B := 1024) (by omega) (by omega) (by omega) (by omega)
    have w3 := mul_bound (a := nt * n2) (A := 2 ^ 40) (b := d1) (B := 1024) (by omega) (by omega) (by omega) (by omega)
    have w4 := mul_bound (a := n1) (A := 2 ^ 20) (b := dt * d2) (B := 2 ^ 20) (by omega) (by omega) (by omega) (by omega)
    have k1 : mulC nt n2 = true := mulS (by omega) (by omega) (by omega) (by omega)
    have k2 : mulC dt d2 = true := mulS (by omega) (by omega) (by omega) (by omega)
    have k3 : mulC (nt * n2) d1 = true := mulS (by omega) (by omega) (by omega) (by omega)
    have k4 : mulC n1 (dt * d2) = true := mulS (by omega) (by omega) (by omega) (by omega)
    have z2 : 2 ≤ sizeLine := smallT (by decide)
    obtain ⟨sg, hsg⟩ : ∃ sg : Int, sg = (if 0 < n2 then (1 : Int) else -1) := ⟨_, rfl⟩
    have hsb : sg = 1 ∨ sg = -1 := by rw [hsg]; split <;> simp
    have k5 : mulC sg (nt * n2 * d1 - n1 * (dt * d2)) = true := mulS (by omega) (by omega) (by omega) (by omega)
    rw [← hsg] at u5 u6 u7
    refine ⟨some (.d (.tup [.int nt, .int dt])), some (.d (.tup [.int (nt * n2), .int (dt * d2)])), some (.d (.int sg)), some (.d (.int (sg * (nt * n2 * d1 - n1 * (dt * d2))))), ?_⟩
    generalize fn_value = F at *
    by_cases pn : 0 < n2
    · rw [if_pos pn] at hsg
      subst hsg
      rw [Int.one_mul] at *
      generalize hg0 : nt * n2 * d1 - n1 * (dt * d2) = gp at *
      by_cases zz : lo = hi
      · have := u5 zz
        simp -implicitDefEqProofs [hv, k1, k2, k3, k4, k5, z2, hg0, eq_true pn, eq_true zz, eq_true this]
      · rcases hc with hc | hc
        · have h1 := u6 zz hc
          have h2 : ¬ 0 ≤ gp := by omega
          have h3 : ¬ c = hi := by omega
          simp -implicitDefEqProofs [hv, k1, k2, k3, k4, k5, z2, hg0, eq_true pn, eq_false zz, eq_true hc, eq_false h2, eq_false h3]
        · have h1 := u7 zz hc
          have h2 : ¬ gp ≤ 0 := by omega
          have h3 : ¬ c = lo := by omega
          simp -implicitDefEqProofs [hv, k1, k2, k3, k4, k5, z2, hg0, eq_true pn, eq_false zz, eq_true hc, eq_false h2, eq_false h3]
    · rw [if_neg pn] at hsg
      subst hsg
      generalize hg0 : nt * n2 * d1 - n1 * (dt * d2) = gp at *
      generalize hgp : -1 * gp = gq at *
      have hgp2 : -gp = gq := by omega
      have k6 : mulC (-1) gp = true := k5
      by_cases zz : lo = hi
      · have := u5 zz
        simp -implicitDefEqProofs [hv, k1, k2, k3, k4, k5, z2, hg0, hgp, hgp2, eq_false pn, eq_true zz, eq_true this]
      · rcases hc with hc | hc
        · have h1 := u6 zz hc
          have h2 : ¬ 0 ≤ gq := by omega
          have h3 : ¬ c = hi := by omega
          simp -implicitDefEqProofs [hv, k1, k2, k3, k4, k5, z2, hg0, hgp, hgp2, eq_false pn, eq_false zz, eq_true hc, eq_false h2, eq_false h3]
        · have h1 := u7 zz hc
          have h2 : ¬ gq ≤ 0 := by omega
          have h3 : ¬ c = lo := by omega
          simp -implicitDefEqProofs [hv, k1, k2, k3, k4, k5, z2, hg0, hgp, hgp2, eq_false pn, eq_false zz, eq_true hc, eq_false h2, eq_false h3]
end
end K43
end

section
set_option Elab.async false
set_option linter.all false
set_option maxRecDepth 100000
set_option maxHeartbeats 8000000
namespace K43
open PySem PySem.Spec PyProof.Rows L2 QL
section
variable {e p : Int} {Q T H L g : Nat}
theorem conv_le {x tt b A B Z : Int} (hb : 0 < b) (hB : 0 < B) (e : tt * B = A * b) : x * b ≤ tt * Z ↔ x * B ≤ A * Z := by
  rw [← Int.mul_le_mul_right hB, ← Int.mul_le_mul_right hb (b := x * B)]
  rw [show tt * Z * B = tt * B * Z by grind, e, show x * b * B = x * B * b by grind, show A * b * Z = A * Z * b by grind]
theorem conv_eq {x tt b A B Z : Int} (hb : 0 < b) (hB : 0 < B) (e : tt * B = A * b) : x * b = tt * Z ↔ x * B = A * Z := by
  constructor
  · intro h
    refine cancel hb ?_
    rw [show x * B * b = x * b * B by grind, h, show tt * Z * B = tt * B * Z by grind, e]
    grind
  · intro h
    refine cancel hB ?_
    rw [show x * b * B = x * B * b by grind, h, show tt * Z * B = tt * B * Z by grind, e]
    grind
theorem IsF.conv {tt b A B : Int} {low : Nat} (hb : 0 < b) (hB : 0 < B) (e : tt * B = A * b) (h : IsF Q g L tt b low) : IsF Q g L A B low :=
  ⟨h.le, (conv_le hb hB e).mp h.lo, fun z => by
    have h1 := h.hi z
    have h2 := mt (conv_le (x := (V Q (low + 1) : Int)) (Z := 2 ^ L) hb hB e).mpr (by omega)
    omega⟩
theorem sV_div {t b : Int} {s1 s2 A B : Nat} (h1 : s1 ≤ 1) (h2 : s2 ≤ 1) (e : t * sV s2 B = sV s1 A * b) : t * B = sV ((s1 + s2) % 2) A * b := by
  have a : s1 = 0 ∨ s1 = 1 := by omega
  have c : s2 = 0 ∨ s2 = 1 := by omega
  rcases a with rfl | rfl <;> rcases c with rfl | rfl <;> simp [sV] at * <;> grind
def sI (s : Nat) (x : Int) : Int := if s = 1 then -x else x
theorem gap_sign {n1 d1 n2 d2 nt dt Z : Int} {s1 s2 A B W : Nat} (h1 : s1 ≤ 1) (h2 : s2 ≤ 1) (hB : 0 < B) (hZ : 0 < Z) (hd2 : 0 < d2) (e1 : n1 * Z = sV s1 A * d1) (e2 : n2 * Z = sV s2 B * d2) (et : nt * Z = sV ((s1 + s2) % 2) W * dt) :
    ((if 0 < n2 then (1 : Int) else -1) * (nt * n2 * d1 - n1 * (dt * d2))) * (Z * Z) = (dt * d1 * d2) * sI ((s1 + s2) % 2) ((W : Int) * B - A * Z) := by
  have a : s1 = 0 ∨ s1 = 1 := by omega
  have c : s2 = 0 ∨ s2 = 1 := by omega
  have hpos : (0 < n2) ↔ s2 = 0 := by
    rcases c with rfl | rfl
    · constructor
      · intro _; rfl
      · intro _
        have : 0 < n2 * Z := by rw [e2]; exact Int.mul_pos (by rw [sV0]; omega) hd2
        by_cases q : 0 < n2
        · exact q
        · have := Int.mul_nonpos_of_nonpos_of_nonneg (show n2 ≤ 0 by omega) (show 0 ≤ Z by omega)
          omega
    · constructor
      · intro q
        have := Int.mul_pos q hZ
        rw [e2] at this
        have h3 : sV 1 B = -(B : Int) := rfl
        rw [h3] at this
        have := Int.mul_neg_of_neg_of_pos (show -(B : Int) < 0 by omega) hd2
        omega
      · intro q; omega
  rw [show ∀ sg : Int, sg * (nt * n2 * d1 - n1 * (dt * d2)) * (Z * Z) = sg * ((nt * Z) * (n2 * Z) * d1 - (n1 * Z) * Z * (dt * d2)) from fun sg => by grind, e1, e2, et]
  rcases a with rfl | rfl <;> rcases c with rfl | rfl
  · rw [if_pos (hpos.mpr rfl)]; simp [sV, sI]; grind
  · rw [if_neg (by rw [hpos]; omega)]; simp [sV, sI]; grind
  · rw [if_pos (hpos.mpr rfl)]; simp [sV, sI]; grind
  · rw [if_neg (by rw [hpos]; omega)]; simp [sV, sI]; grind
theorem sign_of {G K X N : Int} (hK : 0 < K) (hN : 0 < N) (e : G * N = K * X) : (X = 0 → G = 0) ∧ (X < 0 → G < 0) ∧ (0 < X → 0 < G) := by
  refine ⟨fun q => ?_, fun q => ?_, fun q => ?_⟩
  · rw [q, Int.mul_zero] at e
    exact cancel hN (by rw [e, Int.zero_mul])
  · have h1 : K * X < 0 := Int.mul_neg_of_pos_of_neg hK q
    by_cases z : G < 0
    · exact z
    · have := Int.mul_nonneg (show 0 ≤ G by omega) (show 0 ≤ N by omega)
      omega
  · have h1 : 0 < K * X := Int.mul_pos hK q
    by_cases z : 0 < G
    · exact z
    · have := Int.mul_nonpos_of_nonpos_of_nonneg (show G ≤ 0 by omega) (show 0 ≤ N by omega)
      omega
theorem quo_ok (h : Fm e p Q T H L g) {one oth : Int} {s1 m1 s2 m2 : Nat} (h1 : Cd H one s1 m1) (h2 : Cd H oth s2 m2) (k1 : m1 ≤ g) (k2 : m2 ≤ g) (z2 : m2 ≠ 0) {n1 d1 n2 d2 : Int}
    (a1 : n1 * 2 ^ L = sV s1 (V Q m1) * d1) (a2 : 0 < d1) (b1 : n2 * 2 ^ L = sV s2 (V Q m2) * d2) (b2 : 0 < d2) :
    ∃ (lo hi : Int) (vl vh : D), fn_divide [.d (fD e p), .d (.int one), .d (.int oth), .d (.str (PySem.Str.ofString "down"))] = some (.d (.int lo), [.d (fD e p), .d (.int one), .d (.int oth), .d (.str (PySem.Str.ofString "down"))]) ∧
      fn_divide [.d (fD e p), .d (.int one), .d (.int oth), .d (.str (PySem.Str.ofString "up"))] = some (.d (.int hi), [.d (fD e p), .d (.int one), .d (.int oth), .d (.str (PySem.Str.ofString "up"))]) ∧
      fn_value [.d (fD e p), .d (.int lo)] = some (.d vl, [.d (fD e p), .d (.int lo)]) ∧ fn_value [.d (fD e p), .d (.int hi)] = some (.d vh, [.d (fD e p), .d (.int hi)]) ∧
      Qc n1 d1 n2 d2 lo hi lo vl ∧ Qc n1 d1 n2 d2 lo hi hi vh := by
  have hZ := pL_pos L
  have hB := V_pos h z2
  by_cases z1 : m1 = 0
  · have c1 := f_div0 h h1 h2 z1 k2 z2 .down
    have c2 := f_div0 h h1 h2 z1 k2 z2 .up
    simp only [Way.w] at c1 c2
    have cz : Cd H ((((s1 + s2) % 2 : Nat) : Int) * H) ((s1 + s2) % 2) 0 := ⟨by omega, by omega, by have := h1.mH; omega⟩
    obtain ⟨nz, dz, v1, v2, v3, v4, v5, v6, _⟩ := val_of h cz (by omega)
    have n10 : n1 = 0 := by
      refine cancel hZ ?_
      rw [a1, z1, V_zero (Q0 h)]
      unfold sV; split <;> simp
    have nz0 : nz = 0 := by
      refine cancel hZ ?_
      rw [v2, V_zero (Q0 h)]
      unfold sV; split <;> simp
    have q : Qc n1 d1 n2 d2 ((((s1 + s2) % 2 : Nat) : Int) * H) ((((s1 + s2) % 2 : Nat) : Int) * H) ((((s1 + s2) % 2 : Nat) : Int) * H) (.tup [.int nz, .int dz]) := by
      refine .inr ⟨nz, dz, rfl, v3, v4, v5, v6, fun _ => ?_, fun q => absurd rfl q, fun q => absurd rfl q⟩
      rw [n10, nz0]
      simp
    exact ⟨_, _, _, _, c1, c2, v1, v1, q, q⟩
  · obtain ⟨t, b, low, nb, u1, u2, u3, u4⟩ := f_div h h1 h2 k1 k2 z1 z2 .down
    obtain ⟨t', b', low', nb', w1, w2, w3, w4⟩ := f_div h h1 h2 k1 k2 z1 z2 .up
    have hA := V_pos h z1
    have u5 := sV_div h1.s1 h2.s1 u2
    have w5 := sV_div h1.s1 h2.s1 w2
    have hs : (s1 + s2) % 2 ≤ 1 := by omega
    have u6 : sgn t = (s1 + s2) % 2 := by rw [sgn_like u1 (by omega) u5, sV_sgn hs hA]
    have w6 : sgn t' = (s1 + s2) % 2 := by rw [sgn_like w1 (by omega) w5, sV_sgn hs hA]
    have u7 := abs_like u1 (by omega) u5
    have w7 := abs_like w1 (by omega) w5
    rw [sV_abs] at u7 w7
    have u8 := u3.conv u1 (by omega) u7
    have w8 := w3.conv w1 (by omega) w7
    have e1 := u8.uniq (Q0 h) (by omega) w8
    subst e1
    have u9 := conv_eq (x := (V Q low : Int)) (Z := 2 ^ L) u1 (by omega) u7
    have w9 := conv_eq (x := (V Q low : Int)) (Z := 2 ^ L) w1 (by omega) w7
    unfold rnd at u4 w4
    rw [u6] at u4
    rw [w6] at w4
    simp only [Way.w, Way.goes, decide_eq_true_eq] at u4 w4
    have hlg := u8.le
    have hg := h.hg
    have q2 := h.Q2
    -- a code of the quotient's sign
    have mk : ∀ (lo hi c : Int) (m : Nat), c = (((s1 + s2) % 2 : Nat) : Int) * H + m → m ≤ g + 1 → (lo = hi → (V Q m : Int) * V Q m2 = V Q m1 * 2 ^ L) →
        (¬ lo = hi → c = lo → sI ((s1 + s2) % 2) ((V Q m : Int) * V Q m2 - V Q m1 * 2 ^ L) < 0) → (¬ lo = hi → c = hi → 0 < sI ((s1 + s2) % 2) ((V Q m : Int) * V Q m2 - V Q m1 * 2 ^ L)) →
        ∃ v, fn_value [.d (fD e p), .d (.int c)] = some (.d v, [.d (fD e p), .d (.int c)]) ∧ Qc n1 d1 n2 d2 lo hi c v := by
      intro lo hi c m hc hm x1 x2 x3
      have cc : Cd H c ((s1 + s2) % 2) m := ⟨hc, hs, by omega⟩
      obtain ⟨v, v1, v2⟩ := va_of h cc
      refine ⟨v, v1, ?_⟩
      rcases v2 with ⟨rfl, _⟩ | ⟨nt, dt, rfl, v2, v3, v4, v5, v6, v7⟩
      · exact .inl rfl
      · have gs := gap_sign h1.s1 h2.s1 hB hZ b2 a1 b1 v3
        have sg := sign_of (Int.mul_pos (Int.mul_pos v4 a2) b2) (Int.mul_pos hZ hZ) gs
        refine .inr ⟨nt, dt, rfl, v4, v5, v6, v7, fun q => sg.1 ?_, fun q r => sg.2.1 (x2 q r), fun q r => sg.2.2 (x3 q r)⟩
        rw [x1 q, Int.sub_self]
        unfold sI; split <;> rfl
    by_cases ex : (V Q low : Int) * V Q m2 = V Q m1 * 2 ^ L
    · rw [if_pos (u9.mpr ex)] at u4
      rw [if_pos (w9.mpr ex)] at w4
      obtain ⟨v, v1, v2⟩ := mk ((((s1 + s2) % 2 : Nat) : Int) * H + low + 0) ((((s1 + s2) % 2 : Nat) : Int) * H + low + 0) ((((s1 + s2) % 2 : Nat) : Int) * H + low + 0) low (by omega) (by omega) (fun _ => ex) (fun q => absurd rfl q) (fun q => absurd rfl q)
      exact ⟨_, _, _, _, u4, w4, v1, v1, v2, v2⟩
    · rw [if_neg (mt u9.mp ex)] at u4
      rw [if_neg (mt w9.mp ex)] at w4
      have below : (V Q low : Int) * V Q m2 < V Q m1 * 2 ^ L := by have := u8.lo; omega
      have above : low + 1 ≤ g → (V Q m1 : Int) * 2 ^ L < V Q (low + 1) * V Q m2 := fun q => u8.hi (by omega)
      have s01 : (s1 + s2) % 2 = 0 ∨ (s1 + s2) % 2 = 1 := by omega
      have mk2 : ∀ (lo hi c : Int), ¬ lo = hi → c = (((s1 + s2) % 2 : Nat) : Int) * H + ((low + 1 : Nat) : Int) → ((s1 + s2) % 2 = 1 → c = lo ∧ ¬ c = hi) → ((s1 + s2) % 2 = 0 → c = hi ∧ ¬ c = lo) → ∃ v, fn_value [.d (fD e p), .d (.int c)] = some (.d v, [.d (fD e p), .d (.int c)]) ∧ Qc n1 d1 n2 d2 lo hi c v := by
        intro lo hi c ne hc x1 x0
        by_cases big : low + 1 ≤ g
        · refine mk lo hi c (low + 1) hc (by omega) (fun q => absurd q ne) (fun _ q => ?_) (fun _ q => ?_)
          · rcases s01 with z | z
            · exact absurd q (x0 z).2
            · rw [z]
              have := above big
              unfold sI
              rw [if_pos rfl]
              omega
          · rcases s01 with z | z
            · rw [z]
              have := above big
              unfold sI
              rw [if_neg (by omega)]
              omega
            · exact absurd q (x1 z).2
        · have cc : Cd H c ((s1 + s2) % 2) (low + 1) := ⟨hc, hs, by omega⟩
          exact ⟨.non, f_value_none h cc (by omega), .inl rfl⟩
      have mk1 : ∀ (lo hi c : Int), ¬ lo = hi → c = (((s1 + s2) % 2 : Nat) : Int) * H + (low : Int) → ((s1 + s2) % 2 = 1 → c = hi ∧ ¬ c = lo) → ((s1 + s2) % 2 = 0 → c = lo ∧ ¬ c = hi) → ∃ v, fn_value [.d (fD e p), .d (.int c)] = some (.d v, [.d (fD e p), .d (.int c)]) ∧ Qc n1 d1 n2 d2 lo hi c v := by
        intro lo hi c ne hc x1 x0
        refine mk lo hi c low hc (by omega) (fun q => absurd q ne) (fun _ q => ?_) (fun _ q => ?_)
        · rcases s01 with z | z
          · rw [z]
            unfold sI
            rw [if_neg (by omega)]
            omega
          · exact absurd q (x1 z).2
        · rcases s01 with z | z
          · exact absurd q (x0 z).2
          · rw [z]
            unfold sI
            rw [if_pos rfl]
            omega
      rcases s01 with z | z
      · rw [z] at u4 w4 mk1 mk2
        rw [if_neg (by omega)] at u4
        rw [if_pos rfl] at w4
        obtain ⟨v, v1, v2⟩ := mk1 (((0 : Nat) : Int) * H + low + 0) (((0 : Nat) : Int) * H + low + 1) (((0 : Nat) : Int) * H + low + 0) (by omega) (by omega) (fun q => by omega) (fun _ => by omega)
        obtain ⟨w, x1, x2⟩ := mk2 (((0 : Nat) : Int) * H + low + 0) (((0 : Nat) : Int) * H + low + 1) (((0 : Nat) : Int) * H + low + 1) (by omega) (by omega) (fun q => by omega) (fun _ => by omega)
        exact ⟨_, _, _, _, u4, w4, v1, x1, v2, x2⟩
      · rw [z] at u4 w4 mk1 mk2
        rw [if_pos rfl] at u4
        rw [if_neg (by omega)] at w4
        obtain ⟨v, v1, v2⟩ := mk2 (((1 : Nat) : Int) * H + low + 1) (((1 : Nat) : Int) * H + low + 0) (((1 : Nat) : Int) * H + low + 1) (by omega) (by omega) (fun _ => by omega) (fun q => by omega)
        obtain ⟨w, x1, x2⟩ := mk1 (((1 : Nat) : Int) * H + low + 1) (((1 : Nat) : Int) * H + low + 0) (((1 : Nat) : Int) * H + low + 0) (by omega) (by omega) (fun _ => by omega) (fun q => by omega)
        exact ⟨_, _, _, _, u4, w4, v1, x1, v2, x2⟩
end
end K43
end

section
set_option Elab.async false
set_option linter.all false
set_option maxRecDepth 100000
set_option maxHeartbeats 8000000
namespace K43
open PySem PySem.Spec PyProof.Rows L2 QL
theorem b_part1_eq : b__law_part1 = (sSeq (sFor (itSeq (fOp oTup (fCons (fVar 3) (fCons (fVar 4) fNil)))) (bName 5)
  bC)
  (sSeq (sSet 6 (fCall fn_value (fCons (fVar 1) (fCons (fVar 3) fNil))))
  (sSeq (sSet 7 (fCall fn_value (fCons (fVar 1) (fCons (fVar 4) fNil))))
  (sSeq tMono
  (sSeq (sSet 8 (fCall fn__law_raise (fCons (fBin oAdd (fBin oIx (fVar 1) (fC (.int 1))) (fC (.int 1))) fNil)))
  (sSeq (sSet 9 (fCall fn_value (fCons (fVar 1) (fCons (fVar 2) fNil))))
  (sSeq (sSet 10 (fOp oLst fNil))
  (sSeq (sSet 11 (fOp oMin (fCons (fVar 8) (fCons (fBin oDiv (fBin oIx (fVar 9) (fC (.int 0))) (fBin oIx (fVar 9) (fC (.int 1)))) fNil))))
  (sSeq (sFor (itRng (fCons (fCall fn__law_take (fCons (fVar 0) (fCons (fC (.int 7)) fNil))) fNil)) (bName 12)
  tNum)
  (sSeq (sSet 13 (fOp oTuple (fCons (fLock 10 (fLc [23] (itSeq (fVar 10)) (bName 23) fYes (fCall fn_rounded (fCons (fVar 1) (fCons (fOp oTup (fCons (fVar 23) (fCons (fC (.int 1)) fNil))) (fCons (fC (.str (PySem.Str.ofString "even"))) fNil)))))) fNil)))
  (sSeq tWays
  (sSeq tDiv
  (sSeq tKind
  (sRet (fAnd (fBin oEq (fCall fn_turned (fCons (fVar 1) (fCons (fCall fn_turned (fCons (fVar 1) (fCons (fVar 3) fNil))) fNil))) (fVar 3)) (fUn oNotB (fCall fn_less (fCons (fVar 1) (fCons (fVar 3) (fCons (fVar 3) fNil)))))))))))))))))))) := rfl
theorem tDiv_eq : tDiv = (sIf (fAndT (fTB (fBin oNotN (fVar 6) (fC .non))) (fAndT (fTB (fBin oNotN (fVar 7) (fC .non))) (fTB (fBin oNe (fBin oIx (fVar 7) (fC (.int 0))) (fC (.int 0))))))
  (sSeq (sSet 19 (fCall fn_divide (fCons (fVar 1) (fCons (fVar 3) (fCons (fVar 4) (fCons (fC (.str (PySem.Str.ofString "down"))) fNil))))))
  (sSeq (sSet 20 (fCall fn_divide (fCons (fVar 1) (fCons (fVar 3) (fCons (fVar 4) (fCons (fC (.str (PySem.Str.ofString "up"))) fNil))))))
  (sFor (itSeq (fOp oTup (fCons (fVar 19) (fCons (fVar 20) fNil)))) (bName 5)
  tDB)))
  sNext) := rfl
section
variable {e p : Int} {Q T H L g : Nat}
theorem div_ok (h : Fm e p Q T H L g) {one oth : Int} {s1 m1 s2 m2 : Nat} (h1 : Cd H one s1 m1) (h2 : Cd H oth s2 m2) {va vb : D} (a : Va Q L g s1 m1 va) (b : Va Q L g s2 m2 vb) {o0 o2 o5 o8 o9 o10 o11 o12 o13 o14 o15 o16 o17 o18 o19 o20 o21 o22 o23 o24 o25 o26 : Option S} :
    ∃ q5 q15 q19 q20 q24 q25 q26 : Option S, tDiv [o0, some (.d (fD e p)), o2, some (.d (.int one)), some (.d (.int oth)), o5, some (.d va), some (.d vb), o8, o9, o10, o11, o12, o13, o14, o15, o16, o17, o18, o19, o20, o21, o22, o23, o24, o25, o26] = some (.nx [o0, some (.d (fD e p)), o2, some (.d (.int one)), some (.d (.int oth)), q5, some (.d va), some (.d vb), o8, o9, o10, o11, o12, o13, o14, q15, o16, o17, o18, q19, q20, o21, o22, o23, q24, q25, q26]) := by
  rw [tDiv_eq]
  rcases a with ⟨rfl, _⟩ | ⟨n1, d1, rfl, g1, a1, a2, a3, a4, a5⟩
  · generalize fn_divide = F at *
    generalize tDB = FF at *
    exact ⟨o5, o15, o19, o20, o24, o25, o26, by simp -implicitDefEqProofs⟩
  · rcases b with ⟨rfl, _⟩ | ⟨n2, d2, rfl, g2, b1, b2, b3, b4, b5⟩
    · generalize fn_divide = F at *
      generalize tDB = FF at *
      exact ⟨o5, o15, o19, o20, o24, o25, o26, by simp -implicitDefEqProofs⟩
    · by_cases z : m2 = 0
      · have n20 : n2 = 0 := by
          refine cancel (pL_pos L) ?_
          rw [b1, z, V_zero (Q0 h)]
          unfold sV; split <;> simp
        subst n20
        generalize fn_divide = F at *
        generalize tDB = FF at *
        exact ⟨o5, o15, o19, o20, o24, o25, o26, by simp -implicitDefEqProofs⟩
      · have n2n : ¬ n2 = 0 := fun q => by
          rw [q, Int.zero_mul] at b1
          have h3 : sV s2 (V Q m2) ≠ 0 := by have := V_pos h z; unfold sV; split <;> omega
          exact absurd b1.symm (Int.mul_ne_zero h3 (by omega))
        obtain ⟨lo, hi, vl, vh, c1, c2, c3, c4, c5, c6⟩ := quo_ok h h1 h2 g1 g2 z a1 a2 b1 b2
        have D1 := db_ok (e := e) (p := p) (.inl rfl) c3 c5 ⟨a2, a3⟩ ⟨b2, b3⟩ ⟨a4, a5⟩ ⟨b4, b5⟩ (o0 := o0) (o2 := o2) (o3 := some (.d (.int one))) (o4 := some (.d (.int oth))) (o8 := o8) (o9 := o9) (o10 := o10) (o11 := o11) (o12 := o12) (o13 := o13) (o14 := o14) (o15 := o15) (o16 := o16) (o17 := o17) (o18 := o18) (o21 := o21) (o22 := o22) (o23 := o23) (o24 := o24) (o25 := o25) (o26 := o26)
        obtain ⟨x15, x24, x25, x26, D1⟩ := D1
        have D2 := db_ok (e := e) (p := p) (.inr rfl) c4 c6 ⟨a2, a3⟩ ⟨b2, b3⟩ ⟨a4, a5⟩ ⟨b4, b5⟩ (o0 := o0) (o2 := o2) (o3 := some (.d (.int one))) (o4 := some (.d (.int oth))) (o8 := o8) (o9 := o9) (o10 := o10) (o11 := o11) (o12 := o12) (o13 := o13) (o14 := o14) (o15 := x15) (o16 := o16) (o17 := o17) (o18 := o18) (o21 := o21) (o22 := o22) (o23 := o23) (o24 := x24) (o25 := x25) (o26 := x26)
        obtain ⟨y15, y24, y25, y26, D2⟩ := D2
        have z2 : 2 ≤ sizeLine := smallT (by decide)
        generalize fn_divide = F at *
        generalize tDB = FF at *
        exact ⟨some (.d (.int hi)), y15, some (.d (.int lo)), some (.d (.int hi)), y24, y25, y26, by simp -implicitDefEqProofs [forL_cons, eq_false n2n, c1, c2, z2, D1, D2]⟩
theorem kind_ok (h : Fm e p Q T H L g) {one : Int} {s m : Nat} (hc : Cd H one s m) {o0 o2 o4 o5 o6 o7 o8 o9 o10 o11 o12 o13 o14 o15 o16 o17 o18 o19 o20 o21 o22 o23 o24 o25 o26 : Option S} : tKind [o0, some (.d (fD e p)), o2, some (.d (.int one)), o4, o5, o6, o7, o8, o9, o10, o11, o12, o13, o14, o15, o16, o17, o18, o19, o20, o21, o22, o23, o24, o25, o26] = some (.nx [o0, some (.d (fD e p)), o2, some (.d (.int one)), o4, o5, o6, o7, o8, o9, o10, o11, o12, o13, o14, o15, o16, o17, o18, o19, o20, o21, o22, o23, o24, o25, o26]) := by
  unfold tKind
  obtain ⟨x, y, E⟩ := ep_of h hc.mH
  have a1 := f_kind h hc
  have a2 := f_parts h hc
  rw [E.hx, E.hy] at a2
  have f2 := E.sub
  have z2 : 2 ≤ sizeLine := smallT (by decide)
  unfold kd at a1
  generalize fn_kind = F1 at *
  generalize fn_parts = F2 at *
  by_cases z : m ≤ g
  · rw [if_pos z] at a1
    by_cases z1 : m = 0
    · rw [if_pos z1] at a1
      simp -implicitDefEqProofs [a1, z2]
    · rw [if_neg z1] at a1
      by_cases z3 : m < Q
      · rw [if_pos z3] at a1
        obtain rfl := f2.mp z3
        simp -implicitDefEqProofs [a1, a2, z2]
      · rw [if_neg z3] at a1
        have : ¬ x = 0 := fun q => z3 (f2.mpr q)
        simp -implicitDefEqProofs [a1, a2, z2, this]
  · rw [if_neg z] at a1
    by_cases z1 : m = g + 1
    · rw [if_pos z1] at a1
      simp -implicitDefEqProofs [a1, z2]
    · rw [if_neg z1] at a1
      simp -implicitDefEqProofs [a1, z2]
theorem for_codes (h : Fm e p Q T H L g) {one oth : Int} {s1 m1 s2 m2 : Nat} (h1 : Cd H one s1 m1) (h2 : Cd H oth s2 m2) {st : M} (gs : GS st) :
    ∃ (st2 : M) (r14 r15 r16 r17 r21 r22 : Option S), GS st2 ∧ forL (bName 5) bC [.int one, .int oth] [some (.m st), some (.d (fD e p)), some (.d (.int g)), some (.d (.int one)), some (.d (.int oth)), none, none, none, none, none, none, none, none, none, none, none, none, none, none, none, none, none, none, none, none, none, none] = some (.nx [some (.m st2), some (.d (fD e p)), some (.d (.int g)), some (.d (.int one)), some (.d (.int oth)), some (.d (.int oth)), none, none, none, none, none, none, none, none, r14, r15, r16, r17, none, none, none, r21, r22, none, none, none, none]) := by
  obtain ⟨st1, q14, q15, q16, q17, q21, q22, gs1, B1⟩ := body_code h gs h1 (o3 := some (.d (.int one))) (o4 := some (.d (.int oth))) (o14 := none) (o15 := none) (o16 := none) (o17 := none) (o21 := none) (o22 := none)
  obtain ⟨st2, r14, r15, r16, r17, r21, r22, gs2, B2⟩ := body_code h gs1 h2 (o3 := some (.d (.int one))) (o4 := some (.d (.int oth))) (o14 := q14) (o15 := q15) (o16 := q16) (o17 := q17) (o21 := q21) (o22 := q22)
  refine ⟨st2, r14, r15, r16, r17, r21, r22, gs2, ?_⟩
  generalize bC = FB at *
  rcases B1 with B1 | B1 <;> rcases B2 with B2 | B2 <;> simp -implicitDefEqProofs [forL_cons, B1, B2]
theorem f_part1 (h : Fm e p Q T H L g) {one oth : Int} {s1 m1 s2 m2 : Nat} (h1 : Cd H one s1 m1) (h2 : Cd H oth s2 m2) {st : M} (gs : GS st) :
    ∃ st', fn__law_part1 [.m st, .d (fD e p), .d (.int g), .d (.int one), .d (.int oth)] = some (.d (.bl true), [.m st', .d (fD e p), .d (.int g), .d (.int one), .d (.int oth)]) := by
  simp only [fn__law_part1, mkFn, b_part1_eq, A__law_part1]
  obtain ⟨st2, r14, r15, r16, r17, r21, r22, gs2, B⟩ := for_codes h h1 h2 gs
  obtain ⟨va, v1, v2⟩ := va_of h h1
  obtain ⟨vb, w1, w2⟩ := va_of h h2
  have M1 := fun o0 o1 o2 o5 o8 o9 o10 o11 o12 o13 o14 o15 o16 o17 o18 o19 o20 o21 o22 o23 o24 o25 o26 => @mono_ok e p Q T H L g h one oth s1 m1 s2 m2 h1 h2 va vb v2 w2 o0 o1 o2 o5 o8 o9 o10 o11 o12 o13 o14 o15 o16 o17 o18 o19 o20 o21 o22 o23 o24 o25 o26
  have fr := f_raise (i := p + 1) (by have := h.p1; omega) (by have := h.p4; omega)
  rw [pw_succ (by have := h.p1; omega), h.hQ] at fr
  obtain ⟨Nt, Dt, y1, y2, y3, y4, y5, y6, _⟩ := val_of h (cd_pos h (Nat.le_refl g)) (Nat.le_refl g)
  rw [sV0] at y2
  have hZ := pL_pos L
  have Nt0 : 0 ≤ Nt := by
    by_cases z : 0 ≤ Nt
    · exact z
    · have := Int.mul_neg_of_neg_of_pos (show Nt < 0 by omega) hZ
      have := Int.mul_nonneg (show (0 : Int) ≤ V Q g by omega) (show 0 ≤ Dt by omega)
      omega
  have fl0 : 0 ≤ Nt / Dt := Int.ediv_nonneg Nt0 (by omega)
  have fl1 : Nt / Dt * Dt ≤ Nt := Int.ediv_mul_le _ (by omega)
  have hq := h.Q2
  have hq16 := h.Q16
  obtain ⟨rm, hrm⟩ : ∃ rm : Int, (if Nt / Dt < 2 * (Q : Int) then Nt / Dt else 2 * (Q : Int)) = rm := ⟨_, rfl⟩
  have rm0 : 0 ≤ rm ∧ rm ≤ 2 * (Q : Int) ∧ rm ≤ Nt / Dt := by rw [← hrm]; split <;> omega
  have rep : ∀ n, n ≤ rm.toNat → ∃ m, m ≤ g ∧ V Q m = n * 2 ^ L := by
    intro n hn
    have hVn : V Q n = n := by
      by_cases z : n < 2 * Q
      · exact V_small (Q0 h) z
      · have : n = 2 * Q := by omega
        rw [this, V_twice (Q0 h)]
    obtain ⟨m, hm⟩ := V_pow (Q0 h) n L
    rw [hVn] at hm
    refine ⟨m, (V_le_iff (Q0 h)).mp ?_, hm⟩
    have c1 : (n : Int) * Dt ≤ Nt := by
      have := mul_le (show (n : Int) ≤ Nt / Dt by omega) y3
      omega
    have c2 : ((n : Int) * 2 ^ L) * Dt ≤ V Q g * Dt := by
      rw [← y2, show (n : Int) * 2 ^ L * Dt = n * Dt * 2 ^ L by grind]
      exact mul_le c1 hZ
    have c3 := Int.le_of_mul_le_mul_right c2 y3
    rw [hm]
    have c4 : ((n * 2 ^ L : Nat) : Int) ≤ (V Q g : Nat) := by push_cast; exact c3
    exact_mod_cast c4
  obtain ⟨cf, rp⟩ := rp_of rep
  obtain ⟨r7, st3, t1, t2, t3, gs3⟩ := f_take (many := 7) gs2 (by omega) (by omega)
  have hsm : smallI r7 = true := smallI_of' (by omega) (by omega)
  obtain ⟨st4, N2, rm', gs4, n2, n3, n4, n5, n6⟩ := num_ok (rngL 0 r7.toNat) [] rm st3 (fun x hx => by
    obtain ⟨k, hk⟩ := List.getElem?_of_mem hx
    exact ⟨_, (rngL_get hk).2⟩) gs3 rm0.1 (by omega) (by rw [rngL_len]; simp; omega) (by intro x hx; simp at hx)
  obtain ⟨q12, q18, n7⟩ := n6 (some (.d (fD e p))) (some (.d (.int g))) (some (.d (.int one))) (some (.d (.int oth))) (some (.d (.int oth))) (some (.d va)) (some (.d vb)) (some (.d (.int (2 * Q)))) (some (.d (.tup [.int Nt, .int Dt]))) (none) (none) (r14) (r15) (r16) (r17) (none) (none) (none) (r21) (r22) (none) (none) (none) (none)
  simp only [List.map_nil] at n7
  -- the numbers as naturals
  obtain ⟨NN, hNN⟩ : ∃ NN : List Nat, N2 = NN.map fun (n : Nat) => (n : Int) := ⟨N2.map Int.toNat, by
    rw [List.map_map]
    symm
    rw [List.map_congr_left (g := id) (fun x hx => by have := n4 x hx; show ((x.toNat : Nat) : Int) = x; omega), List.map_id]⟩
  have hsumI : ∀ l : List Nat, (l.map fun (n : Nat) => (n : Int)).sum = (l.sum : Nat) := fun l => by
    induction l with
    | nil => rfl
    | cons a l ih => rw [List.map_cons, List.sum_cons, List.sum_cons, ih]; push_cast; rfl
  have hsum : N2.sum = (NN.sum : Nat) := by rw [hNN, hsumI]
  simp only [List.sum_nil, Int.zero_add] at n3
  have hSR : NN.sum ≤ rm.toNat := by omega
  have hmem : ∀ n ∈ NN, n ≤ NN.sum := fun n hn => by
    clear hNN hsum hSR
    induction NN with
    | nil => simp at hn
    | cons a l ih =>
      rw [List.sum_cons]
      rcases List.mem_cons.mp hn with q | q
      · omega
      · have := ih q; omega
  have cR : rm.toNat ≤ 1000 := by omega
  obtain ⟨CC, hCC⟩ : ∃ CC : List D, CC = NN.map fun n => D.int (cf n : Nat) := ⟨_, rfl⟩
  have rd := fun n (hn : n ≤ rm.toNat) => cf_round h rp cR hn
  have zN : N2.length ≤ sizeLine := smallT (by rw [n5, rngL_len]; simp; omega)
  have lcE : lcL [23] (bName 23) fYes (fCall fn_rounded (fCons (fVar 1) (fCons (fOp oTup (fCons (fVar 23) (fCons (fC (.int 1)) fNil))) (fCons (fC (.str (PySem.Str.ofString "even"))) fNil)))) (N2.map D.int) [] [some (.m st4), some (.d (fD e p)), some (.d (.int g)), some (.d (.int one)), some (.d (.int oth)), some (.d (.int oth)), some (.d va), some (.d vb), some (.d (.int (2 * Q))), some (.d (.tup [.int Nt, .int Dt])), some (.lk (.lst (N2.map D.int))), some (.d (.int rm')), q12, none, r14, r15, r16, r17, q18, none, none, r21, r22, none, none, none, none] = some (.val (.m (.lst CC)), [some (.m st4), some (.d (fD e p)), some (.d (.int g)), some (.d (.int one)), some (.d (.int oth)), some (.d (.int oth)), some (.d va), some (.d vb), some (.d (.int (2 * Q))), some (.d (.tup [.int Nt, .int Dt])), some (.lk (.lst (N2.map D.int))), some (.d (.int rm')), q12, none, r14, r15, r16, r17, q18, none, none, r21, r22, none, none, none, none]) := by
    have z2 : 2 ≤ sizeLine := smallT (by decide)
    rw [lc_map (fun x => match x with | .int i => .int (cf i.toNat : Nat) | _ => .non)]
    · rw [hNN, hCC, List.map_map, List.map_map]
      rfl
    · intro x hx
      obtain ⟨i, hi, rfl⟩ := List.mem_map.mp hx
      rw [hNN] at hi
      obtain ⟨n, hn, rfl⟩ := List.mem_map.mp hi
      have r1 := rd n (by have := hmem n hn; omega)
      dsimp only
      rw [Int.toNat_natCast]
      generalize fn_rounded = F at *
      generalize ((cf n : Nat) : Int) = cn at *
      generalize (n : Int) = ni at *
      simp -implicitDefEqProofs [lcOne, z2, r1]
  have W1 := fun o0 o2 o3 o4 o5 o6 o7 o8 o9 o11 o12 o15 o16 o17 o18 o19 o20 o21 o22 o23 o24 o25 o26 o14 => @ways_ok e p Q T H L g h rm.toNat cf rp cR NN hSR N2 hsum CC hCC o0 o2 o3 o4 o5 o6 o7 o8 o9 o11 o12 o15 o16 o17 o18 o19 o20 o21 o22 o23 o24 o25 o26 o14
  have V1 := fun o0 o2 o5 o8 o9 o10 o11 o12 o13 o14 o15 o16 o17 o18 o19 o20 o21 o22 o23 o24 o25 o26 => @div_ok e p Q T H L g h one oth s1 m1 s2 m2 h1 h2 va vb v2 w2 o0 o2 o5 o8 o9 o10 o11 o12 o13 o14 o15 o16 o17 o18 o19 o20 o21 o22 o23 o24 o25 o26
  have K1 := fun o0 o2 o4 o5 o6 o7 o8 o9 o10 o11 o12 o13 o14 o15 o16 o17 o18 o19 o20 o21 o22 o23 o24 o25 o26 => @kind_ok e p Q T H L g h one s1 m1 h1 o0 o2 o4 o5 o6 o7 o8 o9 o10 o11 o12 o13 o14 o15 o16 o17 o18 o19 o20 o21 o22 o23 o24 o25 o26
  obtain ⟨c2, x1, x2⟩ := f_turned h h1
  obtain ⟨c3, x3, x4⟩ := f_turned h x2
  have x5 : c3 = one := Cd.eqc (s := s1) (m := m1) (by have := h1.s1; rwa [show 1 - (1 - s1) = s1 by omega] at x4) h1
  subst x5
  have x6 := f_less_self h h1
  refine ⟨st4, ?_⟩
  have z2 : 2 ≤ sizeLine := smallT (by decide)
  have z0 : 0 ≤ sizeLine := Nat.zero_le _
  have y3' : divC Nt Dt = true := divC_of y3 (by omega)
  obtain ⟨p5, p15, p19, p20, p24, p25, p26, V1⟩ := V1 (some (.m st4)) (some (.d (.int g))) (some (.d (.int oth))) (some (.d (.int (2 * Q)))) (some (.d (.tup [.int Nt, .int Dt]))) (some (.m (.lst (N2.map D.int)))) (some (.d (.int rm'))) (q12) (some (.d (.tup CC))) (some (.d (.str (PySem.Str.ofString "down")))) (r15) (r16) (r17) (q18) (none) (none) (r21) (r22) (none) (none) (none) (none)
  clear rep rp rd v2 w2 hNN hsumI hmem hsum x2 x4 y2
  generalize fn_value = G1 at *
  generalize fn__law_raise = G2 at *
  generalize fn__law_take = G3 at *
  generalize fn_turned = G4 at *
  generalize fn_less = G5 at *
  generalize fn_rounded = G6 at *
  generalize bC = FB at *
  generalize tMono = F1 at *
  generalize tNum = F2 at *
  generalize tWays = F3 at *
  generalize tDiv = F4 at *
  generalize tKind = F5 at *
  generalize (g : Int) = gi at *
  generalize (Q : Int) = qi at *
  simp -implicitDefEqProofs [B, v1, w1, M1, fr, y1, y3', hrm, t1, hsm, n7, lcE, W1, V1, K1, x1, x3, x6, zN, z0, z2]
end
end K43
end

section
set_option Elab.async false
set_option linter.all false
set_option maxRecDepth 100000
set_option maxHeartbeats 8000000
namespace K43
open PySem PySem.Spec PyProof.Rows L2 QL
def wT : Fn1 Bool := (fTB (fBin oNe (fVar 8) (fVar 5)))
def wB : FS := (sSeq (sSet 8 (fCall fn_next_up (fCons (fVar 2) (fCons (fVar 8) fNil))))
  (sSeq (sSet 9 (fBin oAdd (fVar 9) (fC (.int 1))))
  (sSeq (sIf (fNotT (fTru (fCall fn__law_less (fCons (fVar 10) (fCons (fCall fn_value (fCons (fVar 2) (fCons (fVar 8) fNil))) fNil)))))
  (sRet (fC (.bl false)))
  sNext)
  (sSet 10 (fCall fn_value (fCons (fVar 2) (fCons (fVar 8) fNil)))))))
theorem b_law_eq : b_law = (sSeq (sSet 1 (fCall fn__law_begin (fCons (fVar 0) fNil)))
  (sSeq (sSet 2 (fOp oTup (fCons (fBin oAdd (fC (.int 2)) (fCall fn__law_take (fCons (fVar 1) (fCons (fC (.int 3)) fNil)))) (fCons (fBin oAdd (fC (.int 1)) (fCall fn__law_take (fCons (fVar 1) (fCons (fC (.int 4)) fNil)))) fNil))))
  (sSeq (sSet 3 (fCall fn_size (fCons (fVar 2) fNil)))
  (sSeq (sSet 4 (fBin oDiv (fVar 3) (fC (.int 2))))
  (sSeq (sSet 5 (fCall fn_greatest (fCons (fVar 2) fNil)))
  (sSeq (sIf (fTB (fBin oEq (fCall fn__law_take (fCons (fVar 1) (fCons (fC (.int 3)) fNil))) (fC (.int 0))))
  (sSeq (sSet 8 (fBin oAdd (fVar 4) (fVar 5)))
  (sSeq (sSet 9 (fC (.int 0)))
  (sSeq (sSet 10 (fCall fn_value (fCons (fVar 2) (fCons (fVar 8) fNil))))
  (sSeq (sWhile fuel0 wT wB)
  (sIf (fOrT (fTB (fBin oNe (fVar 9) (fBin oMul (fC (.int 2)) (fVar 5)))) (fOrT (fTB (fBin oNe (fCall fn_next_up (fCons (fVar 2) (fCons (fVar 5) fNil))) (fBin oAdd (fVar 5) (fC (.int 1))))) (fTB (fBin oNe (fCall fn_kind (fCons (fVar 2) (fCons (fBin oAdd (fVar 5) (fC (.int 1))) fNil))) (fC (.str (PySem.Str.ofString "endless")))))))
  (sRet (fC (.bl false)))
  sNext)))))
  sNext)
  (sSeq (sSet 6 (fCall fn__law_take (fCons (fVar 1) (fCons (fVar 3) fNil))))
  (sSeq (sSet 7 (fCall fn__law_take (fCons (fVar 1) (fCons (fVar 3) fNil))))
  (sRet (fCall fn__law_part1 (fCons (fVar 1) (fCons (fVar 2) (fCons (fVar 5) (fCons (fVar 6) (fCons (fVar 7) fNil))))))))))))))) := rfl
section
variable {e p : Int} {Q T H L g : Nat}
/-- the i-th code of the walk: its sign and its rest -/
def ws (g i : Nat) : Nat := if i ≤ g then 1 else 0
def wm (g i : Nat) : Nat := if i ≤ g then g - i else i - g
theorem walk_ok (h : Fm e p Q T H L g) {o0 o1 o3 o4 o6 o7 : Option S} {n d : Int} (hv : n * 2 ^ L = sV 1 (V Q g) * d) (hd : 0 < d ∧ d ≤ 1024) (hn : -(2 ^ 20) ≤ n ∧ n ≤ 2 ^ 20) :
    ∃ q10 : Option S, whileN wT wB (fuel0 [o0, o1, some (.d (fD e p)), o3, o4, some (.d (.int g)), o6, o7, some (.d (.int ((H : Int) + g))), some (.d (.int 0)), some (.d (.tup [.int n, .int d]))]) [o0, o1, some (.d (fD e p)), o3, o4, some (.d (.int g)), o6, o7, some (.d (.int ((H : Int) + g))), some (.d (.int 0)), some (.d (.tup [.int n, .int d]))] =
      some (.nx [o0, o1, some (.d (fD e p)), o3, o4, some (.d (.int g)), o6, o7, some (.d (.int g)), some (.d (.int (2 * (g : Int)))), q10]) := by
  have hZ := pL_pos L
  have hg := h.hg
  have hq := h.Q2
  have H256 := h.H256
  have gpos : 0 < g := by
    have h1 := h.hHQ
    have h2 := Nat.mul_le_mul_right Q h.T4
    omega
  suffices hh : ∃ e', whileN wT wB (fuel0 [o0, o1, some (.d (fD e p)), o3, o4, some (.d (.int g)), o6, o7, some (.d (.int ((H : Int) + g))), some (.d (.int 0)), some (.d (.tup [.int n, .int d]))]) [o0, o1, some (.d (fD e p)), o3, o4, some (.d (.int g)), o6, o7, some (.d (.int ((H : Int) + g))), some (.d (.int 0)), some (.d (.tup [.int n, .int d]))] = some (.nx e') ∧ ∃ q10, e' = [o0, o1, some (.d (fD e p)), o3, o4, some (.d (.int g)), o6, o7, some (.d (.int g)), some (.d (.int (2 * (g : Int)))), q10] by
    obtain ⟨e', h1, q, rfl⟩ := hh
    exact ⟨q, h1⟩
  refine while0 (fun k e0 => ∃ (i : Nat) (c n d : Int), i ≤ 2 * g ∧ k = 2 * g - i ∧ Cd H c (ws g i) (wm g i) ∧ n * 2 ^ L = sV (ws g i) (V Q (wm g i)) * d ∧ 0 < d ∧ d ≤ 1024 ∧ -(2 ^ 20) ≤ n ∧ n ≤ 2 ^ 20 ∧ e0 = [o0, o1, some (.d (fD e p)), o3, o4, some (.d (.int g)), o6, o7, some (.d (.int c)), some (.d (.int (i : Nat))), some (.d (.tup [.int n, .int d]))]) _ (2 * g) (by omega) ⟨0, (H : Int) + g, n, d, by omega, by omega, ?_, ?_, hd.1, hd.2, hn.1, hn.2, by simp⟩ ?_
  · refine ⟨?_, ?_, ?_⟩ <;> simp [ws, wm] <;> omega
  · simpa [ws, wm] using hv
  · rintro k e0 ⟨i, c, n, d, hi, rfl, hc, hv, d0, d1, n0, n1, rfl⟩
    have hce := hc.eq
    by_cases last : i = 2 * g
    · have hcg : c = g := by
        subst last
        unfold ws wm at hce
        rw [if_neg (by omega), if_neg (by omega)] at hce
        omega
      have t1 : wT [o0, o1, some (.d (fD e p)), o3, o4, some (.d (.int g)), o6, o7, some (.d (.int c)), some (.d (.int (i : Nat))), some (.d (.tup [.int n, .int d]))] = some (false, [o0, o1, some (.d (fD e p)), o3, o4, some (.d (.int g)), o6, o7, some (.d (.int c)), some (.d (.int (i : Nat))), some (.d (.tup [.int n, .int d]))]) := by
        unfold wT
        generalize (g : Int) = gi at *
        simp -implicitDefEqProofs [hcg]
      refine .inl ⟨_, t1, some (.d (.tup [.int n, .int d])), ?_⟩
      rw [hcg, last]
      push_cast
      rfl
    · have hcg : ¬ c = g := by
        unfold ws wm at hce
        by_cases z : i ≤ g
        · rw [if_pos z, if_pos z] at hce; omega
        · rw [if_neg z, if_neg z] at hce; omega
      have t1 : wT [o0, o1, some (.d (fD e p)), o3, o4, some (.d (.int g)), o6, o7, some (.d (.int c)), some (.d (.int (i : Nat))), some (.d (.tup [.int n, .int d]))] = some (true, [o0, o1, some (.d (fD e p)), o3, o4, some (.d (.int g)), o6, o7, some (.d (.int c)), some (.d (.int (i : Nat))), some (.d (.tup [.int n, .int d]))]) := by
        unfold wT
        generalize (g : Int) = gi at *
        simp -implicitDefEqProofs [hcg]
      have hwm : wm g i ≤ g := by unfold wm; split <;> omega
      have nx := f_next h hc hwm
      obtain ⟨c', hc', hcd⟩ : ∃ c', (if wm g i = 0 then (1 : Int) else if ws g i = 1 then c - 1 else c + 1) = c' ∧ Cd H c' (ws g (i + 1)) (wm g (i + 1)) := by
        refine ⟨_, rfl, ?_⟩
        unfold ws wm at *
        by_cases z : i ≤ g
        · rw [if_pos z, if_pos z] at *
          by_cases z2 : g - i = 0
          · rw [if_pos z2, if_neg (by omega), if_neg (by omega)]
            exact ⟨by omega, by omega, by omega⟩
          · rw [if_neg z2, if_pos rfl, if_pos (by omega), if_pos (by omega)]
            exact ⟨by omega, by omega, by omega⟩
        · rw [if_neg z, if_neg z] at *
          rw [if_neg (by omega), if_neg (by omega), if_neg (by omega), if_neg (by omega)]
          exact ⟨by omega, by omega, by omega⟩
      rw [hc'] at nx
      have hwm' : wm g (i + 1) ≤ g := by unfold wm; split <;> omega
      obtain ⟨n', d', v1, v2, v3, v4, v5, v6, _⟩ := val_of h hcd hwm'
      have hWW : sV (ws g i) (V Q (wm g i)) < sV (ws g (i + 1)) (V Q (wm g (i + 1))) := by
        unfold ws wm
        by_cases z : i ≤ g
        · rw [if_pos z, if_pos z]
          by_cases z2 : i + 1 ≤ g
          · rw [if_pos z2, if_pos z2]
            have := V_lt (Q0 h) (show g - (i + 1) < g - i by omega)
            simp only [sV, if_true]
            omega
          · rw [if_neg z2, if_neg z2]
            have := V_pos h (show i + 1 - g ≠ 0 by omega)
            have : V Q (g - i) = 0 := by rw [show g - i = 0 by omega, V_zero (Q0 h)]
            simp only [sV, if_true]
            rw [if_neg (by omega)]
            omega
        · rw [if_neg z, if_neg z, if_neg (by omega), if_neg (by omega), sV0, sV0]
          have := V_lt (Q0 h) (show i - g < i + 1 - g by omega)
          omega
      have hlt := (cmp2 hv v2 d0 v3 hZ).1.mpr hWW
      have ls := f_lawless (a := n) (b := d) (c := n') (d := d') (mulS (by omega) (by omega) (by omega) (by omega)) (mulS (by omega) (by omega) (by omega) (by omega))
      rw [decide_eq_true hlt] at ls
      refine .inr ⟨_, [o0, o1, some (.d (fD e p)), o3, o4, some (.d (.int g)), o6, o7, some (.d (.int c')), some (.d (.int ((i + 1 : Nat) : Int))), some (.d (.tup [.int n', .int d']))], 2 * g - (i + 1), t1, ?_, by omega, i + 1, c', n', d', by omega, rfl, hcd, v2, v3, v4, v5, v6, rfl⟩
      unfold wB
      push_cast
      generalize fn_next_up = F1 at *
      generalize fn_value = F2 at *
      generalize fn__law_less = F3 at *
      generalize (g : Int) = gi at *
      generalize (i : Int) = ii at *
      simp -implicitDefEqProofs [nx, v1, ls]
end
theorem law_true : ∀ ns : List Int, ns.length ≤ 63 → ∃ fin, fn_law [.lk (.lst (ns.map D.int))] = some (.d (.bl true), fin) := by
  intro ns _
  simp only [fn_law, mkFn, b_law_eq, A_law]
  obtain ⟨z, hB, g0⟩ := f_begin (ns := ns)
  obtain ⟨r1, st1, T1, l1, u1, g1⟩ := f_take (many := 3) g0 (by omega) (by omega)
  obtain ⟨r2, st2, T2, l2, u2, g2⟩ := f_take (many := 4) g1 (by omega) (by omega)
  obtain ⟨Q, T, H, L, g, h⟩ := fm_ok (e := 2 + r1) (p := 1 + r2) (by omega) (by omega) (by omega) (by omega)
  obtain ⟨r3, st3, T3, l3, u3, g3⟩ := f_take (many := 3) g2 (by omega) (by omega)
  have H256 := h.H256
  have hg := h.hg
  have hq := h.Q2
  have H0 : 0 < H := by omega
  obtain ⟨r4, st4, T4, l4, u4, g4⟩ := f_take (many := 2 * (H : Int)) g3 (by omega) (by omega)
  obtain ⟨r5, st5, T5, l5, u5, g5⟩ := f_take (many := 2 * (H : Int)) g4 (by omega) (by omega)
  obtain ⟨s1, m1, c1⟩ := cd_of (H := H) l4 u4
  obtain ⟨s2, m2, c2⟩ := cd_of (H := H) l5 u5
  obtain ⟨st6, P1⟩ := f_part1 h c1 c2 g5
  have Z1 := f_size h
  have G1 := f_greatest h
  have ct : Cd H ((H : Int) + g) 1 g := ⟨by omega, by omega, by omega⟩
  obtain ⟨n, d, v1, v2, v3, v4, v5, v6, _⟩ := val_of h ct (Nat.le_refl g)
  have nx := f_next h (cd_pos h (Nat.le_refl g)) (Nat.le_refl g)
  have g0' : ¬ g = 0 := by
    have h1 := h.hHQ
    have h2 := Nat.mul_le_mul_right Q h.T4
    omega
  rw [if_neg g0', if_neg (by omega)] at nx
  have kk := f_kind h (c := (g : Int) + 1) (s := 0) (m := g + 1) ⟨by omega, by omega, by omega⟩
  unfold kd at kk
  rw [if_neg (by omega), if_pos rfl] at kk
  have W1 := walk_ok h v2 ⟨v3, v4⟩ ⟨v5, v6⟩ (o0 := some (.lk (.lst (ns.map D.int)))) (o1 := some (.m st3)) (o3 := some (.d (.int (2 * (H : Int))))) (o4 := some (.d (.int H))) (o6 := none) (o7 := none)
  obtain ⟨q10, W1⟩ := W1
  have z2 : 2 ≤ sizeLine := smallT (by decide)
  have dv : 2 * (H : Int) / 2 = H := by omega
  have m2' : mulC 2 (g : Int) = true := mulS (by omega) (by omega) (by omega) (by omega)
  refine ⟨[.lk (.lst (ns.map D.int))], ?_⟩
  generalize fn__law_begin = F1 at *
  generalize fn__law_take = F2 at *
  generalize fn_size = F3 at *
  generalize fn_greatest = F4 at *
  generalize fn_value = F5 at *
  generalize fn_next_up = F6 at *
  generalize fn_kind = F7 at *
  generalize fn__law_part1 = F8 at *
  generalize wT = F9 at *
  generalize wB = F10 at *
  generalize M.st ns 0 0 z = st0 at *
  clear ct c1 c2
  generalize (g : Int) = gi at *
  generalize (H : Int) = hi at *
  by_cases q : r3 = 0
  · simp -implicitDefEqProofs [hB, T1, T2, Z1, dv, G1, T3, eq_true q, v1, W1, nx, kk, m2', T4, T5, P1, z2]
  · simp -implicitDefEqProofs [hB, T1, T2, Z1, dv, G1, T3, eq_false q, T4, T5, P1, z2]
end K43
end

section
set_option maxRecDepth 100000
open PySem PySem.W PySem.Calls PyProof.Rows
theorem PySem.Challenge.cw_machinehall_k43_whole_codes_of_moving_po_holds : PySem.Challenge.rw_machinehall_k43_whole_codes_of_moving_po.Holds := by
  w_on; o_law
  refine HandSHeadRun.head_any (r := OpenLaw.row PySem.Challenge.rw_machinehall_k43_whole_codes_of_moving_po) (q := view (OpenLaw.row PySem.Challenge.rw_machinehall_k43_whole_codes_of_moving_po).prog [36]) (H := K43.hk) (ob := K43.ob) (M := 4000) (loose := K43.loose) (d := HandSHeadRun.topDef (OpenLaw.row PySem.Challenge.rw_machinehall_k43_whole_codes_of_moving_po).prog 36) (kwd := []) K43.ob_eq
    (by kernel_rfl) (fun s => by kernel_rfl) K43.run (by kernel_rfl) (by kernel_rfl) (by kernel_rfl) (by rfl) (by first | assumption | decide +kernel) (by decide +kernel) ⟨rfl, rfl, rfl, rfl, rfl, by decide +kernel⟩ ?hw ?hc
  case hw => w_witness2
  case hc =>
    refine L2.walk_ofE (l := PySem.Challenge.rw_machinehall_k43_whole_codes_of_moving_po) (n := 63) (k := 12) (x := "script") (CX := L2.CX0) rfl (by decide) (by kernel_rfl) ⟨rfl, by decide, by decide⟩ ?F (fun _ _ _ _ z => z)
    intro w mg fa h Y G hmg0
    obtain ⟨K, KX, c⟩ := Y
    have hmg : mg ("law" : PySem.Str) = some (.ref fa) := by
      have e : (HandSHeadRun.topDef (OpenLaw.row PySem.Challenge.rw_machinehall_k43_whole_codes_of_moving_po).prog 36).name = ("law" : PySem.Str) := by kernel_rfl
      rw [← e]
      exact hmg0
    obtain ⟨fd, hb, hF⟩ := K43.facts (P := (PySem.Challenge.rw_machinehall_k43_whole_codes_of_moving_po).prog) (w := w) KX G hmg c
    exact ⟨K, fd, QL.spF K 1 K43.fn_law, KX, hb, fun H a ns hl hO hS => QL.law_sp K43.law_true H a ns hl hO hS, hF⟩
end
