import PyProof.Rows.All
import Wide.All
import OpenK.AllK
import Wide.FinOn
import HandS.ForMost
import HandS.Walk
import HandS.TupAny
import HandS.Style
import HandS.Wide
import KE.KRevSl
import HandS.Iter
import KE.GoesMore
import HandS.Defaults
import HandS.Head0
import HandS.Head1
import HandS.Head2
import HandS.HeadEnd
import HandS.HeadHook1
import HandS.HeadHook2
import PySem.Challenge.RW_machinehall_k44_whole_figures_and_their
section
set_option Elab.async false
set_option linter.all false
set_option maxRecDepth 100000
namespace QL
open PySem PySem.Spec PyProof.Rows L2

/-! ### pure data, mutable data, slots -/
inductive D where
  | non | bl (b : Bool) | int (i : Int) | str (s : Str) | tup (xs : List D)
inductive M where
  | lst (xs : List D)
  | st (ns : List Int) (pos cur seed : Int)
/-- what a slot holds: data, an owned mutable thing, a locked (read only) one -/
inductive S where
  | d (x : D) | m (x : M) | lk (x : M)
abbrev Sl := L2.St
abbrev En := List (Option S)
inductive Arg where
  | slot (i : Nat) | val (s : S)
abbrev Fn1 (α : Type) := En → Option (α × En)

mutual
inductive RD (K : PySem.W.Frag) (H : Hp) : D → V → Prop
  | non : RD K H .non .non
  | bl (b : Bool) : RD K H (.bl b) (.bl b)
  | int (i : Int) : RD K H (.int i) (.int i)
  | str (s : Str) : RD K H (.str s) (.str s)
  | tup {a : Addr} {vs : List V} {ds : List D} : SqT K H a vs → RDs K H ds vs → RD K H (.tup ds) (.ref a)
inductive RDs (K : PySem.W.Frag) (H : Hp) : List D → List V → Prop
  | nil : RDs K H [] []
  | cons {x : D} {v : V} {ds : List D} {vs : List V} : RD K H x v → RDs K H ds vs → RDs K H (x :: ds) (v :: vs)
end
/-- tuples stay -/
def Pst (H H' : Hp) : Prop := ∀ a xs, Rd H a (.tup xs) → Rd H' a (.tup xs)
theorem Pst.seq {K : PySem.W.Frag} {H H' : Hp} {a : Addr} {xs : List V} (p : Pst H H') (h : SqT K H a xs) : SqT K H' a xs := by
  rcases h with h | h
  · exact .inl (p a xs h)
  · exact .inr h
mutual
theorem RD.pst {K : PySem.W.Frag} {H H' : Hp} (p : Pst H H') : ∀ {x : D} {v : V}, RD K H x v → RD K H' x v
  | _, _, .non => .non
  | _, _, .bl b => .bl b
  | _, _, .int i => .int i
  | _, _, .str s => .str s
  | _, _, .tup h hs => .tup (p.seq h) (RDs.pst p hs)
theorem RDs.pst {K : PySem.W.Frag} {H H' : Hp} (p : Pst H H') : ∀ {x : List D} {v : List V}, RDs K H x v → RDs K H' x v
  | _, _, .nil => .nil
  | _, _, .cons h hs => .cons (RD.pst p h) (RDs.pst p hs)
end
theorem RDs.length {K : PySem.W.Frag} {H : Hp} : ∀ {ds : List D} {vs : List V}, RDs K H ds vs → ds.length = vs.length
  | _, _, .nil => rfl
  | _, _, .cons _ t => by rw [List.length_cons, List.length_cons, RDs.length t]
theorem RDs.get {K : PySem.W.Frag} {H : Hp} : ∀ {ds : List D} {vs : List V} {i : Nat} {x : D}, RDs K H ds vs → ds[i]? = some x → ∃ v, vs[i]? = some v ∧ RD K H x v
  | _, _, _, _, .nil, e => by simp at e
  | _, _, 0, _, .cons r _, e => by simp at e; subst e; exact ⟨_, rfl, r⟩
  | _, _, i + 1, x, .cons _ t, e => by
    obtain ⟨u, h1, h2⟩ := RDs.get (i := i) (x := x) t (by simpa using e)
    exact ⟨u, by simpa using h1, h2⟩
theorem RDs.getV {K : PySem.W.Frag} {H : Hp} : ∀ {ds : List D} {vs : List V} {i : Nat} {v : V}, RDs K H ds vs → vs[i]? = some v → ∃ x, ds[i]? = some x ∧ RD K H x v
  | _, _, _, _, .nil, e => by simp at e
  | _, _, 0, _, .cons r _, e => by simp at e; subst e; exact ⟨_, rfl, r⟩
  | _, _, i + 1, x, .cons _ t, e => by
    obtain ⟨u, h1, h2⟩ := RDs.getV (i := i) (v := x) t (by simpa using e)
    exact ⟨u, by simpa using h1, h2⟩
theorem RDs.append {K : PySem.W.Frag} {H : Hp} : ∀ {xs ys : List D} {us ws : List V}, RDs K H xs us → RDs K H ys ws → RDs K H (xs ++ ys) (us ++ ws)
  | _, _, _, _, .nil, s => s
  | _, _, _, _, .cons r t, s => .cons r (RDs.append t s)
theorem RDs.take {K : PySem.W.Frag} {H : Hp} : ∀ {xs : List D} {us : List V} (n : Nat), RDs K H xs us → RDs K H (xs.take n) (us.take n)
  | _, _, 0, _ => .nil
  | _, _, _ + 1, .nil => .nil
  | _, _, n + 1, .cons r t => .cons r (RDs.take n t)
theorem RDs.drop {K : PySem.W.Frag} {H : Hp} : ∀ {xs : List D} {us : List V} (n : Nat), RDs K H xs us → RDs K H (xs.drop n) (us.drop n)
  | _, _, 0, r => r
  | _, _, _ + 1, .nil => .nil
  | _, _, n + 1, .cons _ t => RDs.drop n t
theorem RDs.reverse {K : PySem.W.Frag} {H : Hp} : ∀ {xs : List D} {us : List V}, RDs K H xs us → RDs K H xs.reverse us.reverse
  | _, _, .nil => .nil
  | _, _, .cons r t => by
    rw [List.reverse_cons, List.reverse_cons]
    exact RDs.append (RDs.reverse t) (.cons r .nil)
theorem RDs.set {K : PySem.W.Frag} {H : Hp} {x : D} {u : V} (r : RD K H x u) : ∀ {xs : List D} {us : List V} (i : Nat), RDs K H xs us → RDs K H (xs.set i x) (us.set i u)
  | _, _, _, .nil => .nil
  | _, _, 0, .cons _ t => .cons r t
  | _, _, i + 1, .cons q t => .cons q (RDs.set r i t)
theorem RDs.ints {K : PySem.W.Frag} {H : Hp} : ∀ (ns : List Int), RDs K H (ns.map D.int) (ns.map V.int)
  | [] => .nil
  | n :: ns => .cons (.int n) (RDs.ints ns)
theorem RDs.of_ints {K : PySem.W.Frag} {H : Hp} : ∀ {ns : List Int} {vs : List V}, RDs K H (ns.map D.int) vs → vs = ns.map V.int
  | [], _, .nil => rfl
  | n :: ns, _, .cons r t => by
    cases r
    rw [RDs.of_ints t]
    rfl

/-- a list that cannot be written: locked by an object, or of the module -/
def FzL (K : PySem.W.Frag) (H : Hp) (a : Addr) (vs : List V) : Prop := (∃ o, H a = some (.frz o (.lst vs))) ∨
    ∃ (o : Obj) (its : Array Value) (n : Nat), K.lookup a = some o ∧ o.cls = .type "list" ∧ o.dict = none ∧ o.data = .seq its n ∧ its.size ≤ sizeLine ∧ Vals vs its.toList
theorem FzL.sq {K : PySem.W.Frag} {H : Hp} {a : Addr} {vs : List V} (h : FzL K H a vs) : SqL K H a vs := by
  rcases h with h | h
  · exact .inl (.inr h)
  · exact .inr h

def RM (K : PySem.W.Frag) (H : Hp) (x : M) (v : V) (P : Addr → Prop) : Prop := match x with
  | .lst ds => ∃ a vs, v = .ref a ∧ P a ∧ H a = some (.lst vs) ∧ RDs K H ds vs
  | .st ns p c z => ∃ a b, v = .ref a ∧ P a ∧ P b ∧ H a = some (.lst [.ref b, .int p, .int c, .int z]) ∧ H b = some (.lst (ns.map V.int))
def RL (K : PySem.W.Frag) (H : Hp) (x : M) (v : V) : Prop := match x with
  | .lst ds => ∃ a vs, v = .ref a ∧ FzL K H a vs ∧ RDs K H ds vs
  | .st .. => False
def RS (K : PySem.W.Frag) (H : Hp) (s : S) (v : V) (P : Addr → Prop) : Prop := match s with
  | .d x => RD K H x v
  | .m x => RM K H x v P
  | .lk x => RL K H x v

abbrev Ow := Nat → Addr → Prop
def Own (W : Ow) (b : Addr) : Prop := ∃ i, W i b
structure RE (K : PySem.W.Frag) (H : Hp) (σ : Sl) (env : En) (W : Ow) : Prop where
  slots : ∀ (i : Nat) (s : S), env[i]? = some (some s) → ∃ v, σ[i]? = some (some v) ∧ RS K H s v (W i)
  apart : ∀ i j b, W i b → W j b → i = j
  mu : ∀ i b, W i b → Mut (H b)
  len : env.length = σ.length

structure Tr (W : Ow) (H : Hp) (W' : Ow) (H' : Hp) (F : Addr → Prop) : Prop where
  frame : ∀ b o, H b = some o → ¬ Own W b → H' b = some o
  dom : ∀ b, H b ≠ none → H' b ≠ none
  out : ∀ b, H b ≠ none → ¬ Own W b → ¬ Own W' b ∧ ¬ F b
def Tm (W : Ow) (H : Hp) (F : Addr → Prop) : Prop := ∀ b, F b → ¬ Own W b ∧ Mut (H b)
abbrev F0 : Addr → Prop := fun _ => False
theorem Tm.zero {W : Ow} {H : Hp} : Tm W H F0 := fun _ h => h.elim
theorem mut_some {H : Hp} {b : Addr} (h : Mut (H b)) : H b ≠ none := fun e => by rw [e] at h; exact h
theorem Tr.refl {W : Ow} {H : Hp} : Tr W H W H F0 := ⟨fun _ _ h _ => h, fun _ h => h, fun _ _ h => ⟨h, fun z => z⟩⟩
theorem Tr.trans {W W1 W2 : Ow} {H H1 H2 : Hp} {F1 F2 : Addr → Prop} (a : Tr W H W1 H1 F1) (b : Tr W1 H1 W2 H2 F2) : Tr W H W2 H2 (fun x => F1 x ∨ F2 x) where
  frame := fun c o e n => b.frame c o (a.frame c o e n) (a.out c (by rw [e]; simp) n).1
  dom := fun c e => b.dom c (a.dom c e)
  out := fun c e n => by
    have h1 := a.out c e n
    have h2 := b.out c (a.dom c e) h1.1
    exact ⟨h2.1, fun z => z.elim h1.2 h2.2⟩
theorem Tr.less {W W' : Ow} {H H' : Hp} {F G : Addr → Prop} (a : Tr W H W' H' F) (h : ∀ b, G b → F b) : Tr W H W' H' G :=
  ⟨a.frame, a.dom, fun b e n => ⟨(a.out b e n).1, fun z => (a.out b e n).2 (h b z)⟩⟩
theorem Tr.trans0 {W W1 W2 : Ow} {H H1 H2 : Hp} {F1 F2 : Addr → Prop} (a : Tr W H W1 H1 F1) (b : Tr W1 H1 W2 H2 F2) : Tr W H W2 H2 F2 := (a.trans b).less fun _ h => .inr h
theorem Tr.left {W W1 W2 : Ow} {H H1 H2 : Hp} {F1 F2 : Addr → Prop} (a : Tr W H W1 H1 F1) (b : Tr W1 H1 W2 H2 F2) : Tr W H W2 H2 F1 := (a.trans b).less fun _ h => .inl h
theorem RE.fresh {K : PySem.W.Frag} {H : Hp} {σ : Sl} {env : En} {W : Ow} (r : RE K H σ env W) {b : Addr} (h : H b = none) : ¬ Own W b := fun ⟨i, z⟩ => mut_some (r.mu i b z) h
/-- what is locked, a tuple: not owned -/
theorem RE.nomut {K : PySem.W.Frag} {H : Hp} {σ : Sl} {env : En} {W : Ow} (r : RE K H σ env W) {b : Addr} {o : HO} (h : H b = some o) (n : ¬ Mut (some o)) : ¬ Own W b := fun ⟨i, z⟩ => by
  have := r.mu i b z
  rw [h] at this
  exact n this
theorem RE.pst {K : PySem.W.Frag} {H H' : Hp} {σ : Sl} {env : En} {W W' : Ow} {F : Addr → Prop} (r : RE K H σ env W) (t : Tr W H W' H' F) : Pst H H' := fun a xs h => by
  rcases h with h | ⟨o, h⟩
  · exact .inl (t.frame a _ h (r.nomut h fun z => z))
  · exact .inr ⟨o, t.frame a _ h (r.nomut h fun z => z)⟩
/-- a value that nobody of the slots owns stays -/
theorem RS.keep {K : PySem.W.Frag} {H H' : Hp} {W W' : Ow} {F P : Addr → Prop} (pm : ∀ i b, W i b → Mut (H b)) (t : Tr W H W' H' F) {s : S} {v : V} (h : RS K H s v P) (hP : ∀ b, P b → ¬ Own W b) : RS K H' s v P := by
  have nm : ∀ {b : Addr} {o : HO}, H b = some o → ¬ Mut (some o) → ¬ Own W b := fun {b o} h n ⟨i, z⟩ => by
    have := pm i b z
    rw [h] at this
    exact n this
  have p : Pst H H' := fun a xs h => by
    rcases h with h | ⟨o, h⟩
    · exact .inl (t.frame a _ h (nm h fun z => z))
    · exact .inr ⟨o, t.frame a _ h (nm h fun z => z)⟩
  cases s with
  | d x => exact RD.pst p h
  | m x =>
    cases x with
    | lst ds =>
      obtain ⟨a, vs, e, pa, ha, r⟩ := h
      exact ⟨a, vs, e, pa, t.frame a _ ha (hP a pa), RDs.pst p r⟩
    | st ns q c z =>
      obtain ⟨a, b, e, pa, pb, ha, hb⟩ := h
      exact ⟨a, b, e, pa, pb, t.frame a _ ha (hP a pa), t.frame b _ hb (hP b pb)⟩
  | lk x =>
    cases x with
    | lst ds =>
      obtain ⟨a, vs, e, ha, r⟩ := h
      refine ⟨a, vs, e, ?_, RDs.pst p r⟩
      rcases ha with ⟨o, ha⟩ | ha
      · exact .inl ⟨o, t.frame a _ ha (nm ha fun z => z)⟩
      · exact .inr ha
    | st ns q c z => exact h
/-- with all objects kept -/
theorem RS.same {K : PySem.W.Frag} {H H' : Hp} {P : Addr → Prop} (t : Same H H') {s : S} {v : V} (h : RS K H s v P) : RS K H' s v P := by
  refine RS.keep (W := fun _ _ => False) (W' := fun _ _ => False) (F := F0) (fun _ _ z => z.elim) ⟨fun b o e _ => t b o e, fun b e => ?_, fun b _ _ => ⟨fun ⟨_, z⟩ => z, fun z => z⟩⟩ h fun b _ ⟨_, z⟩ => z
  cases q : H b with
  | none => exact absurd q e
  | some o => rw [t b o q]; simp
theorem RS.imp {K : PySem.W.Frag} {H : Hp} {P P' : Addr → Prop} {s : S} {v : V} (h : RS K H s v P) (hP : ∀ b, P b → P' b) : RS K H s v P' := by
  cases s with
  | d x => exact h
  | m x =>
    cases x with
    | lst ds =>
      obtain ⟨a, vs, e, pa, r⟩ := h
      exact ⟨a, vs, e, hP _ pa, r⟩
    | st ns q c z =>
      obtain ⟨a, b, e, pa, pb, r⟩ := h
      exact ⟨a, b, e, hP _ pa, hP _ pb, r⟩
  | lk x => exact h
theorem RE.same {K : PySem.W.Frag} {H H' : Hp} {σ : Sl} {env : En} {W : Ow} (r : RE K H σ env W) (t : Same H H') : RE K H' σ env W :=
  ⟨fun i s e => let ⟨v, h1, h2⟩ := r.slots i s e; ⟨v, h1, h2.same t⟩, r.apart, fun i b z => by
    have := r.mu i b z
    cases q : H b with
    | none => rw [q] at this; exact this.elim
    | some o => rw [t b o q]; rw [q] at this; exact this, r.len⟩
theorem Tr.same {W : Ow} {H H' : Hp} {F : Addr → Prop} (t : Same H H') (hF : ∀ b, F b → H b = none) : Tr W H W H' F :=
  ⟨fun b o e _ => t b o e, fun b e => by
    cases q : H b with
    | none => exact absurd q e
    | some o => rw [t b o q]; simp, fun b e n => ⟨n, fun z => e (hF b z)⟩⟩

/-! ### arguments -/
def Arg.get (a : Arg) (env : En) : Option S := match a with
  | .slot i => (env[i]?).join
  | .val s => some s
def RA (K : PySem.W.Frag) (H : Hp) (σ : Sl) (a : Arg) (v : V) (F : Addr → Prop) : Prop := match a with
  | .slot i => σ[i]? = some (some v)
  | .val s => RS K H s v F
theorem join_some {α : Type} {x : Option (Option α)} {s : α} (h : x.join = some s) : x = some (some s) := by
  cases x with
  | none => cases h
  | some y => exact congrArg some h
/-- what an argument is worth: P, what it leans on -/
theorem RA.read {K : PySem.W.Frag} {H : Hp} {σ : Sl} {env : En} {W : Ow} {a : Arg} {v : V} {F : Addr → Prop} {s : S} (r : RE K H σ env W) (h : RA K H σ a v F) (e : a.get env = some s) :
    ∃ P, RS K H s v P := by
  cases a with
  | slot i =>
    obtain ⟨w, h1, h2⟩ := r.slots i s (join_some e)
    have h' : σ[i]? = some (some v) := h
    rw [h1] at h'
    cases h'
    exact ⟨_, h2⟩
  | val t =>
    cases e
    exact ⟨_, h⟩
theorem RA.keep {K : PySem.W.Frag} {H H' : Hp} {W W' : Ow} {F G : Addr → Prop} {σ : Sl} (pm : ∀ i b, W i b → Mut (H b)) (t : Tr W H W' H' G) {a : Arg} {v : V} (h : RA K H σ a v F) (hP : Tm W H F) : RA K H' σ a v F := by
  cases a with
  | slot i => exact h
  | val s => exact RS.keep pm t h fun b z => (hP b z).1
theorem Tm.keep {H H' : Hp} {W W' : Ow} {F G : Addr → Prop} (t : Tr W H W' H' G) (hP : Tm W H F) : Tm W' H' F := fun b z => by
  obtain ⟨n, mu⟩ := hP b z
  have hs := mut_some mu
  refine ⟨(t.out b hs n).1, ?_⟩
  cases q : H b with
  | none => exact absurd q hs
  | some o => rw [t.frame b o q n]; rw [q] at mu; exact mu

/-! ### expressions -/
def tE (K : PySem.W.Frag) (f : Fn1 Arg) : TE := fun σ H Q => ∃ env W a env', RE K H σ env W ∧ f env = some (a, env') ∧
  ∀ v H' W' F, RE K H' σ env' W' → RA K H' σ a v F → Tm W' H' F → Tr W H W' H' F → Q v H'
abbrev PX (X : Cx) (e : Expr) (f : Fn1 Arg) : Prop := PE X e (tE X.K f)
theorem PE.imp {X : Cx} {e : Expr} {t t' : TE} (h : PE X e t) (i : ∀ σ H Q, t' σ H Q → t σ H Q) : PE X e t' := ⟨fun pins s σ H Q I q => h.run pins s σ H Q I (i σ H Q q)⟩

def fC (x : D) : Fn1 Arg := fun env => some (.val (.d x), env)
def fVar (i : Nat) : Fn1 Arg := fun env => match env[i]? with
  | some (some _) => some (.slot i, env)
  | _ => none
section
variable {X : Cx}
theorem tE_C {K : PySem.W.Frag} {x : D} {v : V} {σ : Sl} {H : Hp} {Q : VK} (hv : ∀ H, RD K H x v) (h : tE K (fC x) σ H Q) : Q v H := by
  obtain ⟨env, W, a, env', r, e, k⟩ := h
  cases e
  exact k v H W F0 r (hv H) Tm.zero Tr.refl
theorem qx_int {n : Int} {k pos} : PX X (.Constant (.int n) k pos) (fC (.int n)) := PE.imp pe_int fun σ H Q h => tE_C (fun H => .int n) h
theorem qx_str {z : String} {k pos} : PX X (.Constant (.str z) k pos) (fC (.str (Str.ofString z))) := PE.imp pe_str fun σ H Q h => tE_C (fun H => .str _) h
theorem qx_var (i : Nat) {x : Str} {pos : Pos} (hN : X.N[i]? = some x := by rfl) (hv : Vis X.env.scope x := by first | exact Or.inl rfl | exact Or.inr (Or.inl rfl) | exact Or.inr (Or.inr rfl)) (hd : (x == ("__debug__" : Str)) = false := by decide)
    (hcd : (x == ("__classdict__" : Str)) = false := by decide) : PX X (.Name x pos) (fVar i) := PE.imp (pe_var hN hv hd hcd) fun σ H Q h => by
  obtain ⟨env, W, a, env', r, e, k⟩ := h
  unfold fVar at e
  split at e
  · rename_i s hs
    cases e
    obtain ⟨v, h1, h2⟩ := r.slots i s hs
    exact ⟨v, h1, k v H W F0 r h1 Tm.zero Tr.refl⟩
  · cases e
end
end QL
end

section
set_option Elab.async false
set_option linter.all false
set_option maxRecDepth 100000
namespace QL
open PySem PySem.Spec PyProof.Rows L2

/-! ### sequences of parts -/
def bnd {α β : Type} (x : Option (α × En)) (k : α → En → Option (β × En)) : Option (β × En) := match x with
  | some p => k p.1 p.2
  | none => none
@[simp] theorem bnd_some {α β : Type} {a : α} {e : En} {k : α → En → Option (β × En)} : bnd (some (a, e)) k = k a e := rfl
@[simp] theorem bnd_none {α β : Type} {k : α → En → Option (β × En)} : bnd (none : Option (α × En)) k = none := rfl
theorem bnd_eq {α β : Type} {x : Option (α × En)} {k : α → En → Option (β × En)} {r : β × En} (h : bnd x k = some r) : ∃ a e, x = some (a, e) ∧ k a e = some r := by
  cases x with
  | none => cases h
  | some p => exact ⟨p.1, p.2, rfl, h⟩
/-- hand back a value -/
def ret (z : Option S) (e : En) : Option (Arg × En) := match z with
  | some s => some (.val s, e)
  | none => none
@[simp] theorem ret_some {s : S} {e : En} : ret (some s) e = some (.val s, e) := rfl
theorem ret_eq {z : Option S} {e : En} {r : Arg × En} (h : ret z e = some r) : ∃ s, z = some s ∧ r = (.val s, e) := by
  cases z with
  | none => cases h
  | some s => cases h; exact ⟨s, rfl, rfl⟩
@[simp] theorem get_val {s : S} {e : En} : (Arg.val s).get e = some s := rfl
@[simp] theorem get_slot {i : Nat} {e : En} : (Arg.slot i).get e = (e[i]?).join := rfl

/-! ### operations by values -/
def Rd1 (K : PySem.W.Frag) (H : Hp) (s : S) (v : V) : Prop := ∃ P, RS K H s v P
/-- the end of an operation that makes s and changes nothing -/
def Fin (K : PySem.W.Frag) (H : Hp) (s : S) (Q : VK) : Prop := ∀ v H' F, Same H H' → (∀ b, F b → H b = none ∧ Mut (H' b)) → RS K H' s v F → Q v H'
section
variable {K : PySem.W.Frag} {H : Hp} {s : S} {Q : VK}
theorem Fin.imm {x : D} {v : V} (f : Fin K H (.d x) Q) (r : RD K H x v) : Q v H := f v H F0 (Same.refl H) (fun _ z => z.elim) r
theorem Fin.bl {b : Bool} (f : Fin K H (.d (.bl b)) Q) : Q (.bl b) H := f.imm (.bl b)
theorem Fin.int {i : Int} (f : Fin K H (.d (.int i)) Q) : Q (.int i) H := f.imm (.int i)
theorem Fin.str {i : Str} (f : Fin K H (.d (.str i)) Q) : Q (.str i) H := f.imm (.str i)
theorem same_new {p : Addr} {o : HO} (h : H p = none) : Same H (upd H p o) := fun b x e => by
  rw [upd_ne (ne_of_none e h)]
  exact e
theorem Same.pst {H H' : Hp} (t : Same H H') : Pst H H' := fun a xs h => by
  rcases h with h | ⟨o, h⟩
  · exact .inl (t a _ h)
  · exact .inr ⟨o, t a _ h⟩
theorem Fin.tup {ds : List D} {vs : List V} (f : Fin K H (.d (.tup ds)) Q) (r : RDs K H ds vs) {p : Addr} (h : H p = none) : Q (.ref p) (upd H p (.tup vs)) :=
  f (.ref p) _ F0 (same_new h) (fun _ z => z.elim) (.tup (SqT.of upd_same) (RDs.pst (Same.pst (same_new h)) r))
theorem Fin.lst {ds : List D} {vs : List V} (f : Fin K H (.m (.lst ds)) Q) (r : RDs K H ds vs) {p : Addr} (h : H p = none) : Q (.ref p) (upd H p (.lst vs)) :=
  f (.ref p) _ (fun b => b = p) (same_new h) (fun b z => by subst z; rw [upd_same]; exact ⟨h, trivial⟩) ⟨p, vs, rfl, rfl, upd_same, RDs.pst (Same.pst (same_new h)) r⟩
end
def Op2 (K : PySem.W.Frag) (r : R2) (o : S → S → Option S) : Prop := ∀ H x y sx sy s Q, o sx sy = some s → Rd1 K H sx x → Rd1 K H sy y → Fin K H s Q → r x y H Q
def Op1 (K : PySem.W.Frag) (r : V → Hp → VK → Prop) (o : S → Option S) : Prop := ∀ H x sx s Q, o sx = some s → Rd1 K H sx x → Fin K H s Q → r x H Q

/-- an operation's end within an expression -/
theorem fin_of {K : PySem.W.Frag} {H H2 : Hp} {σ : Sl} {env2 : En} {W W2 : Ow} {s : S} {Q : VK} {G : Addr → Prop} (r2 : RE K H2 σ env2 W2) (t : Tr W H W2 H2 G)
    (k : ∀ v H' W' F, RE K H' σ env2 W' → RA K H' σ (.val s) v F → Tm W' H' F → Tr W H W' H' F → Q v H') : Fin K H2 s Q := fun v H3 F sm hF rs =>
  k v H3 W2 F (r2.same sm) rs (fun b z => ⟨r2.fresh (hF b z).1, (hF b z).2⟩) (t.trans0 (Tr.same sm fun b z => (hF b z).1))

def op2 (o : S → S → Option S) (x y : Option S) : Option S := match x, y with
  | some x, some y => o x y
  | _, _ => none
@[simp] theorem op2_some {o : S → S → Option S} {x y : S} : op2 o (some x) (some y) = o x y := rfl
theorem op2_eq {o : S → S → Option S} {x y : Option S} {z : S} (h : op2 o x y = some z) : ∃ a b, x = some a ∧ y = some b ∧ o a b = some z := by
  unfold op2 at h
  split at h
  · exact ⟨_, _, rfl, rfl, h⟩
  · cases h
def fBin2 (o : S → S → Option S) (a b : Arg) (e : En) : Option (Arg × En) := ret (op2 o (a.get e) (b.get e)) e
def fBin1 (o : S → S → Option S) (fb : Fn1 Arg) (a : Arg) (e : En) : Option (Arg × En) := bnd (fb e) (fBin2 o a)
def fBin (o : S → S → Option S) (fa fb : Fn1 Arg) : Fn1 Arg := fun e => bnd (fa e) (fBin1 o fb)

/-- two parts, then an end R -/
theorem two_parts {K : PySem.W.Frag} {σ : Sl} {H : Hp} {env env1 env2 : En} {W : Ow} {fa fb : Fn1 Arg} {a b : Arg} {R : V → V → Hp → Prop} (r : RE K H σ env W) (ea : fa env = some (a, env1)) (eb : fb env1 = some (b, env2))
    (k : ∀ x y H2 W2 Fa Fb, RE K H2 σ env2 W2 → RA K H2 σ a x Fa → RA K H2 σ b y Fb → Tm W2 H2 Fa → Tm W2 H2 Fb → (∀ c, Fa c → ¬ Fb c) → Tr W H W2 H2 (fun c => Fa c ∨ Fb c) → R x y H2) :
    tE K fa σ H fun x H1 => tE K fb σ H1 fun y H2 => R x y H2 :=
  ⟨env, W, a, env1, r, ea, fun x H1 W1 Fa r1 ra tma t1 => ⟨env1, W1, b, env2, r1, eb, fun y H2 W2 Fb r2 rb tmb t2 =>
    k x y H2 W2 Fa Fb r2 (ra.keep r1.mu t2 tma) rb (Tm.keep t2 tma) tmb (fun c z => (t2.out c (mut_some (tma c z).2) (tma c z).1).2) (t1.trans t2)⟩⟩
section
variable {X : Cx} {a b c : Expr} {fa fb fc : Fn1 Arg} {pos : Pos}
theorem bin_read {r : R2} {o : S → S → Option S} {K : PySem.W.Frag} (hr : Op2 K r o) {σ : Sl} {H : Hp} {Q : VK} (h : tE K (fBin o fa fb) σ H Q) : tOp r (tE K fa) (tE K fb) σ H Q := by
  obtain ⟨env, W, z, env2, re, e, k⟩ := h
  obtain ⟨a, env1, ea, e⟩ := bnd_eq e
  obtain ⟨b, env2', eb, e⟩ := bnd_eq e
  obtain ⟨s, eq1, er⟩ := ret_eq e
  cases er
  obtain ⟨sx, sy, e1, e2, eo⟩ := op2_eq eq1
  refine two_parts re ea eb fun x y H2 W2 Fa Fb r2 ra rb _ _ _ t => ?_
  exact hr H2 x y sx sy s Q eo (ra.read r2 e1) (rb.read r2 e2) (fin_of r2 t k)
theorem qx_bin {op : Operator} {r : R2} {o : S → S → Option S} (ho : OpR X (binaryOp op) r) (hr : Op2 X.K r o) (ha : PX X a fa) (hb : PX X b fb) : PX X (.BinOp a op b pos) (fBin o fa fb) :=
  PE.imp (pe_op ho ha hb) fun σ H Q h => bin_read hr h
theorem qx_cmp {op : CmpOp} {r : R2} {o : S → S → Option S} (ho : OpR X (compareOp op) r) (hr : Op2 X.K r o) (ha : PX X a fa) (hb : PX X b fb) (hm : behindInMarks op b = false) : PX X (.Compare a [op] [b] pos) (fBin o fa fb) :=
  PE.imp (pe_cmpR ho ha hb hm) fun σ H Q h => bin_read hr h

/-! unary -/
def op1 (o : S → Option S) (x : Option S) : Option S := match x with
  | some x => o x
  | none => none
@[simp] theorem op1_some {o : S → Option S} {x : S} : op1 o (some x) = o x := rfl
theorem op1_eq {o : S → Option S} {x : Option S} {z : S} (h : op1 o x = some z) : ∃ a, x = some a ∧ o a = some z := by
  cases x with
  | none => cases h
  | some a => exact ⟨a, rfl, h⟩
def fUn1 (o : S → Option S) (a : Arg) (e : En) : Option (Arg × En) := ret (op1 o (a.get e)) e
def fUn (o : S → Option S) (fa : Fn1 Arg) : Fn1 Arg := fun e => bnd (fa e) (fUn1 o)
theorem un_read {r : V → Hp → VK → Prop} {o : S → Option S} {K : PySem.W.Frag} (hr : Op1 K r o) {σ : Sl} {H : Hp} {Q : VK} (h : tE K (fUn o fa) σ H Q) : tE K fa σ H fun x H1 => r x H1 Q := by
  obtain ⟨env, W, z, env2, re, e, k⟩ := h
  obtain ⟨a, env1, ea, e⟩ := bnd_eq e
  obtain ⟨s, eq1, er⟩ := ret_eq e
  cases er
  obtain ⟨sx, e1, eo⟩ := op1_eq eq1
  exact ⟨env, W, a, _, re, ea, fun x H1 W1 Fa r1 ra _ t1 => hr H1 x sx s Q eo (ra.read r1 e1) (fin_of r1 t1 k)⟩
theorem qx_un {op : UnaryOp} {r : V → Hp → VK → Prop} {o : S → Option S} (ho : UnR X (unaryOp op) r) (hr : Op1 X.K r o) (ha : PX X a fa) : PX X (.UnaryOp op a pos) (fUn o fa) :=
  PE.imp (pe_un ho ha) fun σ H Q h => un_read hr h
end

/-! ### the operators' values -/
def iOp (g : Int → Int → D) : S → S → Option S
  | .d (.int i), .d (.int j) => some (.d (g i j))
  | _, _ => none
@[simp] theorem iOp_int {g : Int → Int → D} {i j : Int} : iOp g (.d (.int i)) (.d (.int j)) = some (.d (g i j)) := rfl
def iOpC (c : Int → Int → Bool) (g : Int → Int → D) : S → S → Option S
  | .d (.int i), .d (.int j) => if c i j = true then some (.d (g i j)) else none
  | _, _ => none
@[simp] theorem iOpC_int {c : Int → Int → Bool} {g : Int → Int → D} {i j : Int} : iOpC c g (.d (.int i)) (.d (.int j)) = if c i j = true then some (.d (g i j)) else none := rfl
theorem rd_int {K : PySem.W.Frag} {H : Hp} {i : Int} {v : V} (h : Rd1 K H (.d (.int i)) v) : v = .int i := by
  obtain ⟨P, h⟩ := h
  cases (show RD K H (.int i) v from h)
  rfl
theorem rd_bl {K : PySem.W.Frag} {H : Hp} {i : Bool} {v : V} (h : Rd1 K H (.d (.bl i)) v) : v = .bl i := by
  obtain ⟨P, h⟩ := h
  cases (show RD K H (.bl i) v from h)
  rfl
theorem rd_str {K : PySem.W.Frag} {H : Hp} {i : Str} {v : V} (h : Rd1 K H (.d (.str i)) v) : v = .str i := by
  obtain ⟨P, h⟩ := h
  cases (show RD K H (.str i) v from h)
  rfl
theorem rd_non {K : PySem.W.Frag} {H : Hp} {v : V} (h : Rd1 K H (.d .non) v) : v = .non := by
  obtain ⟨P, h⟩ := h
  cases (show RD K H .non v from h)
  rfl
theorem rd_tup {K : PySem.W.Frag} {H : Hp} {ds : List D} {v : V} (h : Rd1 K H (.d (.tup ds)) v) : ∃ a vs, v = .ref a ∧ SqT K H a vs ∧ RDs K H ds vs := by
  obtain ⟨P, h⟩ := h
  cases (show RD K H (.tup ds) v from h) with
  | tup h1 h2 => exact ⟨_, _, rfl, h1, h2⟩
theorem rd_lst {K : PySem.W.Frag} {H : Hp} {ds : List D} {v : V} (h : Rd1 K H (.m (.lst ds)) v) : ∃ a vs, v = .ref a ∧ H a = some (.lst vs) ∧ RDs K H ds vs := by
  obtain ⟨P, a, vs, e, _, h1, h2⟩ := h
  exact ⟨a, vs, e, h1, h2⟩
theorem rd_lk {K : PySem.W.Frag} {H : Hp} {ds : List D} {v : V} (h : Rd1 K H (.lk (.lst ds)) v) : ∃ a vs, v = .ref a ∧ FzL K H a vs ∧ RDs K H ds vs := by
  obtain ⟨P, a, vs, e, h1, h2⟩ := h
  exact ⟨a, vs, e, h1, h2⟩
/-- the items of a list or a tuple -/
def seqOf : S → Option (List D)
  | .d (.tup ds) => some ds
  | .m (.lst ds) => some ds
  | .lk (.lst ds) => some ds
  | _ => none
@[simp] theorem seqOf_tup {ds : List D} : seqOf (.d (.tup ds)) = some ds := rfl
@[simp] theorem seqOf_lst {ds : List D} : seqOf (.m (.lst ds)) = some ds := rfl
@[simp] theorem seqOf_lk {ds : List D} : seqOf (.lk (.lst ds)) = some ds := rfl
theorem rd_seq {K : PySem.W.Frag} {H : Hp} {s : S} {ds : List D} {v : V} (e : seqOf s = some ds) (h : Rd1 K H s v) : ∃ a vs, v = .ref a ∧ RDs K H ds vs ∧ (SqL K H a vs ∨ SqT K H a vs) := by
  cases s with
  | d x =>
    cases x with
    | tup xs =>
      cases e
      obtain ⟨a, vs, e, h1, h2⟩ := rd_tup h
      exact ⟨a, vs, e, h2, .inr h1⟩
    | _ => cases e
  | m x =>
    cases x with
    | lst xs =>
      cases e
      obtain ⟨a, vs, e, h1, h2⟩ := rd_lst h
      exact ⟨a, vs, e, h2, .inl (SqL.of h1)⟩
    | _ => cases e
  | lk x =>
    cases x with
    | lst xs =>
      cases e
      obtain ⟨a, vs, e, h1, h2⟩ := rd_lk h
      exact ⟨a, vs, e, h2, .inl h1.sq⟩
    | _ => cases e
section
variable {X : Cx}
theorem op2_int {g : Int → Int → V} {g' : Int → Int → D} {K : PySem.W.Frag} (h : ∀ H i j, RD K H (g' i j) (g i j)) : Op2 K (rI0 g) (iOp g') := by
  intro H x y sx sy s Q e hx hy f
  unfold iOp at e
  split at e
  · cases e
    exact ⟨_, _, rd_int hx, rd_int hy, f.imm (h H _ _)⟩
  · cases e
theorem op2_intC {C : Int → Int → Prop} {c : Int → Int → Bool} {g : Int → Int → V} {g' : Int → Int → D} {K : PySem.W.Frag} (h : ∀ H i j, RD K H (g' i j) (g i j)) (hc : ∀ i j, c i j = true → C i j) : Op2 K (rI C g) (iOpC c g') := by
  intro H x y sx sy s Q e hx hy f
  unfold iOpC at e
  split at e
  · split at e
    · cases e
      rename_i hcc
      exact ⟨_, _, rd_int hx, rd_int hy, hc _ _ hcc, f.imm (h H _ _)⟩
    · cases e
  · cases e
theorem Op2.or {K : PySem.W.Frag} {r r' : R2} {o o' : S → S → Option S} (h : Op2 K r o) (h' : Op2 K r' o') : Op2 K (fun x y H Q => r x y H Q ∨ r' x y H Q) (fun x y => (o x y).or (o' x y)) := by
  intro H x y sx sy s Q e hx hy f
  have e : (o sx sy).or (o' sx sy) = some s := e
  cases q : o sx sy with
  | some z =>
    rw [q] at e
    have e : some z = some s := e
    cases e
    exact .inl (h H x y sx sy _ Q q hx hy f)
  | none =>
    rw [q, Option.none_or] at e
    exact .inr (h' H x y sx sy s Q e hx hy f)
/-- a + b -/
def oCatT : S → S → Option S
  | .d (.tup xs), .d (.tup ys) => if xs.length + ys.length ≤ sizeLine then some (.d (.tup (xs ++ ys))) else none
  | _, _ => none
def oCatL : S → S → Option S
  | .m (.lst xs), .m (.lst ys) => if xs.length + ys.length ≤ sizeLine then some (.m (.lst (xs ++ ys))) else none
  | _, _ => none
def oCatS : S → S → Option S
  | .d (.str x), .d (.str y) => if x.length + y.length ≤ sizeLine then some (.d (.str (x ++ y))) else none
  | _, _ => none
theorem op2_catT {K : PySem.W.Frag} : Op2 K (rCatA K) oCatT := by
  intro H x y sx sy s Q e hx hy f
  unfold oCatT at e
  split at e
  · rename_i xs ys
    split at e
    · rename_i hz
      cases e
      obtain ⟨a, vs, rfl, hs, rs⟩ := rd_tup hx
      obtain ⟨b, ws, rfl, hs', rs'⟩ := rd_tup hy
      refine ⟨a, b, vs, ws, rfl, rfl, hs, hs', by rw [← rs.length, ← rs'.length]; exact hz, fun e => ?_, fun _ e => ?_, fun _ _ p hp => f.tup (rs.append rs') hp⟩
      · subst e
        cases rs
        exact f.imm (.tup hs' rs')
      · subst e
        cases rs'
        refine f.imm ?_
        rw [List.append_nil]
        exact .tup hs rs
    · cases e
  · cases e
theorem op2_catL {K : PySem.W.Frag} : Op2 K rCat oCatL := by
  intro H x y sx sy s Q e hx hy f
  unfold oCatL at e
  split at e
  · rename_i xs ys
    split at e
    · rename_i hz
      cases e
      obtain ⟨a, vs, rfl, hs, rs⟩ := rd_lst hx
      obtain ⟨b, ws, rfl, hs', rs'⟩ := rd_lst hy
      exact ⟨a, b, vs, ws, rfl, rfl, hs, hs', by rw [← rs.length, ← rs'.length]; exact hz, fun p hp => f.lst (rs.append rs') hp⟩
    · cases e
  · cases e
theorem op2_catS {K : PySem.W.Frag} : Op2 K (fun x y H Q => ∃ i j, x = V.str i ∧ y = V.str j ∧ i.length + j.length ≤ sizeLine ∧ Q (V.str (i ++ j)) H) oCatS := by
  intro H x y sx sy s Q e hx hy f
  unfold oCatS at e
  split at e
  · split at e
    · rename_i hz
      cases e
      exact ⟨_, _, rd_str hx, rd_str hy, hz, f.str⟩
    · cases e
  · cases e
def oAdd : S → S → Option S := fun x y => (iOp (fun i j => .int (i + j)) x y).or ((oCatT x y).or ((oCatL x y).or (oCatS x y)))
@[simp] theorem oAdd_int {i j : Int} : oAdd (.d (.int i)) (.d (.int j)) = some (.d (.int (i + j))) := rfl
@[simp] theorem oAdd_tup {i j : List D} : oAdd (.d (.tup i)) (.d (.tup j)) = if i.length + j.length ≤ sizeLine then some (.d (.tup (i ++ j))) else none := by
  unfold oAdd iOp oCatT oCatL oCatS
  simp
@[simp] theorem oAdd_lst {i j : List D} : oAdd (.m (.lst i)) (.m (.lst j)) = if i.length + j.length ≤ sizeLine then some (.m (.lst (i ++ j))) else none := by
  unfold oAdd iOp oCatT oCatL oCatS
  simp
theorem qo_add {pos : Pos} {a b : Expr} {fa fb : Fn1 Arg} (ha : PX X a fa) (hb : PX X b fb) : PX X (.BinOp a .Add b pos) (fBin oAdd fa fb) :=
  qx_bin (OpR.or op_add (OpR.or op_catA (OpR.or op_cat op_add_str))) ((op2_int fun H i j => .int _).or (op2_catT.or (op2_catL.or op2_catS))) ha hb
def oSub : S → S → Option S := iOp fun i j => .int (i - j)
@[simp] theorem oSub_int {i j : Int} : oSub (.d (.int i)) (.d (.int j)) = some (.d (.int (i - j))) := rfl
theorem qo_sub {pos : Pos} {a b : Expr} {fa fb : Fn1 Arg} (ha : PX X a fa) (hb : PX X b fb) : PX X (.BinOp a .Sub b pos) (fBin oSub fa fb) := qx_bin op_sub (op2_int fun H i j => .int _) ha hb
/-- the product of numbers whose bits are few -/
def mulC (i j : Int) : Bool := decide (i.natAbs.log2 + j.natAbs.log2 < 1000000)
def oMul : S → S → Option S := iOpC mulC fun i j => .int (i * j)
@[simp] theorem oMul_int {i j : Int} : oMul (.d (.int i)) (.d (.int j)) = if mulC i j = true then some (.d (.int (i * j))) else none := rfl
theorem qo_mul {pos : Pos} {a b : Expr} {fa fb : Fn1 Arg} (ha : PX X a fa) (hb : PX X b fb) : PX X (.BinOp a .Mult b pos) (fBin oMul fa fb) := qx_bin op_mulW (op2_intC (fun H i j => .int _) fun i j h => (show CMulW i j from of_decide_eq_true (p := i.natAbs.log2 + j.natAbs.log2 < 1000000) h)) ha hb
def divC (_ j : Int) : Bool := decide (0 < j ∧ j.natAbs.log2 < 9000)
def oDiv : S → S → Option S := iOpC divC fun i j => .int (i / j)
@[simp] theorem oDiv_int {i j : Int} : oDiv (.d (.int i)) (.d (.int j)) = if divC i j = true then some (.d (.int (i / j))) else none := rfl
theorem qo_div {pos : Pos} {a b : Expr} {fa fb : Fn1 Arg} (ha : PX X a fa) (hb : PX X b fb) : PX X (.BinOp a .FloorDiv b pos) (fBin oDiv fa fb) := qx_bin op_fdivW (op2_intC (fun H i j => .int _) fun i j h => (show CDivW i j from of_decide_eq_true (p := 0 < j ∧ j.natAbs.log2 < 9000) h)) ha hb
def oMod : S → S → Option S := iOpC (fun _ j => decide (0 < j)) fun i j => .int (i % j)
@[simp] theorem oMod_int {i j : Int} : oMod (.d (.int i)) (.d (.int j)) = if 0 < j then some (.d (.int (i % j))) else none := by
  show (if decide (0 < j) = true then _ else _) = _
  by_cases h : 0 < j <;> simp [h]
theorem qo_mod {pos : Pos} {a b : Expr} {fa fb : Fn1 Arg} (ha : PX X a fa) (hb : PX X b fb) : PX X (.BinOp a .Mod b pos) (fBin oMod fa fb) := qx_bin op_mod (op2_intC (fun H i j => .int _) fun i j h => of_decide_eq_true h) ha hb
def oPow : S → S → Option S := iOpC (fun i j => decide (0 ≤ j ∧ j ≤ 1000000 ∧ i.natAbs < 2 ^ 64)) fun i j => .int (i ^ j.toNat)
@[simp] theorem oPow_int {i j : Int} : oPow (.d (.int i)) (.d (.int j)) = if decide (0 ≤ j ∧ j ≤ 1000000 ∧ i.natAbs < 2 ^ 64) = true then some (.d (.int (i ^ j.toNat))) else none := rfl
theorem qo_pow {pos : Pos} {a b : Expr} {fa fb : Fn1 Arg} (ha : PX X a fa) (hb : PX X b fb) : PX X (.BinOp a .Pow b pos) (fBin oPow fa fb) := qx_bin op_pow (op2_intC (fun H i j => .int _) fun i j h => (show CPow i j from of_decide_eq_true (p := 0 ≤ j ∧ j ≤ 1000000 ∧ i.natAbs < 2 ^ 64) h)) ha hb
def oAnd : S → S → Option S := iOp fun i j => .int (Builtin.bitAnd i j)
@[simp] theorem oAnd_int {i j : Int} : oAnd (.d (.int i)) (.d (.int j)) = some (.d (.int (Builtin.bitAnd i j))) := rfl
theorem qo_and {pos : Pos} {a b : Expr} {fa fb : Fn1 Arg} (ha : PX X a fa) (hb : PX X b fb) : PX X (.BinOp a .BitAnd b pos) (fBin oAnd fa fb) := qx_bin op_and (op2_int fun H i j => .int _) ha hb
def oOr : S → S → Option S := iOp fun i j => .int (Builtin.bitOr i j)
@[simp] theorem oOr_int {i j : Int} : oOr (.d (.int i)) (.d (.int j)) = some (.d (.int (Builtin.bitOr i j))) := rfl
theorem qo_or {pos : Pos} {a b : Expr} {fa fb : Fn1 Arg} (ha : PX X a fa) (hb : PX X b fb) : PX X (.BinOp a .BitOr b pos) (fBin oOr fa fb) := qx_bin op_or (op2_int fun H i j => .int _) ha hb
def oXor : S → S → Option S := iOp fun i j => .int (Builtin.bitXor i j)
@[simp] theorem oXor_int {i j : Int} : oXor (.d (.int i)) (.d (.int j)) = some (.d (.int (Builtin.bitXor i j))) := rfl
theorem qo_xor {pos : Pos} {a b : Expr} {fa fb : Fn1 Arg} (ha : PX X a fa) (hb : PX X b fb) : PX X (.BinOp a .BitXor b pos) (fBin oXor fa fb) := qx_bin op_xor (op2_int fun H i j => .int _) ha hb
/-- comparisons of ints -/
def oLt : S → S → Option S := iOp fun i j => .bl (decide (i < j))
def oLe : S → S → Option S := iOp fun i j => .bl (decide (i ≤ j))
def oGt : S → S → Option S := iOp fun i j => .bl (decide (j < i))
def oGe : S → S → Option S := iOp fun i j => .bl (decide (j ≤ i))
@[simp] theorem oLt_int {i j : Int} : oLt (.d (.int i)) (.d (.int j)) = some (.d (.bl (decide (i < j)))) := rfl
@[simp] theorem oLe_int {i j : Int} : oLe (.d (.int i)) (.d (.int j)) = some (.d (.bl (decide (i ≤ j)))) := rfl
@[simp] theorem oGt_int {i j : Int} : oGt (.d (.int i)) (.d (.int j)) = some (.d (.bl (decide (j < i)))) := rfl
@[simp] theorem oGe_int {i j : Int} : oGe (.d (.int i)) (.d (.int j)) = some (.d (.bl (decide (j ≤ i)))) := rfl
/-- a comparison's rule -/
structure CmpOk (X : Cx) (op : CmpOp) (o : S → S → Option S) : Prop where
  ex : ∃ r, OpR X (compareOp op) r ∧ Op2 X.K r o
theorem qc_lt : CmpOk X .Lt oLt := ⟨_, op_lt, op2_int fun H i j => .bl _⟩
theorem qc_le : CmpOk X .LtE oLe := ⟨_, op_le, op2_int fun H i j => .bl _⟩
theorem qc_gt : CmpOk X .Gt oGt := ⟨_, op_gt, op2_int fun H i j => .bl _⟩
theorem qc_ge : CmpOk X .GtE oGe := ⟨_, op_ge, op2_int fun H i j => .bl _⟩
end

/-! ### equality of data -/
mutual
def toPy : D → PyData
  | .non => .none
  | .bl b => .bool b
  | .int i => .int i
  | .str s => .str s
  | .tup xs => .tuple (toPys xs)
def toPys : List D → List PyData
  | [] => []
  | x :: xs => toPy x :: toPys xs
end
mutual
theorem RD.dp {K : PySem.W.Frag} {H : Hp} : ∀ {x : D} {v : V}, RD K H x v → Dp K H v (toPy x)
  | _, _, .non => .non
  | _, _, .bl b => .bl b
  | _, _, .int i => .int i
  | _, _, .str s => .str s
  | _, _, .tup h hs => .tup h (RDs.dp hs)
theorem RDs.dp {K : PySem.W.Frag} {H : Hp} : ∀ {x : List D} {v : List V}, RDs K H x v → DpAll K H v (toPys x)
  | _, _, .nil => .nil
  | _, _, .cons h hs => .cons (RD.dp h) (RDs.dp hs)
end
def pyOf : S → Option PyData
  | .d x => some (toPy x)
  | .m (.lst xs) => some (.list (toPys xs))
  | .lk (.lst xs) => some (.list (toPys xs))
  | _ => none
theorem rd_py {K : PySem.W.Frag} {H : Hp} {s : S} {v : V} {d : PyData} (e : pyOf s = some d) (h : Rd1 K H s v) : Dp K H v d := by
  cases s with
  | d x =>
    cases e
    obtain ⟨P, h⟩ := h
    exact RD.dp h
  | m x =>
    cases x with
    | lst xs =>
      cases e
      obtain ⟨a, vs, rfl, h1, h2⟩ := rd_lst h
      exact .lst (SqL.of h1) (RDs.dp h2)
    | _ => cases e
  | lk x =>
    cases x with
    | lst xs =>
      cases e
      obtain ⟨a, vs, rfl, h1, h2⟩ := rd_lk h
      exact .lst h1.sq (RDs.dp h2)
    | _ => cases e
def oEqB (neg : Bool) (x y : S) : Option S := match pyOf x, pyOf y with
  | some d, some e => if SeqAt.shaped d = true ∧ SeqAt.shaped e = true then some (.d (.bl (if neg then !PyData.eqv d e else PyData.eqv d e))) else none
  | _, _ => none
def oEq : S → S → Option S := oEqB false
def oNe : S → S → Option S := oEqB true
theorem oEqB_eq {neg : Bool} {x y s : S} (h : oEqB neg x y = some s) : ∃ d e, pyOf x = some d ∧ pyOf y = some e ∧ SeqAt.shaped d = true ∧ SeqAt.shaped e = true ∧ s = .d (.bl (if neg then !PyData.eqv d e else PyData.eqv d e)) := by
  unfold oEqB at h
  split at h
  · split at h
    · rename_i h1 h2 h3
      cases h
      exact ⟨_, _, h1, h2, h3.1, h3.2, rfl⟩
    · cases h
  · cases h
section
variable {X : Cx}
theorem qc_eq (hu : X.A.units + 64 < cLine) : CmpOk X .Eq oEq := ⟨_, op_eqD hu, fun H x y sx sy s Q e hx hy f => by
  obtain ⟨d, e', h1, h2, h3, h4, rfl⟩ := oEqB_eq e
  exact ⟨d, e', rd_py h1 hx, rd_py h2 hy, h3, h4, f.bl⟩⟩
theorem qc_ne (hu : X.A.units + 64 < cLine) : CmpOk X .NotEq oNe := ⟨_, op_neD hu, fun H x y sx sy s Q e hx hy f => by
  obtain ⟨d, e', h1, h2, h3, h4, rfl⟩ := oEqB_eq e
  exact ⟨d, e', rd_py h1 hx, rd_py h2 hy, h3, h4, f.bl⟩⟩
/-- is None -/
def isNon : S → Bool
  | .d .non => true
  | _ => false
theorem isNon_dec {K : PySem.W.Frag} {H : Hp} {s : S} {v : V} (h : Rd1 K H s v) : decide (v = .non) = isNon s := by
  cases s with
  | d x =>
    cases x with
    | non => rw [rd_non h]; rfl
    | bl b => rw [rd_bl h]; rfl
    | int b => rw [rd_int h]; rfl
    | str b => rw [rd_str h]; rfl
    | tup b => obtain ⟨a, vs, rfl, _⟩ := rd_tup h; rfl
  | m x =>
    obtain ⟨P, h⟩ := h
    cases x with
    | lst xs => obtain ⟨a, vs, rfl, _⟩ := h; rfl
    | st _ _ _ _ => obtain ⟨a, vs, rfl, _⟩ := h; rfl
  | lk x =>
    obtain ⟨P, h⟩ := h
    cases x with
    | lst xs => obtain ⟨a, vs, rfl, _⟩ := h; rfl
    | st _ _ _ _ => exact h.elim
def oIsN (x y : S) : Option S := match y with
  | .d .non => some (.d (.bl (isNon x)))
  | _ => none
def oNotN (x y : S) : Option S := match y with
  | .d .non => some (.d (.bl (!isNon x)))
  | _ => none
@[simp] theorem oIsN_non {x : S} : oIsN x (.d .non) = some (.d (.bl (isNon x))) := rfl
@[simp] theorem oNotN_non {x : S} : oNotN x (.d .non) = some (.d (.bl (!isNon x))) := rfl
theorem qc_isN : CmpOk X .Is oIsN := ⟨_, op_isN, fun H x y sx sy s Q e hx hy f => by
  unfold oIsN at e
  split at e
  · cases e
    refine ⟨rd_non hy, ?_⟩
    rw [isNon_dec hx]
    exact f.bl
  · cases e⟩
theorem qc_notN : CmpOk X .IsNot oNotN := ⟨_, op_notN, fun H x y sx sy s Q e hx hy f => by
  unfold oNotN at e
  split at e
  · cases e
    refine ⟨rd_non hy, ?_⟩
    rw [isNon_dec hx]
    exact f.bl
  · cases e⟩
theorem qo_cmp {op : CmpOp} {o : S → S → Option S} {pos : Pos} {a b : Expr} {fa fb : Fn1 Arg} (c : CmpOk X op o) (ha : PX X a fa) (hb : PX X b fb) (hm : behindInMarks op b = false) : PX X (.Compare a [op] [b] pos) (fBin o fa fb) :=
  let ⟨_, h1, h2⟩ := c.ex; qx_cmp h1 h2 ha hb hm
theorem qx_bl {b : Bool} {k pos} : PX X (.Constant (.bool b) k pos) (fC (.bl b)) := PE.imp pe_bl fun σ H Q h => tE_C (fun H => .bl b) h
theorem qx_non {k pos} : PX X (.Constant .none k pos) (fC .non) := PE.imp pe_non fun σ H Q h => tE_C (fun H => .non) h
theorem qx_glob {n : Int} {x : Str} {u : Value} {pos : Pos} (hg : Gl X x) (hm : X.mg x = some u) (r : RelV (.int n) u) (hd : (x == ("__debug__" : Str)) = false := by decide) : PX X (.Name x pos) (fC (.int n)) := PE.imp (pe_glob hg hm r hd) fun σ H Q h => tE_C (fun H => .int n) h
def oNeg : S → Option S
  | .d (.int i) => some (.d (.int (-i)))
  | _ => none
@[simp] theorem oNeg_int {i : Int} : oNeg (.d (.int i)) = some (.d (.int (-i))) := rfl
theorem qo_neg {pos : Pos} {a : Expr} {fa : Fn1 Arg} (ha : PX X a fa) : PX X (.UnaryOp .USub a pos) (fUn oNeg fa) := qx_un un_neg (fun H x sx s Q e hx f => by
  unfold oNeg at e
  split at e
  · cases e
    exact ⟨_, rd_int hx, f.int⟩
  · cases e) ha
end
end QL
end

section
set_option Elab.async false
set_option linter.all false
set_option maxRecDepth 100000
namespace QL
open PySem PySem.Spec PyProof.Rows L2

/-! ### chains -/
def chK (z : Option S) (o' : S → S → Option S) (fc : Fn1 Arg) (b : Arg) (e : En) : Option (Arg × En) := match z with
  | some (.d (.bl true)) => bnd (fc e) (fBin2 o' b)
  | some (.d (.bl false)) => some (.val (.d (.bl false)), e)
  | _ => none
@[simp] theorem chK_bl {k : Bool} {o' : S → S → Option S} {fc : Fn1 Arg} {b : Arg} {e : En} : chK (some (.d (.bl k))) o' fc b e = if k = true then bnd (fc e) (fBin2 o' b) else some (.val (.d (.bl false)), e) := by
  cases k <;> rfl
theorem chK_eq {z : Option S} {o' : S → S → Option S} {fc : Fn1 Arg} {b : Arg} {e : En} {r : Arg × En} (h : chK z o' fc b e = some r) :
    (z = some (.d (.bl true)) ∧ bnd (fc e) (fBin2 o' b) = some r) ∨ (z = some (.d (.bl false)) ∧ r = (.val (.d (.bl false)), e)) := by
  unfold chK at h
  split at h
  · exact .inl ⟨rfl, h⟩
  · cases h
    exact .inr ⟨rfl, rfl⟩
  · cases h
def fChain2 (o o' : S → S → Option S) (fc : Fn1 Arg) (a b : Arg) (e : En) : Option (Arg × En) := chK (op2 o (a.get e) (b.get e)) o' fc b e
def fChain1 (o o' : S → S → Option S) (fb fc : Fn1 Arg) (a : Arg) (e : En) : Option (Arg × En) := bnd (fb e) (fChain2 o o' fc a)
def fChain (o o' : S → S → Option S) (fa fb fc : Fn1 Arg) : Fn1 Arg := fun e => bnd (fa e) (fChain1 o o' fb fc)
theorem Tm.same {W : Ow} {H H' : Hp} {F : Addr → Prop} (t : Same H H') (h : Tm W H F) : Tm W H' F := fun b z => ⟨(h b z).1, by
  have mu := (h b z).2
  cases q : H b with
  | none => rw [q] at mu; exact mu.elim
  | some o => rw [t b o q]; rw [q] at mu; exact mu⟩
theorem RA.same {K : PySem.W.Frag} {H H' : Hp} {σ : Sl} {a : Arg} {v : V} {F : Addr → Prop} (t : Same H H') (h : RA K H σ a v F) : RA K H' σ a v F := by
  cases a with
  | slot i => exact h
  | val s => exact RS.same t h
theorem chain_read {fa fb fc : Fn1 Arg} {r r' : R2} {o o' : S → S → Option S} {K : PySem.W.Frag} (hr : Op2 K r o) (hr' : Op2 K r' o') {σ : Sl} {H : Hp} {Q : VK} (h : tE K (fChain o o' fa fb fc) σ H Q) :
    tChain r r' (tE K fa) (tE K fb) (tE K fc) σ H Q := by
  obtain ⟨env, W, z, env3, re, e, k⟩ := h
  obtain ⟨a, env1, ea, e⟩ := bnd_eq e
  obtain ⟨b, env2, eb, e⟩ := bnd_eq e
  refine two_parts (R := fun x y H2 => r x y H2 fun z H3 => ∃ k, z = .bl k ∧ (if k = true then tE K fc σ H3 fun w' H4 => r' y w' H4 Q else Q (.bl false) H3)) re ea eb fun x y H2 W2 Fa Fb r2 ra rb _ tmb _ t => ?_
  rcases chK_eq e with ⟨ez, e⟩ | ⟨ez, er⟩
  · obtain ⟨sx, sy, e1, e2, eo⟩ := op2_eq ez
    refine hr H2 x y sx sy _ _ eo (ra.read r2 e1) (rb.read r2 e2) fun v H3 F sm hF rs => ?_
    have ev : v = .bl true := rd_bl ⟨F, rs⟩
    refine ⟨true, ev, ?_⟩
    rw [if_pos rfl]
    obtain ⟨c, env3', ec, e⟩ := bnd_eq e
    obtain ⟨s, eq1, er⟩ := ret_eq e
    cases er
    obtain ⟨ty, tz, f1, f2, fo⟩ := op2_eq eq1
    refine ⟨env2, W2, c, _, r2.same sm, ec, fun w H4 W4 Fc r4 rc tmc t4 => ?_⟩
    have rb4 : RA K H4 σ b y Fb := (rb.same sm).keep (r2.same sm).mu t4 (tmb.same sm)
    refine hr' H4 y w ty tz s Q fo (rb4.read r4 f1) (rc.read r4 f2) ?_
    exact fin_of r4 ((t.trans0 (Tr.same sm fun b (z : F0 b) => z.elim)).trans0 t4) k
  · cases er
    obtain ⟨sx, sy, e1, e2, eo⟩ := op2_eq ez
    refine hr H2 x y sx sy _ _ eo (ra.read r2 e1) (rb.read r2 e2) fun v H3 F sm hF rs => ?_
    have ev : v = .bl false := rd_bl ⟨F, rs⟩
    refine ⟨false, ev, ?_⟩
    rw [if_neg (by decide)]
    exact k _ H3 W2 F0 (r2.same sm) (.bl false) Tm.zero (t.trans0 (Tr.same sm fun b (z : F0 b) => z.elim))

/-! ### tests -/
def tT (K : PySem.W.Frag) (f : Fn1 Bool) : TT := fun σ H Q => ∃ env W b env', RE K H σ env W ∧ f env = some (b, env') ∧
  ∀ H' W', RE K H' σ env' W' → Tr W H W' H' F0 → Q b H'
abbrev PXT (X : Cx) (e : Expr) (f : Fn1 Bool) : Prop := PT X e (tT X.K f)
theorem PT.imp {X : Cx} {e : Expr} {t t' : TT} (h : PT X e t) (i : ∀ σ H Q, t' σ H Q → t σ H Q) : PT X e t' := ⟨fun pins s σ H Q I q => h.run pins s σ H Q I (i σ H Q q)⟩
theorem PW.imp {X : Cx} {e : Expr} {t t' : TT} (h : PW X e t) (i : ∀ σ H Q, t' σ H Q → t σ H Q) : PW X e t' := ⟨fun wh pins s σ H Q I q => h.run wh pins s σ H Q I (i σ H Q q)⟩
def tstK (z : Option S) (e : En) : Option (Bool × En) := match z with
  | some (.d (.bl b)) => some (b, e)
  | _ => none
@[simp] theorem tstK_bl {b : Bool} {e : En} : tstK (some (.d (.bl b))) e = some (b, e) := rfl
def fTB1 (a : Arg) (e : En) : Option (Bool × En) := tstK (a.get e) e
def fTB (fa : Fn1 Arg) : Fn1 Bool := fun e => bnd (fa e) fTB1
def truth : S → Option Bool
  | .d .non => some false
  | .d (.bl b) => some b
  | .d (.int i) => some (i != 0)
  | .d (.str x) => if x.length ≤ sizeLine then some ((x.length : Int) != 0) else none
  | .d (.tup xs) => some (!xs.isEmpty)
  | .m (.lst xs) => some (!xs.isEmpty)
  | .lk (.lst xs) => some (!xs.isEmpty)
  | _ => none
@[simp] theorem truth_non : truth (.d .non) = some false := rfl
@[simp] theorem truth_bl {b : Bool} : truth (.d (.bl b)) = some b := rfl
@[simp] theorem truth_int {b : Int} : truth (.d (.int b)) = some (b != 0) := rfl
@[simp] theorem truth_tup {b : List D} : truth (.d (.tup b)) = some (!b.isEmpty) := rfl
@[simp] theorem truth_lst {b : List D} : truth (.m (.lst b)) = some (!b.isEmpty) := rfl
def truK (z : Option S) (e : En) : Option (Bool × En) := match z with
  | some s => (truth s).map fun b => (b, e)
  | _ => none
@[simp] theorem truK_some {s : S} {e : En} : truK (some s) e = (truth s).map fun b => (b, e) := rfl
def fTru1 (a : Arg) (e : En) : Option (Bool × En) := truK (a.get e) e
def fTru (fa : Fn1 Arg) : Fn1 Bool := fun e => bnd (fa e) fTru1
theorem isEmpty_rds {K : PySem.W.Frag} {H : Hp} {ds : List D} {vs : List V} (h : RDs K H ds vs) : ds.isEmpty = vs.isEmpty := by
  cases h <;> rfl
theorem truth_ok {K : PySem.W.Frag} {H : Hp} {s : S} {v : V} {b : Bool} (h : Rd1 K H s v) (e : truth s = some b) : TruV K v H b := by
  cases s with
  | d x =>
    cases x with
    | non => rw [rd_non h]; cases e; rfl
    | bl b => rw [rd_bl h]; cases e; rfl
    | int b => rw [rd_int h]; cases e; rfl
    | str z =>
      rw [rd_str h]
      have e : (if z.length ≤ sizeLine then some ((z.length : Int) != 0) else none) = some b := e
      split at e
      · cases e
        exact ⟨by assumption, rfl⟩
      · cases e
    | tup ds =>
      obtain ⟨a, vs, rfl, h1, h2⟩ := rd_tup h
      cases e
      exact .inr (.inl ⟨vs, h1, by rw [isEmpty_rds h2]⟩)
  | m x =>
    cases x with
    | lst ds =>
      obtain ⟨a, vs, rfl, h1, h2⟩ := rd_lst h
      cases e
      exact .inl ⟨vs, SqL.of h1, by rw [isEmpty_rds h2]⟩
    | st _ _ _ _ => cases e
  | lk x =>
    cases x with
    | lst ds =>
      obtain ⟨a, vs, rfl, h1, h2⟩ := rd_lk h
      cases e
      exact .inl ⟨vs, h1.sq, by rw [isEmpty_rds h2]⟩
    | st _ _ _ _ => cases e
/-- a test's value within: from a bool -/
theorem tb_read {K : PySem.W.Frag} {fa : Fn1 Arg} {σ : Sl} {H : Hp} {Q : Bool → Hp → Prop} (h : tT K (fTB fa) σ H Q) : tE K fa σ H fun x H' => ∃ k, x = .bl k ∧ Q k H' := by
  obtain ⟨env, W, b, env', re, e, k⟩ := h
  obtain ⟨a, env1, ea, e⟩ := bnd_eq e
  unfold fTB1 tstK at e
  split at e
  · rename_i b' hb
    cases e
    exact ⟨env, W, a, _, re, ea, fun v H' W' F r ra tm t => ⟨_, rd_bl (ra.read r hb), k H' W' r (t.less fun _ z => z.elim)⟩⟩
  · cases e
theorem tru_read {K : PySem.W.Frag} {fa : Fn1 Arg} {σ : Sl} {H : Hp} {Q : Bool → Hp → Prop} (h : tT K (fTru fa) σ H Q) : tE K fa σ H fun x H' => ∃ k, TruV K x H' k ∧ Q k H' := by
  obtain ⟨env, W, b, env', re, e, k⟩ := h
  obtain ⟨a, env1, ea, e⟩ := bnd_eq e
  unfold fTru1 truK at e
  split at e
  · rename_i s hs
    cases q : truth s with
    | none => rw [q] at e; cases e
    | some c =>
      rw [q] at e
      cases e
      exact ⟨env, W, a, _, re, ea, fun v H' W' F r ra tm t => ⟨_, truth_ok (ra.read r hs) q, k H' W' r (t.less fun _ z => z.elim)⟩⟩
  · cases e
def fAndT1 (tb : Fn1 Bool) (b : Bool) (e : En) : Option (Bool × En) := if b = true then tb e else some (false, e)
def fAndT (ta tb : Fn1 Bool) : Fn1 Bool := fun e => bnd (ta e) (fAndT1 tb)
def fOrT1 (tb : Fn1 Bool) (b : Bool) (e : En) : Option (Bool × En) := if b = true then some (true, e) else tb e
def fOrT (ta tb : Fn1 Bool) : Fn1 Bool := fun e => bnd (ta e) (fOrT1 tb)
def fNotT1 (b : Bool) (e : En) : Option (Bool × En) := some (!b, e)
def fNotT (ta : Fn1 Bool) : Fn1 Bool := fun e => bnd (ta e) fNotT1
def fIf1 (fa fb : Fn1 Arg) (b : Bool) (e : En) : Option (Arg × En) := if b = true then fa e else fb e
def fIf (tc : Fn1 Bool) (fa fb : Fn1 Arg) : Fn1 Arg := fun e => bnd (tc e) (fIf1 fa fb)
def andK (z : Option S) (fb : Fn1 Arg) (e : En) : Option (Arg × En) := match z with
  | some (.d (.bl b)) => if b = true then fb e else some (.val (.d (.bl false)), e)
  | _ => none
def orK (z : Option S) (fb : Fn1 Arg) (e : En) : Option (Arg × En) := match z with
  | some (.d (.bl b)) => if b = true then some (.val (.d (.bl true)), e) else fb e
  | _ => none
@[simp] theorem andK_bl {b : Bool} {fb : Fn1 Arg} {e : En} : andK (some (.d (.bl b))) fb e = if b = true then fb e else some (.val (.d (.bl false)), e) := rfl
@[simp] theorem orK_bl {b : Bool} {fb : Fn1 Arg} {e : En} : orK (some (.d (.bl b))) fb e = if b = true then some (.val (.d (.bl true)), e) else fb e := rfl
def fAnd1 (fb : Fn1 Arg) (a : Arg) (e : En) : Option (Arg × En) := andK (a.get e) fb e
def fAnd (fa fb : Fn1 Arg) : Fn1 Arg := fun e => bnd (fa e) (fAnd1 fb)
def fOr1 (fb : Fn1 Arg) (a : Arg) (e : En) : Option (Arg × En) := orK (a.get e) fb e
def fOr (fa fb : Fn1 Arg) : Fn1 Arg := fun e => bnd (fa e) (fOr1 fb)
def oNotB : S → Option S
  | .d (.bl b) => some (.d (.bl (!b)))
  | _ => none
@[simp] theorem oNotB_bl {b : Bool} : oNotB (.d (.bl b)) = some (.d (.bl (!b))) := rfl
section
variable {X : Cx} {a b c : Expr} {fa fb fc : Fn1 Arg} {ta tb tc : Fn1 Bool} {pos : Pos} {rest : List Expr}
theorem qt_cmp {op : CmpOp} {o : S → S → Option S} (h : CmpOk X op o) (ha : PX X a fa) (hb : PX X b fb) (hm : behindInMarks op b = false) : PXT X (.Compare a [op] [b] pos) (fTB (fBin o fa fb)) :=
  let ⟨_, h1, h2⟩ := h.ex
  PT.imp (pt_cmpR h1 ha hb hm) fun σ H Q h => bin_read h2 (tb_read h)
theorem qx_chain {op op' : CmpOp} {o o' : S → S → Option S} (h : CmpOk X op o) (h' : CmpOk X op' o') (ha : PX X a fa) (hb : PX X b fb) (hc : PX X c fc) (hm : lastMarks [op, op'] [b, c] = false := by with_unfolding_all rfl) :
    PX X (.Compare a [op, op'] [b, c] pos) (fChain o o' fa fb fc) :=
  let ⟨_, h1, h2⟩ := h.ex
  let ⟨_, h3, h4⟩ := h'.ex
  PE.imp (pe_chain h1 h3 ha hb hc hm) fun σ H Q h => chain_read h2 h4 h
theorem qt_chain {op op' : CmpOp} {o o' : S → S → Option S} (h : CmpOk X op o) (h' : CmpOk X op' o') (ha : PX X a fa) (hb : PX X b fb) (hc : PX X c fc) (hm : lastMarks [op, op'] [b, c] = false := by with_unfolding_all rfl) :
    PXT X (.Compare a [op, op'] [b, c] pos) (fTB (fChain o o' fa fb fc)) :=
  let ⟨_, h1, h2⟩ := h.ex
  let ⟨_, h3, h4⟩ := h'.ex
  PT.imp (pt_chain h1 h3 ha hb hc hm) fun σ H Q h => chain_read h2 h4 (tb_read h)
theorem qt_tru (ha : PX X a fa) (he : ∀ whole, isTrue a X.env whole = (do let v ← whole; standAt a.pos; holding [v] (truthy v)) := by intro _; rfl) : PXT X a (fTru fa) :=
  PT.imp (pt_truth ha he) fun σ H Q h => tru_read h
theorem qw_and1 (ha : PXT X a ta) : PW X (.BoolOp .And [a] pos) (tT X.K ta) := pw_and1 ha
theorem qw_or1 (ha : PXT X a ta) : PW X (.BoolOp .Or [a] pos) (tT X.K ta) := pw_or1 ha
theorem qw_and (ha : PXT X a ta) (hb : PW X (.BoolOp .And (b :: rest) pos) (tT X.K tb)) : PW X (.BoolOp .And (a :: b :: rest) pos) (tT X.K (fAndT ta tb)) :=
  PW.imp (pw_and ha hb) fun σ H Q h => by
    obtain ⟨env, W, z, env', re, e, k⟩ := h
    obtain ⟨c, env1, ec, e⟩ := bnd_eq e
    refine ⟨env, W, c, env1, re, ec, fun H1 W1 r1 t1 => ?_⟩
    unfold fAndT1 at e
    split at e
    · rename_i hc
      rw [if_pos hc]
      exact ⟨env1, W1, z, env', r1, e, fun H2 W2 r2 t2 => k H2 W2 r2 (t1.trans0 t2)⟩
    · rename_i hc
      cases e
      rw [if_neg hc]
      exact k H1 W1 r1 t1
theorem qw_or (ha : PXT X a ta) (hb : PW X (.BoolOp .Or (b :: rest) pos) (tT X.K tb)) : PW X (.BoolOp .Or (a :: b :: rest) pos) (tT X.K (fOrT ta tb)) :=
  PW.imp (pw_or ha hb) fun σ H Q h => by
    obtain ⟨env, W, z, env', re, e, k⟩ := h
    obtain ⟨c, env1, ec, e⟩ := bnd_eq e
    refine ⟨env, W, c, env1, re, ec, fun H1 W1 r1 t1 => ?_⟩
    unfold fOrT1 at e
    split at e
    · rename_i hc
      cases e
      rw [if_pos hc]
      exact k H1 W1 r1 t1
    · rename_i hc
      rw [if_neg hc]
      exact ⟨env1, W1, z, env', r1, e, fun H2 W2 r2 t2 => k H2 W2 r2 (t1.trans0 t2)⟩
theorem qt_bool {op} {vs : List Expr} (h : PW X (.BoolOp op vs pos) (tT X.K ta)) : PXT X (.BoolOp op vs pos) ta := PW.pt h
theorem qt_not (ha : PXT X a ta) : PXT X (.UnaryOp .Not a pos) (fNotT ta) :=
  PT.imp (pt_not ha) fun σ H Q h => by
    obtain ⟨env, W, z, env', re, e, k⟩ := h
    obtain ⟨c, env1, ec, e⟩ := bnd_eq e
    cases e
    exact ⟨env, W, c, _, re, ec, fun H1 W1 r1 t1 => k H1 W1 r1 t1⟩
theorem qx_if (hc : PXT X c tc) (ha : PX X a fa) (hb : PX X b fb) : PX X (.IfExp c a b pos) (fIf tc fa fb) :=
  PE.imp (pe_ifExp hc ha hb) fun σ H Q h => by
    obtain ⟨env, W, z, env', re, e, k⟩ := h
    obtain ⟨c, env1, ec, e⟩ := bnd_eq e
    refine ⟨env, W, c, env1, re, ec, fun H1 W1 r1 t1 => ?_⟩
    unfold fIf1 at e
    split at e
    · rename_i hc
      rw [if_pos hc]
      exact ⟨env1, W1, z, env', r1, e, fun v H2 W2 F r2 ra tm t2 => k v H2 W2 F r2 ra tm (t1.trans0 t2)⟩
    · rename_i hc
      rw [if_neg hc]
      exact ⟨env1, W1, z, env', r1, e, fun v H2 W2 F r2 ra tm t2 => k v H2 W2 F r2 ra tm (t1.trans0 t2)⟩
theorem qx_one {op} (h : PX X a fa) : PX X (.BoolOp op [a] pos) fa := pe_one h
theorem qx_and (ha : PX X a fa) (hb : PX X (.BoolOp .And (b :: rest) pos) fb) : PX X (.BoolOp .And (a :: b :: rest) pos) (fAnd fa fb) :=
  PE.imp (pe_and ha hb) fun σ H Q h => by
    obtain ⟨env, W, z, env', re, e, k⟩ := h
    obtain ⟨c, env1, ec, e⟩ := bnd_eq e
    refine ⟨env, W, c, env1, re, ec, fun x H1 W1 F1 r1 ra tm t1 => ?_⟩
    unfold fAnd1 andK at e
    split at e
    · rename_i kb hk
      refine ⟨kb, rd_bl (ra.read r1 hk), ?_⟩
      split at e
      · rename_i hc
        rw [if_pos hc]
        exact ⟨env1, W1, z, env', r1, e, fun v H2 W2 F r2 ra tm t2 => k v H2 W2 F r2 ra tm (t1.trans0 t2)⟩
      · rename_i hc
        cases e
        rw [if_neg hc]
        exact k _ H1 W1 F0 r1 (.bl false) Tm.zero (t1.less fun _ z => z.elim)
    · cases e
theorem qx_or (ha : PX X a fa) (hb : PX X (.BoolOp .Or (b :: rest) pos) fb) : PX X (.BoolOp .Or (a :: b :: rest) pos) (fOr fa fb) :=
  PE.imp (pe_or ha hb) fun σ H Q h => by
    obtain ⟨env, W, z, env', re, e, k⟩ := h
    obtain ⟨c, env1, ec, e⟩ := bnd_eq e
    refine ⟨env, W, c, env1, re, ec, fun x H1 W1 F1 r1 ra tm t1 => ?_⟩
    unfold fOr1 orK at e
    split at e
    · rename_i kb hk
      refine ⟨kb, rd_bl (ra.read r1 hk), ?_⟩
      split at e
      · rename_i hc
        cases e
        rw [if_pos hc]
        exact k _ H1 W1 F0 r1 (.bl true) Tm.zero (t1.less fun _ z => z.elim)
      · rename_i hc
        rw [if_neg hc]
        exact ⟨env1, W1, z, env', r1, e, fun v H2 W2 F r2 ra tm t2 => k v H2 W2 F r2 ra tm (t1.trans0 t2)⟩
    · cases e
theorem qx_not (ha : PX X a fa) : PX X (.UnaryOp .Not a pos) (fUn oNotB fa) :=
  PE.imp (pe_not ha) fun σ H Q h => un_read (r := fun x H1 Q => ∃ c, x = .bl c ∧ Q (.bl (!c)) H1) (fun H x sx s Q e hx f => by
    unfold oNotB at e
    split at e
    · cases e
      exact ⟨_, rd_bl hx, f.bl⟩
    · cases e) h
end

/-! ### lists of arguments -/
def Fany : List (Addr → Prop) → Addr → Prop
  | [], _ => False
  | F :: Fs, b => F b ∨ Fany Fs b
inductive RAs (K : PySem.W.Frag) (H : Hp) (σ : Sl) (W : Ow) : List Arg → List V → List (Addr → Prop) → Prop
  | nil : RAs K H σ W [] [] []
  | cons {a as v vs F Fs} : RA K H σ a v F → Tm W H F → (∀ b, F b → ¬ Fany Fs b) → RAs K H σ W as vs Fs → RAs K H σ W (a :: as) (v :: vs) (F :: Fs)
def tA (K : PySem.W.Frag) (f : Fn1 (List Arg)) : TA := fun σ H Q => ∃ env W as env', RE K H σ env W ∧ f env = some (as, env') ∧
  ∀ vs H' W' Fs, RE K H' σ env' W' → RAs K H' σ W' as vs Fs → Tr W H W' H' (Fany Fs) → Q vs H'
abbrev PXA (X : Cx) (es : List Expr) (f : Fn1 (List Arg)) : Prop := PA X es (tA X.K f)
theorem PA.imp {X : Cx} {e : List Expr} {t t' : TA} (h : PA X e t) (i : ∀ σ H Q, t' σ H Q → t σ H Q) : PA X e t' := ⟨fun pos pins s σ H Q I q => h.run pos pins s σ H Q I (i σ H Q q)⟩
def fNil : Fn1 (List Arg) := fun e => some ([], e)
def fCons2 (a : Arg) (as : List Arg) (e : En) : Option (List Arg × En) := some (a :: as, e)
def fCons1 (fs : Fn1 (List Arg)) (a : Arg) (e : En) : Option (List Arg × En) := bnd (fs e) (fCons2 a)
def fCons (fa : Fn1 Arg) (fs : Fn1 (List Arg)) : Fn1 (List Arg) := fun e => bnd (fa e) (fCons1 fs)
section
variable {X : Cx} {e : Expr} {es : List Expr} {fa : Fn1 Arg} {fs : Fn1 (List Arg)} {pos : Pos}
theorem qa_nil : PXA X [] fNil := PA.imp pa_nil fun σ H Q h => by
  obtain ⟨env, W, z, env', re, e, k⟩ := h
  cases e
  exact k [] H W [] re .nil (Tr.refl.less fun b z => z)
theorem qa_cons (ha : PX X e fa) (hr : PXA X es fs) (hs : starEach (e :: es) X.env = (false, eval e X.env) :: starEach es X.env := by rfl) : PXA X (e :: es) (fCons fa fs) := PA.imp (pa_cons ha hr hs) fun σ H Q h => by
  obtain ⟨env, W, z, env', re, e, k⟩ := h
  obtain ⟨a, env1, ea, e⟩ := bnd_eq e
  obtain ⟨as, env2, eas, e⟩ := bnd_eq e
  cases e
  refine ⟨env, W, a, env1, re, ea, fun v H1 W1 F r1 ra tm t1 => ⟨env1, W1, as, _, r1, eas, fun vs H2 W2 Fs r2 ras t2 => ?_⟩⟩
  exact k (v :: vs) H2 W2 (F :: Fs) r2 (.cons (ra.keep r1.mu t2 tm) (Tm.keep t2 tm) (fun c z => (t2.out c (mut_some (tm c z).2) (tm c z).1).2) ras) (t1.trans t2)
end
def gets : List Arg → En → Option (List S)
  | [], _ => some []
  | a :: as, e => match a.get e, gets as e with
    | some s, some ss => some (s :: ss)
    | _, _ => none
inductive RR (K : PySem.W.Frag) (H : Hp) : List S → List V → Prop
  | nil : RR K H [] []
  | cons {s v ss vs} : Rd1 K H s v → RR K H ss vs → RR K H (s :: ss) (v :: vs)
theorem gets_cons {a : Arg} {as : List Arg} {e : En} {ss : List S} (h : gets (a :: as) e = some ss) : ∃ s ss', ss = s :: ss' ∧ a.get e = some s ∧ gets as e = some ss' := by
  unfold gets at h
  split at h
  · cases h
    exact ⟨_, _, rfl, by assumption, by assumption⟩
  · cases h
@[simp] theorem gets_nil {e : En} : gets [] e = some [] := rfl
def cons? (s : Option S) (ss : Option (List S)) : Option (List S) := match s, ss with
  | some s, some ss => some (s :: ss)
  | _, _ => none
@[simp] theorem cons?_some {s : S} {ss : List S} : cons? (some s) (some ss) = some (s :: ss) := rfl
@[simp] theorem gets_cons' {a : Arg} {as : List Arg} {e : En} : gets (a :: as) e = cons? (a.get e) (gets as e) := rfl
theorem RAs.read {K : PySem.W.Frag} {H : Hp} {σ : Sl} {env : En} {W : Ow} (r : RE K H σ env W) : ∀ {as : List Arg} {vs : List V} {Fs : List (Addr → Prop)} {ss : List S}, RAs K H σ W as vs Fs → gets as env = some ss → RR K H ss vs
  | _, _, _, _, .nil, e => by cases e; exact .nil
  | _, _, _, _, .cons ra _ _ t, e => by
    obtain ⟨s, ss', rfl, e1, e2⟩ := gets_cons e
    exact .cons (ra.read r e1) (RAs.read r t e2)
def OpN (K : PySem.W.Frag) (r : List V → Hp → VK → Prop) (o : List S → Option S) : Prop := ∀ H vs ss s Q, o ss = some s → RR K H ss vs → Fin K H s Q → r vs H Q
def opN (o : List S → Option S) (x : Option (List S)) : Option S := match x with
  | some x => o x
  | none => none
@[simp] theorem opN_some {o : List S → Option S} {x : List S} : opN o (some x) = o x := rfl
theorem opN_eq {o : List S → Option S} {x : Option (List S)} {z : S} (h : opN o x = some z) : ∃ a, x = some a ∧ o a = some z := by
  cases x with
  | none => cases h
  | some a => exact ⟨a, rfl, h⟩
def fOp1 (o : List S → Option S) (as : List Arg) (e : En) : Option (Arg × En) := ret (opN o (gets as e)) e
def fOp (o : List S → Option S) (fs : Fn1 (List Arg)) : Fn1 Arg := fun e => bnd (fs e) (fOp1 o)
theorem opN_read {K : PySem.W.Frag} {r : List V → Hp → VK → Prop} {o : List S → Option S} {fs : Fn1 (List Arg)} (hr : OpN K r o) {σ : Sl} {H : Hp} {Q : VK} (h : tE K (fOp o fs) σ H Q) : tA K fs σ H fun vs H1 => r vs H1 Q := by
  obtain ⟨env, W, z, env2, re, e, k⟩ := h
  obtain ⟨as, env1, ea, e⟩ := bnd_eq e
  obtain ⟨s, eq1, er⟩ := ret_eq e
  cases er
  obtain ⟨ss, e1, eo⟩ := opN_eq eq1
  exact ⟨env, W, as, _, re, ea, fun vs H1 W1 Fs r1 ras t1 => hr H1 vs ss s Q eo (ras.read r1 e1) (fin_of r1 t1 k)⟩

/-! ### displays -/
def allD : List S → Option (List D)
  | [] => some []
  | .d x :: ss => (allD ss).map (x :: ·)
  | _ :: _ => none
@[simp] theorem allD_nil : allD [] = some [] := rfl
@[simp] theorem allD_cons {x : D} {ss : List S} : allD (.d x :: ss) = (allD ss).map (x :: ·) := rfl
theorem allD_rds {K : PySem.W.Frag} {H : Hp} : ∀ {ss : List S} {vs : List V} {ds : List D}, RR K H ss vs → allD ss = some ds → RDs K H ds vs
  | _, _, _, .nil, e => by cases e; exact .nil
  | .d x :: ss, _, ds, .cons ⟨P, h⟩ t, e => by
    have e : (allD ss).map (x :: ·) = some ds := e
    cases q : allD ss with
    | none => rw [q] at e; cases e
    | some ds' =>
      rw [q] at e
      cases e
      exact .cons h (allD_rds t q)
  | .m x :: ss, _, ds, .cons _ t, e => by cases e
  | .lk x :: ss, _, ds, .cons _ t, e => by cases e
def oTup (ss : List S) : Option S := (allD ss).bind fun ds => if ds.length ≤ sizeLine then some (.d (.tup ds)) else none
def oLst (ss : List S) : Option S := (allD ss).bind fun ds => if ds.length ≤ sizeLine then some (.m (.lst ds)) else none
section
variable {X : Cx} {es : List Expr} {fs : Fn1 (List Arg)} {pos : Pos}
theorem qx_tup {x1} (h : PXA X es fs) : PX X (.Tuple es x1 pos) (fOp oTup fs) := PE.imp (pe_tup h) fun σ H Q h =>
  opN_read (r := fun xs H1 Q => xs.length ≤ sizeLine ∧ ∀ p, H1 p = none → Q (.ref p) (upd H1 p (.tup xs))) (fun H vs ss s Q e rr f => by
    unfold oTup at e
    cases q : allD ss with
    | none => rw [q] at e; cases e
    | some ds =>
      rw [q] at e
      have e : (if ds.length ≤ sizeLine then some (S.d (.tup ds)) else none) = some s := e
      split at e
      · rename_i hz
        cases e
        have rd := allD_rds rr q
        exact ⟨by rw [← rd.length]; exact hz, fun p hp => f.tup rd hp⟩
      · cases e) h
theorem qx_lst (h : PXA X es fs) : PX X (.List es pos) (fOp oLst fs) := PE.imp (pe_lst h) fun σ H Q h =>
  opN_read (r := fun xs H1 Q => xs.length ≤ sizeLine ∧ ∀ p, H1 p = none → Q (.ref p) (upd H1 p (.lst xs))) (fun H vs ss s Q e rr f => by
    unfold oLst at e
    cases q : allD ss with
    | none => rw [q] at e; cases e
    | some ds =>
      rw [q] at e
      have e : (if ds.length ≤ sizeLine then some (S.m (.lst ds)) else none) = some s := e
      split at e
      · rename_i hz
        cases e
        have rd := allD_rds rr q
        exact ⟨by rw [← rd.length]; exact hz, fun p hp => f.lst rd hp⟩
      · cases e) h

/-! ### builtins by name -/
structure CallOk (X : Cx) (f : Value) (o : List S → Option S) : Prop where
  ex : ∃ r, CallR X f r ∧ OpN X.K r o
variable {x : Str} {p : Pos} {e : Expr} {id T : String} {o : List S → Option S}
theorem qx_callB (c : CallOk X (.builtin id) o) (hg : Gl X x) (hm : X.mg x = none) (hv : bootBuiltins x = some (.builtin id)) (ha : PXA X (e :: es) fs) (hn : x ≠ "__name__" := by decide) (hdb : (x == ("__debug__" : Str)) = false := by decide)
    (he : starEach (e :: es) X.env = (false, eval e X.env) :: starEach es X.env := by rfl) (hpl : (backTo pos (starEach es X.env)).any (·.1) = false := by rfl) : PX X (.Call (.Name x p) (e :: es) [] pos) (fOp o fs) :=
  let ⟨_, h1, h2⟩ := c.ex
  PE.imp (pe_callB h1 hg hm hv ha hn hdb he hpl) fun σ H Q h => opN_read h2 h
theorem qx_callTy (c : CallOk X (.type T) o) (hg : Gl X x) (hm : X.mg x = none) (hv : bootBuiltins x = some (.type T)) (ha : PXA X (e :: es) fs) (hn : x ≠ "__name__" := by decide) (hdb : (x == ("__debug__" : Str)) = false := by decide)
    (he : starEach (e :: es) X.env = (false, eval e X.env) :: starEach es X.env := by rfl) (hpl : (backTo pos (starEach es X.env)).any (·.1) = false := by rfl) : PX X (.Call (.Name x p) (e :: es) [] pos) (fOp o fs) :=
  let ⟨_, h1, h2⟩ := c.ex
  PE.imp (pe_callTy h1 hg hm hv ha hn hdb he hpl) fun σ H Q h => opN_read h2 h
end
end QL
end

section
set_option Elab.async false
set_option linter.all false
set_option maxRecDepth 100000
namespace QL
open PySem PySem.Spec PyProof.Rows L2

/-! ### statements -/
inductive Res where
  | nx (e : En) | rt (s : S) (e : En) | bk (e : En) | ct (e : En)
abbrev FS := En → Option Res
def Eqs (A : List Nat) (σ σ' : Sl) : Prop := σ'.length = σ.length ∧ ∀ j, j ∉ A → σ'[j]? = σ[j]?
def Post (K : PySem.W.Frag) (A : List Nat) (W : Ow) (σ : Sl) (H : Hp) (Dn : Ends) : Res → Prop
  | .nx e => ∀ σ' H' W', RE K H' σ' e W' → Tr W H W' H' F0 → Eqs A σ σ' → Dn.nx σ' H'
  | .rt s e => ∀ v σ' H' W' F, RE K H' σ' e W' → RS K H' s v F → Tm W' H' F → Tr W H W' H' F → Eqs A σ σ' → Dn.rt v H'
  | .bk e => ∀ σ' H' W', RE K H' σ' e W' → Tr W H W' H' F0 → Eqs A σ σ' → Dn.bk σ' H'
  | .ct e => ∀ σ' H' W', RE K H' σ' e W' → Tr W H W' H' F0 → Eqs A σ σ' → Dn.ct σ' H'
def tS (K : PySem.W.Frag) (A : List Nat) (f : FS) : TS := fun Dn σ H => ∃ env W r, RE K H σ env W ∧ f env = some r ∧ Post K A W σ H Dn r
abbrev PXS (X : Cx) (st : Stmt) (A : List Nat) (f : FS) : Prop := PS X st (tS X.K A f)
abbrev PXSs (X : Cx) (st : List Stmt) (A : List Nat) (f : FS) : Prop := PSs X st (tS X.K A f)
theorem PS.imp {X : Cx} {e : Stmt} {t t' : TS} (h : PS X e t) (i : ∀ D σ H, t' D σ H → t D σ H) : PS X e t' := ⟨fun pins s σ H D I q => h.run pins s σ H D I (i D σ H q)⟩
theorem PSs.imp {X : Cx} {e : List Stmt} {t t' : TS} (h : PSs X e t) (i : ∀ D σ H, t' D σ H → t D σ H) : PSs X e t' := ⟨fun pins s σ H D I q => h.run pins s σ H D I (i D σ H q)⟩
theorem Eqs.refl {A : List Nat} {σ : Sl} : Eqs A σ σ := ⟨rfl, fun _ _ => rfl⟩
theorem Eqs.trans {A B C : List Nat} {σ σ1 σ2 : Sl} (a : Eqs A σ σ1) (b : Eqs B σ1 σ2) (h1 : ∀ j ∈ A, j ∈ C) (h2 : ∀ j ∈ B, j ∈ C) : Eqs C σ σ2 := ⟨b.1.trans a.1, fun j n => (b.2 j fun z => n (h2 j z)).trans (a.2 j fun z => n (h1 j z))⟩
theorem Eqs.more {A B : List Nat} {σ σ1 : Sl} (a : Eqs A σ σ1) (h : ∀ j ∈ A, j ∈ B) : Eqs B σ σ1 := ⟨a.1, fun j n => a.2 j fun z => n (h j z)⟩
theorem Post.after {K : PySem.W.Frag} {A B C : List Nat} {W W1 : Ow} {σ σ1 : Sl} {H H1 : Hp} {Dn : Ends} {r : Res} (p : Post K C W σ H Dn r) (t : Tr W H W1 H1 F0) (q : Eqs A σ σ1) (h1 : ∀ j ∈ A, j ∈ C) (h2 : ∀ j ∈ B, j ∈ C) : Post K B W1 σ1 H1 Dn r := by
  cases r with
  | nx e => exact fun σ' H' W' r t' q' => p σ' H' W' r (t.trans0 t') (q.trans q' h1 h2)
  | rt s e => exact fun v σ' H' W' F r rs tm t' q' => p v σ' H' W' F r rs tm (t.trans0 t') (q.trans q' h1 h2)
  | bk e => exact fun σ' H' W' r t' q' => p σ' H' W' r (t.trans0 t') (q.trans q' h1 h2)
  | ct e => exact fun σ' H' W' r t' q' => p σ' H' W' r (t.trans0 t') (q.trans q' h1 h2)
def sNext : FS := fun e => some (.nx e)
def sqK (r : Option Res) (g : FS) : Option Res := match r with
  | some (.nx e) => g e
  | r => r
@[simp] theorem sqK_nx {e : En} {g : FS} : sqK (some (.nx e)) g = g e := rfl
@[simp] theorem sqK_rt {s : S} {e : En} {g : FS} : sqK (some (.rt s e)) g = some (.rt s e) := rfl
@[simp] theorem sqK_bk {e : En} {g : FS} : sqK (some (.bk e)) g = some (.bk e) := rfl
@[simp] theorem sqK_ct {e : En} {g : FS} : sqK (some (.ct e)) g = some (.ct e) := rfl
def sSeq (f g : FS) : FS := fun e => sqK (f e) g
section
variable {X : Cx} {st : Stmt} {rest : List Stmt} {A B : List Nat} {f g : FS} {pos : Pos}
theorem qs_nil : PXSs X [] [] sNext := PSs.imp pss_nil fun D σ H h => by
  obtain ⟨env, W, r, re, e, p⟩ := h
  cases e
  exact p σ H W re Tr.refl Eqs.refl
theorem qs_cons (h1 : PXS X st A f) (h2 : PXSs X rest B g) : PXSs X (st :: rest) (A ++ B) (sSeq f g) := PSs.imp (pss_cons h1 h2) fun D σ H h => by
  obtain ⟨env, W, r, re, e, p⟩ := h
  have inA : ∀ j ∈ A, j ∈ A ++ B := fun j z => List.mem_append_left _ z
  have inB : ∀ j ∈ B, j ∈ A ++ B := fun j z => List.mem_append_right _ z
  unfold sSeq at e
  cases q : f env with
  | none => rw [q] at e; cases e
  | some r1 =>
    rw [q] at e
    refine ⟨env, W, r1, re, q, ?_⟩
    cases r1 with
    | nx e1 => exact fun σ1 H1 W1 r1 t1 q1 => ⟨e1, W1, r, r1, e, p.after t1 q1 inA inB⟩
    | rt s e1 =>
      cases e
      exact fun v σ' H' W' F r rs tm t' q' => p v σ' H' W' F r rs tm t' (q'.more inA)
    | bk e1 =>
      cases e
      exact fun σ' H' W' r t' q' => p σ' H' W' r t' (q'.more inA)
    | ct e1 =>
      cases e
      exact fun σ' H' W' r t' q' => p σ' H' W' r t' (q'.more inA)
theorem qs_one (h1 : PXS X st A f) : PXSs X [st] A f := pss_one h1
theorem qs_pass : PXS X (.Pass pos) [] sNext := PS.imp ps_pass fun D σ H h => by
  obtain ⟨env, W, r, re, e, p⟩ := h
  cases e
  exact p σ H W re Tr.refl Eqs.refl
def sBreak : FS := fun e => some (.bk e)
def sCont : FS := fun e => some (.ct e)
theorem qs_break : PXS X (.Break pos) [] sBreak := PS.imp ps_break fun D σ H h => by
  obtain ⟨env, W, r, re, e, p⟩ := h
  cases e
  exact p σ H W re Tr.refl Eqs.refl
theorem qs_cont : PXS X (.Continue pos) [] sCont := PS.imp ps_continue fun D σ H h => by
  obtain ⟨env, W, r, re, e, p⟩ := h
  cases e
  exact p σ H W re Tr.refl Eqs.refl
/-- what is never reached (a raise) -/
def sNever : FS := fun _ => none
theorem qs_never : PXS X st [] sNever := PS.imp ps_never fun D σ H h => by
  obtain ⟨env, W, r, re, e, p⟩ := h
  cases e
end

/-! ### storing -/
theorem RE.set {K : PySem.W.Frag} {H : Hp} {σ : Sl} {env : En} {W : Ow} {i : Nat} {s : S} {v : V} {F : Addr → Prop} (r : RE K H σ env W) (h : RS K H s v F) (tm : Tm W H F) :
    RE K H (σ.set i (some v)) (env.set i (some s)) (fun k b => if k = i then F b else W k b) where
  slots := fun j t e => by
    by_cases hj : j = i
    · subst hj
      rw [List.getElem?_set] at e
      rw [if_pos rfl] at e
      split at e
      · cases e
        rename_i hl
        refine ⟨v, ?_, ?_⟩
        · rw [List.getElem?_set_self (by rw [← r.len]; exact hl)]
        · exact h.imp fun b z => by rw [if_pos rfl]; exact z
      · cases e
    · rw [List.getElem?_set_ne (Ne.symm hj)] at e
      obtain ⟨w, h1, h2⟩ := r.slots j t e
      refine ⟨w, by rw [List.getElem?_set_ne (Ne.symm hj)]; exact h1, h2.imp fun b z => ?_⟩
      rw [if_neg hj]
      exact z
  apart := fun j k b h1 h2 => by
    by_cases hj : j = i
    · rw [if_pos hj] at h1
      by_cases hk : k = i
      · rw [hj, hk]
      · rw [if_neg hk] at h2
        exact absurd ⟨k, h2⟩ (tm b h1).1
    · rw [if_neg hj] at h1
      by_cases hk : k = i
      · rw [if_pos hk] at h2
        exact absurd ⟨j, h1⟩ (tm b h2).1
      · rw [if_neg hk] at h2
        exact r.apart j k b h1 h2
  mu := fun j b h1 => by
    by_cases hj : j = i
    · rw [if_pos hj] at h1
      exact (tm b h1).2
    · rw [if_neg hj] at h1
      exact r.mu j b h1
  len := by rw [List.length_set, List.length_set]; exact r.len
/-- behind a store -/
theorem Tr.set {W W1 : Ow} {H H1 : Hp} {F : Addr → Prop} {i : Nat} (t : Tr W H W1 H1 F) : Tr W H (fun k b => if k = i then F b else W1 k b) H1 F0 :=
  ⟨t.frame, t.dom, fun b e n => ⟨fun ⟨k, z⟩ => by
    have h := t.out b e n
    have z : if k = i then F b else W1 k b := z
    by_cases hk : k = i
    · rw [if_pos hk] at z
      exact h.2 z
    · rw [if_neg hk] at z
      exact h.1 ⟨k, z⟩, fun z => z⟩⟩
theorem eqs_set {σ : Sl} {i : Nat} {v : Option V} : Eqs [i] σ (σ.set i v) := ⟨List.length_set, fun j n => by
  rw [List.getElem?_set_ne]
  intro e
  exact n (by rw [e]; exact List.mem_singleton.mpr rfl)⟩
/-- the value that a store takes -/
def valK (i : Nat) (a : Arg) (e : En) : Option Res := match a with
  | .val (.lk _) => none
  | .val s => some (.nx (e.set i (some s)))
  | .slot j => match e[j]? with
    | some (some (.d x)) => some (.nx (e.set i (some (.d x))))
    | _ => none
def bndS {α : Type} (x : Option (α × En)) (k : α → En → Option Res) : Option Res := match x with
  | some p => k p.1 p.2
  | none => none
@[simp] theorem bndS_some {α : Type} {a : α} {e : En} {k : α → En → Option Res} : bndS (some (a, e)) k = k a e := rfl
theorem bndS_eq {α : Type} {x : Option (α × En)} {k : α → En → Option Res} {r : Res} (h : bndS x k = some r) : ∃ a e, x = some (a, e) ∧ k a e = some r := by
  cases x with
  | none => cases h
  | some p => exact ⟨p.1, p.2, rfl, h⟩
@[simp] theorem valK_d {i : Nat} {x : D} {e : En} : valK i (.val (.d x)) e = some (.nx (e.set i (some (.d x)))) := rfl
@[simp] theorem valK_m {i : Nat} {x : M} {e : En} : valK i (.val (.m x)) e = some (.nx (e.set i (some (.m x)))) := rfl
def slotK (i : Nat) (z : Option (Option S)) (e : En) : Option Res := match z with
  | some (some (.d x)) => some (.nx (e.set i (some (.d x))))
  | _ => none
@[simp] theorem slotK_d {i : Nat} {x : D} {e : En} : slotK i (some (some (.d x))) e = some (.nx (e.set i (some (.d x)))) := rfl
@[simp] theorem valK_slot {i j : Nat} {e : En} : valK i (.slot j) e = slotK i e[j]? e := by
  unfold valK slotK
  rfl
theorem valK_ok {K : PySem.W.Frag} {i : Nat} {a : Arg} {e : En} {r : Res} {H H1 : Hp} {σ : Sl} {W W1 : Ow} {v : V} {F : Addr → Prop} {D : Ends} (h : valK i a e = some r) (re : RE K H1 σ e W1) (ra : RA K H1 σ a v F) (tm : Tm W1 H1 F) (t : Tr W H W1 H1 F) (p : Post K [i] W σ H D r) :
    D.nx (σ.set i (some v)) H1 := by
  cases a with
  | val s =>
    cases s with
    | lk x => cases h
    | d x =>
      cases h
      exact p _ H1 _ (re.set ra tm) t.set eqs_set
    | m x =>
      cases h
      exact p _ H1 _ (re.set ra tm) t.set eqs_set
  | slot j =>
    rw [valK_slot] at h
    unfold slotK at h
    split at h
    · rename_i x hx
      cases h
      obtain ⟨w, h1, h2⟩ := re.slots j _ hx
      have h' : σ[j]? = some (some v) := ra
      rw [h1] at h'
      cases h'
      exact p _ H1 _ (re.set (F := F0) h2 Tm.zero) (t.less fun _ z => z.elim).set eqs_set
    · cases h
def sSet (i : Nat) (fa : Fn1 Arg) : FS := fun e => bndS (fa e) (valK i)
section
variable {X : Cx} {i : Nat} {x : Str} {e : Expr} {fa : Fn1 Arg} {pos pos' : Pos}
theorem asg_read {K : PySem.W.Frag} {D : Ends} {σ : Sl} {H : Hp} (h : tS K [i] (sSet i fa) D σ H) : tAsg (tE K fa) (gName i) D σ H := by
  obtain ⟨env, W, r, re, e, p⟩ := h
  obtain ⟨a, env1, ea, e⟩ := bndS_eq e
  exact ⟨env, W, a, env1, re, ea, fun v H1 W1 F r1 ra tm t => valK_ok e r1 ra tm t p⟩
theorem qs_set (hN : X.N.Nodup) (he : PX X e fa) (hi : X.N[i]? = some x := by rfl) (hx : Loc X.env.scope x := by first | exact Or.inl rfl | exact Or.inr rfl) (hs : swapsWith e (some (.Name x pos')) pos.line X.env = pure false := by rfl)
    (hf : X.fn x = true ∨ X.env.scope.names.lookup x = some .local := by first | exact .inl rfl | exact .inr rfl | assumption) :
    PXS X (.Assign [.Name x pos'] e pos) [i] (sSet i fa) := PS.imp (ps_set hN hi hx he hs hf) fun D σ H h => asg_read h
def sAug1 (i : Nat) (o : S → S → Option S) (x : Option (Option S)) (b : Arg) (e : En) : Option Res := bndS (ret (op2 o x.join (b.get e)) e) (valK i)
def augK (i : Nat) (o : S → S → Option S) (fb : Fn1 Arg) (x : Option (Option S)) (e : En) : Option Res := match x with
  | some (some (.d x)) => bndS (fb e) (sAug1 i o (some (some (.d x))))
  | _ => none
@[simp] theorem augK_d {i : Nat} {o : S → S → Option S} {fb : Fn1 Arg} {x : D} {e : En} : augK i o fb (some (some (.d x))) e = bndS (fb e) (sAug1 i o (some (some (.d x)))) := rfl
def sAug (i : Nat) (o : S → S → Option S) (fb : Fn1 Arg) : FS := fun e => augK i o fb e[i]? e
structure AugOk (X : Cx) (op : Operator) (o : S → S → Option S) : Prop where
  ex : ∃ r, OpR X (inplaceOp op) r ∧ Op2 X.K r o
theorem qs_aug {op : Operator} {o : S → S → Option S} (c : AugOk X op o) (hN : X.N.Nodup) (he : PX X e fa) (hi : X.N[i]? = some x := by rfl) (hx : Loc X.env.scope x := by first | exact Or.inl rfl | exact Or.inr rfl)
    (hf : X.fn x = true ∨ X.env.scope.names.lookup x = some .local := by first | exact .inl rfl | exact .inr rfl | assumption) :
    PXS X (.AugAssign (.Name x pos') op e pos) [i] (sAug i o fa) := by
  obtain ⟨r, h1, h2⟩ := c.ex
  refine PS.imp (ps_aug (ti := r) hN hi hx he (fun pins s σ H x y v u Q I rx ry q => h1 pins s σ H x y v u Q I rx ry q) hf) fun D σ H h => ?_
  obtain ⟨env, W, rr, re, e, p⟩ := h
  unfold sAug augK at e
  split at e
  · rename_i x hx
    obtain ⟨b, env1, eb, e⟩ := bndS_eq e
    obtain ⟨a, env2, e1, e⟩ := bndS_eq e
    obtain ⟨s, e2, er⟩ := ret_eq e1
    cases er
    obtain ⟨v, s1, s2⟩ := re.slots i _ hx
    refine ⟨v, s1, env, W, b, _, re, eb, fun y H1 W1 F1 r1 ra tm t => ?_⟩
    obtain ⟨sx, sy, e3, e4, eo⟩ := op2_eq e2
    cases e3
    have rx : Rd1 X.K H1 (.d x) v := ⟨F0, RD.pst (re.pst t) s2⟩
    exact h2 H1 v y _ sy s _ eo rx (ra.read r1 e4) (fin_of r1 t fun v H' W' F r ra tm t => valK_ok e r ra tm t p)
  · cases e
def oIAdd : S → S → Option S := fun x y => (iOp (fun i j => .int (i + j)) x y).or (oCatS x y)
@[simp] theorem oIAdd_int {i j : Int} : oIAdd (.d (.int i)) (.d (.int j)) = some (.d (.int (i + j))) := rfl
theorem qg_add : AugOk X .Add oIAdd := ⟨_, OpR.or iop_add iop_add_str, (op2_int fun H i j => .int _).or op2_catS⟩
theorem qg_sub : AugOk X .Sub oSub := ⟨_, iop_sub, op2_int fun H i j => .int _⟩
def mulC64 (i j : Int) : Bool := decide (i.natAbs < 2 ^ 64 ∨ j.natAbs < 2 ^ 64)
def oIMul : S → S → Option S := iOpC mulC64 fun i j => .int (i * j)
@[simp] theorem oIMul_int {i j : Int} : oIMul (.d (.int i)) (.d (.int j)) = if mulC64 i j = true then some (.d (.int (i * j))) else none := rfl
theorem qg_mul : AugOk X .Mult oIMul := ⟨_, iop_mul, op2_intC (fun H i j => .int _) fun i j h => by
  have h : i.natAbs < 2 ^ 64 ∨ j.natAbs < 2 ^ 64 := of_decide_eq_true h
  unfold CMul
  omega⟩
def divC30 (_ j : Int) : Bool := decide (0 < j ∧ j < 1073741824)
def oIDiv : S → S → Option S := iOpC divC30 fun i j => .int (i / j)
@[simp] theorem oIDiv_int {i j : Int} : oIDiv (.d (.int i)) (.d (.int j)) = if divC30 i j = true then some (.d (.int (i / j))) else none := rfl
theorem qg_div : AugOk X .FloorDiv oIDiv := ⟨_, iop_fdiv, op2_intC (fun H i j => .int _) fun i j h => (show CDiv i j from of_decide_eq_true (p := 0 < j ∧ j < 1073741824) h)⟩
theorem qg_mod : AugOk X .Mod oMod := ⟨_, iop_mod, op2_intC (fun H i j => .int _) fun i j h => of_decide_eq_true h⟩
def sExpr1 (_ : Arg) (e : En) : Option Res := some (.nx e)
def sExpr (fa : Fn1 Arg) : FS := fun e => bndS (fa e) sExpr1
theorem qs_expr (he : PX X e fa) (hs : swapsWith e none pos.line X.env = pure false := by rfl) : PXS X (.Expr e pos) [] (sExpr fa) := PS.imp (ps_expr he hs) fun D σ H h => by
  obtain ⟨env, W, r, re, e, p⟩ := h
  obtain ⟨a, env1, ea, e⟩ := bndS_eq e
  cases e
  exact ⟨env, W, a, _, re, ea, fun v H1 W1 F r1 ra tm t => p σ H1 W1 r1 (t.less fun _ z => z.elim) Eqs.refl⟩
/-- what a return hands back: a list of a slot leaves the slot -/
def rtK (a : Arg) (e : En) : Option Res := match a with
  | .val (.lk _) => none
  | .val s => some (.rt s e)
  | .slot j => match e[j]? with
    | some (some (.d x)) => some (.rt (.d x) e)
    | some (some (.m x)) => some (.rt (.m x) (e.set j none))
    | _ => none
def rtS (j : Nat) (z : Option (Option S)) (e : En) : Option Res := match z with
    | some (some (.d x)) => some (.rt (.d x) e)
    | some (some (.m x)) => some (.rt (.m x) (e.set j none))
    | _ => none
@[simp] theorem rtK_d {x : D} {e : En} : rtK (.val (.d x)) e = some (.rt (.d x) e) := rfl
@[simp] theorem rtK_m {x : M} {e : En} : rtK (.val (.m x)) e = some (.rt (.m x) e) := rfl
@[simp] theorem rtK_slot {j : Nat} {e : En} : rtK (.slot j) e = rtS j e[j]? e := rfl
@[simp] theorem rtS_d {j : Nat} {x : D} {e : En} : rtS j (some (some (.d x))) e = some (.rt (.d x) e) := rfl
@[simp] theorem rtS_m {j : Nat} {x : M} {e : En} : rtS j (some (some (.m x))) e = some (.rt (.m x) (e.set j none)) := rfl
theorem RE.forget {K : PySem.W.Frag} {H : Hp} {σ : Sl} {env : En} {W : Ow} {i : Nat} (r : RE K H σ env W) : RE K H σ (env.set i none) (fun k b => if k = i then False else W k b) where
  slots := fun j t e => by
    by_cases hj : j = i
    · subst hj
      rw [List.getElem?_set, if_pos rfl] at e
      split at e <;> cases e
    · rw [List.getElem?_set_ne (Ne.symm hj)] at e
      obtain ⟨w, h1, h2⟩ := r.slots j t e
      refine ⟨w, h1, h2.imp fun b z => ?_⟩
      rw [if_neg hj]
      exact z
  apart := fun j k b h1 h2 => by
    by_cases hj : j = i
    · rw [if_pos hj] at h1
      exact h1.elim
    · rw [if_neg hj] at h1
      by_cases hk : k = i
      · rw [if_pos hk] at h2
        exact h2.elim
      · rw [if_neg hk] at h2
        exact r.apart j k b h1 h2
  mu := fun j b h1 => by
    by_cases hj : j = i
    · rw [if_pos hj] at h1
      exact h1.elim
    · rw [if_neg hj] at h1
      exact r.mu j b h1
  len := by rw [List.length_set]; exact r.len
def sRet (fa : Fn1 Arg) : FS := fun e => bndS (fa e) rtK
theorem qs_ret (he : PX X e fa) : PXS X (.Return (some e) pos) [] (sRet fa) := PS.imp (ps_ret he) fun D σ H h => by
  obtain ⟨env, W, r, re, e, p⟩ := h
  obtain ⟨a, env1, ea, e⟩ := bndS_eq e
  refine ⟨env, W, a, env1, re, ea, fun v H1 W1 F r1 ra tm t => ?_⟩
  cases a with
  | val s =>
    cases s with
    | lk x => cases e
    | d x =>
      cases e
      exact p v σ H1 W1 F r1 ra tm t Eqs.refl
    | m x =>
      cases e
      exact p v σ H1 W1 F r1 ra tm t Eqs.refl
  | slot j =>
    rw [rtK_slot] at e
    unfold rtS at e
    split at e
    · rename_i x hx
      cases e
      obtain ⟨w, h1, h2⟩ := r1.slots j _ hx
      have h' : σ[j]? = some (some v) := ra
      rw [h1] at h'
      cases h'
      exact p _ σ H1 W1 F0 r1 h2 Tm.zero (t.less fun _ z => z.elim) Eqs.refl
    · rename_i x hx
      cases e
      obtain ⟨w, h1, h2⟩ := r1.slots j _ hx
      have h' : σ[j]? = some (some v) := ra
      rw [h1] at h'
      cases h'
      refine p _ σ H1 _ (W1 j) r1.forget h2 (fun b z => ⟨fun ⟨k, y⟩ => ?_, r1.mu j b z⟩) ⟨t.frame, t.dom, fun b e n => ⟨fun ⟨k, y⟩ => ?_, fun z => (t.out b e n).1 ⟨j, z⟩⟩⟩ Eqs.refl
      · have y : if k = j then False else W1 k b := y
        by_cases hk : k = j
        · rw [if_pos hk] at y
          exact y
        · rw [if_neg hk] at y
          exact hk (r1.apart k j b y z)
      · have y : if k = j then False else W1 k b := y
        by_cases hk : k = j
        · rw [if_pos hk] at y
          exact y
        · rw [if_neg hk] at y
          exact (t.out b e n).1 ⟨k, y⟩
    · cases e
def sRetN : FS := fun e => some (.rt (.d .non) e)
theorem qs_retN : PXS X (.Return none pos) [] sRetN := PS.imp ps_retN fun D σ H h => by
  obtain ⟨env, W, r, re, e, p⟩ := h
  cases e
  exact p .non σ H W F0 re .non Tm.zero Tr.refl Eqs.refl
def sIf1 (f g : FS) (b : Bool) (e : En) : Option Res := if b = true then f e else g e
def sIf (tc : Fn1 Bool) (f g : FS) : FS := fun e => bndS (tc e) (sIf1 f g)
theorem qs_if {c : Expr} {a b : List Stmt} {tc : Fn1 Bool} {A B : List Nat} {f g : FS} (hc : PXT X c tc) (ha : PXSs X a A f) (hb : PXSs X b B g) : PXS X (.If c a b pos) (A ++ B) (sIf tc f g) := PS.imp (ps_if hc ha hb) fun D σ H h => by
  obtain ⟨env, W, r, re, e, p⟩ := h
  obtain ⟨c, env1, ec, e⟩ := bndS_eq e
  have inA : ∀ j ∈ A, j ∈ A ++ B := fun j z => List.mem_append_left _ z
  have inB : ∀ j ∈ B, j ∈ A ++ B := fun j z => List.mem_append_right _ z
  refine ⟨env, W, c, env1, re, ec, fun H1 W1 r1 t1 => ?_⟩
  unfold sIf1 at e
  split at e
  · rename_i hc
    rw [if_pos hc]
    exact ⟨env1, W1, r, r1, e, p.after t1 (A := []) Eqs.refl (fun _ z => nomatch z) inA⟩
  · rename_i hc
    rw [if_neg hc]
    exact ⟨env1, W1, r, r1, e, p.after t1 (A := []) Eqs.refl (fun _ z => nomatch z) inB⟩

/-! ### while -/
def whileK (g : En → Option Res) : Option Res → Option Res
  | some (.nx e) => g e
  | some (.ct e) => g e
  | some (.bk e) => some (.nx e)
  | r => r
@[simp] theorem whileK_nx {g : En → Option Res} {e : En} : whileK g (some (.nx e)) = g e := rfl
@[simp] theorem whileK_ct {g : En → Option Res} {e : En} : whileK g (some (.ct e)) = g e := rfl
@[simp] theorem whileK_bk {g : En → Option Res} {e : En} : whileK g (some (.bk e)) = some (.nx e) := rfl
@[simp] theorem whileK_rt {g : En → Option Res} {s : S} {e : En} : whileK g (some (.rt s e)) = some (.rt s e) := rfl
def whileT (g : En → Option Res) (f : FS) (b : Bool) (e : En) : Option Res := if b = true then whileK g (f e) else some (.nx e)
def whileN (tc : Fn1 Bool) (f : FS) : Nat → En → Option Res
  | 0, _ => none
  | n + 1, e => bndS (tc e) (whileT (whileN tc f n) f)
def sWhile (fuel : En → Nat) (tc : Fn1 Bool) (f : FS) : FS := fun e => whileN tc f (fuel e) e
theorem qs_while {c : Expr} {body : List Stmt} {tc : Fn1 Bool} {A : List Nat} {f : FS} (fuel : En → Nat) (hp : PassesOwn (model X.prog X.w) X.A X.env X.xe) (hc : PXT X c tc) (hb : PXSs X body A f) : PXS X (.While c body [] pos) A (sWhile fuel tc f) :=
  PS.imp (ps_while hp hc hb) fun D σ H h => by
  obtain ⟨env, W, r, re, e, p⟩ := h
  refine ⟨fun m σ1 H1 => ∃ env1 W1, RE X.K H1 σ1 env1 W1 ∧ Tr W H W1 H1 F0 ∧ Eqs A σ σ1 ∧ whileN tc f m env1 = some r, ⟨_, env, W, re, Tr.refl, Eqs.refl, e⟩, ?_⟩
  rintro m σ1 H1 ⟨env1, W1, r1, t1, q1, e1⟩
  cases m with
  | zero => cases e1
  | succ m =>
    obtain ⟨b, env2, eb, e2⟩ := bndS_eq e1
    refine ⟨env1, W1, b, env2, r1, eb, fun H2 W2 r2 t2 => ?_⟩
    have t12 := t1.trans0 t2
    unfold whileT at e2
    split at e2
    · rename_i hb
      subst hb
      refine iteT ?_
      refine ⟨fun σ3 H3 => ∃ env3 W3, RE X.K H3 σ3 env3 W3 ∧ Tr W H W3 H3 F0 ∧ Eqs A σ σ3 ∧ whileN tc f m env3 = some r, fun σ3 H3 h => ⟨m, Nat.lt_succ_self m, h⟩, ?_⟩
      cases q : f env2 with
      | none => rw [q] at e2; cases e2
      | some r3 =>
        rw [q] at e2
        refine ⟨env2, W2, r3, r2, q, ?_⟩
        have same : ∀ {j}, j ∈ A → j ∈ A := fun z => z
        cases r3 with
        | nx e3 => exact fun σ' H' W' r' t' q' => ⟨e3, W', r', t12.trans0 t', q1.trans q' (fun _ => same) (fun _ => same), e2⟩
        | ct e3 => exact fun σ' H' W' r' t' q' => ⟨e3, W', r', t12.trans0 t', q1.trans q' (fun _ => same) (fun _ => same), e2⟩
        | bk e3 =>
          cases e2
          exact fun σ' H' W' r' t' q' => p σ' H' W' r' (t12.trans0 t') (q1.trans q' (fun _ => same) (fun _ => same))
        | rt s e3 =>
          cases e2
          exact fun v σ' H' W' F r' rs tm t' q' => p v σ' H' W' F r' rs tm (t12.trans0 t') (q1.trans q' (fun _ => same) (fun _ => same))
    · rename_i hb
      have hb : b = false := by cases b; rfl; exact absurd rfl hb
      subst hb
      cases e2
      refine iteF ?_
      exact p σ1 H2 W2 r2 t12 q1
end

/-! ### defs -/
abbrev FnS := List S → Option (S × List S)
def spF (K : PySem.W.Frag) (n : Nat) (fn : FnS) : Sp := fun vs H Q _ => vs.length = n ∧ ∃ ss W r fin, RE K H (vs.map some) (ss.map some) W ∧ fn ss = some (r, fin) ∧
  ∀ v H' W' F, RE K H' (vs.map some) (fin.map some) W' → RS K H' r v F → Tm W' H' F → Tr W H W' H' F → Q v H'
/-- what stands in a parameter at the end -/
def fin1 (A : List Nat) (i : Nat) (s : S) (e : En) : Option S := match s with
  | .m _ => if A.contains i = true then none else match e[i]? with
    | some (some (.m y)) => some (.m y)
    | _ => none
  | s => some s
def fins (A : List Nat) : Nat → List S → En → Option (List S)
  | _, [], _ => some []
  | i, s :: ss, e => cons? (fin1 A i s e) (fins A (i + 1) ss e)
@[simp] theorem fins_nil {A : List Nat} {i : Nat} {e : En} : fins A i [] e = some [] := rfl
@[simp] theorem fins_d {A : List Nat} {i : Nat} {x : D} {ss : List S} {e : En} : fins A i (.d x :: ss) e = cons? (some (.d x)) (fins A (i + 1) ss e) := rfl
@[simp] theorem fins_lk {A : List Nat} {i : Nat} {x : M} {ss : List S} {e : En} : fins A i (.lk x :: ss) e = cons? (some (.lk x)) (fins A (i + 1) ss e) := rfl
def fnEnd (A : List Nat) (ss : List S) : Option Res → Option (S × List S)
  | some (.rt r e) => (fins A 0 ss e).map fun l => (r, l)
  | some (.nx e) => (fins A 0 ss e).map fun l => (.d .non, l)
  | _ => none
@[simp] theorem fnEnd_rt {A : List Nat} {ss : List S} {r : S} {e : En} : fnEnd A ss (some (.rt r e)) = (fins A 0 ss e).map fun l => (r, l) := rfl
@[simp] theorem fnEnd_nx {A : List Nat} {ss : List S} {e : En} : fnEnd A ss (some (.nx e)) = (fins A 0 ss e).map fun l => (.d .non, l) := rfl
/-- a def's value: n parameters, N names, A the slots that are stored -/
def mkFn (n N : Nat) (A : List Nat) (f : FS) : FnS := fun ss => if ss.length = n then fnEnd A ss (f (ss.map some ++ List.replicate (N - n) none)) else none
end QL
end

section
set_option Elab.async false
set_option linter.all false
set_option maxRecDepth 100000
namespace QL
open PySem PySem.Spec PyProof.Rows L2

/-! ### a def's body keeps its promise -/
theorem cons?_eq {s : Option S} {ss : Option (List S)} {l : List S} (h : cons? s ss = some l) : ∃ a as, s = some a ∧ ss = some as ∧ l = a :: as := by
  unfold cons? at h
  split at h
  · cases h
    exact ⟨_, _, rfl, rfl, rfl⟩
  · cases h
theorem fins_at {A : List Nat} {e : En} : ∀ {ss fin : List S} {k : Nat}, fins A k ss e = some fin → fin.length = ss.length ∧ ∀ (i : Nat) (s : S), fin[i]? = some s → ∃ t, ss[i]? = some t ∧ fin1 A (k + i) t e = some s
  | [], fin, k, h => by
    cases h
    exact ⟨rfl, fun i s h => by simp at h⟩
  | t :: ss, fin, k, h => by
    have h : cons? (fin1 A k t e) (fins A (k + 1) ss e) = some fin := h
    obtain ⟨a, as, e1, e2, rfl⟩ := cons?_eq h
    obtain ⟨hl, ih⟩ := fins_at e2
    refine ⟨by rw [List.length_cons, List.length_cons, hl], fun i s hi => ?_⟩
    cases i with
    | zero =>
      simp at hi
      subst hi
      exact ⟨t, rfl, e1⟩
    | succ i =>
      obtain ⟨t', h1, h2⟩ := ih i s (by simpa using hi)
      exact ⟨t', by simpa using h1, by rw [show k + (i + 1) = k + 1 + i by omega]; exact h2⟩
theorem map_some_get {α : Type} {l : List α} {i : Nat} {x : α} : (l.map some)[i]? = some (some x) ↔ l[i]? = some x := by
  rw [List.getElem?_map]
  cases l[i]? <;> simp
theorem fin_re {K : PySem.W.Frag} {A : List Nat} {ss fin : List S} {vs : List V} {W W' : Ow} {H H' : Hp} {σ σ' : Sl} {e : En} {F : Addr → Prop}
    (r : RE K H (vs.map some) (ss.map some) W) (hσ : ∀ i, i < vs.length → σ[i]? = some vs[i]?) (h : fins A 0 ss e = some fin) (r' : RE K H' σ' e W') (t : Tr W H W' H' F) (q : Eqs A σ σ') :
    RE K H' (vs.map some) (fin.map some) (fun i b => (∃ m, ss[i]? = some (S.m m)) ∧ W' i b) := by
  obtain ⟨hl, hf⟩ := fins_at h
  have hlen : ss.length = vs.length := by have := r.len; simpa using this
  refine ⟨fun i s hs => ?_, fun i j b h1 h2 => r'.apart i j b h1.2 h2.2, fun i b h1 => r'.mu i b h1.2, by rw [List.length_map, List.length_map, hl, hlen]⟩
  obtain ⟨t', h1, h2⟩ := hf i s (map_some_get.mp hs)
  obtain ⟨v, h3, h4⟩ := r.slots i t' (map_some_get.mpr h1)
  refine ⟨v, h3, ?_⟩
  rw [Nat.zero_add] at h2
  cases t' with
  | d x =>
    cases h2
    exact RD.pst (r.pst t) h4
  | lk x =>
    cases h2
    exact RS.keep (P := F0) r.mu t (s := .lk x) h4 fun b z => z.elim
  | m x =>
    have h2 : (if A.contains i = true then none else match e[i]? with
      | some (some (S.m y)) => some (S.m y)
      | _ => none) = some s := h2
    split at h2
    · cases h2
    · rename_i hA
      split at h2
      · rename_i y hy
        cases h2
        obtain ⟨w, h5, h6⟩ := r'.slots i _ hy
        have hi : i < vs.length := by
          have := (List.getElem?_eq_some_iff.mp h1).1
          omega
        have e1 := q.2 i (fun z => hA (by simpa using z))
        rw [h5, hσ i hi, map_some_get.mp h3] at e1
        cases e1
        exact RS.imp (s := .m y) h6 fun b z => ⟨⟨x, h1⟩, z⟩
      · cases h2
section
variable {P : Program} {w : World} {K : PySem.W.Frag} {mg : Str → Option Value} {base : Heap}
/-- THE RULE for a def: its body as a derivation -/
theorem fn_ok {x qual : Str} {st : Stmt} {f : Addr} {fd : FuncData} {N ps : List Str} {k : Nat} {A : List Nat} {body : FS} (F : Fun K x qual st f fd) (Sc : FnScope N ps (defScope st))
    (hb : ∀ (cdv : Value) (Ar : Around) (outer : List Env) (s : Shared) (H : Hp) (E : XK), Room k (Ar.deeper (envOfC qual (defScope st) s.heap.objs.size f cdv)) →
      PXSs (cxOf CX0 P w K mg base N qual (defScope st) f cdv Ar outer s H E).nox (defBody st) A body) : FnOk P w K mg base CX0 (k + 1) f fd ps (spF K ps.length (mkFn ps.length N.length A body)) := by
  refine F.ok Sc (fun vs H Q E h => h.1) fun cdv Ar outer s H vs Q E hr h => ⟨_, hb cdv Ar outer s H E hr, ?_⟩
  obtain ⟨hl, ss, W, r, fin, re, e, kk⟩ := h
  have hss : ss.length = vs.length := by have := re.len; simpa using this
  have hpl : ps.length ≤ N.length := by have := congrArg List.length Sc.pre; rw [List.length_take] at this; omega
  have e' : (if ss.length = ps.length then fnEnd A ss (body (ss.map some ++ List.replicate (N.length - ps.length) none)) else none) = some (r, fin) := e
  rw [if_pos (by omega)] at e'
  have re0 : RE K H (L2.start N vs) (ss.map some ++ List.replicate (N.length - ps.length) none) W := by
    refine ⟨fun i s hs => ?_, re.apart, re.mu, ?_⟩
    · by_cases hi : i < ss.length
      · rw [List.getElem?_append_left (by simpa using hi)] at hs
        obtain ⟨v, h1, h2⟩ := re.slots i s hs
        refine ⟨v, ?_, h2⟩
        unfold L2.start
        rw [List.getElem?_append_left (by simpa [← hss] using hi)]
        exact h1
      · rw [List.getElem?_append_right (by simpa using hi), List.getElem?_replicate] at hs
        split at hs <;> cases hs
    · unfold L2.start
      simp only [List.length_append, List.length_map, List.length_replicate]
      omega
  have hσ : ∀ i, i < vs.length → (L2.start N vs)[i]? = some vs[i]? := fun i hi => by
    unfold L2.start
    rw [List.getElem?_append_left (by simpa using hi), List.getElem?_map, List.getElem?_eq_getElem hi]
    rfl
  have less : ∀ {W' : Ow} {H' : Hp} {F : Addr → Prop}, Tr W H W' H' F → Tr W H (fun i b => (∃ m, ss[i]? = some (S.m m)) ∧ W' i b) H' F := fun t =>
    ⟨t.frame, t.dom, fun b e n => ⟨fun ⟨i, z⟩ => (t.out b e n).1 ⟨i, z.2⟩, (t.out b e n).2⟩⟩
  cases q : body (ss.map some ++ List.replicate (N.length - ps.length) none) with
  | none => rw [q] at e'; cases e'
  | some rr =>
    rw [q] at e'
    refine ⟨_, W, rr, re0, q, ?_⟩
    cases rr with
    | bk e1 => cases e'
    | ct e1 => cases e'
    | nx e1 =>
      rw [fnEnd_nx] at e'
      cases hf : fins A 0 ss e1 with
      | none => rw [hf] at e'; cases e'
      | some fin' =>
        rw [hf] at e'
        cases e'
        intro σ' H' W' r' t' q'
        exact kk .non H' _ F0 (fin_re re hσ hf r' t' q') .non Tm.zero (less t')
    | rt s1 e1 =>
      rw [fnEnd_rt] at e'
      cases hf : fins A 0 ss e1 with
      | none => rw [hf] at e'; cases e'
      | some fin' =>
        rw [hf] at e'
        cases e'
        intro v σ' H' W' F r' rs tm t' q'
        exact kk v H' _ F (fin_re re hσ hf r' t' q') rs (fun b z => ⟨fun ⟨i, y⟩ => (tm b z).1 ⟨i, y.2⟩, (tm b z).2⟩) (less t')
end

/-! ### calls of defs -/
def mslots : List Arg → List S → List Nat
  | .slot j :: as, .m _ :: ss => j :: mslots as ss
  | _ :: as, _ :: ss => mslots as ss
  | _, _ => []
def wb : List Arg → List S → List S → En → Option En
  | [], _, _, e => some e
  | .slot j :: as, .m _ :: ss, .m y :: fs, e => wb as ss fs (e.set j (some (S.m y)))
  | .slot _ :: _, .m _ :: _, _, _ => none
  | _ :: as, _ :: ss, _ :: fs, e => wb as ss fs e
  | _, _, _, _ => none
@[simp] theorem mslots_nil {ss : List S} : mslots [] ss = [] := rfl
@[simp] theorem mslots_m {j : Nat} {x : M} {as : List Arg} {ss : List S} : mslots (.slot j :: as) (.m x :: ss) = j :: mslots as ss := rfl
@[simp] theorem mslots_d {a : Arg} {x : D} {as : List Arg} {ss : List S} : mslots (a :: as) (.d x :: ss) = mslots as ss := by cases a <;> rfl
@[simp] theorem mslots_lk {a : Arg} {x : M} {as : List Arg} {ss : List S} : mslots (a :: as) (.lk x :: ss) = mslots as ss := by cases a <;> rfl
@[simp] theorem mslots_val {s s' : S} {as : List Arg} {ss : List S} : mslots (.val s :: as) (s' :: ss) = mslots as ss := rfl
@[simp] theorem wb_nil {ss fs : List S} {e : En} : wb [] ss fs e = some e := rfl
@[simp] theorem wb_m {j : Nat} {x y : M} {as : List Arg} {ss fs : List S} {e : En} : wb (.slot j :: as) (.m x :: ss) (.m y :: fs) e = wb as ss fs (e.set j (some (S.m y))) := rfl
@[simp] theorem wb_d {a : Arg} {x : D} {s : S} {as : List Arg} {ss fs : List S} {e : En} : wb (a :: as) (.d x :: ss) (s :: fs) e = wb as ss fs e := by cases a <;> rfl
@[simp] theorem wb_lk {a : Arg} {x : M} {s : S} {as : List Arg} {ss fs : List S} {e : En} : wb (a :: as) (.lk x :: ss) (s :: fs) e = wb as ss fs e := by cases a <;> rfl
@[simp] theorem wb_val {t u s : S} {as : List Arg} {ss fs : List S} {e : En} : wb (.val t :: as) (u :: ss) (s :: fs) e = wb as ss fs e := rfl
theorem mslots_at : ∀ {as : List Arg} {ss : List S} {i j : Nat} {m : M}, as[i]? = some (Arg.slot j) → ss[i]? = some (S.m m) → j ∈ mslots as ss
  | [], _, i, _, _, h, _ => by simp at h
  | _ :: _, [], i, _, _, _, h => by simp at h
  | a :: as, s :: ss, 0, j, m, h1, h2 => by
    simp at h1 h2
    subst h1 h2
    exact List.mem_cons_self
  | a :: as, s :: ss, i + 1, j, m, h1, h2 => by
    have ih := mslots_at (as := as) (ss := ss) (i := i) (j := j) (m := m) (by simpa using h1) (by simpa using h2)
    cases a with
    | val t => exact ih
    | slot k => cases s with
      | m x => exact List.mem_cons_of_mem _ ih
      | d x => exact ih
      | lk x => exact ih
theorem mslots_in : ∀ {as : List Arg} {ss : List S} {j : Nat}, j ∈ mslots as ss → ∃ (i : Nat) (m : M), as[i]? = some (Arg.slot j) ∧ ss[i]? = some (S.m m)
  | [], _, _, h => by cases h
  | a :: as, [], _, h => by cases a <;> cases h
  | a :: as, s :: ss, j, h => by
    have tail : j ∈ mslots as ss → ∃ (i : Nat) (m : M), (a :: as)[i]? = some (Arg.slot j) ∧ (s :: ss)[i]? = some (S.m m) := fun h => by
      obtain ⟨i, m, h1, h2⟩ := mslots_in h
      exact ⟨i + 1, m, by simpa using h1, by simpa using h2⟩
    cases a with
    | val t => exact tail h
    | slot k => cases s with
      | d x => exact tail h
      | lk x => exact tail h
      | m x =>
        rcases List.mem_cons.mp h with e | h
        · subst e
          exact ⟨0, x, rfl, rfl⟩
        · exact tail h
theorem mslots_inj : ∀ {as : List Arg} {ss : List S} {i i' j : Nat} {m m' : M}, (mslots as ss).Nodup → as[i]? = some (Arg.slot j) → ss[i]? = some (S.m m) → as[i']? = some (Arg.slot j) → ss[i']? = some (S.m m') → i = i'
  | [], _, i, _, _, _, _, _, h, _, _, _ => by simp at h
  | _ :: _, [], i, _, _, _, _, _, _, h, _, _ => by simp at h
  | a :: as, s :: ss, 0, 0, j, m, m', nd, h1, h2, h3, h4 => rfl
  | a :: as, s :: ss, i + 1, 0, j, m, m', nd, h1, h2, h3, h4 => by
    simp at h3 h4
    subst h3 h4
    have := mslots_at (as := as) (ss := ss) (i := i) (j := j) (m := m) (by simpa using h1) (by simpa using h2)
    exact absurd this (List.nodup_cons.mp nd).1
  | a :: as, s :: ss, 0, i' + 1, j, m, m', nd, h1, h2, h3, h4 => by
    simp at h1 h2
    subst h1 h2
    have := mslots_at (as := as) (ss := ss) (i := i') (j := j) (m := m') (by simpa using h3) (by simpa using h4)
    exact absurd this (List.nodup_cons.mp nd).1
  | a :: as, s :: ss, i + 1, i' + 1, j, m, m', nd, h1, h2, h3, h4 => by
    have nd' : (mslots as ss).Nodup := by
      cases a with
      | val t => exact nd
      | slot k => cases s with
        | d x => exact nd
        | lk x => exact nd
        | m x => exact (List.nodup_cons.mp nd).2
    rw [mslots_inj (i := i) (i' := i') nd' (by simpa using h1) (by simpa using h2) (by simpa using h3) (by simpa using h4)]
theorem wb_spec : ∀ {as : List Arg} {ss fs : List S} {e e' : En}, wb as ss fs e = some e' → (mslots as ss).Nodup → e'.length = e.length ∧ (∀ j, j ∉ mslots as ss → e'[j]? = e[j]?) ∧
    ∀ (i j : Nat) (m : M), as[i]? = some (Arg.slot j) → ss[i]? = some (S.m m) → j < e.length → ∃ y, fs[i]? = some (S.m y) ∧ e'[j]? = some (some (S.m y))
  | [], _, _, e, e', h, _ => by
    cases h
    exact ⟨rfl, fun _ _ => rfl, fun i j m h => by simp at h⟩
  | a :: as, [], fs, e, e', h, _ => by cases a <;> cases fs <;> cases h
  | a :: as, s :: ss, fs, e, e', h, nd => by
    have plain : ∀ {f' : S} {fs' : List S}, fs = f' :: fs' → mslots (a :: as) (s :: ss) = mslots as ss → (∀ j m, ¬ (a = .slot j ∧ s = .m m)) → wb as ss fs' e = some e' → e'.length = e.length ∧ (∀ j, j ∉ mslots (a :: as) (s :: ss) → e'[j]? = e[j]?) ∧
        ∀ (i j : Nat) (m : M), (a :: as)[i]? = some (Arg.slot j) → (s :: ss)[i]? = some (S.m m) → j < e.length → ∃ y, fs[i]? = some (S.m y) ∧ e'[j]? = some (some (S.m y)) := fun {f' fs'} ef em hn h => by
      rw [em] at nd ⊢
      obtain ⟨h1, h2, h3⟩ := wb_spec h nd
      refine ⟨h1, h2, fun i j m q1 q2 hj => ?_⟩
      cases i with
      | zero =>
        simp at q1 q2
        exact absurd ⟨q1, q2⟩ (hn j m)
      | succ i =>
        rw [ef]
        obtain ⟨y, z1, z2⟩ := h3 i j m (by simpa using q1) (by simpa using q2) hj
        exact ⟨y, by simpa using z1, z2⟩
    cases a with
    | val t =>
      cases fs with
      | nil => cases h
      | cons f fs => exact plain rfl rfl (fun _ _ z => nomatch z.1) h
    | slot k =>
      cases s with
      | d x =>
        cases fs with
        | nil => cases h
        | cons f fs => exact plain rfl rfl (fun _ _ z => nomatch z.2) h
      | lk x =>
        cases fs with
        | nil => cases h
        | cons f fs => exact plain rfl rfl (fun _ _ z => nomatch z.2) h
      | m x =>
        cases fs with
        | nil => cases h
        | cons f fs =>
          cases f with
          | d y => cases h
          | lk y => cases h
          | m y =>
            have h : wb as ss fs (e.set k (some (S.m y))) = some e' := h
            have nd2 := List.nodup_cons.mp nd
            obtain ⟨h1, h2, h3⟩ := wb_spec h nd2.2
            rw [List.length_set] at h1 h3
            refine ⟨h1, fun j hj => ?_, fun i j m q1 q2 hj => ?_⟩
            · have hj2 : j ≠ k ∧ j ∉ mslots as ss := ⟨fun z => hj (by rw [z]; exact List.mem_cons_self), fun z => hj (List.mem_cons_of_mem _ z)⟩
              rw [h2 j hj2.2, List.getElem?_set_ne (Ne.symm hj2.1)]
            · cases i with
              | zero =>
                simp at q1
                subst q1
                exact ⟨y, rfl, by rw [h2 _ nd2.1, List.getElem?_set_self hj]⟩
              | succ i =>
                obtain ⟨y', z1, z2⟩ := h3 i j m (by simpa using q1) (by simpa using q2) hj
                exact ⟨y', by simpa using z1, z2⟩
theorem gets_at : ∀ {as : List Arg} {e : En} {ss : List S}, gets as e = some ss → ss.length = as.length ∧ ∀ (i : Nat) (a : Arg), as[i]? = some a → ∃ s, ss[i]? = some s ∧ a.get e = some s
  | [], _, _, h => by
    cases h
    exact ⟨rfl, fun i a h => by simp at h⟩
  | a :: as, e, ss, h => by
    obtain ⟨s, ss', rfl, e1, e2⟩ := gets_cons h
    obtain ⟨hl, ih⟩ := gets_at e2
    refine ⟨by rw [List.length_cons, List.length_cons, hl], fun i b hb => ?_⟩
    cases i with
    | zero =>
      simp at hb
      subst hb
      exact ⟨s, rfl, e1⟩
    | succ i =>
      obtain ⟨t, h1, h2⟩ := ih i b (by simpa using hb)
      exact ⟨t, by simpa using h1, h2⟩
theorem fany_at : ∀ {Fs : List (Addr → Prop)} {i : Nat} {F : Addr → Prop} {b : Addr}, Fs[i]? = some F → F b → Fany Fs b
  | [], _, _, _, h, _ => by simp at h
  | G :: Fs, 0, F, b, h, z => by
    simp at h
    subst h
    exact .inl z
  | G :: Fs, i + 1, F, b, h, z => .inr (fany_at (by simpa using h) z)
section
variable {K : PySem.W.Frag} {H : Hp} {σ : Sl} {W : Ow}
theorem RAs.length : ∀ {as : List Arg} {vs : List V} {Fs : List (Addr → Prop)}, RAs K H σ W as vs Fs → vs.length = as.length ∧ Fs.length = as.length
  | _, _, _, .nil => ⟨rfl, rfl⟩
  | _, _, _, .cons _ _ _ t => by
    obtain ⟨h1, h2⟩ := RAs.length t
    exact ⟨by rw [List.length_cons, List.length_cons, h1], by rw [List.length_cons, List.length_cons, h2]⟩
theorem RAs.at : ∀ {as : List Arg} {vs : List V} {Fs : List (Addr → Prop)} {i : Nat} {a : Arg}, RAs K H σ W as vs Fs → as[i]? = some a → ∃ v F, vs[i]? = some v ∧ Fs[i]? = some F ∧ RA K H σ a v F ∧ Tm W H F
  | _, _, _, i, _, .nil, h => by simp at h
  | _, _, _, 0, _, .cons ra tm _ _, h => by
    simp at h
    subst h
    exact ⟨_, _, rfl, rfl, ra, tm⟩
  | _, _, _, i + 1, _, .cons _ _ _ t, h => by
    obtain ⟨v, F, h1, h2, h3⟩ := RAs.at (i := i) t (by simpa using h)
    exact ⟨v, F, by simpa using h1, by simpa using h2, h3⟩
theorem RAs.apart : ∀ {as : List Arg} {vs : List V} {Fs : List (Addr → Prop)} {i j : Nat} {F G : Addr → Prop} {b : Addr}, RAs K H σ W as vs Fs → Fs[i]? = some F → Fs[j]? = some G → F b → G b → i = j
  | _, _, _, i, _, _, _, _, .nil, h, _, _, _ => by simp at h
  | _, _, _, 0, 0, _, _, _, .cons _ _ _ _, _, _, _, _ => rfl
  | _, _, _, 0, j + 1, _, _, b, .cons _ _ d _, h1, h2, z1, z2 => by
    simp at h1
    subst h1
    exact absurd (fany_at (by simpa using h2) z2) (d b z1)
  | _, _, _, i + 1, 0, _, _, b, .cons _ _ d _, h1, h2, z1, z2 => by
    simp at h2
    subst h2
    exact absurd (fany_at (by simpa using h1) z1) (d b z2)
  | _, _, _, i + 1, j + 1, _, _, b, .cons _ _ _ t, h1, h2, z1, z2 => by
    rw [RAs.apart (i := i) (j := j) t (by simpa using h1) (by simpa using h2) z1 z2]
end
def callK2 (as : List Arg) (ss : List S) (z : Option (S × List S)) (e : En) : Option (Arg × En) := match z with
  | some (r, fin) => (wb as ss fin e).map fun e' => (.val r, e')
  | none => none
@[simp] theorem callK2_some {as : List Arg} {ss : List S} {r : S} {fin : List S} {e : En} : callK2 as ss (some (r, fin)) e = (wb as ss fin e).map fun e' => (.val r, e') := rfl
def callK (fn : FnS) (as : List Arg) (z : Option (List S)) (e : En) : Option (Arg × En) := match z with
  | some ss => if (mslots as ss).Nodup then callK2 as ss (fn ss) e else none
  | none => none
@[simp] theorem callK_some {fn : FnS} {as : List Arg} {ss : List S} {e : En} : callK fn as (some ss) e = if (mslots as ss).Nodup then callK2 as ss (fn ss) e else none := rfl
def fCall1 (fn : FnS) (as : List Arg) (e : En) : Option (Arg × En) := callK fn as (gets as e) e
def fCall (fn : FnS) (fs : Fn1 (List Arg)) : Fn1 Arg := fun e => bnd (fs e) (fCall1 fn)
/-- who owns what in a callee -/
def ownA (W : Ow) : Arg → S → (Addr → Prop) → Addr → Prop
  | .slot j, .m _, _, b => W j b
  | .slot _, _, _, _ => False
  | .val _, _, F, b => F b
theorem call_read {K : PySem.W.Frag} {fn : FnS} {fs : Fn1 (List Arg)} {n : Nat} {E : XK} {σ : Sl} {H : Hp} {Q : VK} (h : tE K (fCall fn fs) σ H Q) (hn : ∀ ss r, fn ss = some r → ss.length = n) : tA K fs σ H fun vs H1 => spF K n fn (vs ++ []) H1 Q E := by
  obtain ⟨env, W, z, env3, re, e, k⟩ := h
  obtain ⟨as, env2, eas, e⟩ := bnd_eq e
  refine ⟨env, W, as, env2, re, eas, fun vs H2 W2 Fs r2 ras t2 => ?_⟩
  show spF K n fn (vs ++ []) H2 Q E
  rw [List.append_nil]
  unfold fCall1 callK at e
  split at e
  · rename_i ss hss
    split at e
    · rename_i nd
      unfold callK2 at e
      split at e
      · rename_i r fin hfn
        cases hwb : wb as ss fin env2 with
        | none => rw [hwb] at e; cases e
        | some e3 =>
          rw [hwb] at e
          cases e
          obtain ⟨hl1, hl2⟩ := ras.length
          obtain ⟨hl3, hg⟩ := gets_at hss
          obtain ⟨wl, w1, w2⟩ := wb_spec hwb nd
          have hsl : ss.length = n := hn ss _ hfn
          -- who owns what within
          let Wc : Ow := fun i b => ∃ (a : Arg) (s : S) (F : Addr → Prop), as[i]? = some a ∧ ss[i]? = some s ∧ Fs[i]? = some F ∧ ownA W2 a s F b
          have wcOut : ∀ b, H2 b ≠ none → ¬ Own W2 b → ¬ Fany Fs b → ¬ Own Wc b := fun b _ n1 n2 ⟨i, a, s, F, _, _, hF, z⟩ => by
            cases a with
            | slot j => cases s with
              | m x => exact n1 ⟨j, z⟩
              | d x => exact z
              | lk x => exact z
            | val t => exact n2 (fany_at hF z)
          have reC : RE K H2 (vs.map some) (ss.map some) Wc := by
            refine ⟨fun i s hs => ?_, fun i i' b ⟨a, s, F, q1, q2, q3, z⟩ ⟨a', s', F', q1', q2', q3', z'⟩ => ?_, fun i b ⟨a, s, F, q1, q2, q3, z⟩ => ?_, by rw [List.length_map, List.length_map]; omega⟩
            · have hs := map_some_get.mp hs
              have hi : i < as.length := by
                have := (List.getElem?_eq_some_iff.mp hs).1
                omega
              have ha : as[i]? = some as[i] := List.getElem?_eq_getElem hi
              obtain ⟨v, F, q1, q2, q3, q4⟩ := ras.at ha
              obtain ⟨s', q5, q6⟩ := hg i _ ha
              rw [hs] at q5
              cases q5
              refine ⟨v, map_some_get.mpr q1, ?_⟩
              cases ea : as[i] with
              | val t =>
                rw [ea] at q3 q6 ha
                cases q6
                exact RS.imp q3 fun b z => ⟨_, _, F, ha, hs, q2, z⟩
              | slot j =>
                rw [ea] at q3 q6 ha
                obtain ⟨w, h1, h2⟩ := r2.slots j s (join_some q6)
                have h' : σ[j]? = some (some v) := q3
                rw [h1] at h'
                cases h'
                cases s with
                | d x => exact h2
                | lk x => exact h2
                | m x => exact RS.imp (s := .m x) h2 fun b z => ⟨_, _, F, ha, hs, q2, z⟩
            · cases a with
              | val t =>
                cases a' with
                | val t' => exact ras.apart q3 q3' z z'
                | slot j' => cases s' with
                  | m x' =>
                    obtain ⟨v, G, _, g2, _, g4⟩ := ras.at q1
                    rw [q3] at g2
                    cases g2
                    exact absurd ⟨j', z'⟩ (g4 b z).1
                  | d x' => exact z'.elim
                  | lk x' => exact z'.elim
              | slot j =>
                cases s with
                | d x => exact z.elim
                | lk x => exact z.elim
                | m x =>
                  cases a' with
                  | val t' =>
                    obtain ⟨v, G, _, g2, _, g4⟩ := ras.at q1'
                    rw [q3'] at g2
                    cases g2
                    exact absurd ⟨j, z⟩ (g4 b z').1
                  | slot j' => cases s' with
                    | d x' => exact z'.elim
                    | lk x' => exact z'.elim
                    | m x' =>
                      have ej : j = j' := r2.apart j j' b z z'
                      subst ej
                      exact mslots_inj nd q1 q2 q1' q2'
            · cases a with
              | val t =>
                obtain ⟨v, G, _, g2, _, g4⟩ := ras.at q1
                rw [q3] at g2
                cases g2
                exact (g4 b z).2
              | slot j => cases s with
                | m x => exact r2.mu j b z
                | d x => exact z.elim
                | lk x => exact z.elim
          refine ⟨by omega, ss, Wc, r, fin, reC, hfn, fun v H3 W3 F r3 rs tm t3 => ?_⟩
          -- back at the caller
          let Wb : Ow := fun j b => (∃ (i : Nat) (m : M), as[i]? = some (Arg.slot j) ∧ ss[i]? = some (S.m m) ∧ W3 i b) ∨ (j ∉ mslots as ss ∧ W2 j b)
          have notC : ∀ j b, j ∉ mslots as ss → W2 j b → ¬ Own Wc b := fun j b hj hw ⟨i, a, s, F', q1, q2, q3, z⟩ => by
            cases a with
            | slot j' => cases s with
              | m x =>
                have ej : j = j' := r2.apart j j' b hw z
                subst ej
                exact hj (mslots_at q1 q2)
              | d x => exact z
              | lk x => exact z
            | val t =>
              obtain ⟨v, G, _, g2, _, g4⟩ := ras.at q1
              rw [q3] at g2
              cases g2
              exact (g4 b z).1 ⟨j, hw⟩
          have reB : RE K H3 σ env3 Wb := by
            refine ⟨fun j s hs => ?_, fun j j' b h1 h2 => ?_, fun j b h1 => ?_, by rw [wl]; exact r2.len⟩
            · by_cases hj : j ∈ mslots as ss
              · obtain ⟨i, m, q1, q2⟩ := mslots_in hj
                obtain ⟨s', q5, q6⟩ := hg i _ q1
                have hlt : j < env2.length := (List.getElem?_eq_some_iff.mp (join_some q6)).1
                obtain ⟨y, q3, q4⟩ := w2 i j m q1 q2 hlt
                rw [q4] at hs
                cases hs
                obtain ⟨v', g1, g2⟩ := r3.slots i _ (map_some_get.mpr q3)
                obtain ⟨v'', G, g3, _, g5, _⟩ := ras.at q1
                rw [map_some_get.mp g1] at g3
                cases g3
                exact ⟨v', g5, RS.imp (s := .m y) g2 fun b z => .inl ⟨i, m, q1, q2, z⟩⟩
              · rw [w1 j hj] at hs
                obtain ⟨v', g1, g2⟩ := r2.slots j s hs
                exact ⟨v', g1, (RS.keep reC.mu t3 g2 fun b z => notC j b hj z).imp fun b z => .inr ⟨hj, z⟩⟩
            · rcases h1 with ⟨i, m, q1, q2, z1⟩ | ⟨n1, z1⟩
              · rcases h2 with ⟨i', m', q1', q2', z2⟩ | ⟨n2, z2⟩
                · have ei := r3.apart i i' b z1 z2
                  subst ei
                  rw [q1] at q1'
                  cases q1'
                  rfl
                · exact absurd ⟨i, z1⟩ (t3.out b (mut_some (r2.mu _ b z2)) (notC _ b n2 z2)).1
              · rcases h2 with ⟨i', m', q1', q2', z2⟩ | ⟨n2, z2⟩
                · exact absurd ⟨i', z2⟩ (t3.out b (mut_some (r2.mu _ b z1)) (notC _ b n1 z1)).1
                · exact r2.apart _ _ b z1 z2
            · rcases h1 with ⟨i, m, q1, q2, z1⟩ | ⟨n1, z1⟩
              · exact r3.mu i b z1
              · have mu := r2.mu j b z1
                cases q : H2 b with
                | none => rw [q] at mu; exact mu.elim
                | some o => rw [t3.frame b o q (notC j b n1 z1)]; rw [q] at mu; exact mu
          have tmB : Tm Wb H3 F := fun b z => ⟨fun ⟨j, h1⟩ => by
            rcases h1 with ⟨i, m, q1, q2, z1⟩ | ⟨n1, z1⟩
            · exact (tm b z).1 ⟨i, z1⟩
            · exact (t3.out b (mut_some (r2.mu j b z1)) (notC j b n1 z1)).2 z, (tm b z).2⟩
          refine k v H3 Wb F reB rs tmB ⟨fun b o e n => ?_, fun b e => t3.dom b (t2.dom b e), fun b e n => ?_⟩
          · have h2 := t2.out b (by rw [e]; simp) n
            have e2 := t2.frame b o e n
            exact t3.frame b o e2 (wcOut b (by rw [e2]; simp) h2.1 h2.2)
          · have h2 := t2.out b e n
            have h3 := t3.out b (t2.dom b e) (wcOut b (t2.dom b e) h2.1 h2.2)
            refine ⟨fun ⟨j, h1⟩ => ?_, h3.2⟩
            rcases h1 with ⟨i, m, q1, q2, z1⟩ | ⟨n1, z1⟩
            · exact h3.1 ⟨i, z1⟩
            · exact h2.1 ⟨j, z1⟩
      · cases e
    · cases e
  · cases e
theorem mkFn_len {n N : Nat} {A : List Nat} {f : FS} {ss : List S} {r : S × List S} (h : mkFn n N A f ss = some r) : ss.length = n := by
  unfold mkFn at h
  split at h
  · assumption
  · cases h
section
variable {X : Cx} {k : Nat} {f : Addr} {fd : FuncData} {ps : List Str} {n : Nat} {fn : FnS} {x : Str} {p pos : Pos} {e : Expr} {es : List Expr} {fs : Fn1 (List Arg)}
theorem qx_call (F : FnOk X.prog X.w X.K X.mg X.base CX0 k f fd ps (spF X.K n fn)) (hn : ∀ ss r, fn ss = some r → ss.length = n) (hr : Room k X.A) (hg : Gl X x) (hm : X.mg x = some (.ref f)) (hk : PySem.W.keepIn X.K (.ref f) = true) (hb : Binds X.K fd ps [])
    (ha : PXA X (e :: es) fs) (hdb : (x == ("__debug__" : Str)) = false := by decide) (he : starEach (e :: es) X.env = (false, eval e X.env) :: starEach es X.env := by rfl) (hpl : (backTo pos (starEach es X.env)).any (·.1) = false := by rfl) :
    PX X (.Call (.Name x p) (e :: es) [] pos) (fCall fn fs) :=
  PE.imp (pe_call (E := E0) F hr hg hm hk hb .nil pass0 ha hdb he hpl) fun σ H Q h => call_read h hn
theorem qx_call0 (F : FnOk X.prog X.w X.K X.mg X.base CX0 k f fd ps (spF X.K n fn)) (hn : ∀ ss r, fn ss = some r → ss.length = n) (hr : Room k X.A) (hg : Gl X x) (hm : X.mg x = some (.ref f)) (hk : PySem.W.keepIn X.K (.ref f) = true) (hb : Binds X.K fd ps [])
    (hdb : (x == ("__debug__" : Str)) = false := by decide) :
    PX X (.Call (.Name x p) [] [] pos) (fCall fn fNil) :=
  PE.imp (pe_call0 (E := E0) F hr hg hm hk hb .nil pass0 hdb) fun σ H Q h => by
    obtain ⟨env, W, as, env', re, e, k⟩ := call_read (E := E0) h hn
    cases e
    exact k [] H W [] re .nil (Tr.refl.less fun b z => z)
end
end QL
end

section
set_option Elab.async false
set_option linter.all false
set_option maxRecDepth 100000
namespace QL
open PySem PySem.Spec PyProof.Rows L2

/-! ### targets -/
def tP (K : PySem.W.Frag) (A : List Nat) (b : D → En → Option En) : TG := fun v σ H Q => ∃ x env W env', RE K H σ env W ∧ RD K H x v ∧ b x env = some env' ∧ ∀ σ', RE K H σ' env' W → Eqs A σ σ' → Q σ' H
def tPs (K : PySem.W.Frag) (A : List Nat) (b : List D → En → Option En) : TGs := fun vs σ H Q => ∃ xs env W env', RE K H σ env W ∧ RDs K H xs vs ∧ b xs env = some env' ∧ ∀ σ', RE K H σ' env' W → Eqs A σ σ' → Q σ' H
abbrev PXG (X : Cx) (tg : Expr) (A : List Nat) (b : D → En → Option En) : Prop := PG X tg (tP X.K A b)
abbrev PXGs (X : Cx) (tg : List Expr) (A : List Nat) (b : List D → En → Option En) : Prop := PGs X tg (tPs X.K A b)
theorem PG.imp {X : Cx} {e : Expr} {t t' : TG} (h : PG X e t) (i : ∀ v σ H Q, t' v σ H Q → t v σ H Q) : PG X e t' := ⟨fun pins s σ H v u Q I r q => h.run pins s σ H v u Q I r (i v σ H Q q)⟩
theorem PGs.imp {X : Cx} {e : List Expr} {t t' : TGs} (h : PGs X e t) (i : ∀ v σ H Q, t' v σ H Q → t v σ H Q) : PGs X e t' := ⟨fun pins s σ H v u Q I r q => h.run pins s σ H v u Q I r (i v σ H Q q)⟩
def bName (i : Nat) (x : D) (e : En) : Option En := some (e.set i (some (.d x)))
@[simp] theorem bName_eq {i : Nat} {x : D} {e : En} : bName i x e = some (e.set i (some (.d x))) := rfl
def bNil (xs : List D) (e : En) : Option En := match xs with
  | [] => some e
  | _ => none
@[simp] theorem bNil_nil {e : En} : bNil [] e = some e := rfl
def bNext (bs : List D → En → Option En) (xs : List D) : Option En → Option En
  | some e => bs xs e
  | none => none
@[simp] theorem bNext_some {bs : List D → En → Option En} {xs : List D} {e : En} : bNext bs xs (some e) = bs xs e := rfl
def bCons (b : D → En → Option En) (bs : List D → En → Option En) (xs : List D) (e : En) : Option En := match xs with
  | x :: xs => bNext bs xs (b x e)
  | [] => none
@[simp] theorem bCons_cons {b : D → En → Option En} {bs : List D → En → Option En} {x : D} {xs : List D} {e : En} : bCons b bs (x :: xs) e = bNext bs xs (b x e) := rfl
def bTup (n : Nat) (bs : List D → En → Option En) (x : D) (e : En) : Option En := match x with
  | .tup xs => if xs.length = n then bs xs e else none
  | _ => none
@[simp] theorem bTup_tup {n : Nat} {bs : List D → En → Option En} {xs : List D} {e : En} : bTup n bs (.tup xs) e = if xs.length = n then bs xs e else none := rfl
theorem RE.setd {K : PySem.W.Frag} {H : Hp} {σ : Sl} {env : En} {W : Ow} {i : Nat} {x : D} {v : V} (r : RE K H σ env W) (h : RD K H x v) : RE K H (σ.set i (some v)) (env.set i (some (.d x))) W where
  slots := fun j t e => by
    by_cases hj : j = i
    · subst hj
      rw [List.getElem?_set, if_pos rfl] at e
      split at e
      · cases e
        rename_i hl
        exact ⟨v, by rw [List.getElem?_set_self (by rw [← r.len]; exact hl)], h⟩
      · cases e
    · rw [List.getElem?_set_ne (Ne.symm hj)] at e
      obtain ⟨w, h1, h2⟩ := r.slots j t e
      exact ⟨w, by rw [List.getElem?_set_ne (Ne.symm hj)]; exact h1, h2⟩
  apart := r.apart
  mu := r.mu
  len := by rw [List.length_set, List.length_set]; exact r.len
section
variable {X : Cx} {pos : Pos}
theorem qg_name {i : Nat} {x : Str} (hN : X.N.Nodup) (hi : X.N[i]? = some x := by rfl) (hx : Loc X.env.scope x := by first | exact Or.inl rfl | exact Or.inr rfl) (hf : X.fn x = true ∨ X.env.scope.names.lookup x = some .local := by first | exact .inl rfl | exact .inr rfl | assumption) :
    PXG X (.Name x pos) [i] (bName i) := PG.imp (pg_name hN hi hx hf) fun v σ H Q h => by
  obtain ⟨x, env, W, env', r, rd, e, k⟩ := h
  cases e
  exact k _ (r.setd rd) eqs_set
theorem qg_nil : PXGs X [] [] bNil := PGs.imp pgs_nil fun v σ H Q h => by
  obtain ⟨xs, env, W, env', r, rd, e, k⟩ := h
  unfold bNil at e
  split at e
  · cases e
    cases rd
    exact ⟨rfl, k σ r Eqs.refl⟩
  · cases e
theorem qg_cons {e : Expr} {es : List Expr} {A B : List Nat} {b : D → En → Option En} {bs : List D → En → Option En} (h1 : PXG X e A b) (h2 : PXGs X es B bs)
    (hs : (assignEach (e :: es) X.env).map (·.2) = assign e X.env :: (assignEach es X.env).map (·.2) := by rfl) : PXGs X (e :: es) (A ++ B) (bCons b bs) := PGs.imp (pgs_cons h1 h2 hs) fun v σ H Q h => by
  obtain ⟨xs, env, W, env', r, rd, e, k⟩ := h
  unfold bCons at e
  split at e
  · rename_i x xs
    cases rd with
    | cons rx rxs =>
      cases q : b x env with
      | none => rw [q] at e; cases e
      | some e1 =>
        rw [q] at e
        refine ⟨_, _, rfl, x, env, W, e1, r, rx, q, fun σ1 r1 q1 => ⟨xs, e1, W, env', r1, rxs, e, fun σ2 r2 q2 => k σ2 r2 (q1.trans q2 (fun j z => List.mem_append_left _ z) (fun j z => List.mem_append_right _ z))⟩⟩
  · cases e
theorem qg_tup {es : List Expr} {k : Nat} {A : List Nat} {bs : List D → En → Option En} {n : Nat} (hc : X.calm = true) (h : PXGs X es A bs)
    (hn : (assignEach es X.env).length = n := by rfl) (hst : (assignEach es X.env).findIdx? (·.1) = none := by rfl) : PXG X (.Tuple es k pos) A (bTup n bs) := PG.imp (pg_tup hc h hn hst) fun v σ H Q h => by
  obtain ⟨x, env, W, env', r, rd, e, k⟩ := h
  unfold bTup at e
  split at e
  · rename_i xs
    split at e
    · rename_i hl
      cases rd with
      | tup h1 h2 => exact ⟨_, _, rfl, h1, by rw [← h2.length]; exact hl, xs, env, W, env', r, h2, e, k⟩
    · cases e
  · cases e
/-- pattern = value -/
def patK1 : Option En → Option Res
  | some e => some (.nx e)
  | none => none
@[simp] theorem patK1_some {e : En} : patK1 (some e) = some (.nx e) := rfl
def patK (b : D → En → Option En) (z : Option S) (e : En) : Option Res := match z with
  | some (.d x) => patK1 (b x e)
  | _ => none
@[simp] theorem patK_d {b : D → En → Option En} {x : D} {e : En} : patK b (some (.d x)) e = patK1 (b x e) := rfl
def sPat1 (b : D → En → Option En) (a : Arg) (e : En) : Option Res := patK b (a.get e) e
def sPat (b : D → En → Option En) (fa : Fn1 Arg) : FS := fun e => bndS (fa e) (sPat1 b)
theorem qs_pat {tg e : Expr} {fa : Fn1 Arg} {A : List Nat} {b : D → En → Option En} (hg : PXG X tg A b) (he : PX X e fa) (hs : swapsWithSole [tg] e pos.line X.env = pure false := by rfl) (hw : swappedStores [tg] e X.env = pure none := by rfl)
    (h1 : (assignEach [tg] X.env).map (·.2) = [assign tg X.env] := by rfl) : PXS X (.Assign [tg] e pos) A (sPat b fa) := PS.imp (ps_asg he hg hs hw h1) fun D σ H h => by
  obtain ⟨env, W, r, re, e, p⟩ := h
  obtain ⟨a, env1, ea, e⟩ := bndS_eq e
  refine ⟨env, W, a, env1, re, ea, fun v H1 W1 F r1 ra tm t => ?_⟩
  unfold sPat1 patK at e
  split at e
  · rename_i x hx
    obtain ⟨P, rd⟩ := ra.read r1 hx
    cases q : b x env1 with
    | none => rw [q] at e; cases e
    | some e2 =>
      rw [q] at e
      cases e
      exact ⟨x, env1, W1, e2, r1, rd, q, fun σ' r' q' => p σ' H1 W1 r' (t.less fun _ z => z.elim) q'⟩
  · cases e
end

/-! ### what is walked -/
/-- what the slots do not own stands as at (H0, W0) -/
def Gd (H0 : Hp) (W0 : Ow) (H : Hp) : Prop := ∀ b o, H0 b = some o → ¬ Own W0 b → H b = some o
def WalkD (K : PySem.W.Frag) (J : It) (xs : List D) (H0 : Hp) (W0 : Ow) : Prop :=
  ∃ Y, Walk J xs.length (Gd H0 W0) Y ∧ ∀ i H x H', i < xs.length → Gd H0 W0 H → Y i H x H' → Same H H' ∧ ∃ d, xs[i]? = some d ∧ RD K H' d x
def tIt (K : PySem.W.Frag) (f : Fn1 (List D)) : TI := fun σ H R => ∃ env W xs env', RE K H σ env W ∧ f env = some (xs, env') ∧
  ∀ J H' W', RE K H' σ env' W' → Tr W H W' H' F0 → WalkD K J xs H' W' → R J H'
abbrev PXI (X : Cx) (tg e : Expr) (f : Fn1 (List D)) : Prop := PI X tg e (tIt X.K f)
theorem PI.imp {X : Cx} {tg e : Expr} {t t' : TI} (h : PI X tg e t) (i : ∀ σ H Q, t' σ H Q → t σ H Q) : PI X tg e t' := ⟨fun pins s σ H Q I q => h.run pins s σ H Q I (i σ H Q q)⟩
theorem Gd.pst {K : PySem.W.Frag} {H0 H : Hp} {σ : Sl} {env : En} {W0 : Ow} (r : RE K H0 σ env W0) (g : Gd H0 W0 H) : Pst H0 H := fun a xs h => by
  rcases h with h | ⟨o, h⟩
  · exact .inl (g a _ h (r.nomut h fun z => z))
  · exact .inr ⟨o, g a _ h (r.nomut h fun z => z)⟩
theorem Gd.of {W0 W : Ow} {H0 H : Hp} {F : Addr → Prop} (t : Tr W0 H0 W H F) : Gd H0 W0 H := fun b o e n => t.frame b o e n
/-! a list or a tuple -/
def iSeq (K : PySem.W.Frag) (tl : TE) : TI := fun σ H R => tl σ H fun x H1 => ∃ a, x = .ref a ∧ (((∃ xs, SqL K H1 a xs) ∧ R (Itl K a) H1) ∨ ((∃ xs, SqT K H1 a xs) ∧ R (Itt K a) H1))
theorem pi_seq {X : Cx} {tg l : Expr} {tl : TE} (hl : PE X l tl) : PI X tg l (iSeq X.K tl) := by
  refine ⟨fun pins s σ H R I h => ?_⟩
  refine thn (hl.run pins s σ H _ I h) fun v s1 ⟨x, H1, I1, r1, q1⟩ => ?_
  obtain ⟨a, e, q1⟩ := q1
  subst e
  cases r1
  rcases q1 with ⟨⟨xs, hq⟩, q⟩ | ⟨⟨xs, hq⟩, q⟩
  · obtain ⟨its, rv, p, hz⟩ := I1.list hq
    refine wpAny_pyIter_list p.isList ?_
    refine ⟨s1.heap.objs.size, [s1.heap.objs.size], _, _, H1, rfl, I1.kept (t' := s1.toks) fun b o e => Heap.get?_push_of_some _ e, turn_list a _, ⟨_, Heap.get?_push_size _ rfl, rfl, rfl⟩, fun b hb => ?_, q⟩
    have e : b = s1.heap.objs.size := by simpa using hb
    subst e
    exact I1.fpOk (Nat.le_refl _) (I1.hok.fresh (Nat.le_refl _))
  · obtain ⟨its, rv, p, hz⟩ := I1.tuple hq
    refine wpAny_pyIter_tuple (show s1.heap.IsTuple a its.toArray from p) ?_
    refine ⟨s1.heap.objs.size, [s1.heap.objs.size], _, _, H1, rfl, I1.kept (t' := s1.toks) fun b o e => Heap.get?_push_of_some _ e, turn_tuple a _, ⟨_, Heap.get?_push_size _ rfl, rfl, rfl⟩, fun b hb => ?_, q⟩
    have e : b = s1.heap.objs.size := by simpa using hb
    subst e
    exact I1.fpOk (Nat.le_refl _) (I1.hok.fresh (Nat.le_refl _))
/-- the items of an argument that stands still while it is walked: a tuple, a locked list of a slot, any sequence just made -/
def itemsS : Option (Option S) → Option (List D)
  | some (some (.d (.tup ds))) => some ds
  | some (some (.lk (.lst ds))) => some ds
  | _ => none
@[simp] theorem itemsS_tup {ds : List D} : itemsS (some (some (.d (.tup ds)))) = some ds := rfl
@[simp] theorem itemsS_lk {ds : List D} : itemsS (some (some (.lk (.lst ds)))) = some ds := rfl
def itemsA (a : Arg) (e : En) : Option (List D) := match a with
  | .slot j => itemsS e[j]?
  | .val s => seqOf s
@[simp] theorem itemsA_slot {j : Nat} {e : En} : itemsA (.slot j) e = itemsS e[j]? := rfl
@[simp] theorem itemsA_val {s : S} {e : En} : itemsA (.val s) e = seqOf s := rfl
def itK (z : Option (List D)) (e : En) : Option (List D × En) := match z with
  | some xs => some (xs, e)
  | none => none
@[simp] theorem itK_some {xs : List D} {e : En} : itK (some xs) e = some (xs, e) := rfl
def itSeq1 (a : Arg) (e : En) : Option (List D × En) := itK (itemsA a e) e
def itSeq (fa : Fn1 Arg) : Fn1 (List D) := fun e => bnd (fa e) itSeq1
theorem walkD_list {K : PySem.W.Frag} {a : Addr} {vs : List V} {xs : List D} {H0 : Hp} {σ : Sl} {env : En} {W0 : Ow} (r : RE K H0 σ env W0) (h : ∀ H, Gd H0 W0 H → SqL K H a vs) (rs : RDs K H0 xs vs) : WalkD K (Itl K a) xs H0 W0 := by
  refine ⟨_, (by rw [rs.length]; exact walk_list.mono h (fun i H x H' _ _ y => y) : Walk (Itl K a) xs.length (Gd H0 W0) (YAt vs)), fun i H x H' hi g y => ?_⟩
  obtain ⟨e, hx⟩ := y
  subst e
  obtain ⟨d, h1, h2⟩ := rs.getV hx
  exact ⟨Same.refl _, d, h1, RD.pst (Gd.pst r g) h2⟩
theorem walkD_tup {K : PySem.W.Frag} {a : Addr} {vs : List V} {xs : List D} {H0 : Hp} {σ : Sl} {env : En} {W0 : Ow} (r : RE K H0 σ env W0) (h : SqT K H0 a vs) (rs : RDs K H0 xs vs) : WalkD K (Itt K a) xs H0 W0 := by
  refine ⟨_, (by rw [rs.length]; exact walk_tup.mono (fun H g => (Gd.pst r g).seq h) (fun i H x H' _ _ y => y) : Walk (Itt K a) xs.length (Gd H0 W0) (YAt vs)), fun i H x H' hi g y => ?_⟩
  obtain ⟨e, hx⟩ := y
  subst e
  obtain ⟨d, h1, h2⟩ := rs.getV hx
  exact ⟨Same.refl _, d, h1, RD.pst (Gd.pst r g) h2⟩
theorem FzL.gd {K : PySem.W.Frag} {a : Addr} {vs : List V} {H0 H : Hp} {σ : Sl} {env : En} {W0 : Ow} (r : RE K H0 σ env W0) (h : FzL K H0 a vs) (g : Gd H0 W0 H) : SqL K H a vs := by
  rcases h with ⟨o, h⟩ | h
  · exact .inl (.inr ⟨o, g a _ h (r.nomut h fun z => z)⟩)
  · exact .inr h
/-- an argument's items, where they stand -/
theorem items_read {K : PySem.W.Frag} {H1 : Hp} {σ : Sl} {env1 : En} {W1 : Ow} {a : Arg} {v : V} {F : Addr → Prop} {xs : List D} (r1 : RE K H1 σ env1 W1) (ra : RA K H1 σ a v F) (tm : Tm W1 H1 F) (e : itemsA a env1 = some xs) :
    ∃ p vs, v = .ref p ∧ RDs K H1 xs vs ∧ ((∀ H, Gd H1 W1 H → SqL K H p vs) ∨ SqT K H1 p vs) := by
  cases a with
  | slot j =>
    rw [itemsA_slot] at e
    unfold itemsS at e
    split at e
    · rename_i ds hs
      cases e
      obtain ⟨w, h1, h2⟩ := r1.slots j _ hs
      have h' : σ[j]? = some (some v) := ra
      rw [h1] at h'
      cases h'
      obtain ⟨p, vs, e, q1, q2⟩ := rd_tup ⟨_, h2⟩
      exact ⟨p, vs, e, q2, .inr q1⟩
    · rename_i ds hs
      cases e
      obtain ⟨w, h1, h2⟩ := r1.slots j _ hs
      have h' : σ[j]? = some (some v) := ra
      rw [h1] at h'
      cases h'
      obtain ⟨p, vs, e, q1, q2⟩ := rd_lk ⟨_, h2⟩
      exact ⟨p, vs, e, q2, .inl fun H g => q1.gd r1 g⟩
    · cases e
  | val s =>
    have e : seqOf s = some xs := e
    cases s with
    | d x =>
      cases x with
      | tup ds =>
        cases e
        obtain ⟨p, vs, e, q1, q2⟩ := rd_tup ⟨F, ra⟩
        exact ⟨p, vs, e, q2, .inr q1⟩
      | _ => cases e
    | m x =>
      cases x with
      | lst ds =>
        cases e
        obtain ⟨p, vs, e, q1, q2, q3⟩ := ra
        exact ⟨p, vs, e, q3, .inl fun H g => SqL.of (g p _ q2 (tm p q1).1)⟩
      | _ => cases e
    | lk x =>
      cases x with
      | lst ds =>
        cases e
        obtain ⟨p, vs, e, q1, q2⟩ := rd_lk ⟨F, ra⟩
        exact ⟨p, vs, e, q2, .inl fun H g => q1.gd r1 g⟩
      | _ => cases e
theorem qi_seq {X : Cx} {tg l : Expr} {fa : Fn1 Arg} (hl : PX X l fa) : PXI X tg l (itSeq fa) := PI.imp (pi_seq hl) fun σ H R h => by
  obtain ⟨env, W, xs, env', re, e, k⟩ := h
  obtain ⟨a, env1, ea, e⟩ := bnd_eq e
  unfold itSeq1 itK at e
  split at e
  · rename_i xs' hx
    cases e
    refine ⟨env, W, a, _, re, ea, fun v H1 W1 F r1 ra tm t => ?_⟩
    obtain ⟨p, vs, ev, rs, q⟩ := items_read r1 ra tm hx
    have t0 := t.less (G := F0) fun _ z => z.elim
    refine ⟨p, ev, ?_⟩
    rcases q with q | q
    · exact .inl ⟨⟨vs, q H1 fun _ _ e _ => e⟩, k _ H1 W1 r1 t0 (walkD_list r1 q rs)⟩
    · exact .inr ⟨⟨vs, q⟩, k _ H1 W1 r1 t0 (walkD_tup r1 q rs)⟩
  · cases e
/-! ranges -/
def rngL (lo : Int) (n : Nat) : List D := (List.range n).map fun (k : Nat) => D.int (lo + (k : Int))
def smallI (i : Int) : Bool := decide (-(2 ^ 62) ≤ i ∧ i < 2 ^ 62)
def rngK : Option (List S) → Option (List D)
  | some [.d (.int j)] => if smallI j = true then some (rngL 0 j.toNat) else none
  | some [.d (.int i), .d (.int j)] => if smallI i = true ∧ smallI j = true then some (rngL i (j - i).toNat) else none
  | _ => none
@[simp] theorem rngK_1 {j : Int} : rngK (some [.d (.int j)]) = if smallI j = true then some (rngL 0 j.toNat) else none := rfl
@[simp] theorem rngK_2 {i j : Int} : rngK (some [.d (.int i), .d (.int j)]) = if smallI i = true ∧ smallI j = true then some (rngL i (j - i).toNat) else none := rfl
def itRng1 (as : List Arg) (e : En) : Option (List D × En) := itK (rngK (gets as e)) e
def itRng (fs : Fn1 (List Arg)) : Fn1 (List D) := fun e => bnd (fs e) itRng1
theorem rngL_at {lo : Int} {n i : Nat} (h : i < n) : (rngL lo n)[i]? = some (D.int (lo + (i : Int))) := by
  unfold rngL
  rw [List.getElem?_map, List.getElem?_range h]
  rfl
theorem rngL_length {lo : Int} {n : Nat} : (rngL lo n).length = n := by unfold rngL; simp
theorem walkD_rng {K : PySem.W.Frag} {lo : Int} {n : Nat} {H0 : Hp} {W0 : Ow} : WalkD K (Itr lo n) (rngL lo n) H0 W0 := by
  refine ⟨_, (by rw [rngL_length]; exact walk_range.mono (fun _ _ => trivial) (fun i H x H' _ _ y => y) : Walk (Itr lo n) (rngL lo n).length (Gd H0 W0) (YFn fun i => .int (lo + i))), fun i H x H' hi g y => ?_⟩
  obtain ⟨e, hx⟩ := y
  subst e hx
  rw [rngL_length] at hi
  exact ⟨Same.refl _, _, rngL_at hi, .int _⟩
section
variable {X : Cx} {tg a b : Expr} {fa fb : Fn1 Arg} {p pos : Pos}
theorem qi_rng1 (hg : Gl X "range") (hm : X.mg "range" = none) (ha : PXA X [a] (fCons fa fNil)) (hs : starEach [a] X.env = [(false, eval a X.env)] := by rfl) : PXI X tg (.Call (.Name "range" p) [a] [] pos) (itRng (fCons fa fNil)) := PI.imp (pi_range1 hg hm ha hs) fun σ H R h => by
  obtain ⟨env, W, xs, env', re, e, k⟩ := h
  obtain ⟨as, env1, ea, e⟩ := bnd_eq e
  unfold itRng1 itK at e
  split at e
  · rename_i xs' hx
    cases e
    refine ⟨env, W, as, _, re, ea, fun vs H1 W1 Fs r1 ras t => ?_⟩
    obtain ⟨a, e1, ea1, ea⟩ := bnd_eq ea
    obtain ⟨as', e2, ea2, ea⟩ := bnd_eq ea
    cases ea2
    cases ea
    cases ras with
    | cons ra tm d ras =>
      cases ras
      cases hg : (Arg.get a env') with
      | none => rw [gets_cons', hg] at hx; cases hx
      | some s =>
        rw [gets_cons', hg, gets_nil, cons?_some] at hx
        unfold rngK at hx
        split at hx
        · rename_i j heq
          cases heq
          split at hx
          · rename_i hsm
            cases hx
            have hsm : -(2 ^ 62) ≤ j ∧ j < 2 ^ 62 := of_decide_eq_true hsm
            refine ⟨j, by rw [rd_int (ra.read r1 hg)], hsm.1, hsm.2, ?_⟩
            exact k _ H1 W1 r1 (t.less fun _ z => z.elim) walkD_rng
          · cases hx
        · rename_i heq
          cases heq
        · cases hx
  · cases e
theorem qi_rng2 (hg : Gl X "range") (hm : X.mg "range" = none) (ha : PXA X [a, b] (fCons fa (fCons fb fNil))) (hs : starEach [a, b] X.env = [(false, eval a X.env), (false, eval b X.env)] := by rfl) (hs2 : starEach [b] X.env = [(false, eval b X.env)] := by rfl) :
    PXI X tg (.Call (.Name "range" p) [a, b] [] pos) (itRng (fCons fa (fCons fb fNil))) := PI.imp (pi_range2 hg hm ha hs hs2) fun σ H R h => by
  obtain ⟨env, W, xs, env', re, e, k⟩ := h
  obtain ⟨as, env1, ea, e⟩ := bnd_eq e
  unfold itRng1 itK at e
  split at e
  · rename_i xs' hx
    cases e
    refine ⟨env, W, as, _, re, ea, fun vs H1 W1 Fs r1 ras t => ?_⟩
    obtain ⟨a, e1, ea1, ea⟩ := bnd_eq ea
    obtain ⟨as', e2, ea2, ea⟩ := bnd_eq ea
    obtain ⟨b, e3, eb1, eb⟩ := bnd_eq ea2
    obtain ⟨bs', e4, eb2, eb⟩ := bnd_eq eb
    cases eb2
    cases eb
    cases ea
    cases ras with
    | cons ra tm d ras =>
      cases ras with
      | cons rb tmb db ras =>
        cases ras
        cases hg : (Arg.get a env') with
        | none => rw [gets_cons', hg] at hx; cases hx
        | some s =>
          cases hg2 : (Arg.get b env') with
          | none => rw [gets_cons', gets_cons', hg2, hg] at hx; cases hx
          | some s2 =>
            rw [gets_cons', gets_cons', hg, hg2, gets_nil, cons?_some, cons?_some] at hx
            unfold rngK at hx
            split at hx
            · rename_i heq
              cases heq
            · rename_i i j heq
              cases heq
              split at hx
              · rename_i hsm
                cases hx
                have h1 : -(2 ^ 62) ≤ i ∧ i < 2 ^ 62 := of_decide_eq_true hsm.1
                have h2 : -(2 ^ 62) ≤ j ∧ j < 2 ^ 62 := of_decide_eq_true hsm.2
                refine ⟨i, j, by rw [rd_int (ra.read r1 hg), rd_int (rb.read r1 hg2)], ⟨h1.1, h1.2, h2.1, h2.2⟩, ?_⟩
                exact k _ H1 W1 r1 (t.less fun _ z => z.elim) walkD_rng
              · cases hx
            · cases hx
  · cases e
end

/-! ### for -/
def forK (g : En → Option Res) (f : FS) : Option En → Option Res
  | some e => whileK g (f e)
  | none => none
@[simp] theorem forK_some {g : En → Option Res} {f : FS} {e : En} : forK g f (some e) = whileK g (f e) := rfl
def forL (b : D → En → Option En) (f : FS) : List D → En → Option Res
  | [], e => some (.nx e)
  | x :: xs, e => forK (forL b f xs) f (b x e)
@[simp] theorem forL_nil {b : D → En → Option En} {f : FS} {e : En} : forL b f [] e = some (.nx e) := rfl
theorem forL_cons {b : D → En → Option En} {f : FS} {x : D} {xs : List D} {e : En} : forL b f (x :: xs) e = forK (forL b f xs) f (b x e) := rfl
def sFor (it : Fn1 (List D)) (b : D → En → Option En) (f : FS) : FS := fun e => bndS (it e) (forL b f)
theorem qs_for {X : Cx} {tg iter : Expr} {body : List Stmt} {pos : Pos} {it : Fn1 (List D)} {A B : List Nat} {b : D → En → Option En} {f : FS} (hp : PassesOwn (model X.prog X.w) X.A X.env X.xe) (hc : X.calm = true) (hi : PXI X tg iter it) (hg : PXG X tg A b) (hb : PXSs X body B f)
    (hs : ∀ x, foldedSetIterable iter X.env x = pure x := by intro _; rfl) : PXS X (.For tg iter body [] pos) (A ++ B) (sFor it b f) := PS.imp (ps_for hp hc hi hg hb hs) fun D σ H h => by
  obtain ⟨env, W, r, re, e, p⟩ := h
  obtain ⟨xs, env1, ex, e⟩ := bndS_eq e
  have inA : ∀ j ∈ A, j ∈ A ++ B := fun j z => List.mem_append_left _ z
  have inB : ∀ j ∈ B, j ∈ A ++ B := fun j z => List.mem_append_right _ z
  have inAB : ∀ j ∈ A ++ B, j ∈ A ++ B := fun j z => z
  refine ⟨env, W, xs, env1, re, ex, fun J H1 W1 r1 t1 ⟨Y, wk, hY⟩ => ?_⟩
  refine for_it wk (fun i σ2 H2 => ∃ env2 W2, RE X.K H2 σ2 env2 W2 ∧ Tr W H W2 H2 F0 ∧ Tr W1 H1 W2 H2 F0 ∧ Eqs (A ++ B) σ σ2 ∧ forL b f (xs.drop i) env2 = some r) ⟨env1, W1, r1, t1, Tr.refl, Eqs.refl, e⟩ (fun i σ2 H2 hi ⟨env2, W2, r2, _, t2, _⟩ => Gd.of t2) ?_ ?_
  · rintro i x σ2 H2 H3 hi ⟨env2, W2, r2, t2, t12, q2, e2⟩ y
    obtain ⟨sm, d, hd, rd⟩ := hY i H2 x H3 hi (Gd.of t12) y
    have ed : xs.drop i = d :: xs.drop (i + 1) := by
      obtain ⟨h1, h2⟩ := List.getElem?_eq_some_iff.mp hd
      rw [List.drop_eq_getElem_cons h1, h2]
    rw [ed, forL_cons] at e2
    cases q : b d env2 with
    | none => rw [q] at e2; cases e2
    | some e3 =>
      rw [q, forK_some] at e2
      have t23 : Tr W2 H2 W2 H3 F0 := Tr.same sm fun _ z => z.elim
      refine ⟨d, env2, W2, e3, r2.same sm, rd, q, fun σ3 r3 q3 => ?_⟩
      cases qf : f e3 with
      | none => rw [qf] at e2; cases e2
      | some rr =>
        rw [qf] at e2
        refine ⟨e3, W2, rr, r3, qf, ?_⟩
        have q23 := q2.trans q3 inAB inA
        cases rr with
        | nx e4 => exact fun σ' H' W' r' t' q' => ⟨e4, W', r', (t2.trans0 t23).trans0 t', (t12.trans0 t23).trans0 t', q23.trans q' inAB inB, e2⟩
        | ct e4 => exact fun σ' H' W' r' t' q' => ⟨e4, W', r', (t2.trans0 t23).trans0 t', (t12.trans0 t23).trans0 t', q23.trans q' inAB inB, e2⟩
        | bk e4 =>
          cases e2
          exact fun σ' H' W' r' t' q' => p σ' H' W' r' ((t2.trans0 t23).trans0 t') (q23.trans q' inAB inB)
        | rt s e4 =>
          cases e2
          exact fun v σ' H' W' F r' rs tm t' q' => p v σ' H' W' F r' rs tm ((t2.trans0 t23).trans0 t') (q23.trans q' inAB inB)
  · rintro σ2 H2 ⟨env2, W2, r2, t2, t12, q2, e2⟩
    rw [List.drop_length, forL_nil] at e2
    cases e2
    exact p σ2 H2 W2 r2 t2 q2
end QL
end

section
set_option Elab.async false
set_option linter.all false
set_option maxRecDepth 100000
namespace QL
open PySem PySem.Spec PyProof.Rows L2

/-! ### list comprehensions -/
def wipeE (e : En) : List Nat → En
  | [] => e
  | v :: vs => (wipeE e vs).set v none
@[simp] theorem wipeE_nil {e : En} : wipeE e [] = e := rfl
@[simp] theorem wipeE_cons {e : En} {v : Nat} {vs : List Nat} : wipeE e (v :: vs) = (wipeE e vs).set v none := rfl
/-- e0's own slots back in e -/
def unw (e0 e : En) : List Nat → En
  | [] => e
  | v :: vs => (unw e0 e vs).set v (e0[v]?).join
@[simp] theorem unw_nil {e0 e : En} : unw e0 e [] = e := rfl
@[simp] theorem unw_cons {e0 e : En} {v : Nat} {vs : List Nat} : unw e0 e (v :: vs) = (unw e0 e vs).set v (e0[v]?).join := rfl
def okS : Option S → Bool
  | some (.m _) => false
  | some (.lk _) => false
  | _ => true
@[simp] theorem okS_none : okS none = true := rfl
@[simp] theorem okS_d {x : D} : okS (some (.d x)) = true := rfl
def okOwn (e : En) (vs : List Nat) : Bool := vs.all fun v => okS (e[v]?).join
@[simp] theorem okOwn_nil {e : En} : okOwn e [] = true := rfl
@[simp] theorem okOwn_cons {e : En} {v : Nat} {vs : List Nat} : okOwn e (v :: vs) = (okS (e[v]?).join && okOwn e vs) := rfl
theorem unw_at {e0 e : En} : ∀ {vs : List Nat} {j : Nat} {s : S}, (unw e0 e vs)[j]? = some (some s) → (j ∈ vs ∧ e0[j]? = some (some s)) ∨ (j ∉ vs ∧ e[j]? = some (some s))
  | [], j, s, h => .inr ⟨by simp, h⟩
  | v :: vs, j, s, h => by
    rw [unw_cons] at h
    by_cases hv : v = j
    · subst hv
      rw [List.getElem?_set, if_pos rfl] at h
      split at h
      · have h : (e0[v]?).join = some s := Option.some.inj h
        exact Or.inl ⟨List.mem_cons_self, join_some h⟩
      · cases h
    · rw [List.getElem?_set_ne hv] at h
      rcases unw_at h with ⟨h1, h2⟩ | ⟨h1, h2⟩
      · exact .inl ⟨List.mem_cons_of_mem _ h1, h2⟩
      · exact .inr ⟨fun z => (List.mem_cons.mp z).elim (fun q => hv q.symm) h1, h2⟩
theorem unw_length {e0 e : En} : ∀ {vs : List Nat}, (unw e0 e vs).length = e.length
  | [] => rfl
  | v :: vs => by rw [unw_cons, List.length_set, unw_length]
theorem wipeE_at {e : En} : ∀ {vs : List Nat} {j : Nat} {s : S}, (wipeE e vs)[j]? = some (some s) → j ∉ vs ∧ e[j]? = some (some s)
  | [], j, s, h => ⟨by simp, h⟩
  | v :: vs, j, s, h => by
    rw [wipeE_cons] at h
    by_cases hv : v = j
    · subst hv
      rw [List.getElem?_set, if_pos rfl] at h
      split at h <;> cases h
    · rw [List.getElem?_set_ne hv] at h
      obtain ⟨h1, h2⟩ := wipeE_at h
      exact ⟨fun z => (List.mem_cons.mp z).elim (fun q => hv q.symm) h1, h2⟩
theorem wipeE_length {e : En} : ∀ {vs : List Nat}, (wipeE e vs).length = e.length
  | [] => rfl
  | v :: vs => by rw [wipeE_cons, List.length_set, wipeE_length]
theorem wipe_ne {σ : Sl} : ∀ {vs : List Nat} {j : Nat}, j ∉ vs → (wipe σ vs)[j]? = σ[j]?
  | [], j, _ => rfl
  | v :: vs, j, h => by
    have h' : v ≠ j ∧ j ∉ vs := ⟨fun z => h (by rw [z]; exact List.mem_cons_self), fun z => h (List.mem_cons_of_mem _ z)⟩
    unfold wipe
    rw [List.getElem?_set_ne h'.1, wipe_ne h'.2]
theorem wipe_in {σ : Sl} : ∀ {vs : List Nat} {j : Nat}, j ∈ vs → (wipe σ vs)[j]? = if j < σ.length then some none else none
  | v :: vs, j, h => by
    unfold wipe
    by_cases hv : v = j
    · subst hv
      rw [List.getElem?_set, if_pos rfl, wipe_length]
    · rw [List.getElem?_set_ne hv]
      exact wipe_in ((List.mem_cons.mp h).resolve_left fun z => hv z.symm)
theorem wipe_same {σ σ2 : Sl} {vs A : List Nat} (q : Eqs A (wipe σ vs) σ2) (h : ∀ j ∈ A, j ∈ vs) : wipe σ2 vs = wipe σ vs := by
  have hl : σ2.length = σ.length := q.1.trans (wipe_length σ vs)
  refine List.ext_getElem? fun j => ?_
  by_cases hj : j ∈ vs
  · rw [wipe_in hj, wipe_in hj, hl]
  · rw [wipe_ne hj, q.2 j fun z => hj (h j z)]
theorem RE.wiped {K : PySem.W.Frag} {H : Hp} {σ : Sl} {env : En} {W : Ow} {vs : List Nat} (r : RE K H σ env W) : RE K H (wipe σ vs) (wipeE env vs) W :=
  ⟨fun i s e => by
    obtain ⟨h1, h2⟩ := wipeE_at e
    obtain ⟨v, q1, q2⟩ := r.slots i s h2
    exact ⟨v, by rw [wipe_ne h1]; exact q1, q2⟩, r.apart, r.mu, by rw [wipeE_length, wipe_length]; exact r.len⟩
theorem RE.unwiped {K : PySem.W.Frag} {H0 H : Hp} {σ σ2 : Sl} {env e3 : En} {W0 W : Ow} {vs A : List Nat} (r0 : RE K H0 σ env W0) (r : RE K H σ2 e3 W) (p : Pst H0 H) (q : Eqs A (wipe σ vs) σ2) (h : ∀ j ∈ A, j ∈ vs) (ok : okOwn env vs = true) : RE K H σ (unw env e3 vs) W :=
  ⟨fun i s e => by
    rcases unw_at e with ⟨h1, h2⟩ | ⟨h1, h2⟩
    · obtain ⟨v, q1, q2⟩ := r0.slots i s h2
      have o := List.all_eq_true.mp ok i h1
      rw [h2] at o
      cases s with
      | d x => exact ⟨v, q1, RD.pst p q2⟩
      | m x => cases o
      | lk x => cases o
    · obtain ⟨v, q1, q2⟩ := r.slots i s h2
      rw [q.2 i fun z => h1 (h i z), wipe_ne h1] at q1
      exact ⟨v, q1, q2⟩, r.apart, r.mu, by rw [unw_length, r.len, q.1, wipe_length]⟩
def lcV (g : List D → En → Option (Arg × En)) (acc : List D) (z : Option S) (e : En) : Option (Arg × En) := match z with
  | some (.d y) => g (acc ++ [y]) e
  | _ => none
@[simp] theorem lcV_d {g : List D → En → Option (Arg × En)} {acc : List D} {y : D} {e : En} : lcV g acc (some (.d y)) e = g (acc ++ [y]) e := rfl
def lcE (g : List D → En → Option (Arg × En)) (own : List Nat) (acc : List D) (e0 : En) (a : Arg) (e3 : En) : Option (Arg × En) := lcV g acc (a.get e3) (unw e0 e3 own)
def lcT (g : List D → En → Option (Arg × En)) (own : List Nat) (elt : Fn1 Arg) (acc : List D) (e0 : En) (c : Bool) (e2 : En) : Option (Arg × En) := if c = true then bnd (elt e2) (lcE g own acc e0) else g acc (unw e0 e2 own)
def lcB (g : List D → En → Option (Arg × En)) (own : List Nat) (tt : Fn1 Bool) (elt : Fn1 Arg) (acc : List D) (e0 : En) (z : Option En) : Option (Arg × En) := match z with
  | some e1 => bnd (tt e1) (lcT g own elt acc e0)
  | none => none
@[simp] theorem lcB_some {g : List D → En → Option (Arg × En)} {own : List Nat} {tt : Fn1 Bool} {elt : Fn1 Arg} {acc : List D} {e0 e1 : En} : lcB g own tt elt acc e0 (some e1) = bnd (tt e1) (lcT g own elt acc e0) := rfl
def lcL (own : List Nat) (b : D → En → Option En) (tt : Fn1 Bool) (elt : Fn1 Arg) : List D → List D → En → Option (Arg × En)
  | [], acc, e => some (.val (.m (.lst acc)), e)
  | x :: xs, acc, e => lcB (lcL own b tt elt xs) own tt elt acc e (b x (wipeE e own))
@[simp] theorem lcL_nil {own : List Nat} {b : D → En → Option En} {tt : Fn1 Bool} {elt : Fn1 Arg} {acc : List D} {e : En} : lcL own b tt elt [] acc e = some (.val (.m (.lst acc)), e) := rfl
theorem lcL_cons {own : List Nat} {b : D → En → Option En} {tt : Fn1 Bool} {elt : Fn1 Arg} {x : D} {xs acc : List D} {e : En} : lcL own b tt elt (x :: xs) acc e = lcB (lcL own b tt elt xs) own tt elt acc e (b x (wipeE e own)) := rfl
def fLc1 (own : List Nat) (b : D → En → Option En) (tt : Fn1 Bool) (elt : Fn1 Arg) (xs : List D) (e : En) : Option (Arg × En) := if xs.length ≤ sizeLine ∧ okOwn e own = true then lcL own b tt elt xs [] e else none
def fLc (own : List Nat) (it : Fn1 (List D)) (b : D → En → Option En) (tt : Fn1 Bool) (elt : Fn1 Arg) : Fn1 Arg := fun e => bnd (it e) (fLc1 own b tt elt)
def fYes : Fn1 Bool := fun e => some (true, e)
/-- a list that no slot owns is written -/
theorem RE.updF {K : PySem.W.Frag} {H : Hp} {σ : Sl} {env : En} {W : Ow} {p : Addr} {vs ws : List V} (r : RE K H σ env W) (h : H p = some (.lst vs)) (n : ¬ Own W p) : RE K (upd H p (.lst ws)) σ env W := by
  have sm : ∀ b o, H b = some o → b ≠ p → (upd H p (.lst ws)) b = some o := fun b o e hb => by rw [upd_ne hb]; exact e
  have t : Tr (fun (_ : Nat) b => b = p) H (fun (_ : Nat) b => b = p) (upd H p (.lst ws)) F0 :=
    ⟨fun b o e hn => sm b o e fun z => hn ⟨0, z⟩, fun b e => by
      by_cases hb : b = p
      · subst hb; rw [upd_same]; simp
      · rw [upd_ne hb]; exact e, fun b _ hn => ⟨hn, fun z => z⟩⟩
  refine ⟨fun i s e => ?_, r.apart, fun i b z => ?_, r.len⟩
  · obtain ⟨v, q1, q2⟩ := r.slots i s e
    exact ⟨v, q1, RS.keep (fun _ b z => by subst z; rw [h]; trivial) t q2 fun b z ⟨_, y⟩ => n (by rw [← y]; exact ⟨i, z⟩)⟩
  · have hb : b ≠ p := fun e => n (by rw [← e]; exact ⟨i, z⟩)
    rw [upd_ne hb]
    exact r.mu i b z
section
variable {X : Cx}
/-- the turns of a comprehension -/
theorem lc_read {K : PySem.W.Frag} {own : List Nat} {A : List Nat} {it : Fn1 (List D)} {b : D → En → Option En} {tt : Fn1 Bool} {elt : Fn1 Arg} {σ : Sl} {H : Hp} {Q : VK} (hA : ∀ j ∈ A, j ∈ own) (h : tE K (fLc own it b tt elt) σ H Q) :
    tLc (tIt K it) (tP K A b) (tT K tt) (tE K elt) own σ H Q := by
  obtain ⟨env, W, z, envF, re, e, k⟩ := h
  obtain ⟨xs, env1, ex, e⟩ := bnd_eq e
  unfold fLc1 at e
  split at e
  · rename_i hz
    obtain ⟨hz, hok⟩ := hz
    refine ⟨env, W, xs, env1, re, ex, fun J H1 W1 r1 t1 ⟨Y, wk, hY⟩ Dl nD => ?_⟩
    have sm0 : Same H1 (upd H1 Dl (.lst [])) := same_new nD
    refine lc_it wk (fun i H2 => ∃ env2 W2 acc vs, RE K H2 σ env2 W2 ∧ Tr W1 H1 W2 H2 (fun b => b = Dl) ∧ H2 Dl = some (.lst vs) ∧ RDs K H2 acc vs ∧ ¬ Own W2 Dl ∧ acc.length ≤ i ∧ okOwn env2 own = true ∧ lcL own b tt elt (xs.drop i) acc env2 = some (z, envF)) ?_ ?_ ?_ ?_
    · exact ⟨env1, W1, [], [], r1.same sm0, Tr.same sm0 fun b z => by rw [z]; exact nD, upd_same, .nil, r1.fresh nD, Nat.zero_le _, hok, e⟩
    · rintro i H2 hi ⟨env2, W2, acc, vs, r2, t2, _⟩
      exact Gd.of t2
    · rintro i x H2 H3 hi ⟨env2, W2, acc, vs, r2, t2, hD, rv, nW, hl, ok2, e2⟩ y
      obtain ⟨sm, d, hd, rd⟩ := hY i H2 x H3 hi (Gd.of t2) y
      have ed : xs.drop i = d :: xs.drop (i + 1) := by
        obtain ⟨h1, h2⟩ := List.getElem?_eq_some_iff.mp hd
        rw [List.drop_eq_getElem_cons h1, h2]
      rw [ed, lcL_cons] at e2
      cases q : b d (wipeE env2 own) with
      | none => rw [q] at e2; cases e2
      | some e3 =>
        rw [q, lcB_some] at e2
        have r3 := r2.same sm
        refine ⟨d, wipeE env2 own, W2, e3, r3.wiped, rd, q, fun σ3 r4 q4 => ⟨wipe_same q4 hA, ?_⟩⟩
        obtain ⟨c, e4, ec, e2⟩ := bnd_eq e2
        refine ⟨e3, W2, c, e4, r4, ec, fun H5 W5 r5 t5 => ?_⟩
        have hD3 : H3 Dl = some (.lst vs) := sm _ _ hD
        have hD5 : H5 Dl = some (.lst vs) := t5.frame _ _ hD3 nW
        have nW5 : ¬ Own W5 Dl := (t5.out Dl (by rw [hD3]; simp) nW).1
        have t25 : Tr W2 H2 W5 H5 F0 := (Tr.same (F := F0) sm fun _ z => z.elim).trans0 t5
        have p25 : Pst H2 H5 := r2.pst t25
        have okU : ∀ {e3 : En}, okOwn (unw env2 e3 own) own = true := by
          intro e3
          refine List.all_eq_true.mpr fun v hv => ?_
          cases q : (unw env2 e3 own)[v]? with
          | none => rfl
          | some o =>
            cases o with
            | none => rfl
            | some s =>
              rcases unw_at q with ⟨_, h2⟩ | ⟨h1, _⟩
              · have o := List.all_eq_true.mp ok2 v hv
                rw [h2] at o
                exact o
              · exact absurd hv h1
        unfold lcT at e2
        split at e2
        · rename_i hc
          subst hc
          refine iteT ?_
          obtain ⟨a, e5, ea, e2⟩ := bnd_eq e2
          refine ⟨e4, W5, a, e5, r5, ea, fun v H6 W6 F r6 ra tm t6 => ?_⟩
          unfold lcE lcV at e2
          split at e2
          · rename_i y hy
            obtain ⟨P, ry⟩ := ra.read r6 hy
            have hD6 : H6 Dl = some (.lst vs) := t6.frame _ _ hD5 nW5
            have nW6 : ¬ Own W6 Dl := (t6.out Dl (by rw [hD5]; simp) nW5).1
            have t26 : Tr W2 H2 W6 H6 F0 := (t25.trans0 t6).less fun _ z => z.elim
            have r7 : RE K H6 σ (unw env2 e5 own) W6 := r2.unwiped r6 (r2.pst t26) q4 hA ok2
            have pU : Pst H6 (upd H6 Dl (.lst (vs ++ [v]))) := fun a xs h => by
              have na : a ≠ Dl := fun z => by
                subst z
                rcases h with h | ⟨o, h⟩ <;> (rw [hD6] at h; cases h)
              unfold Rd
              rw [upd_ne na]
              exact h
            refine ⟨vs, hD6, ?_, ?_⟩
            · rw [← rv.length]
              omega
            · refine ⟨_, W6, acc ++ [y], vs ++ [v], r7.updF hD6 nW6, ?_, upd_same, RDs.append (RDs.pst pU (RDs.pst (r2.pst t26) rv)) (.cons (RD.pst pU ry) .nil), nW6, by rw [List.length_append]; exact Nat.succ_le_succ hl, okU, e2⟩
              have t06 := (t2.trans t26).less (G := fun b => b = Dl) fun b z => .inl z
              refine ⟨fun b o e n => ?_, fun b e => ?_, t06.out⟩
              · have nb : b ≠ Dl := fun z => by rw [z, nD] at e; cases e
                rw [upd_ne nb]
                exact t06.frame b o e n
              · by_cases hb : b = Dl
                · subst hb; rw [upd_same]; simp
                · rw [upd_ne hb]; exact t06.dom b e
          · cases e2
        · rename_i hc
          have hc : c = false := by cases c; rfl; exact absurd rfl hc
          subst hc
          refine iteF ?_
          exact ⟨_, W5, acc, vs, r2.unwiped r5 p25 q4 hA ok2, (t2.trans t25).less fun b z => .inl z, hD5, RDs.pst p25 rv, nW5, Nat.le_succ_of_le hl, okU, e2⟩
    · rintro H2 ⟨env2, W2, acc, vs, r2, t2, hD, rv, nW, hl, ok2, e2⟩
      rw [List.drop_length, lcL_nil] at e2
      cases e2
      refine k (.ref Dl) H2 W2 (fun b => b = Dl) r2 ⟨Dl, vs, rfl, rfl, hD, rv⟩ (fun b z => by subst z; exact ⟨nW, by rw [hD]; trivial⟩) (t1.trans0 t2)
  · cases e
theorem PTs.imp {ifs : List Expr} {t t' : TT} (h : PTs X ifs t) (i : ∀ σ H Q, t' σ H Q → t σ H Q) : PTs X ifs t' := ⟨fun pins s σ H Q I q => h.run pins s σ H Q I (i σ H Q q)⟩
theorem qts_nil : PTs X [] (tT X.K fYes) := PTs.imp pts_nil fun σ H Q h => by
  obtain ⟨env, W, b, env', re, e, k⟩ := h
  cases e
  exact k H W re Tr.refl
theorem qts_one {c : Expr} {t : Fn1 Bool} (h : PXT X c t) : PTs X [c] (tT X.K t) := pts_one h
theorem qx_lc {elt tg iter : Expr} {ifs : List Expr} {scope : Scope} {own : List (Str × Nat)} {pos : Pos} {it : Fn1 (List D)} {A : List Nat} {b : D → En → Option En} {tt : Fn1 Bool} {fe : Fn1 Arg} (hA : ∀ j ∈ A, j ∈ own.map (·.2)) (hc : X.calm = true) (hN : X.N.Nodup) (hi : PXI X tg iter it) (ok : BlkOk X.N X.env.scope scope own)
    (hg : ∀ (s : Shared) (H : Hp) (C : Addr) (cl : List (Str × Addr)) (fp : List Addr), PXG (X.blk s H scope (compEnvC scope cl C X.env) fp) tg A b) (ht : ∀ (s : Shared) (H : Hp) (C : Addr) (cl : List (Str × Addr)) (fp : List Addr), PTs (X.blk s H scope (compEnvC scope cl C X.env) fp) ifs (tT X.K tt))
    (he : ∀ (s : Shared) (H : Hp) (C : Addr) (cl : List (Str × Addr)) (fp : List Addr), PX (X.blk s H scope (compEnvC scope cl C X.env) fp) elt fe) (hs : ∀ x, foldedSetIterable iter X.env x = pure x := by intro _; rfl) :
    PX X (.ListComp elt [⟨tg, iter, ifs, 0⟩] scope pos) (fLc (own.map (·.2)) it b tt fe) := PE.imp (pe_lc hc hN hi ok hg ht he hs) fun σ H Q h => lc_read hA h
theorem qs_setLc {i : Nat} {y : Str} {py : Pos} {elt tg iter : Expr} {ifs : List Expr} {scope : Scope} {own : List (Str × Nat)} {pos spos : Pos} {it : Fn1 (List D)} {A : List Nat} {b : D → En → Option En} {tt : Fn1 Bool} {fe : Fn1 Arg} (hA : ∀ j ∈ A, j ∈ own.map (·.2)) (hc : X.calm = true) (hN : X.N.Nodup) (hy : X.N[i]? = some y) (hyl : X.env.scope.names.lookup y = some .local)
    (hsw : swapsWith (.ListComp elt [⟨tg, iter, ifs, 0⟩] scope pos) (some (.Name y py)) spos.line X.env = pure true) (hi : PXI X tg iter it) (ok : BlkOk X.N X.env.scope scope own)
    (hg : ∀ (s : Shared) (H : Hp) (C : Addr) (cl : List (Str × Addr)) (fp : List Addr), PXG (X.blk s H scope (compEnvC scope cl C X.env) fp) tg A b) (ht : ∀ (s : Shared) (H : Hp) (C : Addr) (cl : List (Str × Addr)) (fp : List Addr), PTs (X.blk s H scope (compEnvC scope cl C X.env) fp) ifs (tT X.K tt))
    (he : ∀ (s : Shared) (H : Hp) (C : Addr) (cl : List (Str × Addr)) (fp : List Addr), PX (X.blk s H scope (compEnvC scope cl C X.env) fp) elt fe) (hs : ∀ x, foldedSetIterable iter X.env x = pure x := by intro _; rfl) :
    PXS X (.Assign [.Name y py] (.ListComp elt [⟨tg, iter, ifs, 0⟩] scope pos) spos) [i] (sSet i (fLc (own.map (·.2)) it b tt fe)) := PS.imp (ps_setLc hc hN hy hyl hsw hi ok hg ht he hs) fun D σ H h => by
  obtain ⟨env, W, r, re, e, p⟩ := h
  obtain ⟨a, env1, ea, e⟩ := bndS_eq e
  exact lc_read hA ⟨env, W, a, env1, re, ea, fun v H1 W1 F r1 ra tm t => valK_ok e r1 ra tm t p⟩
end
end QL
end

section
set_option Elab.async false
set_option linter.all false
set_option maxRecDepth 100000
set_option maxHeartbeats 4000000
namespace QL
open PySem PySem.Spec PyProof.Rows L2

/-! ### subscripts -/
def getI {α : Type} (xs : List α) (i : Int) : Option α := if 0 ≤ i then xs[i.toNat]? else if -(xs.length : Int) ≤ i then xs[(i + xs.length).toNat]? else none
theorem getI_at {α : Type} {xs : List α} {i : Int} {x : α} (h : getI xs i = some x) : ∃ j, L2.ixN xs.length i = some j ∧ xs[j]? = some x := by
  unfold getI at h
  unfold L2.ixN
  split at h
  · rename_i h0
    have hlt := (List.getElem?_eq_some_iff.mp h).1
    rw [if_pos h0, if_pos (by omega)]
    exact ⟨_, rfl, h⟩
  · rename_i h0
    split at h
    · rename_i h1
      rw [if_neg h0, if_pos h1]
      exact ⟨_, rfl, h⟩
    · cases h
def oIx (x y : S) : Option S := match y with
  | .d (.int i) => match x with
    | .d (.str z) => if z.length ≤ sizeLine then (getI z.cps.toList i).map fun c => .d (.str ⟨#[c]⟩) else none
    | x => match seqOf x with
      | some ds => (getI ds i).map .d
      | none => none
  | _ => none
@[simp] theorem oIx_tup {ds : List D} {i : Int} : oIx (.d (.tup ds)) (.d (.int i)) = (getI ds i).map .d := rfl
@[simp] theorem oIx_lst {ds : List D} {i : Int} : oIx (.m (.lst ds)) (.d (.int i)) = (getI ds i).map .d := rfl
@[simp] theorem oIx_lk {ds : List D} {i : Int} : oIx (.lk (.lst ds)) (.d (.int i)) = (getI ds i).map .d := rfl
theorem op2_ix {K : PySem.W.Frag} : Op2 K (rIx K) oIx := by
  intro H x y sx sy s Q e hx hy f
  unfold oIx at e
  split at e
  · rename_i i
    split at e
    · rename_i z
      split at e
      · rename_i hz
        cases q : getI z.cps.toList i with
        | none => rw [q] at e; cases e
        | some c =>
          rw [q] at e
          cases e
          obtain ⟨j, h1, h2⟩ := getI_at q
          refine .inr (.inr ⟨z, i, c, rd_str hx, rd_int hy, hz, ?_, f.str⟩)
          unfold L2.atI
          rw [h1]
          exact h2
      · cases e
    · split at e
      · rename_i ds hs
        cases q : getI ds i with
        | none => rw [q] at e; cases e
        | some c =>
          rw [q] at e
          cases e
          obtain ⟨j, h1, h2⟩ := getI_at q
          obtain ⟨a, vs, ev, rs, sq⟩ := rd_seq hs hx
          obtain ⟨v, hv, rd⟩ := rs.get h2
          have at' : L2.atI vs i = some v := by
            unfold L2.atI
            rw [← rs.length, h1]
            exact hv
          rcases sq with sq | sq
          · exact .inl ⟨a, vs, i, v, ev, rd_int hy, sq, at', f.imm rd⟩
          · exact .inr (.inl ⟨a, vs, i, v, ev, rd_int hy, sq, at', f.imm rd⟩)
      · cases e
  · cases e
section
variable {X : Cx} {a b : Expr} {fa fb : Fn1 Arg} {pos : Pos}
theorem qx_ix (ha : PX X a fa) (hb : PX X b fb) (hs : PlainIx b := by intro _ _; rfl) : PX X (.Subscript a b pos) (fBin oIx fa fb) := PE.imp (pe_ix ix_seq ha hb hs) fun σ H Q h => bin_read op2_ix h

/-! ### slices -/
def tO (K : PySem.W.Frag) (f : Fn1 (Option Int)) : TO := fun σ H Q => ∃ env W o env', RE K H σ env W ∧ f env = some (o, env') ∧ ∀ H' W', RE K H' σ env' W' → Tr W H W' H' F0 → Q o H'
abbrev PXO (X : Cx) (e : Option Expr) (f : Fn1 (Option Int)) : Prop := PO X e (tO X.K f)
theorem PO.imp {e : Option Expr} {t t' : TO} (h : PO X e t) (i : ∀ σ H Q, t' σ H Q → t σ H Q) : PO X e t' := ⟨fun pins s σ H Q I q => h.run pins s σ H Q I (i σ H Q q)⟩
def fNo : Fn1 (Option Int) := fun e => some (none, e)
def partK (z : Option S) (e : En) : Option (Option Int × En) := match z with
  | some (.d (.int i)) => some (some i, e)
  | _ => none
@[simp] theorem partK_int {i : Int} {e : En} : partK (some (.d (.int i))) e = some (some i, e) := rfl
def fPart1 (a : Arg) (e : En) : Option (Option Int × En) := partK (a.get e) e
def fPart (fa : Fn1 Arg) : Fn1 (Option Int) := fun e => bnd (fa e) fPart1
theorem qp_none : PXO X none fNo := PO.imp po_none fun σ H Q h => by
  obtain ⟨env, W, o, env', re, e, k⟩ := h
  cases e
  exact k H W re Tr.refl
theorem qp_some (ha : PX X a fa) : PXO X (some a) (fPart fa) := PO.imp (po_some ha) fun σ H Q h => by
  obtain ⟨env, W, o, env', re, e, k⟩ := h
  obtain ⟨a, env1, ea, e⟩ := bnd_eq e
  unfold fPart1 partK at e
  split at e
  · rename_i i hi
    cases e
    exact ⟨env, W, a, _, re, ea, fun v H1 W1 F r1 ra tm t => ⟨i, rd_int (ra.read r1 hi), k H1 W1 r1 (t.less fun _ z => z.elim)⟩⟩
  · cases e
def sIxI (n d : Nat) : Option Int → Nat := HT.sIx n d
def cutD (xs : List D) (lo hi : Option Int) : List D := (xs.drop (HT.sIx xs.length 0 lo)).take (HT.sIx xs.length xs.length hi - HT.sIx xs.length 0 lo)
theorem cut_rds {K : PySem.W.Frag} {H : Hp} {ds : List D} {vs : List V} (r : RDs K H ds vs) (lo hi : Option Int) : RDs K H (cutD ds lo hi) (cutV vs lo hi) := by
  unfold cutD cutV
  rw [r.length]
  exact (r.drop _).take _
def oSl (lo hi : Option Int) : S → Option S
  | .d (.tup ds) => some (.d (.tup (cutD ds lo hi)))
  | .m (.lst ds) => some (.m (.lst (cutD ds lo hi)))
  | .lk (.lst ds) => some (.m (.lst (cutD ds lo hi)))
  | _ => none
@[simp] theorem oSl_tup {lo hi : Option Int} {ds : List D} : oSl lo hi (.d (.tup ds)) = some (.d (.tup (cutD ds lo hi))) := rfl
@[simp] theorem oSl_lst {lo hi : Option Int} {ds : List D} : oSl lo hi (.m (.lst ds)) = some (.m (.lst (cutD ds lo hi))) := rfl
@[simp] theorem oSl_lk {lo hi : Option Int} {ds : List D} : oSl lo hi (.lk (.lst ds)) = some (.m (.lst (cutD ds lo hi))) := rfl
def fSl3 (a : Arg) (lo hi : Option Int) (e : En) : Option (Arg × En) := ret (op1 (oSl lo hi) (a.get e)) e
def fSl2 (fhi : Fn1 (Option Int)) (a : Arg) (lo : Option Int) (e : En) : Option (Arg × En) := bnd (fhi e) (fSl3 a lo)
def fSl1 (flo fhi : Fn1 (Option Int)) (a : Arg) (e : En) : Option (Arg × En) := bnd (flo e) (fSl2 fhi a)
def fSl (fa : Fn1 Arg) (flo fhi : Fn1 (Option Int)) : Fn1 Arg := fun e => bnd (fa e) (fSl1 flo fhi)
theorem cut_whole {α : Type} {xs : List α} {lo hi : Option Int} (h : HT.sIx xs.length 0 lo = 0 ∧ HT.sIx xs.length xs.length hi = xs.length) : (xs.drop (HT.sIx xs.length 0 lo)).take (HT.sIx xs.length xs.length hi - HT.sIx xs.length 0 lo) = xs := by
  rw [h.1, h.2, List.drop_zero, Nat.sub_zero, List.take_length]
theorem qx_sl {lo hi : Option Expr} {flo fhi : Fn1 (Option Int)} {p2 : Pos} (ha : PX X a fa) (hl : PXO X lo flo) (hu : PXO X hi fhi) : PX X (.Subscript a (.Slice lo hi none p2) pos) (fSl fa flo fhi) :=
  PE.imp (pe_slice (SlR.or sl_list sl_tupA) ha hl hu) fun σ H Q h => by
  obtain ⟨env, W, z, env', re, e, k⟩ := h
  obtain ⟨a, env1, ea, e⟩ := bnd_eq e
  obtain ⟨l, env2, el, e⟩ := bnd_eq e
  obtain ⟨u, env3, eu, e⟩ := bnd_eq e
  obtain ⟨s, eq1, er⟩ := ret_eq e
  cases er
  obtain ⟨sx, e1, eo⟩ := op1_eq eq1
  refine ⟨env, W, a, env1, re, ea, fun v H1 W1 F r1 ra tm t1 => ⟨env1, W1, l, env2, r1, el, fun H2 W2 r2 t2 => ⟨env2, W2, u, _, r2, eu, fun H3 W3 r3 t3 => ?_⟩⟩⟩
  have ra3 : RA X.K H3 σ a v F := (ra.keep r1.mu t2 tm).keep r2.mu t3 (Tm.keep t2 tm)
  have fin := fin_of r3 ((t1.trans0 t2).trans0 t3) k
  have rd := ra3.read r3 e1
  cases sx with
  | d x =>
    cases x with
    | tup ds =>
      cases eo
      obtain ⟨p, vs, ev, sq, rs⟩ := rd_tup rd
      refine .inr ⟨p, vs, ev, sq, fun hw => ?_, fun _ q hq => fin.tup (cut_rds rs l u) hq⟩
      refine fin.imm ?_
      have e : cutD ds l u = ds := by
        unfold cutD
        rw [← rs.length] at hw
        exact cut_whole hw
      rw [e]
      exact .tup sq rs
    | _ => cases eo
  | m x =>
    cases x with
    | lst ds =>
      cases eo
      obtain ⟨p, vs, ev, sq, rs⟩ := rd_lst rd
      exact .inl ⟨p, vs, ev, SqL.of sq, fun q hq => fin.lst (cut_rds rs l u) hq⟩
    | _ => cases eo
  | lk x =>
    cases x with
    | lst ds =>
      cases eo
      obtain ⟨p, vs, ev, sq, rs⟩ := rd_lk rd
      exact .inl ⟨p, vs, ev, sq.sq, fun q hq => fin.lst (cut_rds rs l u) hq⟩
    | _ => cases eo
end

/-! ### builtins -/
def lenS (s : S) : Option Nat := match s with
  | .d (.str z) => if z.length ≤ sizeLine then some z.length else none
  | .d (.tup ds) => some ds.length
  | .m (.lst ds) => some ds.length
  | .lk (.lst ds) => some ds.length
  | _ => none
theorem lenS_ok {K : PySem.W.Frag} {H : Hp} {s : S} {v : V} {n : Nat} (e : lenS s = some n) (h : Rd1 K H s v) : LenV K v H n := by
  unfold lenS at e
  split at e
  · split at e
    · rename_i hz
      cases e
      rw [rd_str h]
      exact ⟨hz, rfl⟩
    · cases e
  · cases e
    obtain ⟨a, vs, rfl, sq, rs⟩ := rd_tup h
    exact .inr ⟨vs, sq, rs.length⟩
  · cases e
    obtain ⟨a, vs, rfl, sq, rs⟩ := rd_lst h
    exact .inl ⟨vs, SqL.of sq, rs.length⟩
  · cases e
    obtain ⟨a, vs, rfl, sq, rs⟩ := rd_lk h
    exact .inl ⟨vs, sq.sq, rs.length⟩
  · cases e
def oLen : List S → Option S
  | [s] => (lenS s).map fun (n : Nat) => .d (.int n)
  | _ => none
@[simp] theorem oLen_tup {ds : List D} : oLen [.d (.tup ds)] = some (.d (.int ds.length)) := rfl
@[simp] theorem oLen_lst {ds : List D} : oLen [.m (.lst ds)] = some (.d (.int ds.length)) := rfl
@[simp] theorem oLen_lk {ds : List D} : oLen [.lk (.lst ds)] = some (.d (.int ds.length)) := rfl
theorem rr1 {K : PySem.W.Frag} {H : Hp} {s : S} {vs : List V} (h : RR K H [s] vs) : ∃ v, vs = [v] ∧ Rd1 K H s v := by
  cases h with
  | cons h t => cases t; exact ⟨_, rfl, h⟩
theorem rr2 {K : PySem.W.Frag} {H : Hp} {s s' : S} {vs : List V} (h : RR K H [s, s'] vs) : ∃ v v', vs = [v, v'] ∧ Rd1 K H s v ∧ Rd1 K H s' v' := by
  cases h with
  | cons h t => cases t with
    | cons h' t' => cases t'; exact ⟨_, _, rfl, h, h'⟩
section
variable {X : Cx}
theorem cb_len : CallOk X (.builtin "len") oLen := ⟨_, call_len, fun H vs ss s Q e rr f => by
  unfold oLen at e
  split at e
  · rename_i s0
    obtain ⟨v, rfl, h⟩ := rr1 rr
    cases q : lenS s0 with
    | none => rw [q] at e; cases e
    | some n =>
      rw [q] at e
      cases e
      exact ⟨_, n, rfl, lenS_ok q h, f.int⟩
  · cases e⟩
def oInt : List S → Option S
  | [.d (.int i)] => some (.d (.int i))
  | [.d (.bl b)] => some (.d (.int (if b then 1 else 0)))
  | _ => none
@[simp] theorem oInt_int {i : Int} : oInt [.d (.int i)] = some (.d (.int i)) := rfl
@[simp] theorem oInt_bl {b : Bool} : oInt [.d (.bl b)] = some (.d (.int (if b then 1 else 0))) := rfl
theorem ct_int : CallOk X (.type "int") oInt := ⟨_, call_int1, fun H vs ss s Q e rr f => by
  unfold oInt at e
  split at e
  · cases e
    obtain ⟨v, rfl, h⟩ := rr1 rr
    exact .inl ⟨_, by rw [rd_int h], f.int⟩
  · cases e
    obtain ⟨v, rfl, h⟩ := rr1 rr
    exact .inr ⟨_, by rw [rd_bl h], f.int⟩
  · cases e⟩
def oAbs : List S → Option S
  | [.d (.int i)] => some (.d (.int (if i < 0 then -i else i)))
  | _ => none
@[simp] theorem oAbs_int {i : Int} : oAbs [.d (.int i)] = some (.d (.int (if i < 0 then -i else i))) := rfl
theorem cb_abs : CallOk X (.builtin "abs") oAbs := ⟨_, call_abs, fun H vs ss s Q e rr f => by
  unfold oAbs at e
  split at e
  · cases e
    obtain ⟨v, rfl, h⟩ := rr1 rr
    exact ⟨_, by rw [rd_int h], f.int⟩
  · cases e⟩
def oList : List S → Option S
  | [s] => (seqOf s).map fun ds => .m (.lst ds)
  | _ => none
@[simp] theorem oList_tup {ds : List D} : oList [.d (.tup ds)] = some (.m (.lst ds)) := rfl
@[simp] theorem oList_lst {ds : List D} : oList [.m (.lst ds)] = some (.m (.lst ds)) := rfl
@[simp] theorem oList_lk {ds : List D} : oList [.lk (.lst ds)] = some (.m (.lst ds)) := rfl
theorem ct_list : CallOk X (.type "list") oList := ⟨_, call_list_of, fun H vs ss s Q e rr f => by
  unfold oList at e
  split at e
  · rename_i s
    obtain ⟨v, rfl, h⟩ := rr1 rr
    cases q : seqOf s with
    | none => rw [q] at e; cases e
    | some ds =>
      rw [q] at e
      cases e
      obtain ⟨a, vs, rfl, rs, sq⟩ := rd_seq q h
      exact ⟨a, vs, rfl, sq, fun l hl => f.lst rs hl⟩
  · cases e⟩
def oTuple : List S → Option S
  | [s] => (seqOf s).map fun ds => .d (.tup ds)
  | _ => none
@[simp] theorem oTuple_tup {ds : List D} : oTuple [.d (.tup ds)] = some (.d (.tup ds)) := rfl
@[simp] theorem oTuple_lst {ds : List D} : oTuple [.m (.lst ds)] = some (.d (.tup ds)) := rfl
@[simp] theorem oTuple_lk {ds : List D} : oTuple [.lk (.lst ds)] = some (.d (.tup ds)) := rfl
theorem ct_tuple : CallOk X (.type "tuple") oTuple := ⟨_, call_tuple_of, fun H vs ss s Q e rr f => by
  unfold oTuple at e
  split at e
  · rename_i s
    obtain ⟨v, rfl, h⟩ := rr1 rr
    cases q : seqOf s with
    | none => rw [q] at e; cases e
    | some ds =>
      rw [q] at e
      cases e
      obtain ⟨a, vs, rfl, rs, sq⟩ := rd_seq q h
      rcases sq with sq | sq
      · exact ⟨a, vs, rfl, .inl ⟨sq, fun l hl => f.tup rs hl⟩⟩
      · exact ⟨a, vs, rfl, .inr ⟨sq, f.imm (.tup sq rs)⟩⟩
  · cases e⟩
end

/-! ### sums and extremes of lists and tuples of ints -/
section
variable {prog : Program} {w : World} {A : Around} {E : Value → Shared → Prop} {s : Shared} {t : Addr} {its : List Value} {ns : List Int}
theorem iterTup {items : Array Value} {Q : Value → Shared → Prop} (ht : s.heap.IsTuple t items)
    (h : ∀ s2 : Shared, s2 = { s with heap := s.heap.push { cls := .type "tuple_iterator", data := .fields #[.ref t, .int 0 0] } } →
      (s2.heap.IsTupleIter s.heap.objs.size t 0 ∧ s2.heap.IsTuple t items) → (∀ b ∈ [s.heap.objs.size, t], b < s2.heap.objs.size) → t ≠ s.heap.objs.size → Q (.ref s.heap.objs.size) s2) : wpAny (model prog w) A (pyIter (.ref t)) Q E s := by
  have hlt : t < s.heap.objs.size := by obtain ⟨_, e, _⟩ := ht; exact Heap.lt_size e
  have ht2 : (s.heap.push { cls := .type "tuple_iterator", data := .fields #[.ref t, .int 0 0] }).IsTuple t items := by
    obtain ⟨o, e, r⟩ := ht
    exact ⟨o, Heap.get?_push_of_some _ e, r⟩
  refine wpAny_pyIter_tuple ht (h _ rfl ⟨⟨_, Heap.get?_push_size _ rfl, rfl, rfl⟩, ht2⟩ (fun b hb => ?_) (Nat.ne_of_lt hlt))
  show b < (s.heap.push _).objs.size
  rw [Heap.size_push]
  have hb : b = s.heap.objs.size ∨ b = t := by simpa using hb
  rcases hb with z | z
  · rw [z]; exact Nat.lt_succ_self _
  · rw [z]; exact Nat.lt_succ_of_lt hlt
theorem keptT {o1 : Obj} {h' : Heap} (hk : ∀ b o, b ∉ [s.heap.objs.size] → (s.heap.push o1).get? b = some o → h'.get? b = some o) : ∀ b o, s.heap.get? b = some o → h'.get? b = some o := fun b o e =>
  hk b o (fun hm => by
    have hm : b = s.heap.objs.size := by simpa using hm
    exact absurd (hm ▸ Heap.lt_size e) (Nat.lt_irrefl _)) (Heap.get?_push_of_some _ e)
theorem nums_at (hi : IntsAre its ns) {i : Nat} {v : Value} (h : its.toArray[i]? = some v) : ∃ t, v = .int (ns.getD i 0) t := by
  have r : Vals (ns.map V.int) its := vals_of_ints hi
  have h' : its[i]? = some v := by simpa using h
  obtain ⟨hl, _⟩ := List.getElem?_eq_some_iff.mp h'
  have hl2 : i < ns.length := by have := r.length; simp at this; omega
  obtain ⟨u, hu, ru⟩ := r.get (i := i) (x := .int ns[i]) (by rw [List.getElem?_map, List.getElem?_eq_getElem hl2]; rfl)
  rw [h'] at hu
  cases hu
  obtain ⟨t, e⟩ := ru
  exact ⟨t, by rw [e, List.getD_eq_getElem?_getD, List.getElem?_eq_getElem hl2]; rfl⟩
theorem preSum_take (f : Nat → Int) (ns : List Int) (h : ∀ i, i < ns.length → f i = ns.getD i 0) : ∀ k, k ≤ ns.length → preSum f k = (ns.take k).sum := by
  intro k
  induction k with
  | zero => intro _; rfl
  | succ k ih =>
    intro hk
    have hlt : k < ns.length := hk
    rw [sum_take (List.getElem?_eq_getElem hlt), ← ih (Nat.le_of_lt hlt)]
    show preSum f k + f k = _
    rw [h k hlt, List.getD_eq_getElem?_getD, List.getElem?_eq_getElem hlt]
    rfl
theorem sum_rawT {Q : Value → Shared → Prop} (hh : A.handled = none) (ht : s.heap.IsTuple t its.toArray) (hi : IntsAre its ns)
    (h : ∀ h' tk t', (∀ b o, s.heap.get? b = some o → h'.get? b = some o) → Q (.int ns.sum t') { s with heap := h', toks := tk }) : wpAny (model prog w) A (call (.builtin "sum") [.ref t]) Q E s := by
  have hlen : its.length = ns.length := by have := (vals_of_ints hi).length; simpa using this.symm
  refine call_sum_walkG (iterTup ht fun s2 e st hfp hne => ?_)
  subst e
  refine ⟨_, _, _, _, _, _, fun i => ns.getD i 0, rfl, Walks.tuple (A := A.in1) hh _ t hne its.toArray, st, hfp, fun _ _ hv => nums_at hi hv, fun h' tk t' hk => ?_⟩
  have e : preSum (fun i => ns.getD i 0) its.toArray.size = ns.sum := by
    rw [List.size_toArray, hlen, preSum_take _ ns (fun _ _ => rfl) _ (Nat.le_refl _), List.take_length]
  rw [e]
  exact h h' tk t' (keptT hk)
end
section
variable {X : Cx}
def intsOf : List D → Option (List Int)
  | [] => some []
  | .int i :: ds => (intsOf ds).map (i :: ·)
  | _ :: _ => none
@[simp] theorem intsOf_nil : intsOf [] = some [] := rfl
@[simp] theorem intsOf_cons {i : Int} {ds : List D} : intsOf (.int i :: ds) = (intsOf ds).map (i :: ·) := rfl
@[simp] theorem intsOf_map {l : List Int} : intsOf (l.map D.int) = some l := by
  induction l with
  | nil => rfl
  | cons a l ih => rw [List.map_cons, intsOf_cons, ih]; rfl
theorem intsOf_eq : ∀ {ds : List D} {ns : List Int}, intsOf ds = some ns → ds = ns.map D.int
  | [], ns, h => by cases h; rfl
  | .int i :: ds, ns, h => by
    rw [intsOf_cons] at h
    cases q : intsOf ds with
    | none => rw [q] at h; cases h
    | some l => rw [q] at h; cases h; rw [intsOf_eq q]; rfl
  | .non :: _, _, h => by cases h
  | .bl _ :: _, _, h => by cases h
  | .str _ :: _, _, h => by cases h
  | .tup _ :: _, _, h => by cases h
def intsOp (g : List Int → Option Int) : List S → Option S
  | [s] => ((seqOf s).bind intsOf).bind fun l => (g l).map fun i => .d (.int i)
  | _ => none
theorem intsOp_eq {g : List Int → Option Int} {ss : List S} {s : S} (h : intsOp g ss = some s) : ∃ x l i, ss = [x] ∧ seqOf x = some (l.map D.int) ∧ g l = some i ∧ s = .d (.int i) := by
  unfold intsOp at h
  split at h
  · rename_i x
    cases q : seqOf x with
    | none => rw [q] at h; cases h
    | some ds =>
      rw [q] at h
      have h : (intsOf ds).bind (fun l => (g l).map fun i => S.d (.int i)) = some s := h
      cases q2 : intsOf ds with
      | none => rw [q2] at h; cases h
      | some l =>
        rw [q2] at h
        have h : (g l).map (fun i => S.d (.int i)) = some s := h
        cases q3 : g l with
        | none => rw [q3] at h; cases h
        | some i =>
          rw [q3] at h
          cases h
          exact ⟨x, l, i, rfl, by rw [q, intsOf_eq q2], q3, rfl⟩
  · cases h
@[simp] theorem intsOp_tup {g : List Int → Option Int} {ds : List D} : intsOp g [.d (.tup ds)] = (intsOf ds).bind fun l => (g l).map fun i => .d (.int i) := rfl
@[simp] theorem intsOp_lst {g : List Int → Option Int} {ds : List D} : intsOp g [.m (.lst ds)] = (intsOf ds).bind fun l => (g l).map fun i => .d (.int i) := rfl
@[simp] theorem intsOp_lk {g : List Int → Option Int} {ds : List D} : intsOp g [.lk (.lst ds)] = (intsOf ds).bind fun l => (g l).map fun i => .d (.int i) := rfl
def oSum : List S → Option S := intsOp fun l => some l.sum
def rSumA (K : PySem.W.Frag) : List V → Hp → VK → Prop := fun vs H Q => ∃ (a : Addr) (ns : List Int), vs = [V.ref a] ∧ (SqL K H a (ns.map V.int) ∨ SqT K H a (ns.map V.int)) ∧ Q (.int ns.sum) H
theorem cr_sumA (hc : X.calm = true) : CallR X (.builtin "sum") (rSumA X.K) := by
  intro pins s σ H vs us Q I r h
  obtain ⟨a, ns, rfl, hs, q⟩ := h
  rcases hs with hs | hs
  · exact cr_sum hc pins s σ H _ us Q I r ⟨a, ns, rfl, hs, q⟩
  · obtain ⟨its, rv, ht, _⟩ := I.tuple hs
    rw [Vals.ref1 r]
    exact sum_rawT (I.ok.hd hc) (show s.heap.IsTuple a its.toArray from ht) rv.ints fun h' tk t' hk => ⟨.int _, H, I.kept hk, ⟨_, rfl⟩, q⟩
theorem cb_sum (hc : X.calm = true) : CallOk X (.builtin "sum") oSum := ⟨_, cr_sumA hc, fun H vs ss s Q e rr f => by
  obtain ⟨x, l, i, rfl, h1, h2, rfl⟩ := intsOp_eq e
  cases h2
  obtain ⟨v, rfl, h⟩ := rr1 rr
  obtain ⟨a, vs, rfl, rs, sq⟩ := rd_seq h1 h
  rw [RDs.of_ints rs] at sq
  exact ⟨a, l, rfl, sq, f.int⟩⟩
end
end QL
end

section
set_option Elab.async false
set_option linter.all false
set_option maxRecDepth 100000
set_option maxHeartbeats 4000000
namespace QL
open PySem PySem.Spec PyProof.Rows L2

/-! ### extremes -/
def maxL : List Int → Option Int
  | [] => none
  | x :: xs => some (xs.foldl max x)
def minL : List Int → Option Int
  | [] => none
  | x :: xs => some (xs.foldl min x)
theorem foldl_max : ∀ (xs : List Int) (x : Int), (xs.foldl max x = x ∨ xs.foldl max x ∈ xs) ∧ x ≤ xs.foldl max x ∧ ∀ y ∈ xs, y ≤ xs.foldl max x
  | [], x => ⟨.inl rfl, Int.le_refl _, fun _ h => nomatch h⟩
  | z :: xs, x => by
    obtain ⟨h1, h2, h3⟩ := foldl_max xs (max x z)
    rw [List.foldl_cons]
    refine ⟨?_, by omega, fun y hy => ?_⟩
    · rcases h1 with h1 | h1
      · rcases Int.le_total x z with q | q
        · exact .inr (by rw [h1, show max x z = z by omega]; exact List.mem_cons_self)
        · exact .inl (by rw [h1]; omega)
      · exact .inr (List.mem_cons_of_mem _ h1)
    · rcases List.mem_cons.mp hy with e | hy
      · subst e; omega
      · exact h3 y hy
theorem foldl_min : ∀ (xs : List Int) (x : Int), (xs.foldl min x = x ∨ xs.foldl min x ∈ xs) ∧ xs.foldl min x ≤ x ∧ ∀ y ∈ xs, xs.foldl min x ≤ y
  | [], x => ⟨.inl rfl, Int.le_refl _, fun _ h => nomatch h⟩
  | z :: xs, x => by
    obtain ⟨h1, h2, h3⟩ := foldl_min xs (min x z)
    rw [List.foldl_cons]
    refine ⟨?_, by omega, fun y hy => ?_⟩
    · rcases h1 with h1 | h1
      · rcases Int.le_total x z with q | q
        · exact .inl (by rw [h1]; omega)
        · exact .inr (by rw [h1, show min x z = z by omega]; exact List.mem_cons_self)
      · exact .inr (List.mem_cons_of_mem _ h1)
    · rcases List.mem_cons.mp hy with e | hy
      · subst e; omega
      · exact h3 y hy
theorem maxL_spec {l : List Int} {m : Int} (h : maxL l = some m) : m ∈ l ∧ ∀ y ∈ l, y ≤ m := by
  cases l with
  | nil => cases h
  | cons x xs =>
    cases h
    obtain ⟨h1, h2, h3⟩ := foldl_max xs x
    refine ⟨?_, fun y hy => ?_⟩
    · rcases h1 with h1 | h1
      · rw [h1]; exact List.mem_cons_self
      · exact List.mem_cons_of_mem _ h1
    · rcases List.mem_cons.mp hy with e | hy
      · rw [e]; exact h2
      · exact h3 y hy
theorem minL_spec {l : List Int} {m : Int} (h : minL l = some m) : m ∈ l ∧ ∀ y ∈ l, m ≤ y := by
  cases l with
  | nil => cases h
  | cons x xs =>
    cases h
    obtain ⟨h1, h2, h3⟩ := foldl_min xs x
    refine ⟨?_, fun y hy => ?_⟩
    · rcases h1 with h1 | h1
      · rw [h1]; exact List.mem_cons_self
      · exact List.mem_cons_of_mem _ h1
    · rcases List.mem_cons.mp hy with e | hy
      · rw [e]; exact h2
      · exact h3 y hy
theorem maxL_uniq {l : List Int} {m k : Int} (h : maxL l = some m) (h1 : k ∈ l) (h2 : ∀ y ∈ l, y ≤ k) : k = m := by
  obtain ⟨q1, q2⟩ := maxL_spec h
  have := h2 m q1
  have := q2 k h1
  omega
theorem minL_uniq {l : List Int} {m k : Int} (h : minL l = some m) (h1 : k ∈ l) (h2 : ∀ y ∈ l, k ≤ y) : k = m := by
  obtain ⟨q1, q2⟩ := minL_spec h
  have := h2 m q1
  have := q2 k h1
  omega
section
variable {prog : Program} {w : World} {A : Around} {E : Value → Shared → Prop} {s : Shared} {t : Addr} {its : List Value} {ns : List Int}
theorem max_rawT {Q : Value → Shared → Prop} (hh : A.handled = none) (ht : s.heap.IsTuple t its.toArray) (hi : IntsAre its ns) (hne : 0 < ns.length)
    (h : ∀ h' tk m t', (∀ b o, s.heap.get? b = some o → h'.get? b = some o) → m ∈ ns → (∀ a, a ∈ ns → a ≤ m) → Q (.int m t') { s with heap := h', toks := tk }) : wpAny (model prog w) A (call (.builtin "max") [.ref t]) Q E s := by
  have hlen : its.length = ns.length := by have := (vals_of_ints hi).length; simpa using this.symm
  refine call_max_walk (iterTup ht fun s2 e st hfp hne' => ?_)
  subst e
  refine ⟨_, _, _, _, _, _, _, rfl, Walks.tuple (A := A.in1) hh _ t hne' its.toArray, st, hfp, by rw [List.size_toArray, hlen]; exact hne, CmpOf.ints_gt (fun i => ns.getD i 0) (fun _ _ hv => nums_at hi hv), fun v h' tk hP hk => ?_⟩
  obtain ⟨t', rfl⟩ := nums_at hi hP
  obtain ⟨h1, h2⟩ := argBest_gt (fun i => ns.getD i 0) (its.toArray.size - 1)
  rw [List.size_toArray, hlen] at h1 h2 ⊢
  refine h h' tk _ t' (keptT hk) (PySem.getD_mem (by omega)) fun a ha => ?_
  obtain ⟨j, hj, rfl⟩ := mem_getD ha
  exact h2 j (by omega)
theorem min_rawT {Q : Value → Shared → Prop} (hh : A.handled = none) (ht : s.heap.IsTuple t its.toArray) (hi : IntsAre its ns) (hne : 0 < ns.length)
    (h : ∀ h' tk m t', (∀ b o, s.heap.get? b = some o → h'.get? b = some o) → m ∈ ns → (∀ a, a ∈ ns → m ≤ a) → Q (.int m t') { s with heap := h', toks := tk }) : wpAny (model prog w) A (call (.builtin "min") [.ref t]) Q E s := by
  have hlen : its.length = ns.length := by have := (vals_of_ints hi).length; simpa using this.symm
  refine call_min_walk (iterTup ht fun s2 e st hfp hne' => ?_)
  subst e
  refine ⟨_, _, _, _, _, _, _, rfl, Walks.tuple (A := A.in1) hh _ t hne' its.toArray, st, hfp, by rw [List.size_toArray, hlen]; exact hne, CmpOf.ints_lt (fun i => ns.getD i 0) (fun _ _ hv => nums_at hi hv), fun v h' tk hP hk => ?_⟩
  obtain ⟨t', rfl⟩ := nums_at hi hP
  obtain ⟨h1, h2⟩ := argBest_lt (fun i => ns.getD i 0) (its.toArray.size - 1)
  rw [List.size_toArray, hlen] at h1 h2 ⊢
  refine h h' tk _ t' (keptT hk) (PySem.getD_mem (by omega)) fun a ha => ?_
  obtain ⟨j, hj, rfl⟩ := mem_getD ha
  exact h2 j (by omega)
end
section
variable {X : Cx}
/-- of one list or tuple, or of two ints -/
def oMax : List S → Option S
  | [.d (.int i), .d (.int j)] => some (.d (.int (if j > i then j else i)))
  | ss => intsOp maxL ss
def oMin : List S → Option S
  | [.d (.int i), .d (.int j)] => some (.d (.int (if j < i then j else i)))
  | ss => intsOp minL ss
@[simp] theorem oMax_2 {i j : Int} : oMax [.d (.int i), .d (.int j)] = some (.d (.int (if j > i then j else i))) := rfl
@[simp] theorem oMin_2 {i j : Int} : oMin [.d (.int i), .d (.int j)] = some (.d (.int (if j < i then j else i))) := rfl
@[simp] theorem oMax_1 {s : S} : oMax [s] = intsOp maxL [s] := by
  cases s with
  | d x => cases x <;> rfl
  | m x => rfl
  | lk x => rfl
@[simp] theorem oMin_1 {s : S} : oMin [s] = intsOp minL [s] := by
  cases s with
  | d x => cases x <;> rfl
  | m x => rfl
  | lk x => rfl
def rMaxA (K : PySem.W.Frag) : List V → Hp → VK → Prop := fun vs H Q => (∃ i j, vs = [.int i, .int j] ∧ Q (.int (if j > i then j else i)) H) ∨
  ∃ (a : Addr) (ns : List Int) (m : Int), vs = [V.ref a] ∧ (SqL K H a (ns.map V.int) ∨ SqT K H a (ns.map V.int)) ∧ maxL ns = some m ∧ Q (.int m) H
def rMinA (K : PySem.W.Frag) : List V → Hp → VK → Prop := fun vs H Q => (∃ i j, vs = [.int i, .int j] ∧ Q (.int (if j < i then j else i)) H) ∨
  ∃ (a : Addr) (ns : List Int) (m : Int), vs = [V.ref a] ∧ (SqL K H a (ns.map V.int) ∨ SqT K H a (ns.map V.int)) ∧ minL ns = some m ∧ Q (.int m) H
theorem maxL_pos {ns : List Int} {m : Int} (h : maxL ns = some m) : 0 < ns.length := by cases ns with
  | nil => cases h
  | cons _ _ => exact Nat.succ_pos _
theorem minL_pos {ns : List Int} {m : Int} (h : minL ns = some m) : 0 < ns.length := by cases ns with
  | nil => cases h
  | cons _ _ => exact Nat.succ_pos _
theorem cr_maxA (hc : X.calm = true) : CallR X (.builtin "max") (rMaxA X.K) := by
  intro pins s σ H vs us Q I r h
  rcases h with h | ⟨a, ns, m, rfl, hs, hm, q⟩
  · exact call_max2 hc pins s σ H vs us Q I r h
  · rcases hs with hs | hs
    · exact cr_max hc pins s σ H _ us Q I r ⟨a, ns, rfl, hs, maxL_pos hm, fun k h1 h2 => by rw [maxL_uniq hm h1 h2]; exact q⟩
    · obtain ⟨its, rv, ht, _⟩ := I.tuple hs
      rw [Vals.ref1 r]
      exact max_rawT (I.ok.hd hc) (show s.heap.IsTuple a its.toArray from ht) rv.ints (maxL_pos hm) fun h' tk k t' hk h1 h2 => ⟨.int k, H, I.kept hk, ⟨_, rfl⟩, by rw [maxL_uniq hm h1 h2]; exact q⟩
theorem cr_minA (hc : X.calm = true) : CallR X (.builtin "min") (rMinA X.K) := by
  intro pins s σ H vs us Q I r h
  rcases h with h | ⟨a, ns, m, rfl, hs, hm, q⟩
  · exact call_min2 hc pins s σ H vs us Q I r h
  · rcases hs with hs | hs
    · exact cr_min hc pins s σ H _ us Q I r ⟨a, ns, rfl, hs, minL_pos hm, fun k h1 h2 => by rw [minL_uniq hm h1 h2]; exact q⟩
    · obtain ⟨its, rv, ht, _⟩ := I.tuple hs
      rw [Vals.ref1 r]
      exact min_rawT (I.ok.hd hc) (show s.heap.IsTuple a its.toArray from ht) rv.ints (minL_pos hm) fun h' tk k t' hk h1 h2 => ⟨.int k, H, I.kept hk, ⟨_, rfl⟩, by rw [minL_uniq hm h1 h2]; exact q⟩
theorem cb_max (hc : X.calm = true) : CallOk X (.builtin "max") oMax := ⟨_, cr_maxA hc, fun H vs ss s Q e rr f => by
  unfold oMax at e
  split at e
  · cases e
    obtain ⟨v, v', rfl, h1, h2⟩ := rr2 rr
    exact .inl ⟨_, _, by rw [rd_int h1, rd_int h2], f.int⟩
  · obtain ⟨x, l, i, rfl, h1, h2, rfl⟩ := intsOp_eq e
    obtain ⟨v, rfl, h⟩ := rr1 rr
    obtain ⟨a, vs, rfl, rs, sq⟩ := rd_seq h1 h
    rw [RDs.of_ints rs] at sq
    exact .inr ⟨a, l, i, rfl, sq, h2, f.int⟩⟩
theorem cb_min (hc : X.calm = true) : CallOk X (.builtin "min") oMin := ⟨_, cr_minA hc, fun H vs ss s Q e rr f => by
  unfold oMin at e
  split at e
  · cases e
    obtain ⟨v, v', rfl, h1, h2⟩ := rr2 rr
    exact .inl ⟨_, _, by rw [rd_int h1, rd_int h2], f.int⟩
  · obtain ⟨x, l, i, rfl, h1, h2, rfl⟩ := intsOp_eq e
    obtain ⟨v, rfl, h⟩ := rr1 rr
    obtain ⟨a, vs, rfl, rs, sq⟩ := rd_seq h1 h
    rw [RDs.of_ints rs] at sq
    exact .inr ⟨a, l, i, rfl, sq, h2, f.int⟩⟩

/-! ### all, any of lists of bools -/
def blsOf : List D → Option (List Bool)
  | [] => some []
  | .bl b :: ds => (blsOf ds).map (b :: ·)
  | _ :: _ => none
@[simp] theorem blsOf_nil : blsOf [] = some [] := rfl
@[simp] theorem blsOf_cons {i : Bool} {ds : List D} : blsOf (.bl i :: ds) = (blsOf ds).map (i :: ·) := rfl
@[simp] theorem blsOf_map {l : List Bool} : blsOf (l.map D.bl) = some l := by
  induction l with
  | nil => rfl
  | cons a l ih => rw [List.map_cons, blsOf_cons, ih]; rfl
theorem blsOf_rds {K : PySem.W.Frag} {H : Hp} : ∀ {ds : List D} {l : List Bool} {vs : List V}, blsOf ds = some l → RDs K H ds vs → vs = l.map V.bl
  | [], l, _, h, .nil => by cases h; rfl
  | .bl i :: ds, l, _, h, .cons r t => by
    rw [blsOf_cons] at h
    cases q : blsOf ds with
    | none => rw [q] at h; cases h
    | some l =>
      rw [q] at h
      cases h
      cases r
      rw [blsOf_rds q t]
      rfl
  | .non :: _, _, _, h, _ => by cases h
  | .int _ :: _, _, _, h, _ => by cases h
  | .str _ :: _, _, _, h, _ => by cases h
  | .tup _ :: _, _, _, h, _ => by cases h
def blsOp (g : List Bool → Bool) : List S → Option S
  | [.m (.lst ds)] => (blsOf ds).map fun l => .d (.bl (g l))
  | _ => none
@[simp] theorem blsOp_lst {g : List Bool → Bool} {ds : List D} : blsOp g [.m (.lst ds)] = (blsOf ds).map fun l => .d (.bl (g l)) := rfl
def oAll : List S → Option S := blsOp fun l => l.all id
def oAny : List S → Option S := blsOp fun l => l.any id
theorem blsOp_ok {g : List Bool → Bool} {K : PySem.W.Frag} : OpN K (fun vs H Q => ∃ (a : Addr) (bs : List Bool), vs = [V.ref a] ∧ SqL K H a (bs.map V.bl) ∧ Q (.bl (g bs)) H) (blsOp g) := fun H vs ss s Q e rr f => by
  unfold blsOp at e
  split at e
  · rename_i ds
    cases q : blsOf ds with
    | none => rw [q] at e; cases e
    | some l =>
      rw [q] at e
      cases e
      obtain ⟨v, rfl, h⟩ := rr1 rr
      obtain ⟨a, vs, rfl, hl, rs⟩ := rd_lst h
      rw [blsOf_rds q rs] at hl
      exact ⟨a, l, rfl, SqL.of hl, f.bl⟩
  · cases e
theorem cb_all (hc : X.calm = true) : CallOk X (.builtin "all") oAll := ⟨_, cr_all hc, blsOp_ok⟩
theorem cb_any (hc : X.calm = true) : CallOk X (.builtin "any") oAny := ⟨_, cr_any hc, blsOp_ok⟩

/-! ### in a list or tuple of flat things -/
def flV : D → Option V
  | .non => some .non
  | .bl b => some (.bl b)
  | .int i => some (.int i)
  | .str z => some (.str z)
  | .tup _ => none
@[simp] theorem flV_int {i : Int} : flV (.int i) = some (.int i) := rfl
@[simp] theorem flV_str {i : Str} : flV (.str i) = some (.str i) := rfl
@[simp] theorem flV_non : flV .non = some .non := rfl
@[simp] theorem flV_bl {b : Bool} : flV (.bl b) = some (.bl b) := rfl
theorem flV_rd {K : PySem.W.Frag} {H : Hp} {x : D} {v u : V} (h : flV x = some u) (r : RD K H x v) : v = u ∧ L2.flatV v = true := by
  cases r <;> cases h <;> exact ⟨rfl, rfl⟩
def flVs : List D → Option (List V)
  | [] => some []
  | x :: xs => match flV x, flVs xs with
    | some v, some vs => some (v :: vs)
    | _, _ => none
theorem flVs_rd {K : PySem.W.Frag} {H : Hp} : ∀ {ds : List D} {us vs : List V}, flVs ds = some us → RDs K H ds vs → vs = us ∧ vs.all L2.flatV = true
  | [], us, _, h, .nil => by cases h; exact ⟨rfl, rfl⟩
  | x :: ds, us, _, h, .cons r t => by
    unfold flVs at h
    split at h
    · rename_i h1 h2
      cases h
      obtain ⟨e1, f1⟩ := flV_rd h1 r
      obtain ⟨e2, f2⟩ := flVs_rd h2 t
      subst e1 e2
      exact ⟨rfl, by rw [List.all_cons, f1, f2]; rfl⟩
    · cases h
def inK (neg : Bool) (v : Option V) (vs : Option (List V)) : Option S := match v, vs with
  | some v, some vs => some (.d (.bl (if neg then !L2.inV v vs else L2.inV v vs)))
  | _, _ => none
@[simp] theorem inK_some {neg : Bool} {v : V} {vs : List V} : inK neg (some v) (some vs) = some (.d (.bl (if neg then !L2.inV v vs else L2.inV v vs))) := rfl
def oInB (neg : Bool) (x y : S) : Option S := match x with
  | .d x => inK neg (flV x) ((seqOf y).bind flVs)
  | _ => none
def oIn : S → S → Option S := oInB false
def oNin : S → S → Option S := oInB true
theorem op2_in {neg : Bool} {K : PySem.W.Frag} : Op2 K (rIn K neg) (oInB neg) := by
  intro H x y sx sy s Q e hx hy f
  unfold oInB at e
  split at e
  · rename_i x0
    unfold inK at e
    split at e
    · rename_i u us h1 h2
      cases e
      cases q : seqOf sy with
      | none => rw [q] at h2; cases h2
      | some ds =>
        rw [q] at h2
        have h2 : flVs ds = some us := h2
        obtain ⟨a, vs, rfl, rs, sq⟩ := rd_seq q hy
        obtain ⟨P, rx⟩ := hx
        obtain ⟨e1, f1⟩ := flV_rd h1 rx
        obtain ⟨e2, f2⟩ := flVs_rd h2 rs
        subst e1 e2
        exact ⟨a, vs, rfl, sq, f1, f2, f.bl⟩
    · cases e
  · cases e
theorem qc_in : CmpOk X .In oIn := ⟨_, op_in_seq, op2_in⟩
theorem qc_nin : CmpOk X .NotIn oNin := ⟨_, op_notIn_seq, op2_in⟩
end

/-! ### a slot's list is written -/
/-- the list of slot i, at a, holds ys now -/
theorem RE.put {K : PySem.W.Frag} {H : Hp} {σ : Sl} {env : En} {W : Ow} {i : Nat} {xs ys : List D} {a : Addr} {vs ws : List V} (r : RE K H σ env W) (hi : env[i]? = some (some (.m (.lst xs)))) (hσ : σ[i]? = some (some (.ref a))) (hW : W i a) (hH : H a = some (.lst vs)) (rs : RDs K H ys ws) :
    RE K (upd H a (.lst ws)) σ (env.set i (some (.m (.lst ys)))) W := by
  have pU : Pst H (upd H a (.lst ws)) := fun b zs h => by
    have nb : b ≠ a := fun z => by
      subst z
      rcases h with h | ⟨o, h⟩ <;> (rw [hH] at h; cases h)
    unfold Rd
    rw [upd_ne nb]
    exact h
  have t : Tr (fun (k : Nat) b => k = i ∧ W i b) H (fun (k : Nat) b => k = i ∧ W i b) (upd H a (.lst ws)) F0 :=
    ⟨fun b o e hn => by rw [upd_ne fun z => hn ⟨i, rfl, by rw [z]; exact hW⟩]; exact e, fun b e => by
      by_cases hb : b = a
      · subst hb; rw [upd_same]; simp
      · rw [upd_ne hb]; exact e, fun b _ hn => ⟨hn, fun z => z⟩⟩
  refine ⟨fun j s e => ?_, r.apart, fun j b z => ?_, by rw [List.length_set]; exact r.len⟩
  · by_cases hj : j = i
    · subst hj
      have hl : j < env.length := (List.getElem?_eq_some_iff.mp hi).1
      rw [List.getElem?_set_self hl] at e
      cases e
      exact ⟨_, hσ, a, ws, rfl, hW, upd_same, RDs.pst pU rs⟩
    · rw [List.getElem?_set_ne (Ne.symm hj)] at e
      obtain ⟨v, q1, q2⟩ := r.slots j s e
      exact ⟨v, q1, RS.keep (fun _ b z => r.mu i b z.2) t q2 fun b z ⟨k, _, y⟩ => hj (r.apart j i b z y)⟩
  · by_cases hb : b = a
    · subst hb; rw [upd_same]; trivial
    · rw [upd_ne hb]; exact r.mu j b z
theorem Tr.put {H : Hp} {W : Ow} {i : Nat} {a : Addr} {ws : List V} (hW : W i a) : Tr W H W (upd H a (.lst ws)) F0 :=
  ⟨fun b o e hn => by rw [upd_ne fun z => hn ⟨i, by rw [z]; exact hW⟩]; exact e, fun b e => by
      by_cases hb : b = a
      · subst hb; rw [upd_same]; simp
      · rw [upd_ne hb]; exact e, fun b _ hn => ⟨hn, fun z => z⟩⟩
/-- what a method makes of a list's items: its result, the items behind it -/
abbrev MtO := List D → List S → Option (D × List D)
def mtK2 (i : Nat) (z : Option (D × List D)) (e : En) : Option (Arg × En) := match z with
  | some p => some (.val (.d p.1), e.set i (some (.m (.lst p.2))))
  | none => none
@[simp] theorem mtK2_some {i : Nat} {x : D} {ys : List D} {e : En} : mtK2 i (some (x, ys)) e = some (.val (.d x), e.set i (some (.m (.lst ys)))) := rfl
def mtK (i : Nat) (o : MtO) (x : Option (Option S)) (ss : Option (List S)) (e : En) : Option (Arg × En) := match x, ss with
  | some (some (.m (.lst xs))), some ss => mtK2 i (o xs ss) e
  | _, _ => none
@[simp] theorem mtK_lst {i : Nat} {o : MtO} {xs : List D} {ss : List S} {e : En} : mtK i o (some (some (.m (.lst xs)))) (some ss) e = mtK2 i (o xs ss) e := rfl
def fMt1 (i : Nat) (o : MtO) (as : List Arg) (e : En) : Option (Arg × En) := mtK i o e[i]? (gets as e) e
def mtG (i : Nat) (o : MtO) (fs : Fn1 (List Arg)) (x : Option (Option S)) (e : En) : Option (Arg × En) := match x with
  | some (some (.m (.lst _))) => bnd (fs e) (fMt1 i o)
  | _ => none
@[simp] theorem mtG_lst {i : Nat} {o : MtO} {fs : Fn1 (List Arg)} {xs : List D} {e : En} : mtG i o fs (some (some (.m (.lst xs)))) e = bnd (fs e) (fMt1 i o) := rfl
def fMt (i : Nat) (o : MtO) (fs : Fn1 (List Arg)) : Fn1 Arg := fun e => mtG i o fs e[i]? e
/-- the method's rule: from the list at a with the values vs -/
structure MtOk (X : Cx) (id : String) (o : MtO) : Prop where
  ex : ∃ r, L2.MtR X id r ∧ ∀ H a vs us xs ss x ys Q, o xs ss = some (x, ys) → H a = some (.lst vs) → RDs X.K H xs vs → RR X.K H ss us → (∀ v ws, RD X.K (upd H a (.lst ws)) x v → RDs X.K H ys ws → Q v (upd H a (.lst ws))) → r (.ref a) us H Q
section
variable {X : Cx} {e : Expr} {es : List Expr} {fs : Fn1 (List Arg)} {o : MtO} {name : Str} {id : String}
theorem mt_read {K : PySem.W.Frag} {i : Nat} {r : V → List V → Hp → VK → Prop} {σ : Sl} {H : Hp} {Q : VK}
    (hr : ∀ H a vs us xs ss x ys Q, o xs ss = some (x, ys) → H a = some (.lst vs) → RDs K H xs vs → RR K H ss us → (∀ v ws, RD K (upd H a (.lst ws)) x v → RDs K H ys ws → Q v (upd H a (.lst ws))) → r (.ref a) us H Q)
    (h : tE K (fMt i o fs) σ H Q) : tVar i σ H fun x H1 => tyV K "list" x H1 ∧ tA K fs σ H1 fun xs H2 => r x xs H2 Q := by
  obtain ⟨env, W, z, env3, re, e, k⟩ := h
  unfold fMt mtG at e
  split at e
  · rename_i xs0 hx0
    obtain ⟨as, env2, ea, e⟩ := bnd_eq e
    obtain ⟨v, s1, a, vs0, rfl, pa, hH0, _⟩ := re.slots i _ hx0
    refine ⟨.ref a, s1, .inl ⟨rfl, vs0, SqL.of hH0⟩, env, W, as, env2, re, ea, fun us H2 W2 Fs r2 ras t2 => ?_⟩
    unfold fMt1 mtK at e
    split at e
    · rename_i xs ss hx hss
      unfold mtK2 at e
      split at e
      · rename_i p hp
        cases e
        obtain ⟨v', q1, a', vs, rfl, pa', hH, rs⟩ := r2.slots i _ hx
        rw [s1] at q1
        cases q1
        refine hr H2 a vs us xs ss p.1 p.2 Q hp hH rs (ras.read r2 hss) fun v ws rv rws => ?_
        have re3 := r2.put hx s1 pa' hH rws
        exact k v _ W2 F0 re3 rv Tm.zero ((t2.trans0 (Tr.put pa')).less fun _ z => z)
      · cases e
    · cases e
  · cases e
variable {i : Nat} {x : Str} {apos cpos p : Pos}
theorem qx_mt (c : MtOk X id o) (pa : PlainAttrs "list") (slot : Slot "list" name id) (hty : typeOf (.builtin id) = pure (.type "method_descriptor")) (ha : PXA X (e :: es) fs) (hN : X.N[i]? = some x := by rfl) (hv : Vis X.env.scope x := by first | exact Or.inl rfl | exact Or.inr (Or.inl rfl) | exact Or.inr (Or.inr rfl))
    (hd : (x == ("__debug__" : Str)) = false := by decide) (hcd : (x == ("__classdict__" : Str)) = false := by decide)
    (hbase : attributeBase (.Name x p) name X.env (eval (.Name x p) X.env) = eval (.Name x p) X.env := by rfl)
    (hfew : ((backTo cpos (starEach (e :: es) X.env)).all (fun x => !x.1) && (backToKw cpos (keywordEach [] X.env)).all (fun x => x.1.isSome)
      && decide ((e :: es).length + ([] : List Keyword).length + (if ([] : List Keyword).isEmpty then 0 else 1) < 30)) = true := by rfl)
    (hline : (apos.endLine == cpos.line) = true := by rfl) (hs : starEach (e :: es) X.env = (false, eval e X.env) :: starEach es X.env := by rfl) (hplain : (backTo cpos (starEach es X.env)).any (·.1) = false := by rfl) :
    PX X (.Call (.Attribute (.Name x p) name apos) (e :: es) [] cpos) (fMt i o fs) :=
  let ⟨_, h1, h2⟩ := c.ex
  PE.imp (pe_bm pa slot hty h1 (pe_var hN hv hd hcd) ha hbase hfew hline hs hplain) fun σ H Q h => mt_read h2 h
theorem qx_mt0 (c : MtOk X id o) (pa : PlainAttrs "list") (slot : Slot "list" name id) (hty : typeOf (.builtin id) = pure (.type "method_descriptor")) (hN : X.N[i]? = some x := by rfl) (hv : Vis X.env.scope x := by first | exact Or.inl rfl | exact Or.inr (Or.inl rfl) | exact Or.inr (Or.inr rfl))
    (hd : (x == ("__debug__" : Str)) = false := by decide) (hcd : (x == ("__classdict__" : Str)) = false := by decide)
    (hbase : attributeBase (.Name x p) name X.env (eval (.Name x p) X.env) = eval (.Name x p) X.env := by rfl) (hline : (apos.endLine == cpos.line) = true := by rfl) :
    PX X (.Call (.Attribute (.Name x p) name apos) [] [] cpos) (fMt i o fNil) :=
  let ⟨_, h1, h2⟩ := c.ex
  PE.imp (pe_bm0 pa slot hty h1 (pe_var hN hv hd hcd) hbase hline) fun σ H Q h => by
    obtain ⟨v, q1, q2, env, W, as, env', re, e, k⟩ := mt_read h2 h
    cases e
    exact ⟨v, q1, q2, k [] H W [] re .nil (Tr.refl.less fun b z => z)⟩
def oAppend : MtO := fun xs ss => match ss with
  | [.d y] => if xs.length < sizeLine then some (.non, xs ++ [y]) else none
  | _ => none
@[simp] theorem oAppend_d {xs : List D} {y : D} : oAppend xs [.d y] = if xs.length < sizeLine then some (.non, xs ++ [y]) else none := rfl
theorem cm_append : MtOk X "list.append" oAppend := ⟨_, mt_append, fun H a vs us xs ss x ys Q e hH rs rr k => by
  unfold oAppend at e
  split at e
  · split at e
    · rename_i hz
      cases e
      obtain ⟨v, rfl, P, h⟩ := rr1 rr
      exact ⟨a, vs, v, rfl, rfl, hH, by rw [← rs.length]; exact hz, k _ _ .non (rs.append (.cons h .nil))⟩
    · cases e
  · cases e⟩
end
end QL
end

section
set_option Elab.async false
set_option linter.all false
set_option maxRecDepth 100000
set_option maxHeartbeats 4000000
namespace QL
open PySem PySem.Spec PyProof.Rows L2

/-! ### enumerate of a tuple -/
section
open AutoSeq1 (wpAny_loadPart')
theorem meets_enumB {v : Value} {o1 : Obj} {G1 : Heap → Prop} (B : Begins v o1 G1) :
    Meets (Builtin.«enumerate.__new__» ⟨[.type "enumerate", v], []⟩) (fun _ R s => G1 s.heap ∧
      R (.ok (.ret (.ref (s.heap.push o1).objs.size))) { s with heap := (s.heap.push o1).push { cls := .type "enumerate", data := .fields #[.none, .bool false, .ref s.heap.objs.size, rawInt 0, .none, .none] } }) :=
  .of_wp fun prog w A R s h => by
    obtain ⟨hp, g, d, tk, os⟩ := s
    obtain ⟨h1, h⟩ := h
    have hsub := sub_enumerate
    have q1 : ∀ {A' : Around} {E Q : Value → Shared → Prop}, Q (.ref hp.objs.size) ⟨(hp.push o1), g, d, tk, os⟩ → wpAny (model prog w) A' (pyIter v) Q E ⟨hp, g, d, tk, os⟩ :=
      fun q => B.iter prog w _ _ ⟨hp, g, d, tk, os⟩ _ h1 q
    wp_walk
    refine wpAny_stack_any fun st => wpAny_pure ?_
    split
    · rename_i c _ _ _ _ _
      cases (c == Value.type "enumerate")
      all_goals
        wp_walk using q1
        exact ⟨_, rfl, h⟩
    · wp_walk using q1
      exact ⟨_, rfl, h⟩
end
section
variable {prog : Program} {w : World} {A : Around} {E : Value → Shared → Prop} {s : Shared}
theorem call_enumT {t : Addr} {items : Array Value} {Q : Value → Shared → Prop} (ht : s.heap.IsTuple t items)
    (h : ∀ h', IsEnum h' (s.heap.objs.size + 1) s.heap.objs.size 0 .none → h'.IsTupleIter s.heap.objs.size t 0 → h'.objs.size = s.heap.objs.size + 2 →
      (∀ b o, s.heap.get? b = some o → h'.get? b = some o) → Q (.ref (s.heap.objs.size + 1)) { s with heap := h' }) : wpAny (model prog w) A (call (.type "enumerate") [.ref t]) Q E s := by
  refine callType_new F.called_enumerate (by decide) (F.typeCall_enumerate_1 _) (F.newCall_enumerate_1 _) (fun obj => F.args_object_init_2 obj _) F.entry_enumerate_new
    (meets_enumB (begins_tuple t items)) ⟨ht, ?_⟩
  generalize e1 : ({ cls := .type "tuple_iterator", data := .fields #[.ref t, .int 0 0] } : Obj) = o1
  have f1 : o1.isFreed = false := by rw [← e1]; rfl
  generalize e2 : ({ cls := .type "enumerate", data := .fields #[.none, .bool false, .ref s.heap.objs.size, rawInt 0, .none, .none] } : Obj) = o2
  have hz : (s.heap.push o1).objs.size = s.heap.objs.size + 1 := Heap.size_push ..
  have he : ((s.heap.push o1).push o2).get? (s.heap.objs.size + 1) = some o2 := by
    have := Heap.get?_push_size (s.heap.push o1) (o := o2) (by rw [← e2]; rfl)
    rw [hz] at this
    exact this
  have hi : ((s.heap.push o1).push o2).get? s.heap.objs.size = some o1 := Heap.get?_push_of_some _ (Heap.get?_push_size _ f1)
  show _ ∧ _
  rw [hz]
  rw [← e2] at he
  rw [← e1] at hi
  subst e1 e2
  exact ⟨⟨_, he, rfl⟩, h _ he ⟨_, hi, rfl, rfl⟩ (by rw [Heap.size_push, hz]) fun b o x => Heap.get?_push_of_some _ (Heap.get?_push_of_some _ x)⟩
end
def IteT (K : PySem.W.Frag) (a : Addr) : It :=
  ⟨fun i H => ∃ (xs : List V) (x : V), SqT K H a xs ∧ xs[i]? = some x, fun i H v H' => ∃ T x, v = .ref T ∧ H T = none ∧ H' = upd H T (.tup [.int (i : Nat), x]) ∧ ∀ xs, SqT K H a xs → xs[i]? = some x, fun i H => ∃ xs : List V, SqT K H a xs ∧ xs.length ≤ i⟩
theorem turn_enumT {P : Program} {w : World} {K : PySem.W.Frag} {elts : List Expr} {kk : Nat} {tpos : Pos} (a e it : Addr) :
    Turn P w K (.Tuple elts kk tpos) (IteT K a) [e, it] e (fun i h => (∃ old, IsEnum h e it ((i : Nat) : Int) old) ∧ h.IsTupleIter it a i ∧ e ≠ it ∧ a ≠ it ∧ e ≠ a) where
  mem := by simp
  obj := fun i h st b hb => by
    obtain ⟨⟨old, he⟩, ⟨o, ho, hc, hd⟩, _⟩ := st
    rcases (by simpa using hb : b = e ∨ b = it) with z | z
    · subst z
      exact ⟨_, he, fun v q => nomatch q⟩
    · subst z
      exact ⟨o, ho, fun v q => by rw [hd] at q; cases q⟩
  keep := fun i h h' st k => let ⟨⟨old, he⟩, hi, hne⟩ := st; ⟨⟨old, k e (by simp) _ he⟩, hi.at fun o q => k it (by simp) o q, hne⟩
  item := by
    intro X hP hw hK hc i pins s σ H E I hf st hg
    subst hP hw hK
    obtain ⟨⟨old, he⟩, hit, hne, hai, hea⟩ := st
    obtain ⟨xs, x, hq, hx⟩ := hg
    obtain ⟨its, rv, tp, hz⟩ := I.tuple hq
    obtain ⟨u, hu, ru⟩ := rv.get hx
    have hel : e < s.heap.objs.size := Heap.lt_size he
    have hil : it < s.heap.objs.size := by obtain ⟨_, q, _⟩ := hit; exact Heap.lt_size q
    have tpl : s.heap.IsTuple a its.toArray := tp
    have hlt : i < its.toArray.size := by
      have := (List.getElem?_eq_some_iff.mp hu).1
      simpa using this
    refine wpAny_pyNext_enum_itemD (Draws.tuple (A := X.A.in1) (I.ok.hd hc) it a hai its.toArray) he ⟨hit, tpl⟩ hlt hne (by simp [hne, hea]) fun y h' tk hy ho hst' hT hsz hk => ?_
    have ey : y = u := by
      have hu' : its.toArray[i]? = some u := by simpa using hu
      rw [hu'] at hy
      exact (Option.some.inj hy).symm
    subst ey
    refine ⟨_, rfl, wpAny_letOwnedTupleGo_enum (s := { s with heap := h', toks := tk + 1 }) ho fun h2 he' sb => ?_⟩
    have hT2 : h2.get? s.heap.objs.size = some { cls := .type "tuple", data := .seq #[.int i tk, y] } := (sb.2 _ (Nat.ne_of_gt hel)).trans hT
    have new : ObjOk X.prog X.w (upd H s.heap.objs.size (.tup [.int (i : Nat), x])) h2 s.heap.objs.size (.tup [.int (i : Nat), x]) :=
      ⟨(by show 2 ≤ sizeLine; decide), [.int i tk, y], .cons ⟨_, rfl⟩ (.cons ru .nil), ⟨_, hT2, rfl, _, rfl⟩⟩
    have I1 : Inv X pins σ (upd H s.heap.objs.size (.tup [.int (i : Nat), x])) { s with heap := h2, toks := tk + 1 } :=
      I.turnedNew (ch := [e, it]) (fun b ob hb q => (sb.2 b (fun z => hb (by simp [z]))).trans (hk b ob (fun z => hb (by simp [z])) (fun z => hb (by simp [z])) q)) hf (Nat.le_refl _) new
    refine ⟨.ref s.heap.objs.size, _, I1, rfl, ⟨_, x, rfl, I.hok.fresh (Nat.le_refl _), rfl, fun ys hy => by rw [I.tuple_inj hy hq]; exact hx⟩, ⟨⟨y, ?_⟩, hst'.1.at fun o q => (sb.2 it (Ne.symm hne)).trans q, hne, hai, hea⟩, fun b hb => ?_⟩
    · rw [show ((i + 1 : Nat) : Int) = (i : Int) + 1 by omega]
      exact he'
    · have hb' : b < s.heap.objs.size := by
        rcases (by simpa using hb : b = e ∨ b = it) with z | z
        · rw [z]; exact hel
        · rw [z]; exact hil
      rw [upd_ne (Nat.ne_of_lt hb')]
      exact (hf b hb).1
  done := by
    intro X hP hw hK hc i pins s σ H E I hf st hg
    subst hP hw hK
    obtain ⟨⟨old, he⟩, hit, hne, hai, hea⟩ := st
    obtain ⟨xs, hq, hx⟩ := hg
    obtain ⟨its, rv, tp, hz⟩ := I.tuple hq
    obtain ⟨f0, f1, f2, f3, f4, f5⟩ := hf it (by simp)
    have hl := rv.length
    have tpl : s.heap.IsTuple a its.toArray := tp
    exact wpAny_pyNext_enum_endD (St := fun j h => (j = its.toArray.size ∧ h.IsTupleIter it a i ∧ h.IsTuple a its.toArray)) (n := its.toArray.size) (P := fun _ _ => True) (fp := [it, a])
      { live := fun _ _ st => let ⟨o, ho, _⟩ := st.2.1; ⟨o, ho⟩
        frame := fun _ _ _ st hk => ⟨st.1, st.2.1.at fun o e => hk it (by simp) o e, st.2.2.at fun o e => hk a (by simp) o e⟩
        item := fun j s Q E hi st _ => absurd hi (by rw [st.1]; exact Nat.lt_irrefl _)
        done := fun s Q E st hE => wpAny_nextOf_tuple_end (I.ok.hd hc) st.2.1 st.2.2 (by simp; omega) hE } he ⟨rfl, hit, tpl⟩ fun h' eb => ⟨rfl, I.turned (t' := s.toks) (fun b o hb q => eb b o hb q) f0 f1 f3 f4 f5⟩
  self := fun A i s Q E st h => let ⟨⟨_, he⟩, _⟩ := st; wpAny_pyIter_enum he h
def iEnumA (K : PySem.W.Frag) (ta : TA) : TI := fun σ H R => ta σ H fun vs H1 => ∃ a, vs = [.ref a] ∧ (((∃ xs, SqL K H1 a xs) ∧ R (Ite K a) H1) ∨ ((∃ xs, SqT K H1 a xs) ∧ R (IteT K a) H1))
section
variable {X : Cx} {e : Expr} {ta : TA} {p pos tpos : Pos} {elts : List Expr} {kk : Nat}
theorem pi_enumA (hg : Gl X "enumerate") (hm : X.mg "enumerate" = none) (ha : PA X [e] ta) (hs : starEach [e] X.env = [(false, eval e X.env)] := by rfl) :
    PI X (.Tuple elts kk tpos) (.Call (.Name "enumerate" p) [e] [] pos) (iEnumA X.K ta) := by
  refine ⟨fun pins s σ H R I h' => ?_⟩
  refine Call_ (ld_blt I hg hm boot_enumerate (PyProof.Rows.callWith_type1 (thn (ha.run pos pins s σ H _ I h') fun us s1 ⟨vs, H1, I1, r1, q1⟩ => ?_) hs rfl))
  obtain ⟨a, ex, q1⟩ := q1
  subst ex
  rw [Vals.ref1 r1]
  rcases q1 with ⟨⟨xs, hq⟩, q⟩ | ⟨⟨xs, hq⟩, q⟩
  · obtain ⟨its, rv, p', hz⟩ := I1.list hq
    refine call_enumerate_list p'.isList fun h' he hit hsz hk => wpAny_pyIter_enum he ?_
    refine ⟨s1.heap.objs.size + 1, [s1.heap.objs.size + 1, s1.heap.objs.size], _, _, H1, rfl, I1.kept (t' := s1.toks) hk, turn_enum a (s1.heap.objs.size + 1) s1.heap.objs.size, ⟨⟨.none, he⟩, hit, Nat.succ_ne_self _⟩, fun b hb => ?_, q⟩
    have hle : s1.heap.objs.size ≤ b := by
      rcases (by simpa using hb : b = s1.heap.objs.size + 1 ∨ b = s1.heap.objs.size) with z | z
      · rw [z]; exact Nat.le_succ _
      · rw [z]; exact Nat.le_refl _
    exact I1.fpOk hle (I1.hok.fresh hle)
  · obtain ⟨its, rv, tp, hz⟩ := I1.tuple hq
    have hal : a < s1.heap.objs.size := by obtain ⟨o, e, _⟩ := tp; exact Heap.lt_size e
    refine call_enumT (show s1.heap.IsTuple a its.toArray from tp) fun h' he hit hsz hk => wpAny_pyIter_enum he ?_
    refine ⟨s1.heap.objs.size + 1, [s1.heap.objs.size + 1, s1.heap.objs.size], _, _, H1, rfl, I1.kept (t' := s1.toks) hk, turn_enumT a (s1.heap.objs.size + 1) s1.heap.objs.size, ⟨⟨.none, he⟩, hit, Nat.succ_ne_self _, Nat.ne_of_lt hal, Nat.ne_of_gt (Nat.lt_succ_of_lt hal)⟩, fun b hb => ?_, q⟩
    have hle : s1.heap.objs.size ≤ b := by
      rcases (by simpa using hb : b = s1.heap.objs.size + 1 ∨ b = s1.heap.objs.size) with z | z
      · rw [z]; exact Nat.le_succ _
      · rw [z]; exact Nat.le_refl _
    exact I1.fpOk hle (I1.hok.fresh hle)
/-- number and item, in pairs -/
def pairsE : Nat → List D → List D
  | _, [] => []
  | k, x :: xs => .tup [.int k, x] :: pairsE (k + 1) xs
@[simp] theorem pairsE_nil {k : Nat} : pairsE k [] = [] := rfl
theorem pairsE_cons {k : Nat} {x : D} {xs : List D} : pairsE k (x :: xs) = .tup [.int k, x] :: pairsE (k + 1) xs := rfl
theorem pairsE_length : ∀ {k : Nat} {xs : List D}, (pairsE k xs).length = xs.length
  | _, [] => rfl
  | k, x :: xs => by rw [pairsE_cons, List.length_cons, List.length_cons, pairsE_length]
theorem pairsE_at : ∀ {xs : List D} {k i : Nat} {x : D}, xs[i]? = some x → (pairsE k xs)[i]? = some (.tup [.int (k + i : Nat), x])
  | [], _, i, _, h => by simp at h
  | y :: ys, k, 0, x, h => by
    simp at h
    subst h
    rfl
  | y :: ys, k, i + 1, x, h => by
    rw [pairsE_cons, List.getElem?_cons_succ, pairsE_at (k := k + 1) (by simpa using h)]
    rw [show k + 1 + i = k + (i + 1) by omega]
def itEn1 (as : List Arg) (e : En) : Option (List D × En) := match as with
  | [a] => itK ((itemsA a e).map (pairsE 0)) e
  | _ => none
@[simp] theorem itEn1_one {a : Arg} {e : En} : itEn1 [a] e = itK ((itemsA a e).map (pairsE 0)) e := rfl
def itEn (fs : Fn1 (List Arg)) : Fn1 (List D) := fun e => bnd (fs e) itEn1
theorem pair_rd {K : PySem.W.Frag} {H : Hp} {T : Addr} {i : Nat} {v : V} {x : D} (n : H T = none) (r : RD K H x v) : RD K (upd H T (.tup [.int (i : Nat), v])) (.tup [.int (i : Nat), x]) (.ref T) :=
  .tup (SqT.of upd_same) (.cons (.int _) (.cons (RD.pst (Same.pst (same_new n)) r) .nil))
theorem walkD_en {K : PySem.W.Frag} {a : Addr} {vs : List V} {xs : List D} {H0 : Hp} {σ : Sl} {env : En} {W0 : Ow} (r : RE K H0 σ env W0) (h : ∀ H, Gd H0 W0 H → SqL K H a vs) (rs : RDs K H0 xs vs) : WalkD K (Ite K a) (pairsE 0 xs) H0 W0 := by
  refine ⟨_, (by rw [pairsE_length, rs.length]; exact walk_enum.mono h (fun i H x H' _ _ y => y) : Walk (Ite K a) (pairsE 0 xs).length (Gd H0 W0) _), fun i H x H' hi g y => ?_⟩
  obtain ⟨T, x1, x2, rfl, nT, rfl, e1, e2⟩ := y
  cases e1
  obtain ⟨d, h1, h2⟩ := rs.getV e2
  exact ⟨same_new nT, _, pairsE_at h1, by rw [Nat.zero_add]; exact pair_rd nT (RD.pst (Gd.pst r g) h2)⟩
theorem walkD_enT {K : PySem.W.Frag} {a : Addr} {vs : List V} {xs : List D} {H0 : Hp} {σ : Sl} {env : En} {W0 : Ow} (r : RE K H0 σ env W0) (h : SqT K H0 a vs) (rs : RDs K H0 xs vs) : WalkD K (IteT K a) (pairsE 0 xs) H0 W0 := by
  have hl : (pairsE 0 xs).length = vs.length := by rw [pairsE_length, rs.length]
  refine ⟨fun i H v H' => ∃ T x, v = .ref T ∧ H T = none ∧ H' = upd H T (.tup [.int (i : Nat), x]) ∧ vs[i]? = some x, ⟨fun i H hi g => ?_, fun H g => ⟨vs, (Gd.pst r g).seq h, by omega⟩, fun i H x H' hi g y => ?_⟩, fun i H x H' hi g y => ?_⟩
  · have hi' : i < vs.length := by omega
    exact ⟨vs, vs[i], (Gd.pst r g).seq h, List.getElem?_eq_getElem hi'⟩
  · obtain ⟨T, x1, e1, nT, e2, f⟩ := y
    exact ⟨T, x1, e1, nT, e2, f vs ((Gd.pst r g).seq h)⟩
  · obtain ⟨T, x1, rfl, nT, rfl, e2⟩ := y
    obtain ⟨d, h1, h2⟩ := rs.getV e2
    exact ⟨same_new nT, _, pairsE_at h1, by rw [Nat.zero_add]; exact pair_rd nT (RD.pst (Gd.pst r g) h2)⟩
theorem qi_enum {fa : Fn1 Arg} (hg : Gl X "enumerate") (hm : X.mg "enumerate" = none) (ha : PXA X [e] (fCons fa fNil)) (hs : starEach [e] X.env = [(false, eval e X.env)] := by rfl) :
    PXI X (.Tuple elts kk tpos) (.Call (.Name "enumerate" p) [e] [] pos) (itEn (fCons fa fNil)) := PI.imp (pi_enumA hg hm ha hs) fun σ H R h => by
  obtain ⟨env, W, xs, env', re, e, k⟩ := h
  obtain ⟨as, env1, ea, e⟩ := bnd_eq e
  refine ⟨env, W, as, env1, re, ea, fun vs H1 W1 Fs r1 ras t => ?_⟩
  obtain ⟨a, e1, ea1, ea⟩ := bnd_eq ea
  obtain ⟨as', e2, ea2, ea⟩ := bnd_eq ea
  cases ea2
  cases ea
  cases ras with
  | cons ra tm d ras =>
    cases ras
    rw [itEn1_one] at e
    cases q : itemsA a env1 with
    | none => rw [q] at e; cases e
    | some ds =>
      rw [q] at e
      cases e
      obtain ⟨p, ws, ev, rs, q2⟩ := items_read r1 ra tm q
      refine ⟨p, by rw [ev], ?_⟩
      have t0 := t.less (G := F0) fun _ z => z.elim
      rcases q2 with q2 | q2
      · exact .inl ⟨⟨ws, q2 H1 fun _ _ e _ => e⟩, k _ H1 W1 r1 t0 (walkD_en r1 q2 rs)⟩
      · exact .inr ⟨⟨ws, q2⟩, k _ H1 W1 r1 t0 (walkD_enT r1 q2 rs)⟩
end

/-! ### range downwards -/
def dwnL (hi : Int) (n : Nat) : List D := (List.range n).map fun (k : Nat) => D.int (hi + (k : Int) * (-1))
theorem dwnL_at {lo : Int} {n i : Nat} (h : i < n) : (dwnL lo n)[i]? = some (D.int (lo + (i : Int) * (-1))) := by
  unfold dwnL
  rw [List.getElem?_map, List.getElem?_range h]
  rfl
theorem dwnL_length {lo : Int} {n : Nat} : (dwnL lo n).length = n := by unfold dwnL; simp
def dwnK : Option (List S) → Option (List D)
  | some [.d (.int i), .d (.int j), .d (.int c)] => if smallI i = true ∧ smallI j = true ∧ c = -1 then some (dwnL i (i - j).toNat) else none
  | _ => none
@[simp] theorem dwnK_3 {i j c : Int} : dwnK (some [.d (.int i), .d (.int j), .d (.int c)]) = if smallI i = true ∧ smallI j = true ∧ c = -1 then some (dwnL i (i - j).toNat) else none := rfl
def itDwn1 (as : List Arg) (e : En) : Option (List D × En) := itK (dwnK (gets as e)) e
def itDwn (fs : Fn1 (List Arg)) : Fn1 (List D) := fun e => bnd (fs e) itDwn1
theorem walkD_dwn {K : PySem.W.Frag} {lo : Int} {n : Nat} {H0 : Hp} {W0 : Ow} : WalkD K (Itc lo (-1) n) (dwnL lo n) H0 W0 := by
  refine ⟨_, (by rw [dwnL_length]; exact walk_rangeC.mono (fun _ _ => trivial) (fun i H x H' _ _ y => y) : Walk (Itc lo (-1) n) (dwnL lo n).length (Gd H0 W0) (YFn fun i => .int (lo + (i : Nat) * (-1)))), fun i H x H' hi g y => ?_⟩
  obtain ⟨e, hx⟩ := y
  subst e hx
  rw [dwnL_length] at hi
  exact ⟨Same.refl _, _, dwnL_at hi, .int _⟩
/-- three arguments, read -/
theorem rr3 {K : PySem.W.Frag} {H : Hp} {s s' s'' : S} {vs : List V} (h : RR K H [s, s', s''] vs) : ∃ v v' v'', vs = [v, v', v''] ∧ Rd1 K H s v ∧ Rd1 K H s' v' ∧ Rd1 K H s'' v'' := by
  cases h with
  | cons h t => cases t with
    | cons h' t' => cases t' with
      | cons h'' t'' => cases t''; exact ⟨_, _, _, rfl, h, h', h''⟩
section
variable {X : Cx} {tg a b c : Expr} {fs : Fn1 (List Arg)} {p pos : Pos}
theorem qi_dwn (hg : Gl X "range") (hm : X.mg "range" = none) (ha : PXA X [a, b, c] fs)
    (hs : starEach [a, b, c] X.env = (false, eval a X.env) :: starEach [b, c] X.env := by rfl) (hpl : (backTo pos (starEach [b, c] X.env)).any (·.1) = false := by rfl) :
    PXI X tg (.Call (.Name "range" p) [a, b, c] [] pos) (itDwn fs) := PI.imp (pi_range3 hg hm ha hs hpl) fun σ H R h => by
  obtain ⟨env, W, xs, env', re, e, k⟩ := h
  obtain ⟨as, env1, ea, e⟩ := bnd_eq e
  unfold itDwn1 itK at e
  split at e
  · rename_i xs' hx
    cases e
    refine ⟨env, W, as, _, re, ea, fun vs H1 W1 Fs r1 ras t => ?_⟩
    unfold dwnK at hx
    split at hx
    · rename_i i j c heq
      split at hx
      · rename_i hsm
        cases hx
        obtain ⟨s1, s2, s3⟩ := hsm
        have h1 : -(2 ^ 62) ≤ i ∧ i < 2 ^ 62 := of_decide_eq_true s1
        have h2 : -(2 ^ 62) ≤ j ∧ j < 2 ^ 62 := of_decide_eq_true s2
        obtain ⟨v, v', v'', rfl, q1, q2, q3⟩ := rr3 (ras.read r1 heq)
        subst s3
        exact ⟨i, j, -1, (i - j).toNat, by rw [rd_int q1, rd_int q2, rd_int q3], RgC.neg h1.1 h1.2 h2.1 h2.2, k _ H1 W1 r1 (t.less fun _ z => z.elim) walkD_dwn⟩
      · cases hx
    · cases hx
  · cases e
end
end QL
end

section
set_option Elab.async false
set_option linter.all false
set_option maxRecDepth 100000
set_option maxHeartbeats 4000000
namespace QL
open PySem PySem.Spec PyProof.Rows L2

/-! ### reversed -/
section
variable {prog : Program} {w : World} {A : Around} {E : Value → Shared → Prop} {s : Shared}
theorem adjust_down (n : Nat) : Builtin.Slice.sliceAdjust none none (-1) (n : Int) = ((n : Int) - 1, -1) := rfl
theorem places_down (n : Nat) : Builtin.Slice.slicePlaces ((n : Int) - 1) (-1) (-1) = n := by
  unfold Builtin.Slice.slicePlaces
  rw [if_neg (by decide)]
  by_cases h : n = 0
  · subst h; rfl
  · rw [if_pos (by omega)]
    have e : (((n : Int) - 1) - -1 - 1) / (- -1) = (n : Int) - 1 := by
      rw [show (- -1 : Int) = 1 by decide, Int.ediv_one]
      omega
    rw [e]
    omega
theorem filterMap_some {α β : Type} (f : α → Option β) (g : α → β) : ∀ l : List α, (∀ k ∈ l, f k = some (g k)) → l.filterMap f = l.map g
  | [], _ => rfl
  | a :: l, h => by
    rw [List.filterMap_cons, h a List.mem_cons_self, List.map_cons, filterMap_some f g l fun k hk => h k (List.mem_cons_of_mem _ hk)]
theorem pick_down (xs : Array Value) : ((List.range xs.size).filterMap fun (k : Nat) => xs[(((xs.size : Int) - 1) + (k : Int) * (-1)).toNat]?).toArray = xs.toList.reverse.toArray := by
  congr 1
  rw [filterMap_some _ (fun k => xs.toList.reverse.getD k .none) _ fun k hk => ?_]
  · refine List.ext_getElem? fun i => ?_
    rw [List.getElem?_map]
    by_cases h : i < xs.size
    · rw [List.getElem?_range h]
      have : i < xs.toList.reverse.length := by simpa using h
      rw [List.getElem?_eq_getElem this]
      simp [List.getD_eq_getElem?_getD, List.getElem?_eq_getElem this]
    · rw [List.getElem?_eq_none (by simpa using h), List.getElem?_eq_none (by simpa using h)]
      rfl
  · have hk : k < xs.size := List.mem_range.mp hk
    have e1 : (((xs.size : Int) - 1) + (k : Int) * (-1)).toNat = xs.size - 1 - k := by omega
    rw [e1, List.getD_eq_getElem?_getD, List.getElem?_reverse (by simpa using hk)]
    have h2 : xs.size - 1 - k < xs.size := by omega
    rw [Array.getElem?_eq_getElem h2]
    simp [h2]
theorem applied_down {sl : Addr} {vl vu vs : Value} {n : Nat} {Q : Int × Int × Nat → Shared → Prop} (hs : s.heap.IsSliceOf sl vl vu vs) (pl : IsPart vl none) (pu : IsPart vu none) (ps : IsPart vs (some (-1)))
    (h : Q ((n : Int) - 1, -1, n) s) : wpAny (model prog w) A (Builtin.Slice.sliceApplied (.ref sl) (pure (n : Int))) Q E s := by
  obtain ⟨os, hos, hcs, hds⟩ := id hs
  unfold Builtin.Slice.sliceApplied Builtin.Slice.sliceFields
  refine wpAny_bind (wpAny_bind (wpAny_field hos hds (x := vl) rfl (wpAny_bind (wpAny_field hos hds (x := vu) rfl (wpAny_bind (wpAny_field hos hds (x := vs) rfl (wpAny_pure ?_)))))))
  refine wpAny_bind (HT.slicePart_ ps ?_)
  show wpAny _ _ (if ((-1 : Int) == 0) = true then _ else _) _ _ s
  rw [if_neg (by decide)]
  refine wpAny_bind (HT.slicePart_ pl (wpAny_bind (HT.slicePart_ pu (wpAny_bind (wpAny_pure ?_)))))
  show wpAny _ _ (match Builtin.Slice.sliceAdjust none none (-1) (n : Int) with | (lo, hi) => pure (lo, (-1 : Int), Builtin.Slice.slicePlaces lo hi (-1))) _ _ s
  rw [adjust_down]
  show wpAny _ _ (pure ((n : Int) - 1, (-1 : Int), Builtin.Slice.slicePlaces ((n : Int) - 1) (-1) (-1))) _ _ s
  rw [places_down]
  exact wpAny_pure h
theorem tuple_down {t sl : Addr} {items : Array Value} {vl vu vs : Value} {Q : Value → Shared → Prop} (ht : IsTup s.heap t items) (hs : s.heap.IsSliceOf sl vl vu vs) (pl : IsPart vl none) (pu : IsPart vu none) (ps : IsPart vs (some (-1)))
    (h : Q (.ref s.heap.objs.size) { s with heap := s.heap.push { cls := .type "tuple", data := .seq items.toList.reverse.toArray } })
    (hsz : items.size ≤ sizeLine) : wpAny (model prog w) A (getItem (.ref t) (.ref sl)) Q E s := by
  have hok : sizeOk (.seq items.toList.reverse.toArray) := by
    show items.toList.reverse.toArray.size ≤ sizeLine
    simpa using hsz
  obtain ⟨os, hos, hcs, hds⟩ := id hs
  have hT : s.TypeIs (.ref sl) "slice" := ⟨os, hos, hcs⟩
  unfold getItem
  try with_reducible refine wpAny_holding ?_
  first | refine wpAny_bind (wpAny_pure ?_) | skip
  refine wpAny_bind (wpAny_sequenceKey ht.typeIs (by decide) ?_)
  refine wpAny_bind (wpAny_callSpecial?_slot (name := Str.ofString "__getitem__") ht.typeIs PyProof.Rows.slot_tuple_getitem
    (wpAny_call_entry PyProof.Rows.slot_tuple_getitem ht.typeIs entry_tuple_getitem ?_ (args_tuple_getitem _ _)))
  show wpAny _ _ (Builtin.Tuple.tupleItemsOf (.ref t) >>= _) _ _ s
  refine wpAny_bind (tupleItemsOf_ ht ?_)
  refine wpAny_bind (wpAny_typeOf hT ?_)
  rw [if_pos (by decide)]
  refine wpAny_bind (applied_down hs pl pu ps ?_)
  have hno : ¬ (((items.size : Int) - 1 == 0 && (-1 : Int) == 1 && items.size == items.size) = true) := by
    intro q
    rw [Bool.and_eq_true, Bool.and_eq_true] at q
    exact absurd q.1.2 (by decide)
  show wpAny _ _ (if ((items.size : Int) - 1 == 0 && (-1 : Int) == 1 && items.size == items.size) = true then _ else _) _ _ s
  rw [if_neg hno, pick_down]
  first
    | exact wpAny_bind (m := Builtin.Tuple.tupleExact _) (wpAny_newObj_type (wpAny_pure ⟨_, rfl, wpAny_pure h⟩) hok)
    | exact wpAny_bind (m := Builtin.Tuple.tupleExact _) (wpAny_newObj_type (wpAny_bind (wpAny_pure (wpAny_pure ⟨_, rfl, wpAny_pure h⟩))) hok)
    | exact wpAny_bind (wpAny_bind (m := Builtin.Tuple.tupleExact _) (wpAny_newObj_type (wpAny_pure (wpAny_pure ⟨_, rfl, wpAny_pure h⟩)) hok))
    | exact wpAny_bind (wpAny_bind (m := Builtin.Tuple.tupleExact _) (wpAny_newObj_type (wpAny_pure ⟨_, rfl, wpAny_pure h⟩) hok))
end
def rRev (K : PySem.W.Frag) : V → Hp → VK → Prop := fun x H Q => ∃ a xs, x = .ref a ∧ ((SqL K H a xs ∧ ∀ p, H p = none → Q (.ref p) (upd H p (.lst xs.reverse))) ∨ (SqT K H a xs ∧ ∀ p, H p = none → Q (.ref p) (upd H p (.tup xs.reverse))))
section
variable {X : Cx} {e : Expr} {te : TE} {k : Nat} {p1 p2 p3 pos : Pos}
theorem pe_revA (he : PE X e te) : PE X (.Subscript e (.Slice none none (some (.UnaryOp .USub (.Constant (.int 1) k p1) p2)) p3) pos) (fun σ H Q => te σ H fun x H1 => rRev X.K x H1 Q) := by
  refine ⟨fun pins s σ H Q I h => ?_⟩
  refine Subscript_ (thn (he.run pins s σ H _ I h) fun v s1 ⟨x, H1, I1, r1, q1⟩ => ?_)
  obtain ⟨a, xs, ex, q1⟩ := q1
  subst ex
  cases r1
  have hst : PO X (some (.UnaryOp .USub (.Constant (.int 1) k p1) p2)) (tPart (tUn (rU fun i => .int (-i)) (tC (.int 1)))) := po_some (pe_un un_neg pe_int)
  refine wpAny_Slice (thn (po_none.run pins s1 σ H1 (fun o H2 => o = none ∧ H2 = H1) I1 ⟨rfl, rfl⟩) fun vl s2 ⟨l, H2, I2, pl, el, e2⟩ => ?_)
  subst el e2
  refine thn (po_none.run pins s2 σ H2 (fun o H3 => o = none ∧ H3 = H2) I2 ⟨rfl, rfl⟩) fun vu s3 ⟨u, H3, I3, pu, eu, e3⟩ => ?_
  subst eu e3
  refine thn (hst.run pins s3 σ H3 (fun o H4 => o = some (-1) ∧ H4 = H3) I3 ⟨1, rfl, -1, rfl, rfl, rfl⟩) fun vs s4 ⟨o, H4, I4, ps, eo, e4⟩ => ?_
  subst eo e4
  have I5 : Inv X pins σ H4 { s4 with heap := s4.heap.push { cls := .type "slice", data := .fields #[vl, vu, vs] } } := I4.kept (t' := s4.toks) fun b ob q => Heap.get?_push_of_some _ q
  show wpAny (model X.prog X.w) X.A (subscriptTail e (.Slice none none (some (.UnaryOp .USub (.Constant (.int 1) k p1) p2)) p3) (.ref a) (.ref s4.heap.objs.size)) (EP X pins σ Q) X.xe { s4 with heap := s4.heap.push { cls := .type "slice", data := .fields #[vl, vu, vs] } }
  rcases q1 with ⟨hx, q⟩ | ⟨hx, q⟩
  · obtain ⟨its, r, ht, hz⟩ := I5.list hx
    have hlen := r.length
    refine tail_any (ops := [.ref a, .ref s4.heap.objs.size]) ht.isList.typeIs (PySem.slot_list_getitem.lookup) ?_ (by with_unfolding_all rfl)
    refine wpAny_getItem_list_slice ht.isList (Heap.IsSliceOf.new _ vl vu vs) pl pu ps (by decide) ?_ (by rw [List.size_toArray]; omega)
    rw [PySem.W.krv_pick]
    exact ⟨.ref _, _, I5.laid (t' := s4.toks) (o := .lst xs.reverse) (fun b ob q => Heap.get?_push_of_some _ q) (Nat.le_refl _) ⟨by rw [List.length_reverse]; exact hz, _, 0, r.reverse, Heap.get?_push_size _ rfl⟩, rfl, q _ (I5.hok.fresh (Nat.le_refl _))⟩
  · obtain ⟨its, r, ht, hz⟩ := I5.tuple hx
    have hlen := r.length
    refine tail_any (ops := [.ref a, .ref s4.heap.objs.size]) ht.typeIs (PyProof.Rows.slot_tuple_getitem.lookup) ?_ (by with_unfolding_all rfl)
    refine tuple_down ht (Heap.IsSliceOf.new _ vl vu vs) pl pu ps ?_ (by rw [List.size_toArray]; omega)
    exact ⟨.ref _, _, I5.laid (t' := s4.toks) (o := .tup xs.reverse) (fun b ob q => Heap.get?_push_of_some _ q) (Nat.le_refl _) ⟨by rw [List.length_reverse]; exact hz, _, r.reverse, ⟨_, Heap.get?_push_size _ rfl, rfl, _, rfl⟩⟩, rfl, q _ (I5.hok.fresh (Nat.le_refl _))⟩
def oRev : S → Option S
  | .d (.tup ds) => some (.d (.tup ds.reverse))
  | .m (.lst ds) => some (.m (.lst ds.reverse))
  | .lk (.lst ds) => some (.m (.lst ds.reverse))
  | _ => none
@[simp] theorem oRev_tup {ds : List D} : oRev (.d (.tup ds)) = some (.d (.tup ds.reverse)) := rfl
@[simp] theorem oRev_lst {ds : List D} : oRev (.m (.lst ds)) = some (.m (.lst ds.reverse)) := rfl
@[simp] theorem oRev_lk {ds : List D} : oRev (.lk (.lst ds)) = some (.m (.lst ds.reverse)) := rfl
theorem qx_rev {fa : Fn1 Arg} (he : PX X e fa) : PX X (.Subscript e (.Slice none none (some (.UnaryOp .USub (.Constant (.int 1) k p1) p2)) p3) pos) (fUn oRev fa) := PE.imp (pe_revA he) fun σ H Q h => un_read (r := rRev X.K) (fun H x sx s Q e hx f => by
  unfold oRev at e
  split at e
  · cases e
    obtain ⟨a, vs, rfl, sq, rs⟩ := rd_tup hx
    exact ⟨a, vs, rfl, .inr ⟨sq, fun p hp => f.tup rs.reverse hp⟩⟩
  · cases e
    obtain ⟨a, vs, rfl, sq, rs⟩ := rd_lst hx
    exact ⟨a, vs, rfl, .inl ⟨SqL.of sq, fun p hp => f.lst rs.reverse hp⟩⟩
  · cases e
    obtain ⟨a, vs, rfl, sq, rs⟩ := rd_lk hx
    exact ⟨a, vs, rfl, .inl ⟨sq.sq, fun p hp => f.lst rs.reverse hp⟩⟩
  · cases e) h
end

/-! ### list.extend by a tuple -/
section
open AutoSeq1
theorem extend_tupG (l : Addr) (items : Array Value) (n : Nat) (b : Addr) (items2 : Array Value) (n2 : Nat) (dd : Option Addr) (sl : Array (Option Value)) (hs0 : ¬(!items.isEmpty && Builtin.List.listTooLong (items.size + items2.size)) = true) (hs1 : items.size ≤ sizeLine) (hs2 : items.size + items2.size ≤ sizeLine + 1) :
    Meets (Builtin.«list.extend» ⟨[.ref l, .ref b], []⟩) (fun _ R s => s.heap.get? l = some { cls := .type "list", dict := none, data := .seq items n, slots := #[] } ∧ s.heap.get? b = some { cls := .type "tuple", dict := dd, data := .seq items2 n2, slots := sl } ∧
      R (.ok (.ret Value.none)) { s with heap := s.heap.update l (Obj.mapSeq fun x => x ++ items2), toks := s.toks }) :=
  .of_wp fun prog w A R s h => by
    obtain ⟨hp, g, d, tk, os⟩ := s
    obtain ⟨hl, hb, h⟩ := h
    have f1 := idx_int
    have f2 := AutoSeq1.sub_tuple_tuple
    have f3 := AutoSeq1.sub_list_list
    have f4 := AutoSeq1.sub_tuple_list
    have f5 := AutoSeq1.sub_list_tuple
    have hz' : (items ++ items2).size ≤ sizeLine + 1 := by
      rw [Array.size_append]
      exact hs2
    wp_walk using (wpAny_updateSeq hl rfl (hz := hs1) (_hz' := hz')), wpAny_loadPart' hl, wpAny_loadPart' hb
    exact ⟨_, rfl, h⟩
end
def rExtT (K : PySem.W.Frag) : V → List V → Hp → VK → Prop := fun x vs H Q => ∃ l b xs zs, x = .ref l ∧ vs = [.ref b] ∧ H l = some (.lst xs) ∧ SqT K H b zs ∧ xs.length + zs.length ≤ sizeLine ∧ Q .non (upd H l (.lst (xs ++ zs)))
section
variable {X : Cx}
theorem mt_extT : L2.MtR X "list.extend" (rExtT X.K) := by
  intro pins s σ H x vs v us Q I rx rv h
  obtain ⟨l, b, xs, zs, rfl, rfl, hH, hB, hz, q⟩ := h
  cases rx
  rw [Vals.ref1 rv]
  obtain ⟨z, its, n, r, hl, e⟩ := I.lstM hH
  obtain ⟨its2, r2, ⟨⟨c2, dd, dt, sl⟩, e2, hc2, n2, hd2⟩, z2⟩ := I.tuple hB
  simp only at hc2 hd2
  subst hc2 hd2
  have hl2 := r2.length
  have hsz : its.toArray.size + its2.toArray.size ≤ sizeLine := by rw [List.size_toArray, List.size_toArray]; omega
  have hlong : ¬ (!its.toArray.isEmpty && Builtin.List.listTooLong (its.toArray.size + its2.toArray.size)) = true := by
    rw [notLongL hsz, Bool.and_false]
    decide
  refine call_meets F.slot_list_extend ⟨_, e, rfl⟩ F.entry_list_extend (F.args_list_extend_2 _ _)
    (extend_tupG l its.toArray n b its2.toArray n2 dd sl hlong (by rw [List.size_toArray]; omega) (by omega)) ⟨e, e2, ?_⟩
  refine ⟨.non, _, I.lset (its' := its ++ its2) hH e (by simp) (r.append r2) ?_, rfl, q⟩
  rw [List.length_append]
  omega
/-- by a tuple, or by a list of another place -/
def oExtT : MtO := fun xs ss => match ss with
  | [.d (.tup ys)] => if xs.length + ys.length ≤ sizeLine then some (.non, xs ++ ys) else none
  | _ => none
@[simp] theorem oExtT_tup {xs ys : List D} : oExtT xs [.d (.tup ys)] = if xs.length + ys.length ≤ sizeLine then some (.non, xs ++ ys) else none := rfl
theorem cm_extT : MtOk X "list.extend" oExtT := ⟨_, mt_extT, fun H a vs us xs ss x ys Q e hH rs rr k => by
  unfold oExtT at e
  split at e
  · split at e
    · rename_i hz
      cases e
      obtain ⟨v, rfl, h⟩ := rr1 rr
      obtain ⟨b, ws, rfl, sq, rs2⟩ := rd_tup h
      exact ⟨a, b, vs, ws, rfl, rfl, hH, sq, by rw [← rs.length, ← rs2.length]; exact hz, k _ _ .non (rs.append rs2)⟩
    · cases e
  · cases e⟩

/-! ### a, b = x, y -/
def parK (i j : Nat) (ss : Option (List S)) (e : En) : Option Res := match ss with
  | some [.d x, .d y] => some (.nx ((e.set i (some (.d x))).set j (some (.d y))))
  | _ => none
@[simp] theorem parK_d {i j : Nat} {x y : D} {e : En} : parK i j (some [.d x, .d y]) e = some (.nx ((e.set i (some (.d x))).set j (some (.d y)))) := rfl
def sPar1 (i j : Nat) (as : List Arg) (e : En) : Option Res := parK i j (gets as e) e
def sPar (i j : Nat) (fs : Fn1 (List Arg)) : FS := fun e => bndS (fs e) (sPar1 i j)
theorem qs_par {i j : Nat} {x y : Str} {a b : Expr} {fs : Fn1 (List Arg)} {px py pt pos : Pos} {kt k2 pt2} (hc : X.calm = true) (hN : X.N.Nodup) (ha : PXA X [a, b] fs) (hi : X.N[i]? = some x := by rfl) (hj : X.N[j]? = some y := by rfl) (hij : i ≠ j := by decide)
    (hx : X.env.scope.names.lookup x = some .local := by rfl) (hy : X.env.scope.names.lookup y = some .local := by rfl)
    (hw : swappedStores [.Tuple [.Name x px, .Name y py] kt pt] (.Tuple [a, b] k2 pt2) X.env = pure (some [x, y]) := by rfl)
    (hs : swapsWithSole [.Tuple [.Name x px, .Name y py] kt pt] (.Tuple [a, b] k2 pt2) pos.line X.env = pure false := by rfl) :
    PXS X (.Assign [.Tuple [.Name x px, .Name y py] kt pt] (.Tuple [a, b] k2 pt2) pos) [i, j] (sPar i j fs) := PS.imp (ps_par hc hN hi hj hij hx hy ha hw hs) fun D σ H h => by
  obtain ⟨env, W, r, re, e, p⟩ := h
  obtain ⟨as, env1, ea, e⟩ := bndS_eq e
  refine ⟨env, W, as, env1, re, ea, fun vs H1 W1 Fs r1 ras t => ?_⟩
  unfold sPar1 parK at e
  split at e
  · rename_i x y hg
    cases e
    obtain ⟨v, v', rfl, ⟨P1, q1⟩, ⟨P2, q2⟩⟩ := rr2 (ras.read r1 hg)
    refine ⟨v, v', rfl, p _ H1 W1 ((r1.setd q1).setd q2) (t.less fun _ z => z.elim) ?_⟩
    exact (eqs_set (i := i)).trans (eqs_set (i := j)) (by simp) (by simp)
  · cases e
end
end QL
end

section
set_option Elab.async false
set_option linter.all false
set_option maxRecDepth 100000
set_option maxHeartbeats 4000000
namespace QL
open PySem PySem.Spec PyProof.Rows L2

/-! ### the drawing state of a law: [numbers, place, rest, seed] -/
theorem RE.putG {K : PySem.W.Frag} {H : Hp} {σ : Sl} {env : En} {W : Ow} {i : Nat} {x y : M} {a : Addr} {vs ws : List V} {v : V} (r : RE K H σ env W) (hi : env[i]? = some (some (.m x))) (hσ : σ[i]? = some (some v)) (hW : W i a) (hH : H a = some (.lst vs))
    (new : RM K (upd H a (.lst ws)) y v (W i)) : RE K (upd H a (.lst ws)) σ (env.set i (some (.m y))) W := by
  have t : Tr (fun (k : Nat) b => k = i ∧ W i b) H (fun (k : Nat) b => k = i ∧ W i b) (upd H a (.lst ws)) F0 :=
    ⟨fun b o e hn => by rw [upd_ne fun z => hn ⟨i, rfl, by rw [z]; exact hW⟩]; exact e, fun b e => by
      by_cases hb : b = a
      · subst hb; rw [upd_same]; simp
      · rw [upd_ne hb]; exact e, fun b _ hn => ⟨hn, fun z => z⟩⟩
  refine ⟨fun j s e => ?_, r.apart, fun j b z => ?_, by rw [List.length_set]; exact r.len⟩
  · by_cases hj : j = i
    · subst hj
      have hl : j < env.length := (List.getElem?_eq_some_iff.mp hi).1
      rw [List.getElem?_set_self hl] at e
      cases e
      exact ⟨_, hσ, new⟩
    · rw [List.getElem?_set_ne (Ne.symm hj)] at e
      obtain ⟨v, q1, q2⟩ := r.slots j s e
      exact ⟨v, q1, RS.keep (fun _ b z => r.mu i b z.2) t q2 fun b z ⟨k, _, y⟩ => hj (r.apart j i b z y)⟩
  · by_cases hb : b = a
    · subst hb; rw [upd_same]; trivial
    · rw [upd_ne hb]; exact r.mu j b z
def mkStK (p c z : Int) : Option (List Int) → En → Option (Arg × En)
  | some ns, e => some (.val (.m (.st ns p c z)), e)
  | none, _ => none
@[simp] theorem mkStK_some {p c z : Int} {ns : List Int} {e : En} : mkStK p c z (some ns) e = some (.val (.m (.st ns p c z)), e) := rfl
def mkStR (x : List D) (r : Option (List S)) (e : En) : Option (Arg × En) := match r with
  | some [.d (.int p), .d (.int c), .d (.int z)] => mkStK p c z (intsOf x) e
  | _ => none
@[simp] theorem mkStR_some {x : List D} {p c z : Int} {e : En} : mkStR x (some [.d (.int p), .d (.int c), .d (.int z)]) e = mkStK p c z (intsOf x) e := rfl
def fMkSt1 (as : List Arg) (e : En) : Option (Arg × En) := match as with
  | .val (.m (.lst ds)) :: as => mkStR ds (gets as e) e
  | _ => none
@[simp] theorem fMkSt1_cons {ds : List D} {as : List Arg} {e : En} : fMkSt1 (.val (.m (.lst ds)) :: as) e = mkStR ds (gets as e) e := rfl
def fMkSt (fs : Fn1 (List Arg)) : Fn1 Arg := fun e => bnd (fs e) fMkSt1
section
variable {X : Cx} {es : List Expr} {fs : Fn1 (List Arg)} {pos : Pos}
theorem qx_mkst (h : PXA X es fs) : PX X (.List es pos) (fMkSt fs) := PE.imp (pe_lst h) fun σ H Q h => by
  obtain ⟨env, W, z, env', re, e, k⟩ := h
  obtain ⟨as, env1, ea, e⟩ := bnd_eq e
  refine ⟨env, W, as, env1, re, ea, fun vs H1 W1 Fs r1 ras t => ?_⟩
  unfold fMkSt1 at e
  split at e
  · rename_i ds as'
    unfold mkStR at e
    split at e
    · rename_i p c zz hg
      unfold mkStK at e
      split at e
      · rename_i ns hns
        cases e
        cases ras with
        | cons ra tm dj ras =>
          obtain ⟨v1, v2, v3, rfl, q1, q2, q3⟩ := rr3 (ras.read r1 hg)
          obtain ⟨a1, vs1, rfl, fa, h1, rs⟩ := ra
          rw [intsOf_eq hns] at rs
          rw [RDs.of_ints rs] at h1
          rw [rd_int q1, rd_int q2, rd_int q3]
          refine ⟨by show 4 ≤ sizeLine; decide, fun p0 hp0 => ?_⟩
          have sm : Same H1 (upd H1 p0 (.lst [.ref a1, .int p, .int c, .int zz])) := same_new hp0
          have na : a1 ≠ p0 := fun z => by rw [z, hp0] at h1; cases h1
          refine k _ _ W1 (fun b => b = p0 ∨ b = a1) (r1.same sm) ⟨p0, a1, rfl, .inl rfl, .inr rfl, upd_same, by rw [upd_ne na]; exact h1⟩ (fun b z => ?_) ⟨fun b o e n => ?_, fun b e => ?_, fun b e n => ?_⟩
          · rcases z with z | z
            · subst z
              exact ⟨r1.fresh hp0, by rw [upd_same]; trivial⟩
            · subst z
              exact ⟨(tm _ fa).1, by rw [upd_ne na, h1]; trivial⟩
          · exact sm _ _ (t.frame b o e n)
          · have := t.dom b e
            cases q : H1 b with
            | none => exact absurd q this
            | some o => rw [sm _ _ q]; simp
          · have o := t.out b e n
            refine ⟨o.1, fun z => ?_⟩
            rcases z with z | z
            · subst z
              exact t.dom _ e hp0
            · subst z
              exact o.2 (.inl fa)
      · cases e
    · cases e
  · cases e
/-- d[k] for k = 1, 2, 3 -/
def stAt (k : Nat) (p c z : Int) : Int := match k with
  | 1 => p
  | 2 => c
  | _ => z
def stGetK (k : Nat) (x : Option (Option S)) (e : En) : Option (Arg × En) := match x with
  | some (some (.m (.st _ p c z))) => some (.val (.d (.int (stAt k p c z))), e)
  | _ => none
@[simp] theorem stGetK_st {k : Nat} {ns : List Int} {p c z : Int} {e : En} : stGetK k (some (some (.m (.st ns p c z)))) e = some (.val (.d (.int (stAt k p c z))), e) := rfl
def fStGet (i k : Nat) : Fn1 Arg := fun e => stGetK k e[i]? e
theorem st_of {K : PySem.W.Frag} {H : Hp} {σ : Sl} {env : En} {W : Ow} {i : Nat} {ns : List Int} {p c z : Int} (r : RE K H σ env W) (h : env[i]? = some (some (.m (.st ns p c z)))) :
    ∃ a b, σ[i]? = some (some (.ref a)) ∧ W i a ∧ W i b ∧ H a = some (.lst [.ref b, .int p, .int c, .int z]) ∧ H b = some (.lst (ns.map V.int)) := by
  obtain ⟨v, h1, a, b, rfl, pa, pb, ha, hb⟩ := r.slots i _ h
  exact ⟨a, b, h1, pa, pb, ha, hb⟩
theorem qx_stget {i : Nat} {k : Int} {kk : Nat} {x : Str} {p p2 pos : Pos} (n : Nat) (hk : k = (n : Int) := by rfl) (hn : n = 1 ∨ n = 2 ∨ n = 3 := by decide) (hN : X.N[i]? = some x := by rfl) (hv : Vis X.env.scope x := by first | exact Or.inl rfl | exact Or.inr (Or.inl rfl) | exact Or.inr (Or.inr rfl))
    (hd : (x == ("__debug__" : Str)) = false := by decide) (hcd : (x == ("__classdict__" : Str)) = false := by decide) (hs : PlainIx (.Constant (.int k) kk p2) := by intro _ _; rfl) :
    PX X (.Subscript (.Name x p) (.Constant (.int k) kk p2) pos) (fStGet i n) := PE.imp (pe_ix ix_list (pe_var hN hv hd hcd) pe_int hs) fun σ H Q h => by
  obtain ⟨env, W, z, env', re, e, kq⟩ := h
  unfold fStGet stGetK at e
  split at e
  · rename_i ns p c zz hx
    cases e
    obtain ⟨a, b, h1, _, _, ha, _⟩ := st_of re hx
    refine ⟨.ref a, h1, a, _, k, .int (stAt n p c zz), rfl, rfl, SqL.of ha, ?_, kq _ H W F0 re (.int _) Tm.zero Tr.refl⟩
    subst hk
    rcases hn with rfl | rfl | rfl <;> rfl
  · cases e
/-- len(d[0]) -/
def stLenK (x : Option (Option S)) (e : En) : Option (Arg × En) := match x with
  | some (some (.m (.st ns _ _ _))) => some (.val (.d (.int ns.length)), e)
  | _ => none
@[simp] theorem stLenK_st {ns : List Int} {p c z : Int} {e : En} : stLenK (some (some (.m (.st ns p c z)))) e = some (.val (.d (.int ns.length)), e) := rfl
def fStLen (i : Nat) : Fn1 Arg := fun e => stLenK e[i]? e
theorem qx_stlen {i : Nat} {kk : Nat} {x : Str} {p p2 p3 p4 pos : Pos} (hg : Gl X "len") (hm : X.mg "len" = none) (hN : X.N[i]? = some x := by rfl) (hv : Vis X.env.scope x := by first | exact Or.inl rfl | exact Or.inr (Or.inl rfl) | exact Or.inr (Or.inr rfl))
    (hd : (x == ("__debug__" : Str)) = false := by decide) (hcd : (x == ("__classdict__" : Str)) = false := by decide) (hs : PlainIx (.Constant (.int 0) kk p2) := by intro _ _; rfl)
    (he : starEach [.Subscript (.Name x p) (.Constant (.int 0) kk p2) p3] X.env = (false, eval (.Subscript (.Name x p) (.Constant (.int 0) kk p2) p3) X.env) :: starEach [] X.env := by rfl) (hpl : (backTo pos (starEach [] X.env)).any (·.1) = false := by rfl) :
    PX X (.Call (.Name "len" p4) [.Subscript (.Name x p) (.Constant (.int 0) kk p2) p3] [] pos) (fStLen i) :=
  PE.imp (pe_callB call_len hg hm PySem.boot_len (pa_cons (pe_ix ix_list (pe_var hN hv hd hcd) pe_int hs) pa_nil he) (by decide) (by decide) he hpl) fun σ H Q h => by
  obtain ⟨env, W, z, env', re, e, kq⟩ := h
  unfold fStLen stLenK at e
  split at e
  · rename_i ns p c zz hx
    cases e
    obtain ⟨a, b, h1, _, _, ha, hb⟩ := st_of re hx
    refine ⟨.ref a, h1, a, _, 0, .ref b, rfl, rfl, SqL.of ha, rfl, _, ns.length, rfl, .inl ⟨_, SqL.of hb, by rw [List.length_map]⟩, kq _ H W F0 re (.int _) Tm.zero Tr.refl⟩
  · cases e
/-- d[0][d[1]] -/
def stIxR (x : Option Int) (e : En) : Option (Arg × En) := match x with
  | some i => some (.val (.d (.int i)), e)
  | none => none
@[simp] theorem stIxR_some {i : Int} {e : En} : stIxR (some i) e = some (.val (.d (.int i)), e) := rfl
def stIxK (x : Option (Option S)) (e : En) : Option (Arg × En) := match x with
  | some (some (.m (.st ns p _ _))) => stIxR (getI ns p) e
  | _ => none
@[simp] theorem stIxK_st {ns : List Int} {p c z : Int} {e : En} : stIxK (some (some (.m (.st ns p c z)))) e = stIxR (getI ns p) e := rfl
def fStIx (i : Nat) : Fn1 Arg := fun e => stIxK e[i]? e
theorem qx_stix {i : Nat} {kk kk2 : Nat} {x : Str} {p p2 p3 p4 p5 p6 pos : Pos} (hN : X.N[i]? = some x := by rfl) (hv : Vis X.env.scope x := by first | exact Or.inl rfl | exact Or.inr (Or.inl rfl) | exact Or.inr (Or.inr rfl))
    (hd : (x == ("__debug__" : Str)) = false := by decide) (hcd : (x == ("__classdict__" : Str)) = false := by decide) (hs : PlainIx (.Constant (.int 0) kk p2) := by intro _ _; rfl) (hs1 : PlainIx (.Constant (.int 1) kk2 p5) := by intro _ _; rfl)
    (hs2 : PlainIx (.Subscript (.Name x p4) (.Constant (.int 1) kk2 p5) p6) := by intro _ _; rfl) :
    PX X (.Subscript (.Subscript (.Name x p) (.Constant (.int 0) kk p2) p3) (.Subscript (.Name x p4) (.Constant (.int 1) kk2 p5) p6) pos) (fStIx i) :=
  PE.imp (pe_ix ix_list (pe_ix ix_list (pe_var hN hv hd hcd) pe_int hs) (pe_ix ix_list (pe_var hN hv hd hcd) pe_int hs1) hs2) fun σ H Q h => by
  obtain ⟨env, W, z, env', re, e, kq⟩ := h
  unfold fStIx stIxK stIxR at e
  split at e
  · rename_i ns p c zz hx
    split at e
    · rename_i y hy
      cases e
      obtain ⟨a, b, h1, _, _, ha, hb⟩ := st_of re hx
      obtain ⟨j, j1, j2⟩ := getI_at hy
      refine ⟨.ref a, h1, a, _, 0, .ref b, rfl, rfl, SqL.of ha, rfl, .ref a, h1, a, _, 1, .int p, rfl, rfl, SqL.of ha, rfl, b, _, p, .int y, rfl, rfl, SqL.of hb, ?_, kq _ H W F0 re (.int _) Tm.zero Tr.refl⟩
      unfold L2.atI
      rw [List.length_map, j1]
      show (ns.map V.int)[j]? = _
      rw [List.getElem?_map, j2]
      rfl
    · cases e
  · cases e
/-- d[k] = e -/
def stPut (k : Nat) (ns : List Int) (p c z v : Int) : M := match k with
  | 1 => .st ns v c z
  | 2 => .st ns p v z
  | _ => .st ns p c v
def stSetK (i k : Nat) (x : Option (Option S)) (v : Option S) (e : En) : Option Res := match x, v with
  | some (some (.m (.st ns p c z))), some (.d (.int v)) => some (.nx (e.set i (some (.m (stPut k ns p c z v)))))
  | _, _ => none
@[simp] theorem stSetK_st {i k : Nat} {ns : List Int} {p c z v : Int} {e : En} : stSetK i k (some (some (.m (.st ns p c z)))) (some (.d (.int v))) e = some (.nx (e.set i (some (.m (stPut k ns p c z v))))) := rfl
def sStSet1 (i k : Nat) (a : Arg) (e : En) : Option Res := stSetK i k e[i]? (a.get e) e
def sStSet (i k : Nat) (fa : Fn1 Arg) : FS := fun e => bndS (fa e) (sStSet1 i k)
theorem qs_stset {i : Nat} {k : Int} {kk : Nat} {x : Str} {ev : Expr} {fa : Fn1 Arg} {p p2 p3 pos : Pos} (n : Nat) (he : PX X ev fa) (hk : k = (n : Int) := by rfl) (hn : n = 1 ∨ n = 2 ∨ n = 3 := by decide) (hN : X.N[i]? = some x := by rfl) (hv : Vis X.env.scope x := by first | exact Or.inl rfl | exact Or.inr (Or.inl rfl) | exact Or.inr (Or.inr rfl))
    (hd : (x == ("__debug__" : Str)) = false := by decide) (hcd : (x == ("__classdict__" : Str)) = false := by decide)
    (hasg : ∀ v, assign (.Subscript (.Name x p) (.Constant (.int k) kk p2) p3) X.env v = (do
      let ov ← holding [v] (eval (.Name x p) X.env)
      let iv ← holding [v, ov] (eval (.Constant (.int k) kk p2) X.env)
      standAt p3
      holding [v, ov, iv] (setItem ov iv v)
      release [v, ov, iv] []) := by intro _; rfl)
    (hs : swapsWithSole [.Subscript (.Name x p) (.Constant (.int k) kk p2) p3] ev pos.line X.env = pure false := by rfl) (hw : swappedStores [.Subscript (.Name x p) (.Constant (.int k) kk p2) p3] ev X.env = pure none := by rfl)
    (h1 : (assignEach [.Subscript (.Name x p) (.Constant (.int k) kk p2) p3] X.env).map (·.2) = [assign (.Subscript (.Name x p) (.Constant (.int k) kk p2) p3) X.env] := by rfl) :
    PXS X (.Assign [.Subscript (.Name x p) (.Constant (.int k) kk p2) p3] ev pos) [] (sStSet i n fa) :=
  PS.imp (ps_asg he (pg_sub (pe_var hN hv hd hcd) pe_int set_list hasg) hs hw h1) fun D σ H h => by
  obtain ⟨env, W, r, re, e, pq⟩ := h
  obtain ⟨a, env1, ea, e⟩ := bndS_eq e
  refine ⟨env, W, a, env1, re, ea, fun v H1 W1 F r1 ra tm t => ?_⟩
  unfold sStSet1 stSetK at e
  split at e
  · rename_i ns p c z y hx hy
    cases e
    have ev : v = .int y := rd_int (ra.read r1 hy)
    obtain ⟨a, b, q1, wa, wb, ha, hb⟩ := st_of r1 hx
    subst hk ev
    have nab : b ≠ a := fun z => by
      rw [z, ha] at hb
      cases ns <;> cases hb
    have t1 : ∀ ws, Tr W H W1 (upd H1 a (.lst ws)) F0 := fun ws => (t.trans0 (Tr.put wa)).less fun _ z => z
    rcases hn with rfl | rfl | rfl
    · refine ⟨.ref a, q1, a, _, 1, 1, rfl, rfl, ha, rfl, pq σ _ W1 (r1.putG hx q1 wa ha ?_) (t1 _) Eqs.refl⟩
      exact ⟨a, b, rfl, wa, wb, upd_same, by rw [upd_ne nab]; exact hb⟩
    · refine ⟨.ref a, q1, a, _, 2, 2, rfl, rfl, ha, rfl, pq σ _ W1 (r1.putG hx q1 wa ha ?_) (t1 _) Eqs.refl⟩
      exact ⟨a, b, rfl, wa, wb, upd_same, by rw [upd_ne nab]; exact hb⟩
    · refine ⟨.ref a, q1, a, _, 3, 3, rfl, rfl, ha, rfl, pq σ _ W1 (r1.putG hx q1 wa ha ?_) (t1 _) Eqs.refl⟩
      exact ⟨a, b, rfl, wa, wb, upd_same, by rw [upd_ne nab]; exact hb⟩
  · cases e
end

/-! ### a def by its datum, the law's end -/
section
variable {P : Program} {w : World} {K : PySem.W.Frag} {mg : Str → Option Value} {base : Heap}
theorem fn_okD {x qual : Str} {params : Arguments} {bd : List Stmt} {sc : Scope} {f : Addr} {fd : FuncData} {N ps : List Str} {k : Nat} {A : List Nat} {body : FS} (F : FunD K x qual params bd sc [] [] f fd) (Sc : FnScope N ps sc)
    (hb : ∀ (cdv : Value) (Ar : Around) (outer : List Env) (s : Shared) (H : Hp) (E : XK), Room k (Ar.deeper (envOfC qual sc s.heap.objs.size f cdv)) →
      PXSs (cxOf CX0 P w K mg base N qual sc f cdv Ar outer s H E).nox bd A body) : FnOk P w K mg base CX0 (k + 1) f fd ps (spF K ps.length (mkFn ps.length N.length A body)) := by
  refine F.ok Sc (fun vs H Q E h => h.1) fun cdv Ar outer s H vs Q E hr h => ⟨_, (hb cdv Ar outer s H E hr).nox, ?_⟩
  obtain ⟨hl, ss, W, r, fin, re, e, kk⟩ := h
  have hss : ss.length = vs.length := by have := re.len; simpa using this
  have hpl : ps.length ≤ N.length := by have := congrArg List.length Sc.pre; rw [List.length_take] at this; omega
  have e' : (if ss.length = ps.length then fnEnd A ss (body (ss.map some ++ List.replicate (N.length - ps.length) none)) else none) = some (r, fin) := e
  rw [if_pos (by omega)] at e'
  have re0 : RE K H (L2.start N vs) (ss.map some ++ List.replicate (N.length - ps.length) none) W := by
    refine ⟨fun i s hs => ?_, re.apart, re.mu, ?_⟩
    · by_cases hi : i < ss.length
      · rw [List.getElem?_append_left (by simpa using hi)] at hs
        obtain ⟨v, h1, h2⟩ := re.slots i s hs
        refine ⟨v, ?_, h2⟩
        unfold L2.start
        rw [List.getElem?_append_left (by simpa [← hss] using hi)]
        exact h1
      · rw [List.getElem?_append_right (by simpa using hi), List.getElem?_replicate] at hs
        split at hs <;> cases hs
    · unfold L2.start
      simp only [List.length_append, List.length_map, List.length_replicate]
      omega
  have hσ : ∀ i, i < vs.length → (L2.start N vs)[i]? = some vs[i]? := fun i hi => by
    unfold L2.start
    rw [List.getElem?_append_left (by simpa using hi), List.getElem?_map, List.getElem?_eq_getElem hi]
    rfl
  have less : ∀ {W' : Ow} {H' : Hp} {F : Addr → Prop}, Tr W H W' H' F → Tr W H (fun i b => (∃ m, ss[i]? = some (S.m m)) ∧ W' i b) H' F := fun t =>
    ⟨t.frame, t.dom, fun b e n => ⟨fun ⟨i, z⟩ => (t.out b e n).1 ⟨i, z.2⟩, (t.out b e n).2⟩⟩
  cases q : body (ss.map some ++ List.replicate (N.length - ps.length) none) with
  | none => rw [q] at e'; cases e'
  | some rr =>
    rw [q] at e'
    refine ⟨_, W, rr, re0, q, ?_⟩
    cases rr with
    | bk e1 => cases e'
    | ct e1 => cases e'
    | nx e1 =>
      rw [fnEnd_nx] at e'
      cases hf : fins A 0 ss e1 with
      | none => rw [hf] at e'; cases e'
      | some fin' =>
        rw [hf] at e'
        cases e'
        intro σ' H' W' r' t' q'
        exact kk .non H' _ F0 (fin_re re hσ hf r' t' q') .non Tm.zero (less t')
    | rt s1 e1 =>
      rw [fnEnd_rt] at e'
      cases hf : fins A 0 ss e1 with
      | none => rw [hf] at e'; cases e'
      | some fin' =>
        rw [hf] at e'
        cases e'
        intro v σ' H' W' F r' rs tm t' q'
        exact kk v H' _ F (fin_re re hσ hf r' t' q') rs (fun b z => ⟨fun ⟨i, y⟩ => (tm b z).1 ⟨i, y.2⟩, (tm b z).2⟩) (less t')
theorem law_sp {fn : FnS} {n : Nat} (h : ∀ ns : List Int, ns.length ≤ n → ∃ fin, fn [.lk (.lst (ns.map D.int))] = some (.d (.bl true), fin)) (H : Hp) (a : Addr) (ns : List Int) (hl : ns.length ≤ n) (hO : Only H) (hS : SqL K H a (ns.map V.int)) :
    spF K 1 fn [.ref a] H (fun v _ => v = .bl true) fun _ _ _ => False := by
  obtain ⟨fin, e⟩ := h ns hl
  refine ⟨rfl, _, (fun _ _ => False), _, fin, ⟨fun i s hs => ?_, fun i j b z => z.elim, fun i b z => z.elim, rfl⟩, e, fun v H' W' F _ rs _ _ => rd_bl ⟨F, rs⟩⟩
  have hs' : [some (S.lk (.lst (ns.map D.int)))][i]? = some (some s) := hs
  cases i with
  | succ i => simp at hs'
  | zero =>
    have e : S.lk (.lst (ns.map D.int)) = s := by simpa using hs'
    subst e
    refine ⟨.ref a, rfl, a, _, rfl, ?_, RDs.ints ns⟩
    rcases hS with (hS | hS) | hS
    · rcases hO a with z | ⟨o, xs, z⟩
      · rw [hS] at z; cases z
      · rw [hS] at z; cases z
    · exact .inl hS
    · exact .inr hS
end
end QL
end

section
set_option Elab.async false
set_option linter.all false
set_option maxRecDepth 100000
namespace QL
open PySem PySem.Spec PyProof.Rows L2

/-- a def of the text, where it stands -/
structure Df (K : PySem.W.Frag) (mg : Str → Option Value) (x : Str) (st : Stmt) : Prop where
  ex : ∃ (f : Addr) (fd : FuncData), FunD K x x (defArgs st) (defBody st) (defScope st) [] [] f fd ∧ mg x = some (.ref f)
/-- a def that may be called: what it is worth -/
structure Cal (P : Program) (w : World) (K : PySem.W.Frag) (mg : Str → Option Value) (base : Heap) (x : Str) (k n : Nat) (fn : FnS) : Prop where
  ex : ∃ (f : Addr) (fd : FuncData) (ps : List Str), FnOk P w K mg base CX0 k f fd ps (spF K n fn) ∧ mg x = some (.ref f) ∧ PySem.W.keepIn K (.ref f) = true ∧ Binds K fd ps [] ∧ ∀ ss r, fn ss = some r → ss.length = n
section
variable {P : Program} {w : World} {K : PySem.W.Frag} {mg : Str → Option Value} {base : Heap}
theorem cal_ok {x : Str} {st : Stmt} {N ps : List Str} {k : Nat} {A : List Nat} {body : FS} (d : Df K mg x st) (Sc : FnScope N ps (defScope st))
    (hb : ∀ (f : Addr) (cdv : Value) (Ar : Around) (outer : List Env) (s : Shared) (H : Hp) (E : XK), Room k (Ar.deeper (envOfC x (defScope st) s.heap.objs.size f cdv)) →
      PXSs (cxOf CX0 P w K mg base N x (defScope st) f cdv Ar outer s H E).nox (defBody st) A body)
    (bd : ∀ (kV doc pm : Value) (an : Option Addr) (cdv ct : Value) (us : List Value), us.length = ps.length → bindArgs (PySem.W.fnOf x x (defArgs st) (defBody st) (defScope st) .none kV doc pm an cdv ct) ⟨us, []⟩ = pure (ps.zip us)) :
    Cal P w K mg base x (k + 1) ps.length (mkFn ps.length N.length A body) := by
  obtain ⟨f, fd, F, hm⟩ := d.ex
  exact ⟨f, fd, ps, fn_okD F Sc fun cdv Ar outer s H E hr => hb f cdv Ar outer s H E hr, hm, F.kp, F.bindsN bd, fun ss r h => mkFn_len h⟩
theorem Cal.mono {x : Str} {j k n : Nat} {fn : FnS} (c : Cal P w K mg base x j n fn) (h : j ≤ k) : Cal P w K mg base x k n fn := by
  obtain ⟨f, fd, ps, F, r⟩ := c.ex
  exact ⟨f, fd, ps, F.mono h, r⟩
end
section
variable {X : Cx} {k n : Nat} {fn : FnS} {x : Str} {p pos : Pos} {e : Expr} {es : List Expr} {fs : Fn1 (List Arg)}
theorem qx_cal (c : Cal X.prog X.w X.K X.mg X.base x k n fn) (hr : Room k X.A) (hg : Gl X x) (ha : PXA X (e :: es) fs) (hdb : (x == ("__debug__" : Str)) = false := by decide) (he : starEach (e :: es) X.env = (false, eval e X.env) :: starEach es X.env := by rfl)
    (hpl : (backTo pos (starEach es X.env)).any (·.1) = false := by rfl) : PX X (.Call (.Name x p) (e :: es) [] pos) (fCall fn fs) := by
  obtain ⟨f, fd, ps, F, hm, hk, hb, hn⟩ := c.ex
  exact qx_call F hn hr hg hm hk hb ha hdb he hpl
theorem qx_cal0 (c : Cal X.prog X.w X.K X.mg X.base x k n fn) (hr : Room k X.A) (hg : Gl X x) (hdb : (x == ("__debug__" : Str)) = false := by decide) : PX X (.Call (.Name x p) [] [] pos) (fCall fn fNil) := by
  obtain ⟨f, fd, ps, F, hm, hk, hb, hn⟩ := c.ex
  exact qx_call0 F hn hr hg hm hk hb hdb
theorem qx_globC {x : Str} {i : Int} (c : ∃ t, X.mg x = some (.int i t)) (hg : Gl X x) (hd : (x == ("__debug__" : Str)) = false := by decide) : PX X (.Name x pos) (fC (.int i)) := by
  obtain ⟨t, h⟩ := c
  exact qx_glob hg h ⟨t, rfl⟩ hd
end
def fuel0 : En → Nat := fun _ => 100000
end QL
end

section
set_option Elab.async false
set_option linter.all false
set_option maxRecDepth 100000
namespace QL
open PySem PySem.Spec PyProof.Rows L2
/-! ### evaluation: each combinator at an environment -/
@[simp] theorem fC_ap {x : D} {e : En} : fC x e = some (.val (.d x), e) := rfl
def varK (i : Nat) (z : Option (Option S)) (e : En) : Option (Arg × En) := match z with
  | some (some _) => some (.slot i, e)
  | _ => none
@[simp] theorem varK_some {i : Nat} {s : S} {e : En} : varK i (some (some s)) e = some (.slot i, e) := rfl
@[simp] theorem fVar_ap {i : Nat} {e : En} : fVar i e = varK i e[i]? e := rfl
@[simp] theorem fBin2_ap {o : S → S → Option S} {a b : Arg} {e : En} : fBin2 o a b e = ret (op2 o (a.get e) (b.get e)) e := rfl
@[simp] theorem fBin1_ap {o : S → S → Option S} {fb : Fn1 Arg} {a : Arg} {e : En} : fBin1 o fb a e = bnd (fb e) (fBin2 o a) := rfl
@[simp] theorem fBin_ap {o : S → S → Option S} {fa fb : Fn1 Arg} {e : En} : fBin o fa fb e = bnd (fa e) (fBin1 o fb) := rfl
@[simp] theorem fUn1_ap {o : S → Option S} {a : Arg} {e : En} : fUn1 o a e = ret (op1 o (a.get e)) e := rfl
@[simp] theorem fUn_ap {o : S → Option S} {fa : Fn1 Arg} {e : En} : fUn o fa e = bnd (fa e) (fUn1 o) := rfl
@[simp] theorem fChain2_ap {o o' : S → S → Option S} {fc : Fn1 Arg} {a b : Arg} {e : En} : fChain2 o o' fc a b e = chK (op2 o (a.get e) (b.get e)) o' fc b e := rfl
@[simp] theorem fChain1_ap {o o' : S → S → Option S} {fb fc : Fn1 Arg} {a : Arg} {e : En} : fChain1 o o' fb fc a e = bnd (fb e) (fChain2 o o' fc a) := rfl
@[simp] theorem fChain_ap {o o' : S → S → Option S} {fa fb fc : Fn1 Arg} {e : En} : fChain o o' fa fb fc e = bnd (fa e) (fChain1 o o' fb fc) := rfl
@[simp] theorem fTB1_ap {a : Arg} {e : En} : fTB1 a e = tstK (a.get e) e := rfl
@[simp] theorem fTB_ap {fa : Fn1 Arg} {e : En} : fTB fa e = bnd (fa e) fTB1 := rfl
@[simp] theorem fTru1_ap {a : Arg} {e : En} : fTru1 a e = truK (a.get e) e := rfl
@[simp] theorem fTru_ap {fa : Fn1 Arg} {e : En} : fTru fa e = bnd (fa e) fTru1 := rfl
@[simp] theorem fAndT1_ap {tb : Fn1 Bool} {b : Bool} {e : En} : fAndT1 tb b e = if b = true then tb e else some (false, e) := rfl
@[simp] theorem fAndT_ap {ta tb : Fn1 Bool} {e : En} : fAndT ta tb e = bnd (ta e) (fAndT1 tb) := rfl
@[simp] theorem fOrT1_ap {tb : Fn1 Bool} {b : Bool} {e : En} : fOrT1 tb b e = if b = true then some (true, e) else tb e := rfl
@[simp] theorem fOrT_ap {ta tb : Fn1 Bool} {e : En} : fOrT ta tb e = bnd (ta e) (fOrT1 tb) := rfl
@[simp] theorem fNotT1_ap {b : Bool} {e : En} : fNotT1 b e = some (!b, e) := rfl
@[simp] theorem fNotT_ap {ta : Fn1 Bool} {e : En} : fNotT ta e = bnd (ta e) fNotT1 := rfl
@[simp] theorem fIf1_ap {fa fb : Fn1 Arg} {b : Bool} {e : En} : fIf1 fa fb b e = if b = true then fa e else fb e := rfl
@[simp] theorem fIf_ap {tc : Fn1 Bool} {fa fb : Fn1 Arg} {e : En} : fIf tc fa fb e = bnd (tc e) (fIf1 fa fb) := rfl
@[simp] theorem fAnd1_ap {fb : Fn1 Arg} {a : Arg} {e : En} : fAnd1 fb a e = andK (a.get e) fb e := rfl
@[simp] theorem fAnd_ap {fa fb : Fn1 Arg} {e : En} : fAnd fa fb e = bnd (fa e) (fAnd1 fb) := rfl
@[simp] theorem fOr1_ap {fb : Fn1 Arg} {a : Arg} {e : En} : fOr1 fb a e = orK (a.get e) fb e := rfl
@[simp] theorem fOr_ap {fa fb : Fn1 Arg} {e : En} : fOr fa fb e = bnd (fa e) (fOr1 fb) := rfl
@[simp] theorem fNil_ap  {e : En} : fNil e = some ([], e) := rfl
@[simp] theorem fCons2_ap {a : Arg} {as : List Arg} {e : En} : fCons2 a as e = some (a :: as, e) := rfl
@[simp] theorem fCons1_ap {fs : Fn1 (List Arg)} {a : Arg} {e : En} : fCons1 fs a e = bnd (fs e) (fCons2 a) := rfl
@[simp] theorem fCons_ap {fa : Fn1 Arg} {fs : Fn1 (List Arg)} {e : En} : fCons fa fs e = bnd (fa e) (fCons1 fs) := rfl
@[simp] theorem fOp1_ap {o : List S → Option S} {as : List Arg} {e : En} : fOp1 o as e = ret (opN o (gets as e)) e := rfl
@[simp] theorem fOp_ap {o : List S → Option S} {fs : Fn1 (List Arg)} {e : En} : fOp o fs e = bnd (fs e) (fOp1 o) := rfl
@[simp] theorem sNext_ap  {e : En} : sNext e = some (.nx e) := rfl
@[simp] theorem sSeq_ap {f g : FS} {e : En} : sSeq f g e = sqK (f e) g := rfl
@[simp] theorem sBreak_ap  {e : En} : sBreak e = some (.bk e) := rfl
@[simp] theorem sCont_ap  {e : En} : sCont e = some (.ct e) := rfl
@[simp] theorem sNever_ap  {e : En} : sNever e = none := rfl
@[simp] theorem sSet_ap {i : Nat} {fa : Fn1 Arg} {e : En} : sSet i fa e = bndS (fa e) (valK i) := rfl
@[simp] theorem sAug1_ap {i : Nat} {o : S → S → Option S} {x : Option (Option S)} {b : Arg} {e : En} : sAug1 i o x b e = bndS (ret (op2 o x.join (b.get e)) e) (valK i) := rfl
@[simp] theorem sAug_ap {i : Nat} {o : S → S → Option S} {fb : Fn1 Arg} {e : En} : sAug i o fb e = augK i o fb e[i]? e := rfl
@[simp] theorem sExpr1_ap {u1 : Arg} {e : En} : sExpr1 u1 e = some (.nx e) := rfl
@[simp] theorem sExpr_ap {fa : Fn1 Arg} {e : En} : sExpr fa e = bndS (fa e) sExpr1 := rfl
@[simp] theorem sRet_ap {fa : Fn1 Arg} {e : En} : sRet fa e = bndS (fa e) rtK := rfl
@[simp] theorem sRetN_ap  {e : En} : sRetN e = some (.rt (.d .non) e) := rfl
@[simp] theorem sIf1_ap {f g : FS} {b : Bool} {e : En} : sIf1 f g b e = if b = true then f e else g e := rfl
@[simp] theorem sIf_ap {tc : Fn1 Bool} {f g : FS} {e : En} : sIf tc f g e = bndS (tc e) (sIf1 f g) := rfl
@[simp] theorem whileT_ap {g : En → Option Res} {f : FS} {b : Bool} {e : En} : whileT g f b e = if b = true then whileK g (f e) else some (.nx e) := rfl
@[simp] theorem sWhile_ap {fuel : En → Nat} {tc : Fn1 Bool} {f : FS} {e : En} : sWhile fuel tc f e = whileN tc f (fuel e) e := rfl
@[simp] theorem fCall1_ap {fn : FnS} {as : List Arg} {e : En} : fCall1 fn as e = callK fn as (gets as e) e := rfl
@[simp] theorem fCall_ap {fn : FnS} {fs : Fn1 (List Arg)} {e : En} : fCall fn fs e = bnd (fs e) (fCall1 fn) := rfl
@[simp] theorem sPat1_ap {b : D → En → Option En} {a : Arg} {e : En} : sPat1 b a e = patK b (a.get e) e := rfl
@[simp] theorem sPat_ap {b : D → En → Option En} {fa : Fn1 Arg} {e : En} : sPat b fa e = bndS (fa e) (sPat1 b) := rfl
@[simp] theorem itSeq1_ap {a : Arg} {e : En} : itSeq1 a e = itK (itemsA a e) e := rfl
@[simp] theorem itSeq_ap {fa : Fn1 Arg} {e : En} : itSeq fa e = bnd (fa e) itSeq1 := rfl
@[simp] theorem itRng1_ap {as : List Arg} {e : En} : itRng1 as e = itK (rngK (gets as e)) e := rfl
@[simp] theorem itRng_ap {fs : Fn1 (List Arg)} {e : En} : itRng fs e = bnd (fs e) itRng1 := rfl
@[simp] theorem sFor_ap {it : Fn1 (List D)} {b : D → En → Option En} {f : FS} {e : En} : sFor it b f e = bndS (it e) (forL b f) := rfl
@[simp] theorem lcE_ap {g : List D → En → Option (Arg × En)} {own : List Nat} {acc : List D} {e0 : En} {a : Arg} {e3 : En} : lcE g own acc e0 a e3 = lcV g acc (a.get e3) (unw e0 e3 own) := rfl
@[simp] theorem lcT_ap {g : List D → En → Option (Arg × En)} {own : List Nat} {elt : Fn1 Arg} {acc : List D} {e0 : En} {c : Bool} {e2 : En} : lcT g own elt acc e0 c e2 = if c = true then bnd (elt e2) (lcE g own acc e0) else g acc (unw e0 e2 own) := rfl
@[simp] theorem fLc1_ap {own : List Nat} {b : D → En → Option En} {tt : Fn1 Bool} {elt : Fn1 Arg} {xs : List D} {e : En} : fLc1 own b tt elt xs e = if xs.length ≤ sizeLine ∧ okOwn e own = true then lcL own b tt elt xs [] e else none := rfl
@[simp] theorem fLc_ap {own : List Nat} {it : Fn1 (List D)} {b : D → En → Option En} {tt : Fn1 Bool} {elt : Fn1 Arg} {e : En} : fLc own it b tt elt e = bnd (it e) (fLc1 own b tt elt) := rfl
@[simp] theorem fYes_ap  {e : En} : fYes e = some (true, e) := rfl
@[simp] theorem fNo_ap  {e : En} : fNo e = some (none, e) := rfl
@[simp] theorem fPart1_ap {a : Arg} {e : En} : fPart1 a e = partK (a.get e) e := rfl
@[simp] theorem fPart_ap {fa : Fn1 Arg} {e : En} : fPart fa e = bnd (fa e) fPart1 := rfl
@[simp] theorem fSl3_ap {a : Arg} {lo hi : Option Int} {e : En} : fSl3 a lo hi e = ret (op1 (oSl lo hi) (a.get e)) e := rfl
@[simp] theorem fSl2_ap {fhi : Fn1 (Option Int)} {a : Arg} {lo : Option Int} {e : En} : fSl2 fhi a lo e = bnd (fhi e) (fSl3 a lo) := rfl
@[simp] theorem fSl1_ap {flo fhi : Fn1 (Option Int)} {a : Arg} {e : En} : fSl1 flo fhi a e = bnd (flo e) (fSl2 fhi a) := rfl
@[simp] theorem fSl_ap {fa : Fn1 Arg} {flo fhi : Fn1 (Option Int)} {e : En} : fSl fa flo fhi e = bnd (fa e) (fSl1 flo fhi) := rfl
@[simp] theorem fMt1_ap {i : Nat} {o : MtO} {as : List Arg} {e : En} : fMt1 i o as e = mtK i o e[i]? (gets as e) e := rfl
@[simp] theorem fMt_ap {i : Nat} {o : MtO} {fs : Fn1 (List Arg)} {e : En} : fMt i o fs e = mtG i o fs e[i]? e := rfl
@[simp] theorem itEn_ap {fs : Fn1 (List Arg)} {e : En} : itEn fs e = bnd (fs e) itEn1 := rfl
@[simp] theorem itDwn1_ap {as : List Arg} {e : En} : itDwn1 as e = itK (dwnK (gets as e)) e := rfl
@[simp] theorem itDwn_ap {fs : Fn1 (List Arg)} {e : En} : itDwn fs e = bnd (fs e) itDwn1 := rfl
@[simp] theorem sPar1_ap {i j : Nat} {as : List Arg} {e : En} : sPar1 i j as e = parK i j (gets as e) e := rfl
@[simp] theorem sPar_ap {i j : Nat} {fs : Fn1 (List Arg)} {e : En} : sPar i j fs e = bndS (fs e) (sPar1 i j) := rfl
@[simp] theorem fMkSt_ap {fs : Fn1 (List Arg)} {e : En} : fMkSt fs e = bnd (fs e) fMkSt1 := rfl
@[simp] theorem fStGet_ap {i k : Nat} {e : En} : fStGet i k e = stGetK k e[i]? e := rfl
@[simp] theorem fStLen_ap {i : Nat} {e : En} : fStLen i e = stLenK e[i]? e := rfl
@[simp] theorem fStIx_ap {i : Nat} {e : En} : fStIx i e = stIxK e[i]? e := rfl
@[simp] theorem sStSet1_ap {i k : Nat} {a : Arg} {e : En} : sStSet1 i k a e = stSetK i k e[i]? (a.get e) e := rfl
@[simp] theorem sStSet_ap {i k : Nat} {fa : Fn1 Arg} {e : En} : sStSet i k fa e = bndS (fa e) (sStSet1 i k) := rfl
@[simp] theorem stAt_1 {p c z : Int} : stAt 1 p c z = p := rfl
@[simp] theorem stAt_2 {p c z : Int} : stAt 2 p c z = c := rfl
@[simp] theorem stAt_3 {p c z : Int} : stAt 3 p c z = z := rfl
@[simp] theorem stPut_1 {ns : List Int} {p c z v : Int} : stPut 1 ns p c z v = .st ns v c z := rfl
@[simp] theorem stPut_2 {ns : List Int} {p c z v : Int} : stPut 2 ns p c z v = .st ns p v z := rfl
@[simp] theorem stPut_3 {ns : List Int} {p c z v : Int} : stPut 3 ns p c z v = .st ns p c v := rfl
@[simp] theorem isNon_non : isNon (.d .non) = true := rfl
@[simp] theorem isNon_int {i : Int} : isNon (.d (.int i)) = false := rfl
@[simp] theorem isNon_tup {i : List D} : isNon (.d (.tup i)) = false := rfl
@[simp] theorem isNon_str {i : Str} : isNon (.d (.str i)) = false := rfl
@[simp] theorem isNon_bl {i : Bool} : isNon (.d (.bl i)) = false := rfl
@[simp] theorem oTup_def {ss : List S} : oTup ss = (allD ss).bind fun ds => if ds.length ≤ sizeLine then some (.d (.tup ds)) else none := rfl
@[simp] theorem oLst_def {ss : List S} : oLst ss = (allD ss).bind fun ds => if ds.length ≤ sizeLine then some (.m (.lst ds)) else none := rfl
theorem sizeLine_eq : sizeLine = 16777216 := by decide +kernel
theorem sizeLine_ge {n : Nat} (h : n ≤ 1000000) : n ≤ sizeLine := by rw [sizeLine_eq]; omega
theorem sizeLine_gt {n : Nat} (h : n ≤ 1000000) : n < sizeLine := by rw [sizeLine_eq]; omega
@[simp] theorem fin1_m {A : List Nat} {i : Nat} {x : M} {e : En} : fin1 A i (.m x) e = if A.contains i = true then none else match e[i]? with
    | some (some (.m y)) => some (.m y)
    | _ => none := rfl
@[simp] theorem fins_m {A : List Nat} {i : Nat} {x : M} {ss : List S} {e : En} : fins A i (.m x :: ss) e = cons? (fin1 A i (.m x) e) (fins A (i + 1) ss e) := rfl
@[simp] theorem mulC64_two {i : Int} : mulC64 i 2 = true := by simp [mulC64]
@[simp] theorem mulC64_four {i : Int} : mulC64 i 4 = true := by simp [mulC64]
@[simp] theorem divC30_two {i : Int} : divC30 i 2 = true := by simp [divC30]
@[simp] theorem divC30_four {i : Int} : divC30 i 4 = true := by simp [divC30]
theorem log2_lt {n k : Nat} (h : n < 2 ^ k) (hk : 0 < k) : n.log2 < k := by
  by_cases z : n = 0
  · subst z; simpa using hk
  · exact (Nat.log2_lt z).mpr h
theorem mulC_of {i j : Int} (h1 : -(2 ^ 200) < i) (h2 : i < 2 ^ 200) (h3 : -(2 ^ 200) < j) (h4 : j < 2 ^ 200) : mulC i j = true := by
  have a : i.natAbs.log2 < 200 := log2_lt (by omega) (by omega)
  have b : j.natAbs.log2 < 200 := log2_lt (by omega) (by omega)
  exact decide_eq_true (by omega)
theorem divC_of {i j : Int} (h3 : 0 < j) (h4 : j < 2 ^ 200) : divC i j = true := by
  have b : j.natAbs.log2 < 200 := log2_lt (by omega) (by omega)
  exact decide_eq_true ⟨h3, by omega⟩
theorem smallI_of {i : Int} (h1 : -(2 ^ 62) ≤ i) (h2 : i < 2 ^ 62) : smallI i = true := decide_eq_true ⟨h1, h2⟩

/-! ### equality -/
mutual
def eqD : D → D → Bool
  | .non, .non => true
  | .bl a, .bl b => a == b
  | .bl a, .int j => (if a then 1 else 0) == j
  | .int i, .bl b => i == (if b then 1 else 0)
  | .int i, .int j => decide (i = j)
  | .str x, .str y => x == y
  | .tup xs, .tup ys => eqDs xs ys
  | _, _ => false
def eqDs : List D → List D → Bool
  | [], [] => true
  | x :: xs, y :: ys => eqD x y && eqDs xs ys
  | _, _ => false
end
mutual
theorem eqv_toPy : ∀ x y : D, PyData.eqv (toPy x) (toPy y) = eqD x y
  | .non, y => by cases y <;> simp [toPy, PyData.eqv, eqD]
  | .bl a, y => by cases y <;> simp [toPy, PyData.eqv, eqD]
  | .int i, y => by
    cases y with
    | int j => simp only [toPy, PyData.eqv, eqD]; rfl
    | _ => simp [toPy, PyData.eqv, eqD]
  | .str x, y => by cases y <;> simp [toPy, PyData.eqv, eqD]
  | .tup xs, y => by
    cases y with
    | tup ys => simpa [toPy, PyData.eqv, eqD] using eqv_toPys xs ys
    | _ => simp [toPy, PyData.eqv, eqD]
theorem eqv_toPys : ∀ x y : List D, PyData.eqvAll (toPys x) (toPys y) = eqDs x y
  | [], y => by cases y <;> simp [toPys, PyData.eqvAll, eqDs]
  | x :: xs, y => by
    cases y with
    | nil => simp [toPys, PyData.eqvAll, eqDs]
    | cons y ys => simp [toPys, PyData.eqvAll, eqDs, eqv_toPy x y, eqv_toPys xs ys]
end
mutual
/-- can be laid, and at most so deep -/
def shD : Nat → D → Bool
  | _, .non => true
  | _, .bl _ => true
  | _, .int _ => true
  | _, .str x => PyData.canLay0 (.str x)
  | 0, .tup _ => false
  | n + 1, .tup xs => shDs n xs
def shDs : Nat → List D → Bool
  | _, [] => true
  | n, x :: xs => shD n x && shDs n xs
end
mutual
theorem shD_ok : ∀ (n : Nat) (x : D), shD n x = true → (toPy x).canLay0 = true ∧ (toPy x).depth ≤ n
  | n, .non, _ => by simp [toPy, PyData.canLay0, PyData.depth]
  | n, .bl _, _ => by simp [toPy, PyData.canLay0, PyData.depth]
  | n, .int _, _ => by simp [toPy, PyData.canLay0, PyData.depth]
  | n, .str x, h => by
    refine ⟨?_, ?_⟩
    · simpa [shD, toPy] using h
    · simp [toPy, PyData.depth]
  | 0, .tup xs, h => by simp [shD] at h
  | n + 1, .tup xs, h => by
    have q := shDs_ok n xs (by simpa [shD] using h)
    refine ⟨?_, ?_⟩
    · simpa [toPy, PyData.canLay0] using q.1
    · simpa [toPy, PyData.depth] using q.2
theorem shDs_ok : ∀ (n : Nat) (x : List D), shDs n x = true → PyData.canLayAll0 (toPys x) = true ∧ PyData.depthAll (toPys x) ≤ n
  | n, [], _ => by simp [toPys, PyData.canLayAll0, PyData.depthAll]
  | n, x :: xs, h => by
    have h' : shD n x = true ∧ shDs n xs = true := by simpa [shDs] using h
    have a := shD_ok n x h'.1
    have b := shDs_ok n xs h'.2
    refine ⟨by simp [toPys, PyData.canLayAll0, a.1, b.1], ?_⟩
    have := Nat.max_le.mpr ⟨a.2, b.2⟩
    simpa [toPys, PyData.depthAll] using this
end
theorem shaped_of {x : D} (h : shD 8 x = true) : SeqAt.shaped (toPy x) = true := by
  have q := shD_ok 8 x h
  exact Bool.and_eq_true_iff.mpr ⟨q.1, decide_eq_true (by omega)⟩
theorem shaped_ofs {x : List D} (h : shDs 8 x = true) : SeqAt.shaped (.list (toPys x)) = true := by
  have q := shDs_ok 8 x h
  exact Bool.and_eq_true_iff.mpr ⟨by simpa [PyData.canLay0] using q.1, decide_eq_true (by simp [PyData.depth]; omega)⟩
@[simp] theorem oEq_d {x y : D} (hx : shD 8 x = true) (hy : shD 8 y = true) : oEq (.d x) (.d y) = some (.d (.bl (eqD x y))) := by
  simp [oEq, oEqB, pyOf, shaped_of hx, shaped_of hy, eqv_toPy]
@[simp] theorem oNe_d {x y : D} (hx : shD 8 x = true) (hy : shD 8 y = true) : oNe (.d x) (.d y) = some (.d (.bl (!eqD x y))) := by
  simp [oNe, oEqB, pyOf, shaped_of hx, shaped_of hy, eqv_toPy]
@[simp] theorem oEq_l {x y : List D} (hx : shDs 8 x = true) (hy : shDs 8 y = true) : oEq (.m (.lst x)) (.m (.lst y)) = some (.d (.bl (eqDs x y))) := by
  simp [oEq, oEqB, pyOf, shaped_ofs hx, shaped_ofs hy, PyData.eqv, eqv_toPys]
@[simp] theorem oNe_l {x y : List D} (hx : shDs 8 x = true) (hy : shDs 8 y = true) : oNe (.m (.lst x)) (.m (.lst y)) = some (.d (.bl (!eqDs x y))) := by
  simp [oNe, oEqB, pyOf, shaped_ofs hx, shaped_ofs hy, PyData.eqv, eqv_toPys]
@[simp] theorem shD_non {n : Nat} : shD n .non = true := by cases n <;> rfl
@[simp] theorem shD_bl {n : Nat} {i : Bool} : shD n (.bl i) = true := by cases n <;> rfl
@[simp] theorem shD_int {n : Nat} {i : Int} : shD n (.int i) = true := by cases n <;> rfl
@[simp] theorem shD_str {n : Nat} {i : Str} : shD n (.str i) = PyData.canLay0 (.str i) := by cases n <;> rfl
@[simp] theorem shD_tup {n : Nat} {xs : List D} : shD (n + 1) (.tup xs) = shDs n xs := rfl
@[simp] theorem shDs_nil {n : Nat} : shDs n [] = true := by cases n <;> rfl
@[simp] theorem shDs_cons {n : Nat} {x : D} {xs : List D} : shDs n (x :: xs) = (shD n x && shDs n xs) := by cases n <;> rfl
@[simp] theorem shDs_ints {n : Nat} {l : List Int} : shDs n (l.map D.int) = true := by
  induction l with
  | nil => simp
  | cons a l ih => simp [ih]
@[simp] theorem shDs_append {n : Nat} {a b : List D} : shDs n (a ++ b) = (shDs n a && shDs n b) := by
  induction a with
  | nil => simp
  | cons x a ih => simp [ih, Bool.and_assoc]
@[simp] theorem eqD_int {i j : Int} : eqD (.int i) (.int j) = decide (i = j) := rfl
@[simp] theorem eqD_bl {i j : Bool} : eqD (.bl i) (.bl j) = (i == j) := rfl
@[simp] theorem eqD_str {i j : Str} : eqD (.str i) (.str j) = (i == j) := rfl
@[simp] theorem eqD_non : eqD .non .non = true := rfl
@[simp] theorem eqD_tup {i j : List D} : eqD (.tup i) (.tup j) = eqDs i j := rfl
@[simp] theorem eqD_int_bl {i : Int} {b : Bool} : eqD (.int i) (.bl b) = (i == (if b then 1 else 0)) := rfl
@[simp] theorem eqD_bl_int {i : Int} {b : Bool} : eqD (.bl b) (.int i) = ((if b then 1 else 0) == i) := rfl
@[simp] theorem eqD_tup_int {i : List D} {j : Int} : eqD (.tup i) (.int j) = false := rfl
@[simp] theorem eqD_tup_non {i : List D} : eqD (.tup i) .non = false := rfl
@[simp] theorem eqD_non_tup {i : List D} : eqD .non (.tup i) = false := rfl
@[simp] theorem eqD_int_non {i : Int} : eqD (.int i) .non = false := rfl
@[simp] theorem eqD_non_int {i : Int} : eqD .non (.int i) = false := rfl
@[simp] theorem eqDs_nil : eqDs [] [] = true := rfl
@[simp] theorem eqDs_cons {x y : D} {xs ys : List D} : eqDs (x :: xs) (y :: ys) = (eqD x y && eqDs xs ys) := rfl
@[simp] theorem eqDs_cons_nil {x : D} {xs : List D} : eqDs (x :: xs) [] = false := rfl
@[simp] theorem eqDs_nil_cons {x : D} {xs : List D} : eqDs [] (x :: xs) = false := rfl
@[simp] theorem eqDs_ints {l m : List Int} : eqDs (l.map D.int) (m.map D.int) = decide (l = m) := by
  induction l generalizing m with
  | nil => cases m <;> simp
  | cons a l ih => cases m <;> simp [ih]
mutual
theorem eqD_self : ∀ x : D, eqD x x = true
  | .non => rfl
  | .bl a => by simp
  | .int a => by simp
  | .str a => by simp
  | .tup xs => by simpa using eqDs_self xs
theorem eqDs_self : ∀ x : List D, eqDs x x = true
  | [] => rfl
  | x :: xs => by simp [eqD_self x, eqDs_self xs]
end
@[simp] theorem getI_nat {α : Type} {xs : List α} {i : Nat} : getI xs (i : Int) = xs[i]? := by simp [getI]
theorem getI_last {α : Type} {xs : List α} {x : α} : getI (xs ++ [x]) (-1) = some x := by
  unfold getI
  rw [if_neg (by omega), if_pos (by simp; omega)]
  have : ((-1 : Int) + ((xs ++ [x]).length : Int)).toNat = xs.length := by simp; omega
  rw [this]
  simp
end QL
end

section
set_option Elab.async false
set_option linter.all false
set_option maxRecDepth 100000
namespace QL
open PySem PySem.Spec PyProof.Rows L2
/-! ### loops by what is kept -/
theorem for_inv {b : D → En → Option En} {f : FS} (P : Nat → En → Prop) : ∀ (xs : List D) (k0 : Nat) (e : En), P k0 e →
    (∀ k x e, xs[k]? = some x → P (k0 + k) e → ∃ e1 e2, b x e = some e1 ∧ f e1 = some (.nx e2) ∧ P (k0 + k + 1) e2) → ∃ e', forL b f xs e = some (.nx e') ∧ P (k0 + xs.length) e'
  | [], k0, e, h0, _ => ⟨e, rfl, h0⟩
  | x :: xs, k0, e, h0, st => by
    obtain ⟨e1, e2, h1, h2, h3⟩ := st 0 x e rfl h0
    obtain ⟨e', h4, h5⟩ := for_inv P xs (k0 + 1) e2 h3 fun k y e hk hp => by
      have := st (k + 1) y e (by simpa using hk) (by rwa [show k0 + (k + 1) = k0 + 1 + k by omega])
      rwa [show k0 + (k + 1) + 1 = k0 + 1 + k + 1 by omega] at this
    refine ⟨e', ?_, by rwa [show k0 + (x :: xs).length = k0 + 1 + xs.length by simp; omega]⟩
    rw [forL_cons, h1, forK_some, h2, whileK_nx, h4]
theorem rngL_len {lo : Int} {n : Nat} : (rngL lo n).length = n := by simp [rngL]
theorem rngL_get {lo : Int} {n k : Nat} {x : D} (h : (rngL lo n)[k]? = some x) : k < n ∧ x = .int (lo + k) := by
  unfold rngL at h
  rw [List.getElem?_map] at h
  by_cases hk : k < n
  · rw [List.getElem?_range hk] at h
    exact ⟨hk, by cases h; rfl⟩
  · rw [List.getElem?_eq_none (by simp; omega)] at h
    cases h
theorem rngL_zero {n : Nat} : rngL 0 n = (List.range n).map fun (k : Nat) => D.int (k : Int) := by
  unfold rngL
  simp
theorem dwnL_len {lo : Int} {n : Nat} : (dwnL lo n).length = n := by simp [dwnL]
theorem dwnL_get {lo : Int} {n k : Nat} {x : D} (h : (dwnL lo n)[k]? = some x) : k < n ∧ x = .int (lo - k) := by
  unfold dwnL at h
  rw [List.getElem?_map] at h
  by_cases hk : k < n
  · rw [List.getElem?_range hk] at h
    refine ⟨hk, ?_⟩
    cases h
    show D.int (lo + (k : Int) * (-1)) = _
    congr 1
    omega
  · rw [List.getElem?_eq_none (by simp; omega)] at h
    cases h
theorem for_list {b : D → En → Option En} {f : FS} {xs : List D} {e : En} (P : Nat → En → Prop) (h0 : P 0 e)
    (st : ∀ k x e, xs[k]? = some x → P k e → ∃ e1 e2, b x e = some e1 ∧ f e1 = some (.nx e2) ∧ P (k + 1) e2) : ∃ e', forL b f xs e = some (.nx e') ∧ P xs.length e' := by
  have := for_inv P xs 0 e h0 fun k x e hk hp => by simpa using st k x e hk (by simpa using hp)
  simpa using this
theorem for_rng {b : D → En → Option En} {f : FS} {lo : Int} {n : Nat} {e : En} (P : Nat → En → Prop) (h0 : P 0 e)
    (st : ∀ (k : Nat) e, k < n → P k e → ∃ e1 e2, b (.int (lo + k)) e = some e1 ∧ f e1 = some (.nx e2) ∧ P (k + 1) e2) : ∃ e', forL b f (rngL lo n) e = some (.nx e') ∧ P n e' := by
  have := for_list (b := b) (f := f) (xs := rngL lo n) P h0 fun k x e hk hp => by
    obtain ⟨h1, rfl⟩ := rngL_get hk
    exact st k e h1 hp
  rwa [rngL_len] at this
theorem for_dwn {b : D → En → Option En} {f : FS} {lo : Int} {n : Nat} {e : En} (P : Nat → En → Prop) (h0 : P 0 e)
    (st : ∀ (k : Nat) e, k < n → P k e → ∃ e1 e2, b (.int (lo - k)) e = some e1 ∧ f e1 = some (.nx e2) ∧ P (k + 1) e2) : ∃ e', forL b f (dwnL lo n) e = some (.nx e') ∧ P n e' := by
  have := for_list (b := b) (f := f) (xs := dwnL lo n) P h0 fun k x e hk hp => by
    obtain ⟨h1, rfl⟩ := dwnL_get hk
    exact st k e h1 hp
  rwa [dwnL_len] at this
theorem while_dec {tc : Fn1 Bool} {f : FS} (P : Nat → En → Prop) (Q : En → Prop)
    (h : ∀ m e, P m e → (∃ e', tc e = some (false, e') ∧ Q e') ∨ ∃ e' e'' m', tc e = some (true, e') ∧ f e' = some (.nx e'') ∧ m' < m ∧ P m' e'') :
    ∀ fuel m e, m < fuel → P m e → ∃ e', whileN tc f fuel e = some (.nx e') ∧ Q e'
  | 0, m, e, hf, _ => absurd hf (by omega)
  | n + 1, m, e, hf, hp => by
    rcases h m e hp with ⟨e', h1, h2⟩ | ⟨e', e'', m', h1, h2, h3, h4⟩
    · exact ⟨e', by show bndS (tc e) _ = _; rw [h1]; rfl, h2⟩
    · obtain ⟨z, h5, h6⟩ := while_dec P Q h n m' e'' (by omega) h4
      refine ⟨z, ?_, h6⟩
      show bndS (tc e) _ = _
      rw [h1, bndS_some, whileT_ap, if_pos rfl, h2, whileK_nx, h5]
theorem while0 {tc : Fn1 Bool} {f : FS} {e : En} (P : Nat → En → Prop) (Q : En → Prop) (m : Nat) (hm : m < 100000) (h0 : P m e)
    (h : ∀ m e, P m e → (∃ e', tc e = some (false, e') ∧ Q e') ∨ ∃ e' e'' m', tc e = some (true, e') ∧ f e' = some (.nx e'') ∧ m' < m ∧ P m' e'') :
    ∃ e', whileN tc f (fuel0 e) e = some (.nx e') ∧ Q e' := while_dec P Q h 100000 m e hm h0

/-! ### comprehensions by one item -/
def one3 (own : List Nat) (e0 e : En) (z : Option S) : Option (Option D × En) := match z with
  | some (.d y) => some (some y, unw e0 e own)
  | _ => none
@[simp] theorem one3_d {own : List Nat} {e0 e : En} {y : D} : one3 own e0 e (some (.d y)) = some (some y, unw e0 e own) := rfl
def bnd' {α β : Type} (x : Option (α × En)) (k : α → En → Option β) : Option β := match x with
  | some p => k p.1 p.2
  | none => none
@[simp] theorem bnd'_some {α β : Type} {a : α} {e : En} {k : α → En → Option β} : bnd' (some (a, e)) k = k a e := rfl
def one2 (own : List Nat) (elt : Fn1 Arg) (e0 : En) (c : Bool) (e : En) : Option (Option D × En) := if c = true then bnd' (elt e) fun a e3 => one3 own e0 e3 (a.get e3) else some (none, unw e0 e own)
@[simp] theorem one2_t {own : List Nat} {elt : Fn1 Arg} {e0 e : En} : one2 own elt e0 true e = bnd' (elt e) fun a e3 => one3 own e0 e3 (a.get e3) := rfl
@[simp] theorem one2_f {own : List Nat} {elt : Fn1 Arg} {e0 e : En} : one2 own elt e0 false e = some (none, unw e0 e own) := rfl
def one1 (own : List Nat) (tt : Fn1 Bool) (elt : Fn1 Arg) (e0 : En) (z : Option En) : Option (Option D × En) := match z with
  | some e1 => bnd' (tt e1) (one2 own elt e0)
  | none => none
@[simp] theorem one1_some {own : List Nat} {tt : Fn1 Bool} {elt : Fn1 Arg} {e0 e1 : En} : one1 own tt elt e0 (some e1) = bnd' (tt e1) (one2 own elt e0) := rfl
def lcOne (own : List Nat) (b : D → En → Option En) (tt : Fn1 Bool) (elt : Fn1 Arg) (e : En) (x : D) : Option (Option D × En) := one1 own tt elt e (b x (wipeE e own))
theorem lc_step {own : List Nat} {b : D → En → Option En} {tt : Fn1 Bool} {elt : Fn1 Arg} {x : D} {xs acc : List D} {e e' : En} {r : Option D} (h : lcOne own b tt elt e x = some (r, e')) :
    lcL own b tt elt (x :: xs) acc e = lcL own b tt elt xs (acc ++ r.toList) e' := by
  unfold lcOne at h
  rw [lcL_cons]
  cases hb : b x (wipeE e own) with
  | none => rw [hb] at h; cases h
  | some e1 =>
    rw [hb] at h
    rw [one1_some] at h
    rw [lcB_some]
    cases ht : tt e1 with
    | none => rw [ht] at h; cases h
    | some p =>
      obtain ⟨c, e2⟩ := p
      rw [ht, bnd'_some] at h
      rw [bnd_some]
      cases c with
      | false => cases h; simp
      | true =>
        rw [one2_t] at h
        rw [lcT_ap, if_pos rfl]
        cases he : elt e2 with
        | none => rw [he] at h; cases h
        | some p =>
          obtain ⟨a, e3⟩ := p
          rw [he, bnd'_some] at h
          rw [bnd_some, lcE_ap]
          cases hg : a.get e3 with
          | none => rw [hg] at h; cases h
          | some s =>
            cases s with
            | d y => rw [hg] at h; cases h; rfl
            | _ => rw [hg] at h; cases h
theorem lc_inv {own : List Nat} {b : D → En → Option En} {tt : Fn1 Bool} {elt : Fn1 Arg} (P : Nat → List D → En → Prop) : ∀ (xs : List D) (k0 : Nat) (acc : List D) (e : En), P k0 acc e →
    (∀ k x acc e, xs[k]? = some x → P (k0 + k) acc e → ∃ r e', lcOne own b tt elt e x = some (r, e') ∧ P (k0 + k + 1) (acc ++ r.toList) e') →
    ∃ acc' e', lcL own b tt elt xs acc e = some (.val (.m (.lst acc')), e') ∧ P (k0 + xs.length) acc' e'
  | [], k0, acc, e, h0, _ => ⟨acc, e, rfl, h0⟩
  | x :: xs, k0, acc, e, h0, st => by
    obtain ⟨r, e2, h1, h3⟩ := st 0 x acc e rfl h0
    obtain ⟨acc', e', h4, h5⟩ := lc_inv P xs (k0 + 1) _ e2 h3 fun k y a e hk hp => by
      have := st (k + 1) y a e (by simpa using hk) (by rwa [show k0 + (k + 1) = k0 + 1 + k by omega])
      rwa [show k0 + (k + 1) + 1 = k0 + 1 + k + 1 by omega] at this
    refine ⟨acc', e', ?_, by rwa [show k0 + (x :: xs).length = k0 + 1 + xs.length by simp; omega]⟩
    rw [lc_step h1, h4]
/-- the store stays -/
theorem lc_pure {own : List Nat} {b : D → En → Option En} {tt : Fn1 Bool} {elt : Fn1 Arg} {e : En} (r : D → Option D) : ∀ {xs : List D} {acc : List D},
    (∀ x ∈ xs, lcOne own b tt elt e x = some (r x, e)) → lcL own b tt elt xs acc e = some (.val (.m (.lst (acc ++ xs.filterMap r))), e)
  | [], acc, _ => by simp
  | x :: xs, acc, h => by
    rw [lc_step (h x (by simp)), lc_pure r fun y hy => h y (by simp [hy])]
    cases hr : r x <;> simp [hr]
theorem lc_map {own : List Nat} {b : D → En → Option En} {tt : Fn1 Bool} {elt : Fn1 Arg} {e : En} (r : D → D) {xs : List D}
    (h : ∀ x ∈ xs, lcOne own b tt elt e x = some (some (r x), e)) : lcL own b tt elt xs [] e = some (.val (.m (.lst (xs.map r))), e) := by
  rw [lc_pure (fun x => some (r x)) h, List.nil_append, List.filterMap_eq_map']
theorem lc_filter {own : List Nat} {b : D → En → Option En} {tt : Fn1 Bool} {elt : Fn1 Arg} {e : En} (p : D → Bool) {xs : List D}
    (h : ∀ x ∈ xs, lcOne own b tt elt e x = some (if p x = true then some x else none, e)) : lcL own b tt elt xs [] e = some (.val (.m (.lst (xs.filter p))), e) := by
  rw [lc_pure (fun x => if p x = true then some x else none) h, List.nil_append]
  congr 4
  induction xs with
  | nil => rfl
  | cons a l ih =>
    have := ih fun x hx => h x (by simp [hx])
    cases hp : p a <;> simp [hp, List.filterMap_cons, List.filter_cons] <;> simpa using this
/-! ### items at small places, slices -/
section
variable {α : Type} {a b c d f : α} {l : List α}
@[simp] theorem getI_0 : getI (a :: l) 0 = some a := rfl
@[simp] theorem getI_1 : getI (a :: b :: l) 1 = some b := rfl
@[simp] theorem getI_2 : getI (a :: b :: c :: l) 2 = some c := rfl
@[simp] theorem getI_3 : getI (a :: b :: c :: d :: l) 3 = some d := rfl
@[simp] theorem getI_4 : getI (a :: b :: c :: d :: f :: l) 4 = some f := rfl
@[simp] theorem getI_m1 : getI [a] (-1) = some a := rfl
@[simp] theorem getI_m12 : getI [a, b] (-1) = some b := rfl
@[simp] theorem getI_m13 : getI [a, b, c] (-1) = some c := rfl
end
theorem cutD_from {l : List D} {k : Nat} (h : k ≤ l.length) : QL.cutD l (some (k : Int)) none = l.drop k := by
  unfold QL.cutD
  rw [HT.sIx_nat, HT.sIx_none, Nat.min_eq_left h]
  exact List.take_of_length_le (by simp)
theorem cutD_to {l : List D} {k : Nat} (h : k ≤ l.length) : QL.cutD l none (some (k : Int)) = l.take k := by
  unfold QL.cutD
  rw [HT.sIx_nat, HT.sIx_none, Nat.min_eq_left h]
  simp
@[simp] theorem cutD_2 {a b : D} {l : List D} : QL.cutD (a :: b :: l) none (some 2) = [a, b] := by
  have := cutD_to (l := a :: b :: l) (k := 2) (by simp)
  simpa using this
end QL
end

section
set_option Elab.async false
set_option linter.all false
set_option maxRecDepth 100000
set_option maxHeartbeats 4000000
namespace K44
open PySem PySem.Spec PyProof.Rows L2 QL
/-! power_of(number): slots 0 number, 1 found, 2 _ -/
def A_power_of : List Nat := ([1] ++ (([2] ++ [1]) ++ []))
def b_power_of : FS :=
  (sSeq (sSet 1 (fC (.int 1)))
  (sSeq (sFor (itRng (fCons (fVar 0) fNil)) (bName 2)
  (sAug 1 oIMul (fC (.int 2))))
  (sRet (fVar 1))))
def fn_power_of : FnS := mkFn 1 3 A_power_of b_power_of
/-! check(bits): slots 0 bits -/
def A_check : List Nat := ([] ++ [])
def b_check : FS :=
  (sIf (fNotT (fTB (fChain oLe oLe (fC (.int 1)) (fVar 0) (fC (.int 32)))))
  sNever
  sNext)
def fn_check : FnS := mkFn 1 1 A_check b_check
/-! check_code(bits, code): slots 0 bits, 1 code -/
def A_check_code : List Nat := ([] ++ ([] ++ []))
def b_check_code : FS :=
  (sSeq (sExpr (fCall fn_check (fCons (fVar 0) fNil)))
  (sIf (fNotT (fTB (fChain oLe oLt (fC (.int 0)) (fVar 1) (fCall fn_power_of (fCons (fVar 0) fNil)))))
  sNever
  sNext))
def fn_check_code : FnS := mkFn 2 2 A_check_code b_check_code
/-! meaning(bits, code): slots 0 bits, 1 code -/
def A_meaning : List Nat := ([] ++ [])
def b_meaning : FS :=
  (sSeq (sExpr (fCall fn_check_code (fCons (fVar 0) (fCons (fVar 1) fNil))))
  (sRet (fIf (fTB (fBin oGe (fVar 1) (fCall fn_power_of (fCons (fBin oSub (fVar 0) (fC (.int 1))) fNil)))) (fBin oSub (fVar 1) (fCall fn_power_of (fCons (fVar 0) fNil))) (fVar 1))))
def fn_meaning : FnS := mkFn 2 2 A_meaning b_meaning
/-! code_of(bits, number): slots 0 bits, 1 number -/
def A_code_of : List Nat := ([] ++ (([] ++ []) ++ []))
def b_code_of : FS :=
  (sSeq (sExpr (fCall fn_check (fCons (fVar 0) fNil)))
  (sSeq (sIf (fNotT (fTB (fChain oLe oLt (fBin oSub (fC (.int 0)) (fCall fn_power_of (fCons (fBin oSub (fVar 0) (fC (.int 1))) fNil))) (fVar 1) (fCall fn_power_of (fCons (fBin oSub (fVar 0) (fC (.int 1))) fNil)))))
  (sRet (fC .non))
  sNext)
  (sRet (fBin oMod (fVar 1) (fCall fn_power_of (fCons (fVar 0) fNil))))))
def fn_code_of : FnS := mkFn 2 2 A_code_of b_code_of
/-! widened(bits, code, more): slots 0 bits, 1 code, 2 more -/
def A_widened : List Nat := ([] ++ (([] ++ []) ++ []))
def b_widened : FS :=
  (sSeq (sExpr (fCall fn_check_code (fCons (fVar 0) (fCons (fVar 1) fNil))))
  (sSeq (sIf (fNotT (fTB (fChain oLe oLe (fVar 0) (fVar 2) (fC (.int 32)))))
  sNever
  sNext)
  (sRet (fBin oMod (fCall fn_meaning (fCons (fVar 0) (fCons (fVar 1) fNil))) (fCall fn_power_of (fCons (fVar 2) fNil))))))
def fn_widened : FnS := mkFn 3 3 A_widened b_widened
/-! added(bits, one, other): slots 0 bits, 1 one, 2 other, 3 whole, 4 code, 5 exact, 6 beyond -/
def A_added : List Nat := ([] ++ ([] ++ ([3] ++ ([4] ++ ([5] ++ ([6] ++ []))))))
def b_added : FS :=
  (sSeq (sExpr (fCall fn_check_code (fCons (fVar 0) (fCons (fVar 1) fNil))))
  (sSeq (sExpr (fCall fn_check_code (fCons (fVar 0) (fCons (fVar 2) fNil))))
  (sSeq (sSet 3 (fBin oAdd (fVar 1) (fVar 2)))
  (sSeq (sSet 4 (fBin oMod (fVar 3) (fCall fn_power_of (fCons (fVar 0) fNil))))
  (sSeq (sSet 5 (fBin oAdd (fCall fn_meaning (fCons (fVar 0) (fCons (fVar 1) fNil))) (fCall fn_meaning (fCons (fVar 0) (fCons (fVar 2) fNil)))))
  (sSeq (sSet 6 (fOp oInt (fCons (fBin oNe (fVar 5) (fCall fn_meaning (fCons (fVar 0) (fCons (fVar 4) fNil)))) fNil)))
  (sRet (fOp oTup (fCons (fVar 4) (fCons (fOp oTup (fCons (fBin oDiv (fVar 3) (fCall fn_power_of (fCons (fVar 0) fNil))) (fCons (fVar 6) (fCons (fBin oDiv (fVar 4) (fCall fn_power_of (fCons (fBin oSub (fVar 0) (fC (.int 1))) fNil))) (fCons (fOp oInt (fCons (fBin oEq (fVar 4) (fC (.int 0))) fNil)) fNil))))) fNil))))))))))
def fn_added : FnS := mkFn 3 7 A_added b_added
/-! taken_off(bits, one, other): slots 0 bits, 1 one, 2 other, 3 whole, 4 code, 5 exact, 6 beyond -/
def A_taken_off : List Nat := ([] ++ ([] ++ ([3] ++ ([4] ++ ([5] ++ ([6] ++ []))))))
def b_taken_off : FS :=
  (sSeq (sExpr (fCall fn_check_code (fCons (fVar 0) (fCons (fVar 1) fNil))))
  (sSeq (sExpr (fCall fn_check_code (fCons (fVar 0) (fCons (fVar 2) fNil))))
  (sSeq (sSet 3 (fBin oAdd (fBin oAdd (fVar 1) (fBin oSub (fBin oSub (fCall fn_power_of (fCons (fVar 0) fNil)) (fC (.int 1))) (fVar 2))) (fC (.int 1))))
  (sSeq (sSet 4 (fBin oMod (fVar 3) (fCall fn_power_of (fCons (fVar 0) fNil))))
  (sSeq (sSet 5 (fBin oSub (fCall fn_meaning (fCons (fVar 0) (fCons (fVar 1) fNil))) (fCall fn_meaning (fCons (fVar 0) (fCons (fVar 2) fNil)))))
  (sSeq (sSet 6 (fOp oInt (fCons (fBin oNe (fVar 5) (fCall fn_meaning (fCons (fVar 0) (fCons (fVar 4) fNil)))) fNil)))
  (sRet (fOp oTup (fCons (fVar 4) (fCons (fOp oTup (fCons (fBin oDiv (fVar 3) (fCall fn_power_of (fCons (fVar 0) fNil))) (fCons (fVar 6) (fCons (fBin oDiv (fVar 4) (fCall fn_power_of (fCons (fBin oSub (fVar 0) (fC (.int 1))) fNil))) (fCons (fOp oInt (fCons (fBin oEq (fVar 4) (fC (.int 0))) fNil)) fNil))))) fNil))))))))))
def fn_taken_off : FnS := mkFn 3 7 A_taken_off b_taken_off
/-! digits(bits, code): slots 0 bits, 1 code, 2 found, 3 before, 4 k, 5 now -/
def A_digits : List Nat := ([] ++ ([2] ++ ([3] ++ (([4] ++ ([5] ++ ([] ++ [3]))) ++ []))))
def b_digits : FS :=
  (sSeq (sExpr (fCall fn_check_code (fCons (fVar 0) (fCons (fVar 1) fNil))))
  (sSeq (sSet 2 (fOp oLst fNil))
  (sSeq (sSet 3 (fC (.int 0)))
  (sSeq (sFor (itRng (fCons (fVar 0) fNil)) (bName 4)
  (sSeq (sSet 5 (fBin oMod (fBin oDiv (fVar 1) (fCall fn_power_of (fCons (fVar 4) fNil))) (fC (.int 2))))
  (sSeq (sExpr (fMt 2 oAppend (fCons (fBin oSub (fVar 3) (fVar 5)) fNil)))
  (sSet 3 (fVar 5)))))
  (sRet (fOp oTuple (fCons (fVar 2) fNil)))))))
def fn_digits : FnS := mkFn 2 6 A_digits b_digits
/-! sparse(bits, code): slots 0 bits, 1 code, 2 number, 3 found, 4 digit -/
def A_sparse : List Nat := ([2] ++ ([3] ++ (([4] ++ (([4] ++ []) ++ ([] ++ [2]))) ++ [])))
def b_sparse : FS :=
  (sSeq (sSet 2 (fCall fn_meaning (fCons (fVar 0) (fCons (fVar 1) fNil))))
  (sSeq (sSet 3 (fOp oLst fNil))
  (sSeq (sWhile fuel0 (fTB (fBin oNe (fVar 2) (fC (.int 0))))
  (sSeq (sSet 4 (fC (.int 0)))
  (sSeq (sIf (fTB (fBin oEq (fBin oMod (fVar 2) (fC (.int 2))) (fC (.int 1))))
  (sSet 4 (fIf (fTB (fBin oEq (fBin oMod (fVar 2) (fC (.int 4))) (fC (.int 1)))) (fC (.int 1)) (fUn oNeg (fC (.int 1)))))
  sNext)
  (sSeq (sExpr (fMt 3 oAppend (fCons (fVar 4) fNil)))
  (sSet 2 (fBin oDiv (fBin oSub (fVar 2) (fVar 4)) (fC (.int 2))))))))
  (sRet (fOp oTuple (fCons (fVar 3) fNil))))))
def fn_sparse : FnS := mkFn 2 5 A_sparse b_sparse
/-! from_digits(row): slots 0 row, 1 found, 2 digit -/
def A_from_digits : List Nat := (([] ++ []) ++ ([1] ++ (([2] ++ [1]) ++ [])))
def b_from_digits : FS :=
  (sSeq (sIf (fNotT (fTru (fOp oAll (fCons (fLc [2] (itSeq (fVar 0)) (bName 2) fYes (fBin oIn (fVar 2) (fOp oTup (fCons (fUn oNeg (fC (.int 1))) (fCons (fC (.int 0)) (fCons (fC (.int 1)) fNil)))))) fNil))))
  sNever
  sNext)
  (sSeq (sSet 1 (fC (.int 0)))
  (sSeq (sFor (itSeq (fUn oRev (fVar 0))) (bName 2)
  (sSet 1 (fBin oAdd (fBin oMul (fC (.int 2)) (fVar 1)) (fVar 2))))
  (sRet (fVar 1)))))
def fn_from_digits : FnS := mkFn 1 3 A_from_digits b_from_digits
/-! by_digits(bits, one, other): slots 0 bits, 1 one, 2 other, 3 told, 4 number, 5 found, 6 k, 7 digit -/
def A_by_digits : List Nat := ([] ++ ([3] ++ ([4] ++ ([5] ++ ((([6] ++ ([7] ++ [])) ++ [5]) ++ [])))))
def b_by_digits : FS :=
  (sSeq (sExpr (fCall fn_check_code (fCons (fVar 0) (fCons (fVar 1) fNil))))
  (sSeq (sSet 3 (fCall fn_digits (fCons (fVar 0) (fCons (fVar 2) fNil))))
  (sSeq (sSet 4 (fCall fn_meaning (fCons (fVar 0) (fCons (fVar 1) fNil))))
  (sSeq (sSet 5 (fC (.int 0)))
  (sSeq (sFor (itEn (fCons (fVar 3) fNil)) (bTup 2 (bCons (bName 6) (bCons (bName 7) bNil)))
  (sAug 5 oIAdd (fBin oMul (fBin oMul (fVar 7) (fVar 4)) (fCall fn_power_of (fCons (fVar 6) fNil)))))
  (sRet (fOp oTup (fCons (fVar 5) (fCons (fOp oLen (fCons (fLc [7] (itSeq (fVar 3)) (bName 7) (fTB (fBin oNe (fVar 7) (fC (.int 0)))) (fVar 7)) fNil)) fNil)))))))))
def fn_by_digits : FnS := mkFn 3 8 A_by_digits b_by_digits
/-! divided(bits, one, other): slots 0 bits, 1 one, 2 other, 3 rest, 4 quotient, 5 rows, 6 k -/
def A_divided : List Nat := ([] ++ ([] ++ (([] ++ []) ++ ([3] ++ ([4] ++ ([5] ++ (([6] ++ ([3] ++ ([4] ++ ((([3] ++ [4]) ++ []) ++ [])))) ++ [])))))))
def b_divided : FS :=
  (sSeq (sExpr (fCall fn_check_code (fCons (fVar 0) (fCons (fVar 1) fNil))))
  (sSeq (sExpr (fCall fn_check_code (fCons (fVar 0) (fCons (fVar 2) fNil))))
  (sSeq (sIf (fTB (fBin oEq (fVar 2) (fC (.int 0))))
  sNever
  sNext)
  (sSeq (sSet 3 (fC (.int 0)))
  (sSeq (sSet 4 (fC (.int 0)))
  (sSeq (sSet 5 (fOp oLst fNil))
  (sSeq (sFor (itDwn (fCons (fBin oSub (fVar 0) (fC (.int 1))) (fCons (fUn oNeg (fC (.int 1))) (fCons (fUn oNeg (fC (.int 1))) fNil)))) (bName 6)
  (sSeq (sSet 3 (fBin oAdd (fBin oMul (fC (.int 2)) (fVar 3)) (fBin oMod (fBin oDiv (fVar 1) (fCall fn_power_of (fCons (fVar 6) fNil))) (fC (.int 2)))))
  (sSeq (sAug 4 oIMul (fC (.int 2)))
  (sSeq (sIf (fTB (fBin oGe (fVar 3) (fVar 2)))
  (sSeq (sAug 3 oSub (fVar 2))
  (sAug 4 oIAdd (fC (.int 1))))
  sNext)
  (sExpr (fMt 5 oAppend (fCons (fVar 3) fNil)))))))
  (sRet (fOp oTup (fCons (fVar 4) (fCons (fVar 3) (fCons (fOp oTuple (fCons (fVar 5) fNil)) fNil))))))))))))
def fn_divided : FnS := mkFn 3 7 A_divided b_divided
/-! divided_both(bits, one, other): slots 0 bits, 1 one, 2 other, 3 rest, 4 row, 5 k, 6 quotient, 7 digit -/
def A_divided_both : List Nat := ([] ++ ([] ++ (([] ++ []) ++ ([3] ++ ([4] ++ (([5] ++ ([7] ++ ([3] ++ []))) ++ ([6] ++ (([] ++ []) ++ []))))))))
def b_divided_both : FS :=
  (sSeq (sExpr (fCall fn_check_code (fCons (fVar 0) (fCons (fVar 1) fNil))))
  (sSeq (sExpr (fCall fn_check_code (fCons (fVar 0) (fCons (fVar 2) fNil))))
  (sSeq (sIf (fTB (fBin oEq (fVar 2) (fC (.int 0))))
  sNever
  sNext)
  (sSeq (sSet 3 (fC (.int 0)))
  (sSeq (sSet 4 (fOp oLst fNil))
  (sSeq (sFor (itDwn (fCons (fBin oSub (fVar 0) (fC (.int 1))) (fCons (fUn oNeg (fC (.int 1))) (fCons (fUn oNeg (fC (.int 1))) fNil)))) (bName 5)
  (sSeq (sSet 7 (fIf (fTB (fBin oGe (fVar 3) (fC (.int 0)))) (fC (.int 1)) (fUn oNeg (fC (.int 1)))))
  (sSeq (sSet 3 (fBin oSub (fBin oAdd (fBin oMul (fC (.int 2)) (fVar 3)) (fBin oMod (fBin oDiv (fVar 1) (fCall fn_power_of (fCons (fVar 5) fNil))) (fC (.int 2)))) (fBin oMul (fVar 7) (fVar 2))))
  (sExpr (fMt 4 oAppend (fCons (fVar 7) fNil))))))
  (sSeq (sSet 6 (fCall fn_from_digits (fCons (fOp oTuple (fCons (fUn oRev (fVar 4)) fNil)) fNil)))
  (sSeq (sIf (fTB (fBin oLt (fVar 3) (fC (.int 0))))
  (sRet (fOp oTup (fCons (fBin oSub (fVar 6) (fC (.int 1))) (fCons (fBin oAdd (fVar 3) (fVar 2)) (fCons (fOp oTuple (fCons (fVar 4) fNil)) fNil)))))
  sNext)
  (sRet (fOp oTup (fCons (fVar 6) (fCons (fVar 3) (fCons (fOp oTuple (fCons (fVar 4) fNil)) fNil)))))))))))))
def fn_divided_both : FnS := mkFn 3 8 A_divided_both b_divided_both
/-! saved(rows): slots 0 rows, 1 one, 2 two, 3 three, 4 carries -/
def A_saved : List Nat := (([] ++ []) ++ (([1] ++ ([2] ++ ([3] ++ []))) ++ ([4] ++ [])))
def b_saved : FS :=
  (sSeq (sIf (fOrT (fTB (fBin oNe (fOp oLen (fCons (fVar 0) fNil)) (fC (.int 3)))) (fTB (fBin oLt (fOp oMin (fCons (fVar 0) fNil)) (fC (.int 0)))))
  sNever
  sNext)
  (sSeq (sPat (bTup 3 (bCons (bName 1) (bCons (bName 2) (bCons (bName 3) bNil)))) (fVar 0))
  (sSeq (sSet 4 (fBin oOr (fBin oOr (fBin oAnd (fVar 1) (fVar 2)) (fBin oAnd (fVar 1) (fVar 3))) (fBin oAnd (fVar 2) (fVar 3))))
  (sRet (fOp oTup (fCons (fBin oXor (fBin oXor (fVar 1) (fVar 2)) (fVar 3)) (fCons (fBin oMul (fC (.int 2)) (fVar 4)) fNil)))))))
def fn_saved : FnS := mkFn 1 5 A_saved b_saved
/-! summed(rows): slots 0 rows, 1 left, 2 steps, 3 following, 4 row -/
def A_summed : List Nat := (([] ++ []) ++ ([1] ++ ([2] ++ (([3] ++ (([] ++ [1]) ++ ([1] ++ [2]))) ++ []))))
def b_summed : FS :=
  (sSeq (sIf (fNotT (fTru (fOp oAll (fCons (fLc [4] (itSeq (fVar 0)) (bName 4) fYes (fBin oGe (fVar 4) (fC (.int 0)))) fNil))))
  sNever
  sNext)
  (sSeq (sSet 1 (fOp oList (fCons (fVar 0) fNil)))
  (sSeq (sSet 2 (fC (.int 0)))
  (sSeq (sWhile fuel0 (fTB (fBin oGt (fOp oLen (fCons (fVar 1) fNil)) (fC (.int 2))))
  (sSeq (sSet 3 (fOp oLst fNil))
  (sSeq (sWhile fuel0 (fTB (fBin oGt (fOp oLen (fCons (fVar 1) fNil)) (fC (.int 2))))
  (sSeq (sExpr (fMt 3 oExtT (fCons (fCall fn_saved (fCons (fOp oTup (fCons (fBin oIx (fVar 1) (fC (.int 0))) (fCons (fBin oIx (fVar 1) (fC (.int 1))) (fCons (fBin oIx (fVar 1) (fC (.int 2))) fNil)))) fNil)) fNil)))
  (sSet 1 (fSl (fVar 1) (fPart (fC (.int 3))) fNo))))
  (sSeq (sSet 1 (fBin oAdd (fVar 3) (fVar 1)))
  (sAug 2 oIAdd (fC (.int 1)))))))
  (sRet (fOp oTup (fCons (fVar 2) (fCons (fOp oTuple (fCons (fVar 1) fNil)) fNil))))))))
def fn_summed : FnS := mkFn 1 5 A_summed b_summed
/-! root_of(number): slots 0 number, 1 place, 2 found, 3 rest -/
def A_root_of : List Nat := (([] ++ []) ++ ([1] ++ ([1] ++ ([2, 3] ++ (((([3] ++ [2]) ++ [2]) ++ [1]) ++ [])))))
def b_root_of : FS :=
  (sSeq (sIf (fTB (fBin oLt (fVar 0) (fC (.int 0))))
  sNever
  sNext)
  (sSeq (sSet 1 (fC (.int 1)))
  (sSeq (sWhile fuel0 (fTB (fBin oLe (fBin oMul (fVar 1) (fC (.int 4))) (fVar 0)))
  (sAug 1 oIMul (fC (.int 4))))
  (sSeq (sPar 2 3 (fCons (fC (.int 0)) (fCons (fVar 0) fNil)))
  (sSeq (sWhile fuel0 (fTB (fBin oGt (fVar 1) (fC (.int 0))))
  (sSeq (sIf (fTB (fBin oGe (fVar 3) (fBin oAdd (fVar 2) (fVar 1))))
  (sSeq (sAug 3 oSub (fBin oAdd (fVar 2) (fVar 1)))
  (sSet 2 (fBin oAdd (fBin oDiv (fVar 2) (fC (.int 2))) (fVar 1))))
  (sAug 2 oIDiv (fC (.int 2))))
  (sAug 1 oIDiv (fC (.int 4)))))
  (sRet (fOp oTup (fCons (fVar 2) (fCons (fVar 3) fNil)))))))))
def fn_root_of : FnS := mkFn 1 4 A_root_of b_root_of
/-! turned_bits(bits, code): slots 0 bits, 1 code, 2 k -/
def A_turned_bits : List Nat := ([] ++ [])
def b_turned_bits : FS :=
  (sSeq (sExpr (fCall fn_check_code (fCons (fVar 0) (fCons (fVar 1) fNil))))
  (sRet (fOp oSum (fCons (fLc [2] (itRng (fCons (fVar 0) fNil)) (bName 2) (fTB (fBin oEq (fBin oMod (fBin oDiv (fVar 1) (fCall fn_power_of (fCons (fVar 2) fNil))) (fC (.int 2))) (fC (.int 1)))) (fCall fn_power_of (fCons (fBin oSub (fBin oSub (fVar 0) (fC (.int 1))) (fVar 2)) fNil))) fNil))))
def fn_turned_bits : FnS := mkFn 2 3 A_turned_bits b_turned_bits
/-! counts(bits, code): slots 0 bits, 1 code, 2 row, 3 ones, 4 k -/
def A_counts : List Nat := ([] ++ ([2] ++ ([3] ++ [])))
def b_counts : FS :=
  (sSeq (sExpr (fCall fn_check_code (fCons (fVar 0) (fCons (fVar 1) fNil))))
  (sSeq (sSet 2 (fLc [4] (itRng (fCons (fVar 0) fNil)) (bName 4) fYes (fBin oMod (fBin oDiv (fVar 1) (fCall fn_power_of (fCons (fVar 4) fNil))) (fC (.int 2)))))
  (sSeq (sSet 3 (fLc [4] (itRng (fCons (fVar 0) fNil)) (bName 4) (fTB (fBin oEq (fBin oIx (fVar 2) (fVar 4)) (fC (.int 1)))) (fVar 4)))
  (sRet (fOp oTup (fCons (fOp oLen (fCons (fVar 3) fNil)) (fCons (fIf (fTru (fVar 3)) (fBin oSub (fBin oSub (fVar 0) (fC (.int 1))) (fBin oIx (fVar 3) (fUn oNeg (fC (.int 1))))) (fVar 0)) (fCons (fIf (fTru (fVar 3)) (fBin oIx (fVar 3) (fC (.int 0))) (fVar 0)) fNil))))))))
def fn_counts : FnS := mkFn 2 5 A_counts b_counts
/-! bits_of(number, many): slots 0 number, 1 many, 2 found, 3 _ -/
def A_bits_of : List Nat := ([2] ++ (([3] ++ ([] ++ [0])) ++ []))
def b_bits_of : FS :=
  (sSeq (sSet 2 (fOp oLst fNil))
  (sSeq (sFor (itRng (fCons (fVar 1) fNil)) (bName 3)
  (sSeq (sExpr (fMt 2 oAppend (fCons (fBin oMod (fVar 0) (fC (.int 2))) fNil)))
  (sAug 0 oIDiv (fC (.int 2)))))
  (sRet (fOp oTuple (fCons (fVar 2) fNil)))))
def fn_bits_of : FnS := mkFn 2 4 A_bits_of b_bits_of
/-! number_of(bits): slots 0 bits, 1 found, 2 bit -/
def A_number_of : List Nat := ([1] ++ (([2] ++ [1]) ++ []))
def b_number_of : FS :=
  (sSeq (sSet 1 (fC (.int 0)))
  (sSeq (sFor (itSeq (fUn oRev (fVar 0))) (bName 2)
  (sSet 1 (fBin oAdd (fBin oMul (fVar 1) (fC (.int 2))) (fVar 2))))
  (sRet (fVar 1))))
def fn_number_of : FnS := mkFn 1 3 A_number_of b_number_of
/-! _law_begin(script): slots 0 script, 1 seed, 2 cell -/
def A__law_begin : List Nat := ([1] ++ (([2] ++ [1]) ++ []))
def b__law_begin : FS :=
  (sSeq (sSet 1 (fC (.int 1)))
  (sSeq (sFor (itSeq (fVar 0)) (bName 2)
  (sSet 1 (fBin oMod (fBin oAdd (fBin oAdd (fBin oMul (fVar 1) (fC (.int 69621))) (fBin oMod (fOp oInt (fCons (fVar 2) fNil)) (fC (.int 2147483629)))) (fC (.int 7))) (fC (.int 2147483647)))))
  (sRet (fMkSt (fCons (fOp oList (fCons (fVar 0) fNil)) (fCons (fC (.int 0)) (fCons (fC (.int 0)) (fCons (fVar 1) fNil))))))))
def fn__law_begin : FnS := mkFn 1 3 A__law_begin b__law_begin
/-! _law_take(d, many): slots 0 d, 1 many, 2 digit, 3 small -/
def A__law_take : List Nat := ((([] ++ ([] ++ (([3] ++ ([] ++ [])) ++ []))) ++ []) ++ ((([2] ++ ([] ++ [])) ++ []) ++ ([] ++ [])))
def b__law_take : FS :=
  (sSeq (sIf (fAndT (fTB (fBin oEq (fStGet 0 2) (fC (.int 0)))) (fTB (fBin oLt (fStGet 0 1) (fStLen 0))))
  (sSeq (sStSet 0 2 (fOp oAbs (fCons (fOp oInt (fCons (fStIx 0) fNil)) fNil)))
  (sSeq (sStSet 0 1 (fBin oAdd (fStGet 0 1) (fC (.int 1))))
  (sIf (fTB (fBin oLt (fStGet 0 2) (fBin oPow (fC (.int 10)) (fC (.int 18)))))
  (sSeq (sSet 3 (fOp oInt (fCons (fStGet 0 2) fNil)))
  (sSeq (sStSet 0 2 (fC (.int 0)))
  (sRet (fBin oMod (fVar 3) (fVar 1)))))
  sNext)))
  sNext)
  (sSeq (sIf (fTB (fBin oGt (fStGet 0 2) (fC (.int 0))))
  (sSeq (sSet 2 (fBin oMod (fOp oInt (fCons (fStGet 0 2) fNil)) (fVar 1)))
  (sSeq (sStSet 0 2 (fBin oDiv (fOp oInt (fCons (fStGet 0 2) fNil)) (fVar 1)))
  (sRet (fVar 2))))
  sNext)
  (sSeq (sStSet 0 3 (fBin oMod (fOp oInt (fCons (fBin oAdd (fBin oMul (fStGet 0 3) (fC (.int 48271))) (fC (.int 11))) fNil)) (fC (.int 2147483647))))
  (sRet (fBin oMod (fOp oInt (fCons (fBin oDiv (fStGet 0 3) (fC (.int 3))) fNil)) (fVar 1))))))
def fn__law_take : FnS := mkFn 2 4 A__law_take b__law_take
/-! _law_raise(times): slots 0 times, 1 found, 2 k -/
def A__law_raise : List Nat := ([1] ++ (([2] ++ [1]) ++ []))
def b__law_raise : FS :=
  (sSeq (sSet 1 (fC (.int 1)))
  (sSeq (sFor (itRng (fCons (fVar 0) fNil)) (bName 2)
  (sSet 1 (fBin oMul (fC (.int 2)) (fVar 1))))
  (sRet (fVar 1))))
def fn__law_raise : FnS := mkFn 1 3 A__law_raise b__law_raise
/-! _law_part1(d, bits, whole, one, other, ones, ahead, behind): slots 0 d, 1 bits, 2 whole, 3 one, 4 other, 5 ones, 6 ahead, 7 behind, 8 mirrored, 9 row, 10 weight, 11 numbers, 12 steps, 13 left, 14 bound, 15 many, 16 a, 17 b, 18 root, 19 quotient, 20 rest, 21 rows, 22 digit, 23 k -/
def A__law_part1 : List Nat := ([8] ++ (([] ++ []) ++ ([9] ++ (([] ++ []) ++ ([10] ++ (([] ++ []) ++ (([] ++ []) ++ (((([19] ++ ([20] ++ ([21] ++ []))) ++ (([] ++ []) ++ ([] ++ []))) ++ []) ++ ([11] ++ (([12] ++ ([13] ++ [])) ++ ([14] ++ ([15] ++ (([15] ++ [14]) ++ (([] ++ []) ++ (([16] ++ ([17] ++ [])) ++ (([] ++ []) ++ ([18] ++ [])))))))))))))))))
def b__law_part1 : FS :=
  (sSeq (sSet 8 (fCall fn_counts (fCons (fVar 1) (fCons (fCall fn_turned_bits (fCons (fVar 1) (fCons (fVar 3) fNil))) fNil))))
  (sSeq (sIf (fOrT (fTB (fBin oNe (fVar 8) (fOp oTup (fCons (fVar 5) (fCons (fVar 7) (fCons (fVar 6) fNil)))))) (fOrT (fTB (fBin oNe (fBin oIx (fCall fn_counts (fCons (fVar 1) (fCons (fBin oSub (fBin oSub (fVar 2) (fC (.int 1))) (fVar 3)) fNil))) (fC (.int 0))) (fBin oSub (fVar 1) (fVar 5)))) (fAndT (fTB (fBin oGt (fVar 3) (fC (.int 0)))) (fTB (fBin oNe (fBin oMul (fBin oDiv (fVar 3) (fCall fn__law_raise (fCons (fVar 7) fNil))) (fCall fn__law_raise (fCons (fVar 7) fNil))) (fVar 3))))))
  (sRet (fC (.bl false)))
  sNext)
  (sSeq (sSet 9 (fCall fn_sparse (fCons (fVar 1) (fCons (fVar 3) fNil))))
  (sSeq (sIf (fOrT (fTB (fBin oNe (fCall fn_from_digits (fCons (fVar 9) fNil)) (fCall fn_meaning (fCons (fVar 1) (fCons (fVar 3) fNil))))) (fTB (fBin oNe (fCall fn_from_digits (fCons (fCall fn_digits (fCons (fVar 1) (fCons (fVar 3) fNil))) fNil)) (fCall fn_meaning (fCons (fVar 1) (fCons (fVar 3) fNil))))))
  (sRet (fC (.bl false)))
  sNext)
  (sSeq (sSet 10 (fOp oLen (fCons (fLc [22] (itSeq (fVar 9)) (bName 22) (fTB (fBin oNe (fVar 22) (fC (.int 0)))) (fVar 22)) fNil)))
  (sSeq (sIf (fOrT (fTB (fBin oGt (fVar 10) (fOp oLen (fCons (fLc [22] (itSeq (fCall fn_digits (fCons (fVar 1) (fCons (fVar 3) fNil)))) (bName 22) (fTB (fBin oNe (fVar 22) (fC (.int 0)))) (fVar 22)) fNil)))) (fTB (fBin oGt (fBin oMul (fC (.int 2)) (fVar 10)) (fBin oAdd (fVar 1) (fC (.int 1))))))
  (sRet (fC (.bl false)))
  sNext)
  (sSeq (sIf (fTB (fBin oNe (fCall fn_sparse (fCons (fVar 1) (fCons (fIf (fTB (fBin oNotN (fCall fn_code_of (fCons (fVar 1) (fCons (fBin oSub (fC (.int 0)) (fCall fn_meaning (fCons (fVar 1) (fCons (fVar 3) fNil)))) fNil))) (fC .non))) (fCall fn_code_of (fCons (fVar 1) (fCons (fBin oSub (fC (.int 0)) (fCall fn_meaning (fCons (fVar 1) (fCons (fVar 3) fNil)))) fNil))) (fC (.int 0))) fNil))) (fIf (fTB (fBin oNotN (fCall fn_code_of (fCons (fVar 1) (fCons (fBin oSub (fC (.int 0)) (fCall fn_meaning (fCons (fVar 1) (fCons (fVar 3) fNil)))) fNil))) (fC .non))) (fOp oTuple (fCons (fLc [22] (itSeq (fVar 9)) (bName 22) fYes (fBin oSub (fC (.int 0)) (fVar 22))) fNil)) (fOp oTup fNil))))
  (sRet (fC (.bl false)))
  sNext)
  (sSeq (sIf (fTB (fBin oGt (fVar 4) (fC (.int 0))))
  (sSeq (sPat (bTup 3 (bCons (bName 19) (bCons (bName 20) (bCons (bName 21) bNil)))) (fCall fn_divided (fCons (fVar 1) (fCons (fVar 3) (fCons (fVar 4) fNil)))))
  (sSeq (sIf (fOrT (fTB (fBin oNe (fSl (fCall fn_divided_both (fCons (fVar 1) (fCons (fVar 3) (fCons (fVar 4) fNil)))) fNo (fPart (fC (.int 2)))) (fOp oTup (fCons (fVar 19) (fCons (fVar 20) fNil))))) (fOrT (fTB (fBin oNe (fBin oIx (fVar 21) (fUn oNeg (fC (.int 1)))) (fVar 20))) (fTB (fBin oGe (fOp oMax (fCons (fVar 21) fNil)) (fVar 4)))))
  (sRet (fC (.bl false)))
  sNext)
  (sIf (fOrT (fTB (fBin oNe (fBin oIx (fCall fn_divided (fCons (fVar 1) (fCons (fVar 19) (fCons (fVar 4) fNil)))) (fC (.int 0))) (fBin oDiv (fBin oDiv (fVar 3) (fVar 4)) (fVar 4)))) (fTB (fBin oNe (fBin oIx (fCall fn_divided (fCons (fVar 1) (fCons (fVar 3) (fCons (fC (.int 1)) fNil)))) (fC (.int 0))) (fVar 3))))
  (sRet (fC (.bl false)))
  sNext)))
  sNext)
  (sSeq (sSet 11 (fOp oTuple (fCons (fLc [23] (itRng (fCons (fBin oAdd (fC (.int 3)) (fCall fn__law_take (fCons (fVar 0) (fCons (fC (.int 20)) fNil)))) fNil)) (bName 23) fYes (fCall fn__law_take (fCons (fVar 0) (fCons (fC (.int 900)) fNil)))) fNil)))
  (sSeq (sPat (bTup 2 (bCons (bName 12) (bCons (bName 13) bNil))) (fCall fn_summed (fCons (fVar 11) fNil)))
  (sSeq (sSet 14 (fC (.int 1)))
  (sSeq (sSet 15 (fOp oLen (fCons (fVar 11) fNil)))
  (sSeq (sWhile fuel0 (fTB (fBin oGt (fVar 15) (fC (.int 2))))
  (sSeq (sSet 15 (fBin oAdd (fBin oDiv (fBin oMul (fC (.int 2)) (fVar 15)) (fC (.int 3))) (fOp oInt (fCons (fBin oGt (fBin oMod (fOp oInt (fCons (fBin oMul (fC (.int 2)) (fVar 15)) fNil)) (fC (.int 3))) (fC (.int 0))) fNil))))
  (sSet 14 (fBin oAdd (fVar 14) (fC (.int 1))))))
  (sSeq (sIf (fOrT (fTB (fBin oNe (fOp oSum (fCons (fVar 13) fNil)) (fOp oSum (fCons (fVar 11) fNil)))) (fTB (fBin oGt (fVar 12) (fVar 14))))
  (sRet (fC (.bl false)))
  sNext)
  (sSeq (sPat (bTup 2 (bCons (bName 16) (bCons (bName 17) bNil))) (fCall fn_saved (fCons (fSl (fVar 11) fNo (fPart (fC (.int 3)))) fNil)))
  (sSeq (sIf (fOrT (fTB (fBin oNe (fBin oAdd (fBin oIx (fCall fn_saved (fCons (fOp oTup (fCons (fVar 16) (fCons (fVar 17) (fCons (fC (.int 0)) fNil)))) fNil)) (fC (.int 0))) (fBin oIx (fCall fn_saved (fCons (fOp oTup (fCons (fVar 16) (fCons (fVar 17) (fCons (fC (.int 0)) fNil)))) fNil)) (fC (.int 1)))) (fBin oAdd (fVar 16) (fVar 17)))) (fTB (fBin oNe (fBin oAdd (fVar 16) (fVar 17)) (fOp oSum (fCons (fSl (fVar 11) fNo (fPart (fC (.int 3)))) fNil)))))
  (sRet (fC (.bl false)))
  sNext)
  (sSeq (sSet 18 (fBin oAdd (fBin oMul (fVar 3) (fC (.int 7))) (fC (.int 3))))
  (sRet (fAnd (fBin oEq (fCall fn_root_of (fCons (fBin oMul (fVar 18) (fVar 18)) fNil)) (fOp oTup (fCons (fVar 18) (fCons (fC (.int 0)) fNil)))) (fAnd (fBin oEq (fCall fn_root_of (fCons (fBin oAdd (fBin oMul (fVar 18) (fVar 18)) (fBin oMul (fC (.int 2)) (fVar 18))) fNil)) (fOp oTup (fCons (fVar 18) (fCons (fBin oMul (fC (.int 2)) (fVar 18)) fNil)))) (fBin oEq (fCall fn_root_of (fCons (fBin oSub (fBin oMul (fVar 18) (fVar 18)) (fC (.int 1))) fNil)) (fOp oTup (fCons (fBin oSub (fVar 18) (fC (.int 1))) (fCons (fBin oSub (fBin oMul (fC (.int 2)) (fVar 18)) (fC (.int 2))) fNil))))))))))))))))))))))))
def fn__law_part1 : FnS := mkFn 8 24 A__law_part1 b__law_part1
/-! law(script): slots 0 script, 1 d, 2 bits, 3 whole, 4 one, 5 other, 6 code, 7 flags, 8 back, 9 second, 10 signs, 11 less, 12 marks, 13 turned, 14 again, 15 ones, 16 ahead, 17 behind, 18 more, 19 wide, 20 number -/
def A_law : List Nat := ([1] ++ ([2] ++ (([2] ++ []) ++ ([3] ++ ([4] ++ ([5] ++ (([6] ++ ([7] ++ [])) ++ (([8] ++ ([9] ++ [])) ++ (([] ++ []) ++ ([10] ++ (([] ++ []) ++ (([11] ++ ([12] ++ [])) ++ (([] ++ []) ++ ([13] ++ ([14] ++ (([] ++ []) ++ ((([18] ++ ([19] ++ (([] ++ []) ++ ([] ++ [])))) ++ []) ++ (([] ++ []) ++ (([15] ++ ([16] ++ ([17] ++ []))) ++ [])))))))))))))))))))
def b_law : FS :=
  (sSeq (sSet 1 (fCall fn__law_begin (fCons (fVar 0) fNil)))
  (sSeq (sSet 2 (fBin oAdd (fC (.int 1)) (fCall fn__law_take (fCons (fVar 1) (fCons (fC (.int 10)) fNil)))))
  (sSeq (sIf (fTB (fBin oEq (fCall fn__law_take (fCons (fVar 1) (fCons (fC (.int 5)) fNil))) (fC (.int 0))))
  (sSet 2 (fC (.int 32)))
  sNext)
  (sSeq (sSet 3 (fCall fn__law_raise (fCons (fVar 2) fNil)))
  (sSeq (sSet 4 (fBin oMod (fOp oInt (fCons (fBin oAdd (fBin oMul (fCall fn__law_take (fCons (fVar 1) (fCons (fC (.int 900)) fNil))) (fC (.int 4771819))) (fCall fn__law_take (fCons (fVar 1) (fCons (fC (.int 900)) fNil)))) fNil)) (fVar 3)))
  (sSeq (sSet 5 (fBin oMod (fOp oInt (fCons (fBin oAdd (fBin oMul (fCall fn__law_take (fCons (fVar 1) (fCons (fC (.int 900)) fNil))) (fC (.int 4771819))) (fCall fn__law_take (fCons (fVar 1) (fCons (fC (.int 900)) fNil)))) fNil)) (fVar 3)))
  (sSeq (sPat (bTup 2 (bCons (bName 6) (bCons (bName 7) bNil))) (fCall fn_added (fCons (fVar 2) (fCons (fVar 4) (fCons (fVar 5) fNil)))))
  (sSeq (sPat (bTup 2 (bCons (bName 8) (bCons (bName 9) bNil))) (fCall fn_taken_off (fCons (fVar 2) (fCons (fVar 6) (fCons (fVar 5) fNil)))))
  (sSeq (sIf (fOrT (fTB (fBin oNe (fVar 8) (fVar 4))) (fOrT (fTB (fBin oNe (fCall fn_added (fCons (fVar 2) (fCons (fVar 5) (fCons (fVar 4) fNil)))) (fOp oTup (fCons (fVar 6) (fCons (fVar 7) fNil))))) (fTB (fBin oNe (fBin oIx (fVar 9) (fC (.int 0))) (fOp oInt (fCons (fBin oGe (fVar 6) (fVar 5)) fNil))))))
  (sRet (fC (.bl false)))
  sNext)
  (sSeq (sSet 10 (fLc [20] (itSeq (fOp oTup (fCons (fVar 4) (fCons (fVar 5) (fCons (fVar 6) fNil))))) (bName 20) fYes (fOp oInt (fCons (fBin oGe (fBin oMul (fC (.int 2)) (fVar 20)) (fVar 3)) fNil))))
  (sSeq (sIf (fOrT (fTB (fBin oNe (fBin oIx (fVar 7) (fC (.int 1))) (fOp oInt (fCons (fAnd (fBin oEq (fBin oIx (fVar 10) (fC (.int 0))) (fBin oIx (fVar 10) (fC (.int 1)))) (fBin oNe (fBin oIx (fVar 10) (fC (.int 2))) (fBin oIx (fVar 10) (fC (.int 0))))) fNil)))) (fTB (fBin oNe (fBin oIx (fVar 7) (fC (.int 2))) (fBin oIx (fVar 10) (fC (.int 2))))))
  (sRet (fC (.bl false)))
  sNext)
  (sSeq (sPat (bTup 2 (bCons (bName 11) (bCons (bName 12) bNil))) (fCall fn_taken_off (fCons (fVar 2) (fCons (fVar 4) (fCons (fVar 5) fNil)))))
  (sSeq (sIf (fOrT (fTB (fBin oNe (fBin oNe (fBin oIx (fVar 12) (fC (.int 1))) (fBin oIx (fVar 12) (fC (.int 2)))) (fBin oLt (fCall fn_meaning (fCons (fVar 2) (fCons (fVar 4) fNil))) (fCall fn_meaning (fCons (fVar 2) (fCons (fVar 5) fNil)))))) (fOrT (fTB (fBin oNe (fBin oEq (fBin oIx (fVar 12) (fC (.int 0))) (fC (.int 0))) (fBin oLt (fVar 4) (fVar 5)))) (fTB (fBin oNe (fBin oEq (fBin oIx (fVar 12) (fC (.int 3))) (fC (.int 1))) (fBin oEq (fVar 4) (fVar 5))))))
  (sRet (fC (.bl false)))
  sNext)
  (sSeq (sSet 13 (fBin oSub (fBin oSub (fVar 3) (fC (.int 1))) (fVar 5)))
  (sSeq (sSet 14 (fBin oIx (fCall fn_added (fCons (fVar 2) (fCons (fVar 4) (fCons (fVar 13) fNil)))) (fC (.int 0))))
  (sSeq (sIf (fAndT (fTB (fBin oNe (fBin oIx (fCall fn_added (fCons (fVar 2) (fCons (fVar 14) (fCons (fBin oMod (fOp oInt (fCons (fC (.int 1)) fNil)) (fVar 3)) fNil)))) (fC (.int 0))) (fVar 11))) (fTB (fBin oGt (fVar 2) (fC (.int 1)))))
  (sRet (fC (.bl false)))
  sNext)
  (sSeq (sIf (fTB (fBin oLt (fVar 2) (fC (.int 32))))
  (sSeq (sSet 18 (fBin oAdd (fBin oAdd (fVar 2) (fC (.int 1))) (fCall fn__law_take (fCons (fVar 1) (fCons (fBin oSub (fC (.int 32)) (fVar 2)) fNil)))))
  (sSeq (sSet 19 (fBin oIx (fCall fn_added (fCons (fVar 18) (fCons (fCall fn_widened (fCons (fVar 2) (fCons (fVar 4) (fCons (fVar 18) fNil)))) (fCons (fCall fn_widened (fCons (fVar 2) (fCons (fVar 5) (fCons (fVar 18) fNil)))) fNil)))) (fC (.int 0))))
  (sSeq (sIf (fOrT (fTB (fBin oNe (fCall fn_meaning (fCons (fVar 18) (fCons (fVar 19) fNil))) (fBin oAdd (fCall fn_meaning (fCons (fVar 2) (fCons (fVar 4) fNil))) (fCall fn_meaning (fCons (fVar 2) (fCons (fVar 5) fNil)))))) (fTB (fBin oNe (fBin oMod (fOp oInt (fCons (fVar 19) fNil)) (fVar 3)) (fVar 6))))
  (sRet (fC (.bl false)))
  sNext)
  (sIf (fAndT (fTB (fBin oLe (fVar 2) (fC (.int 15)))) (fTB (fBin oIsN (fCall fn_code_of (fCons (fBin oMul (fC (.int 2)) (fVar 2)) (fCons (fBin oIx (fCall fn_by_digits (fCons (fVar 2) (fCons (fVar 4) (fCons (fVar 5) fNil)))) (fC (.int 0))) fNil))) (fC .non))))
  (sRet (fC (.bl false)))
  sNext))))
  sNext)
  (sSeq (sIf (fOrT (fTB (fBin oNe (fCall fn_turned_bits (fCons (fVar 2) (fCons (fCall fn_turned_bits (fCons (fVar 2) (fCons (fVar 4) fNil))) fNil))) (fVar 4))) (fTB (fBin oNe (fCall fn_turned_bits (fCons (fVar 2) (fCons (fVar 4) fNil))) (fCall fn_number_of (fCons (fUn oRev (fCall fn_bits_of (fCons (fVar 4) (fCons (fVar 2) fNil)))) fNil)))))
  (sRet (fC (.bl false)))
  sNext)
  (sSeq (sPat (bTup 3 (bCons (bName 15) (bCons (bName 16) (bCons (bName 17) bNil)))) (fCall fn_counts (fCons (fVar 2) (fCons (fVar 4) fNil))))
  (sRet (fCall fn__law_part1 (fCons (fVar 1) (fCons (fVar 2) (fCons (fVar 3) (fCons (fVar 4) (fCons (fVar 5) (fCons (fVar 15) (fCons (fVar 16) (fCons (fVar 17) fNil)))))))))))))))))))))))))))))
def fn_law : FnS := mkFn 1 21 A_law b_law
end K44
end

section
set_option Elab.async false
set_option linter.all false
set_option maxRecDepth 100000
namespace K44
open PySem PySem.Spec PyProof.Rows L2 QL
def pw (i : Int) : Int := 2 ^ i.toNat
theorem pw_pos (i : Int) : 0 < pw i := Int.pow_pos (by decide)
theorem pw_succ {i : Int} (h : 0 ≤ i) : pw (i + 1) = 2 * pw i := by
  unfold pw
  rw [show (i + 1).toNat = i.toNat + 1 by omega, Int.pow_succ, Int.mul_comm]
theorem pw_pred {i : Int} (h : 1 ≤ i) : pw i = 2 * pw (i - 1) := by
  have := pw_succ (i := i - 1) (by omega)
  rwa [show i - 1 + 1 = i by omega] at this
theorem pw_nat (n : Nat) : pw n = 2 ^ n := by simp [pw]
@[simp] theorem pw_max {i : Int} : pw (max i 0) = pw i := by
  unfold pw
  rw [show (max i 0).toNat = i.toNat by omega]
theorem pw_toNat {i : Int} : pw (i.toNat : Int) = pw i := by simp
@[simp] theorem pw_zero : pw 0 = 1 := rfl
theorem pw_le {i : Int} {n : Nat} (h : i ≤ n) : pw i ≤ 2 ^ n := by
  unfold pw
  exact_mod_cast Nat.pow_le_pow_right (by decide) (by omega)
theorem f_power_of {i : Int} (h0 : -100 ≤ i) (h : i < 190) : fn_power_of [.d (.int i)] = some (.d (.int (pw i)), [.d (.int i)]) := by
  simp only [fn_power_of, mkFn, b_power_of, A_power_of]
  have hs : smallI i = true := smallI_of (by omega) (by omega)
  have : ∃ e', forL (bName 2) (sAug 1 oIMul (fC (.int 2))) (rngL 0 i.toNat) [some (.d (.int i)), some (.d (.int 1)), none] = some (.nx e') ∧ ∃ o, e' = [some (.d (.int i)), some (.d (.int (pw i.toNat))), o] := by
    refine for_rng (fun k e => ∃ o, e = [some (.d (.int i)), some (.d (.int (pw (k : Int)))), o]) ⟨none, rfl⟩ ?_
    rintro k e hk ⟨o, rfl⟩
    simp [pw_succ, Int.mul_comm]
  obtain ⟨e', h1, o, rfl⟩ := this
  simp [h1, hs]
theorem f_raise {i : Int} (h0 : -100 ≤ i) (h : i < 190) : fn__law_raise [.d (.int i)] = some (.d (.int (pw i)), [.d (.int i)]) := by
  simp only [fn__law_raise, mkFn, b__law_raise, A__law_raise]
  have hs : smallI i = true := smallI_of (by omega) (by omega)
  have : ∃ e', forL (bName 2) (sSet 1 (fBin oMul (fC (.int 2)) (fVar 1))) (rngL 0 i.toNat) [some (.d (.int i)), some (.d (.int 1)), none] = some (.nx e') ∧ ∃ o, e' = [some (.d (.int i)), some (.d (.int (pw i.toNat))), o] := by
    refine for_rng (fun k e => ∃ o, e = [some (.d (.int i)), some (.d (.int (pw (k : Int)))), o]) ⟨none, rfl⟩ ?_
    rintro k e hk ⟨o, rfl⟩
    have h1 := pw_pos (k : Int)
    have h2 := pw_le (i := (k : Int)) (n := 190) (by omega)
    have h3 : mulC 2 (pw (k : Int)) = true := mulC_of (by omega) (by omega) (by omega) (by omega)
    simp [pw_succ, h3]
  obtain ⟨e', h1, o, rfl⟩ := this
  simp [h1, hs]
/-- a width -/
structure Bt (b : Int) : Prop where
  lo : 1 ≤ b
  hi : b ≤ 32
/-- a code -/
structure Cd (b c : Int) : Prop where
  lo : 0 ≤ c
  hi : c < pw b
theorem Bt.pw {b : Int} (h : Bt b) : K44.pw b = 2 * K44.pw (b - 1) ∧ 1 ≤ K44.pw (b - 1) ∧ K44.pw b ≤ 2 ^ 32 := ⟨pw_pred h.lo, pw_pos _, pw_le h.hi⟩
theorem f_check {b : Int} (h : Bt b) : fn_check [.d (.int b)] = some (.d .non, [.d (.int b)]) := by
  simp [fn_check, mkFn, b_check, A_check, h.lo, h.hi]
theorem Bt.f {b : Int} (h : Bt b) : fn_power_of [.d (.int b)] = some (.d (.int (K44.pw b)), [.d (.int b)]) := f_power_of (by have := h.lo; omega) (by have := h.hi; omega)
theorem Bt.f1 {b : Int} (h : Bt b) : fn_power_of [.d (.int (b - 1))] = some (.d (.int (K44.pw (b - 1))), [.d (.int (b - 1))]) := f_power_of (by have := h.lo; omega) (by have := h.hi; omega)
theorem f_check_code {b c : Int} (h : Bt b) (hc : Cd b c) : fn_check_code [.d (.int b), .d (.int c)] = some (.d .non, [.d (.int b), .d (.int c)]) := by
  simp [fn_check_code, mkFn, b_check_code, A_check_code, f_check h, h.f, hc.lo, hc.hi]
def mn (b c : Int) : Int := if pw (b - 1) ≤ c then c - pw b else c
theorem f_meaning {b c : Int} (h : Bt b) (hc : Cd b c) : fn_meaning [.d (.int b), .d (.int c)] = some (.d (.int (mn b c)), [.d (.int b), .d (.int c)]) := by
  unfold mn
  by_cases q : pw (b - 1) ≤ c <;> simp [fn_meaning, mkFn, b_meaning, A_meaning, f_check_code h hc, h.f, h.f1, q]
def cof (b n : Int) : D := if -pw (b - 1) ≤ n ∧ n < pw (b - 1) then .int (n % pw b) else .non
theorem f_code_of {b n : Int} (h : Bt b) : fn_code_of [.d (.int b), .d (.int n)] = some (.d (cof b n), [.d (.int b), .d (.int n)]) := by
  have hp := pw_pos b
  unfold cof
  by_cases q : -pw (b - 1) ≤ n <;> by_cases q2 : n < pw (b - 1) <;> simp [fn_code_of, mkFn, b_code_of, A_code_of, f_check h, h.f, h.f1, q, q2, hp]
theorem f_widened {b c m : Int} (h : Bt b) (hc : Cd b c) (hm : b ≤ m) (hm2 : m ≤ 32) : fn_widened [.d (.int b), .d (.int c), .d (.int m)] = some (.d (.int (mn b c % pw m)), [.d (.int b), .d (.int c), .d (.int m)]) := by
  have hp := pw_pos m
  have g : Bt m := ⟨by have := h.lo; omega, hm2⟩
  simp [fn_widened, mkFn, b_widened, A_widened, f_check_code h hc, f_meaning h hc, g.f, hm, hm2, hp]
theorem smallT {n : Nat} (h : n ≤ 1000) : n ≤ sizeLine := sizeLine_ge (by omega)
theorem Cd.mod {b n : Int} (h : Bt b) : Cd b (n % pw b) := ⟨Int.emod_nonneg _ (by have := pw_pos b; omega), Int.emod_lt_of_pos _ (pw_pos b)⟩
def b2i (p : Bool) : Int := if p then 1 else 0
def flagsA (b x y c : Int) : D := .tup [.int ((x + y) / pw b), .int (if mn b x + mn b y = mn b c then 0 else 1), .int (c / pw (b - 1)), .int (if c = 0 then 1 else 0)]
theorem Bt.dv {b : Int} (h : Bt b) : divC n (K44.pw b) = true := divC_of (pw_pos b) (by have := h.pw; omega)
theorem Bt.dv1 {b : Int} (h : Bt b) : divC n (K44.pw (b - 1)) = true := divC_of (pw_pos _) (by have := h.pw; omega)
theorem f_added {b x y : Int} (h : Bt b) (hx : Cd b x) (hy : Cd b y) : fn_added [.d (.int b), .d (.int x), .d (.int y)] = some (.d (.tup [.int ((x + y) % pw b), flagsA b x y ((x + y) % pw b)]), [.d (.int b), .d (.int x), .d (.int y)]) := by
  have hp := pw_pos b
  have hp1 := pw_pos (b - 1)
  have hc : Cd b ((x + y) % pw b) := Cd.mod h
  have z4 : 4 ≤ sizeLine := smallT (by decide)
  have z2 : 2 ≤ sizeLine := smallT (by decide)
  simp [fn_added, mkFn, b_added, A_added, f_check_code h hx, f_check_code h hy, h.f, h.f1, hp, hp1, f_meaning h hx, f_meaning h hy, f_meaning h hc, h.dv, h.dv1, z4, z2, flagsA]
def flagsO (b x y c : Int) : D := .tup [.int ((x + (pw b - 1 - y) + 1) / pw b), .int (if mn b x - mn b y = mn b c then 0 else 1), .int (c / pw (b - 1)), .int (if c = 0 then 1 else 0)]
theorem f_taken_off {b x y : Int} (h : Bt b) (hx : Cd b x) (hy : Cd b y) : fn_taken_off [.d (.int b), .d (.int x), .d (.int y)] = some (.d (.tup [.int ((x + (pw b - 1 - y) + 1) % pw b), flagsO b x y ((x + (pw b - 1 - y) + 1) % pw b)]), [.d (.int b), .d (.int x), .d (.int y)]) := by
  have hp := pw_pos b
  have hp1 := pw_pos (b - 1)
  have hc : Cd b ((x + (pw b - 1 - y) + 1) % pw b) := Cd.mod h
  have z4 : 4 ≤ sizeLine := smallT (by decide)
  have z2 : 2 ≤ sizeLine := smallT (by decide)
  simp [fn_taken_off, mkFn, b_taken_off, A_taken_off, f_check_code h hx, f_check_code h hy, h.f, h.f1, hp, hp1, f_meaning h hx, f_meaning h hy, f_meaning h hc, h.dv, h.dv1, z4, z2, flagsO]

/-! ### digits -/
def bt (c k : Int) : Int := c / pw k % 2
theorem bt_range (c k : Int) : bt c k = 0 ∨ bt c k = 1 := by unfold bt; omega
def dgt (c : Int) (j : Nat) : Int := (if j = 0 then 0 else bt c (j - 1)) - bt c j
def digL (n : Nat) (c : Int) : List Int := (List.range n).map (dgt c)
theorem digL_succ {n : Nat} {c : Int} : digL (n + 1) c = digL n c ++ [dgt c n] := by simp [digL, List.range_succ]
theorem Bt.fk {b : Int} (h : Bt b) {k : Nat} (hk : k < b.toNat) : fn_power_of [.d (.int (k : Int))] = some (.d (.int (K44.pw (k : Int))), [.d (.int (k : Int))]) := f_power_of (by omega) (by have := h.hi; omega)
theorem Bt.dk {b : Int} (h : Bt b) {k : Nat} (hk : k < b.toNat) {n : Int} : divC n (K44.pw (k : Int)) = true := divC_of (pw_pos _) (by have := pw_le (i := (k : Int)) (n := 32) (by have := h.hi; omega); omega)
theorem Bt.sm {b : Int} (h : Bt b) : smallI b = true := smallI_of (by have := h.lo; omega) (by have := h.hi; omega)
@[simp] theorem divC_two {n : Int} : divC n 2 = true := divC_of (by omega) (by omega)
theorem f_digits {b c : Int} (h : Bt b) (hc : Cd b c) : fn_digits [.d (.int b), .d (.int c)] = some (.d (.tup ((digL b.toNat c).map D.int)), [.d (.int b), .d (.int c)]) := by
  simp only [fn_digits, mkFn, b_digits, A_digits]
  have hf := fun (k : Nat) (hk : k < b.toNat) => h.fk hk
  have hcc := f_check_code h hc
  generalize fn_power_of = F at hf ⊢
  generalize fn_check_code = G at hcc ⊢
  have : ∃ e', forL (bName 4) (sSeq (sSet 5 (fBin oMod (fBin oDiv (fVar 1) (fCall F (fCons (fVar 4) fNil))) (fC (.int 2)))) (sSeq (sExpr (fMt 2 oAppend (fCons (fBin oSub (fVar 3) (fVar 5)) fNil))) (sSet 3 (fVar 5)))) (rngL 0 b.toNat)
      [some (.d (.int b)), some (.d (.int c)), some (.m (.lst [])), some (.d (.int 0)), none, none] = some (.nx e') ∧ ∃ o4 o5, e' = [some (.d (.int b)), some (.d (.int c)), some (.m (.lst ((digL b.toNat c).map D.int))), some (.d (.int (if b.toNat = 0 then 0 else bt c ((b.toNat : Int) - 1)))), o4, o5] := by
    refine for_rng (fun k e => ∃ o4 o5, e = [some (.d (.int b)), some (.d (.int c)), some (.m (.lst ((digL k c).map D.int))), some (.d (.int (if k = 0 then 0 else bt c ((k : Int) - 1)))), o4, o5]) ⟨none, none, by simp [digL]⟩ ?_
    rintro k e hk ⟨o4, o5, rfl⟩
    have hl : k < sizeLine := sizeLine_gt (by have := h.hi; omega)
    have e0 : (((k + 1 : Nat) : Int) - 1) = k := by omega
    simp -implicitDefEqProofs [hf k hk, h.dk hk, hl, digL, dgt, bt, List.range_succ]
  obtain ⟨e', h1, o4, o5, rfl⟩ := this
  have z0 : 0 ≤ sizeLine := Nat.zero_le _
  simp [hcc, h1, h.sm]

/-! ### sparse digits -/
def nd (n : Int) : Int := if n % 2 = 1 then (if n % 4 = 1 then 1 else -1) else 0
theorem nd_half (n : Int) : 2 * ((n - nd n) / 2) = n - nd n := by unfold nd; (repeat' split) <;> omega
theorem nd_lt {n : Int} (h : n ≠ 0) : ((n - nd n) / 2).natAbs < n.natAbs := by unfold nd; (repeat' split) <;> omega
def naf (n : Int) : List Int := if h : n = 0 then [] else nd n :: naf ((n - nd n) / 2)
termination_by n.natAbs
decreasing_by exact nd_lt h
theorem naf_zero : naf 0 = [] := by rw [naf]; simp
theorem naf_step {n : Int} (h : n ≠ 0) : naf n = nd n :: naf ((n - nd n) / 2) := by rw [naf]; simp [h]
theorem mn_range {b c : Int} (h : Bt b) (hc : Cd b c) : -pw (b - 1) ≤ mn b c ∧ mn b c < pw (b - 1) := by
  have := h.pw
  have := hc.lo
  have := hc.hi
  unfold mn
  split <;> omega
theorem f_sparse {b c : Int} (h : Bt b) (hc : Cd b c) : fn_sparse [.d (.int b), .d (.int c)] = some (.d (.tup ((naf (mn b c)).map D.int)), [.d (.int b), .d (.int c)]) := by
  simp only [fn_sparse, mkFn, b_sparse, A_sparse]
  have : ∃ e', whileN (fTB (fBin oNe (fVar 2) (fC (.int 0)))) (sSeq (sSet 4 (fC (.int 0)))
  (sSeq (sIf (fTB (fBin oEq (fBin oMod (fVar 2) (fC (.int 2))) (fC (.int 1))))
  (sSet 4 (fIf (fTB (fBin oEq (fBin oMod (fVar 2) (fC (.int 4))) (fC (.int 1)))) (fC (.int 1)) (fUn oNeg (fC (.int 1)))))
  sNext)
  (sSeq (sExpr (fMt 3 oAppend (fCons (fVar 4) fNil)))
  (sSet 2 (fBin oDiv (fBin oSub (fVar 2) (fVar 4)) (fC (.int 2))))))) (fuel0 [some (.d (.int b)), some (.d (.int c)), some (.d (.int (mn b c))), some (.m (.lst [])), none]) [some (.d (.int b)), some (.d (.int c)), some (.d (.int (mn b c))), some (.m (.lst [])), none] = some (.nx e') ∧ ∃ o2 o4, e' = [some (.d (.int b)), some (.d (.int c)), o2, some (.m (.lst ((naf (mn b c)).map D.int))), o4] := by
    refine while0 (fun m e => ∃ (n : Int) (acc : List Int) (o4 : Option S), e = [some (.d (.int b)), some (.d (.int c)), some (.d (.int n)), some (.m (.lst (acc.map D.int))), o4] ∧ acc ++ naf n = naf (mn b c) ∧ acc.length + m = 33 ∧ (m = 0 → n = 0) ∧ (1 ≤ m → -(2 ^ (m - 1)) ≤ n ∧ n ≤ 2 ^ (m - 1))) _ 33 (by decide) ⟨mn b c, [], none, rfl, rfl, rfl, by simp, fun _ => ?_⟩ ?_
    · have := mn_range h hc
      have := h.pw
      omega
    · rintro m e ⟨n, acc, o4, rfl, h1, h2, h3, h4⟩
      by_cases hn : n = 0
      · subst hn
        refine .inl ⟨_, by simp; rfl, some (.d (.int 0)), o4, ?_⟩
        rw [naf_zero, List.append_nil] at h1
        rw [h1]
      · have hm : 1 ≤ m := by
          by_cases z : m = 0
          · exact absurd (h3 z) hn
          · omega
        have hl : acc.length < sizeLine := sizeLine_gt (by omega)
        have hnd : nd n = if n % 2 = 1 then (if n % 4 = 1 then 1 else -1) else 0 := rfl
        refine .inr ⟨_, _, m - 1, by simp [hn]; rfl, ?_, by omega, (n - nd n) / 2, acc ++ [nd n], some (.d (.int (nd n))), rfl, by rw [← h1, naf_step hn]; simp, by simp; omega, ?_, ?_⟩
        · by_cases q : n % 2 = 1 <;> by_cases q2 : n % 4 = 1 <;> simp [q, q2, hl, hnd]
        · intro z
          have := h4 hm
          have e1 : m = 1 := by omega
          subst e1
          rw [hnd]
          (repeat' split) <;> omega
        · intro z
          obtain ⟨k, rfl⟩ : ∃ k, m = k + 2 := ⟨m - 2, by omega⟩
          have h5 := h4 hm
          rw [show k + 2 - 1 = k + 1 by omega, Int.pow_succ] at h5
          rw [show k + 2 - 1 - 1 = k by omega]
          have : (0 : Int) < 2 ^ k := Int.pow_pos (by decide)
          rw [hnd]
          (repeat' split) <;> omega
  obtain ⟨e', h1, o2, o4, rfl⟩ := this
  have z0 : 0 ≤ sizeLine := Nat.zero_le _
  simp [f_meaning h hc, h1]

/-! ### the value of digits, the least first -/
def fd : List Int → Int
  | [] => 0
  | d :: r => 2 * fd r + d
def Dg (l : List Int) : Prop := ∀ x ∈ l, x = -1 ∨ x = 0 ∨ x = 1
theorem Dg.cons {d : Int} {l : List Int} (h : Dg (d :: l)) : (d = -1 ∨ d = 0 ∨ d = 1) ∧ Dg l := ⟨h d (by simp), fun x hx => h x (by simp [hx])⟩
theorem fd_range : ∀ {l : List Int}, Dg l → -(2 ^ l.length) < fd l ∧ fd l < 2 ^ l.length
  | [], _ => by simp [fd]
  | d :: l, h => by
    have q := fd_range h.cons.2
    have := h.cons.1
    rw [List.length_cons, Int.pow_succ, fd]
    omega
theorem fd_snoc {l : List Int} {d : Int} : fd (l ++ [d]) = fd l + d * 2 ^ l.length := by
  induction l with
  | nil => simp [fd]
  | cons a l ih =>
    rw [List.cons_append, fd, ih, fd, List.length_cons, Int.pow_succ]
    grind
theorem blsOf_true {l : List Int} : blsOf (l.map fun _ => D.bl true) = some (l.map fun _ => true) := by
  have := blsOf_map (l := l.map fun _ => true)
  rwa [List.map_map] at this
theorem pow_mono {a b : Nat} (h : a ≤ b) : (2 : Int) ^ a ≤ 2 ^ b := by exact_mod_cast Nat.pow_le_pow_right (by decide) h
theorem f_from_digits {l : List Int} (hd : Dg l) (hl : l.length ≤ 100) : fn_from_digits [.d (.tup (l.map D.int))] = some (.d (.int (fd l)), [.d (.tup (l.map D.int))]) := by
  simp only [fn_from_digits, mkFn, b_from_digits, A_from_digits]
  have hz : l.length ≤ sizeLine := smallT (by omega)
  have hL : lcL [2] (bName 2) fYes (fBin oIn (fVar 2) (fOp oTup (fCons (fUn oNeg (fC (.int 1))) (fCons (fC (.int 0)) (fCons (fC (.int 1)) fNil))))) (l.map D.int) [] [some (.d (.tup (l.map D.int))), none, none] = some (.val (.m (.lst ((l.map D.int).map fun _ => .bl true))), [some (.d (.tup (l.map D.int))), none, none]) := by
    refine lc_map (fun _ => .bl true) fun x hx => ?_
    obtain ⟨i, hi, rfl⟩ := List.mem_map.mp hx
    have z3 : 3 ≤ sizeLine := smallT (by decide)
    have e : L2.inV (.int i) [.int (-1), .int 0, .int 1] = true := by
      rcases hd i hi with rfl | rfl | rfl <;> decide +kernel
    simp [lcOne, z3, oIn, oInB, flVs, e]
  have : ∃ e', forL (bName 2) (sSet 1 (fBin oAdd (fBin oMul (fC (.int 2)) (fVar 1)) (fVar 2))) (l.map D.int).reverse [some (.d (.tup (l.map D.int))), some (.d (.int 0)), none] = some (.nx e') ∧ ∃ o, e' = [some (.d (.tup (l.map D.int))), some (.d (.int (fd l))), o] := by
    have := for_list (b := bName 2) (f := sSet 1 (fBin oAdd (fBin oMul (fC (.int 2)) (fVar 1)) (fVar 2))) (xs := (l.map D.int).reverse) (e := [some (.d (.tup (l.map D.int))), some (.d (.int 0)), none])
      (fun k e => ∃ o, e = [some (.d (.tup (l.map D.int))), some (.d (.int (fd (l.drop (l.length - k))))), o]) ⟨none, by simp [fd]⟩ ?_
    · obtain ⟨e', h1, o, rfl⟩ := this
      exact ⟨_, h1, o, by simp⟩
    · rintro k x e hx ⟨o, rfl⟩
      have hk : k < l.length := by
        by_cases z : k < l.length
        · exact z
        · rw [List.getElem?_eq_none (by simp; omega)] at hx
          cases hx
      rw [List.getElem?_reverse (by simpa using hk), List.length_map, List.getElem?_map] at hx
      have hj : l.length - 1 - k < l.length := by omega
      rw [List.getElem?_eq_getElem hj] at hx
      cases hx
      have hdr : l.drop (l.length - (k + 1)) = l[l.length - 1 - k] :: l.drop (l.length - k) := by
        rw [show l.length - (k + 1) = l.length - 1 - k by omega, List.drop_eq_getElem_cons hj, show l.length - 1 - k + 1 = l.length - k by omega]
      have hr := fd_range (l := l.drop (l.length - k)) fun x hx => hd x (List.mem_of_mem_drop hx)
      have hp := pow_mono (a := (l.drop (l.length - k)).length) (b := 100) (by simp; omega)
      have hm : mulC 2 (fd (l.drop (l.length - k))) = true := mulC_of (by omega) (by omega) (by omega) (by omega)
      exact ⟨_, _, rfl, by simp [hm]; rfl, _, by rw [hdr, fd]⟩
  obtain ⟨e', h1, o, rfl⟩ := this
  have e2 : ((l.map D.int).map fun _ => D.bl true) = l.map fun _ => D.bl true := by simp
  rw [e2] at hL
  have e3 : (l.map fun _ => true).all id = true := by simp
  simp [hL, hz, oAll, blsOf_true, e3, h1]

/-! ### division -/
theorem dm {a b q r : Int} (h : a = b * q + r) (h0 : 0 ≤ r) (h1 : r < b) : a / b = q ∧ a % b = r :=
  (Int.ediv_emod_unique (by omega)).mpr ⟨by omega, h0, h1⟩
theorem div_pw_succ {c i : Int} (h : 0 ≤ i) : c / pw (i + 1) = c / pw i / 2 := by
  rw [pw_succ h, Int.mul_comm, Int.ediv_ediv, if_neg (by have := pw_pos i; omega)]
  simp
theorem pre_step {c i : Int} (h : 0 ≤ i) : c / pw i = 2 * (c / pw (i + 1)) + bt c i := by
  rw [div_pw_succ h]
  unfold bt
  omega
theorem cd_top {b c : Int} (hc : Cd b c) : c / pw b = 0 := Int.ediv_eq_zero_of_lt hc.lo hc.hi
theorem div_step {y P t : Int} (hy : 0 < y) (ht : t = 0 ∨ t = 1) :
    (if y ≤ 2 * (P % y) + t then 2 * (P % y) + t - y else 2 * (P % y) + t) = (2 * P + t) % y ∧ (if y ≤ 2 * (P % y) + t then P / y * 2 + 1 else P / y * 2) = (2 * P + t) / y := by
  have h1 := Int.mul_ediv_add_emod P y
  have h2 := Int.emod_nonneg P (b := y) (by omega)
  have h3 := Int.emod_lt_of_pos P hy
  generalize P % y = r at h1 h2 h3 ⊢
  generalize P / y = q at h1 ⊢
  have e : 2 * P + t = y * (q * 2) + (2 * r + t) := by rw [← h1]; grind
  have e' : 2 * P + t = y * (q * 2 + 1) + (2 * r + t - y) := by rw [← h1]; grind
  by_cases z : y ≤ 2 * r + t
  · have := dm e' (by omega) (by omega)
    rw [if_pos z, if_pos z, this.1, this.2]
    exact ⟨rfl, rfl⟩
  · have := dm e (by omega) (by omega)
    rw [if_neg z, if_neg z, this.1, this.2]
    exact ⟨rfl, rfl⟩
def rowL (n : Nat) (b x y : Int) : List Int := (List.range n).map fun (k : Nat) => x / pw (b - 1 - (k : Int)) % y
theorem f_divided {b x y : Int} (h : Bt b) (hx : Cd b x) (hy : Cd b y) (h0 : 0 < y) :
    fn_divided [.d (.int b), .d (.int x), .d (.int y)] = some (.d (.tup [.int (x / y), .int (x % y), .tup ((rowL b.toNat b x y).map D.int)]), [.d (.int b), .d (.int x), .d (.int y)]) := by
  simp only [fn_divided, mkFn, b_divided, A_divided]
  have hf : ∀ i : Int, 0 ≤ i → i < 32 → fn_power_of [.d (.int i)] = some (.d (.int (pw i)), [.d (.int i)]) := fun i h1 h2 => f_power_of (by omega) (by omega)
  have hcc := f_check_code h hx
  have hcd := f_check_code h hy
  generalize fn_power_of = F at hf ⊢
  generalize fn_check_code = G at hcc hcd ⊢
  have lo := h.lo
  have hi := h.hi
  have : ∃ e', forL (bName 6)
    (sSeq (sSet 3 (fBin oAdd (fBin oMul (fC (.int 2)) (fVar 3)) (fBin oMod (fBin oDiv (fVar 1) (fCall F (fCons (fVar 6) fNil))) (fC (.int 2)))))
  (sSeq (sAug 4 oIMul (fC (.int 2)))
  (sSeq (sIf (fTB (fBin oGe (fVar 3) (fVar 2)))
  (sSeq (sAug 3 oSub (fVar 2))
  (sAug 4 oIAdd (fC (.int 1))))
  sNext)
  (sExpr (fMt 5 oAppend (fCons (fVar 3) fNil)))))) (dwnL (b - 1) b.toNat) [some (.d (.int b)), some (.d (.int x)), some (.d (.int y)), some (.d (.int 0)), some (.d (.int 0)), some (.m (.lst [])), none] = some (.nx e') ∧
      ∃ o6, e' = [some (.d (.int b)), some (.d (.int x)), some (.d (.int y)), some (.d (.int (x / pw (b - (b.toNat : Int)) % y))), some (.d (.int (x / pw (b - (b.toNat : Int)) / y))), some (.m (.lst ((rowL b.toNat b x y).map D.int))), o6] := by
    refine for_dwn (fun k e => ∃ o6, e = [some (.d (.int b)), some (.d (.int x)), some (.d (.int y)), some (.d (.int (x / pw (b - (k : Int)) % y))), some (.d (.int (x / pw (b - (k : Int)) / y))), some (.m (.lst ((rowL k b x y).map D.int))), o6]) ⟨none, ?_⟩ ?_
    · simp [cd_top hx, rowL]
    · rintro k e hk ⟨o6, rfl⟩
      have hl : k < sizeLine := sizeLine_gt (by omega)
      have e1 : (b - ((k + 1 : Nat) : Int)) = b - 1 - k := by omega
      have e2 : b - (k : Int) = (b - 1 - k) + 1 := by omega
      have hrow : rowL (k + 1) b x y = rowL k b x y ++ [x / pw (b - 1 - k) % y] := by simp [rowL, List.range_succ]
      have hlr : (rowL k b x y).length < sizeLine := by simpa [rowL] using hl
      rw [hrow, e1, e2]
      have hps := pre_step (c := x) (i := b - 1 - k) (by omega)
      have hfi := hf (b - 1 - k) (by omega) (by omega)
      have hpl := pw_le (i := b - 1 - k) (n := 32) (by omega)
      generalize b - 1 - (k : Int) = i at *
      have hpp := pw_pos i
      have hP := div_step (P := x / pw (i + 1)) h0 (bt_range x i)
      rw [← hps] at hP
      have hr1 := Int.emod_nonneg (x / pw (i + 1)) (b := y) (by omega)
      have hr2 := Int.emod_lt_of_pos (x / pw (i + 1)) h0
      have hyl : y < 2 ^ 33 := by have := hy.hi; have := h.pw; omega
      have hm : mulC 2 (x / pw (i + 1) % y) = true := mulC_of (by omega) (by omega) (by omega) (by omega)
      have hd : ∀ n, divC n (pw i) = true := fun n => divC_of hpp (by omega)
      have hbt : x / pw i % 2 = bt x i := rfl
      rw [← hP.1, ← hP.2]
      generalize x / pw (i + 1) = P at *
      generalize bt x i = t at *
      clear hP hps
      by_cases z : y ≤ 2 * (P % y) + t
      · simp -implicitDefEqProofs [hfi, hd, hm, hbt, z, hlr]
      · simp -implicitDefEqProofs [hfi, hd, hm, hbt, z, hlr]
  obtain ⟨e', h1, o6, rfl⟩ := this
  have z0 : 0 ≤ sizeLine := Nat.zero_le _
  have z3 : 3 ≤ sizeLine := smallT (by decide)
  have hs : smallI (b - 1) = true := smallI_of (by omega) (by omega)
  have hs1 : smallI (-1) = true := smallI_of (by omega) (by omega)
  have e3 : (b - 1 - -1).toNat = b.toNat := by omega
  have e4 : b - max b 0 = 0 := by omega
  have hy0 : y ≠ 0 := by omega
  simp -implicitDefEqProofs [hcc, hcd, h1, hs, hs1, e3, e4, z3, hy0]

theorem snap_step {x y P fq r t d : Int} (h0 : 0 < y) (h1 : P = fq * y + r) (h2 : -y ≤ r) (h3 : r < y) (ht : t = 0 ∨ t = 1) (hd : d = if 0 ≤ r then 1 else -1) :
    2 * P + t = (2 * fq + d) * y + (2 * r + t - d * y) ∧ -y ≤ 2 * r + t - d * y ∧ 2 * r + t - d * y < y := by
  refine ⟨by grind, ?_⟩
  by_cases z : 0 ≤ r
  · rw [if_pos z] at hd
    subst hd
    omega
  · rw [if_neg z] at hd
    subst hd
    omega
theorem Dg.snoc {l : List Int} {d : Int} (h : Dg l) (hd : d = -1 ∨ d = 0 ∨ d = 1) : Dg (l ++ [d]) := fun x hx => by
  rcases List.mem_append.mp hx with q | q
  · exact h x q
  · rw [List.mem_singleton.mp q]; exact hd
theorem f_divided_both {b x y : Int} (h : Bt b) (hx : Cd b x) (hy : Cd b y) (h0 : 0 < y) :
    ∃ row : List Int, fn_divided_both [.d (.int b), .d (.int x), .d (.int y)] = some (.d (.tup [.int (x / y), .int (x % y), .tup (row.map D.int)]), [.d (.int b), .d (.int x), .d (.int y)]) := by
  simp only [fn_divided_both, mkFn, b_divided_both, A_divided_both]
  have hf : ∀ i : Int, 0 ≤ i → i < 32 → fn_power_of [.d (.int i)] = some (.d (.int (pw i)), [.d (.int i)]) := fun i h1 h2 => f_power_of (by omega) (by omega)
  have hcc := f_check_code h hx
  have hcd := f_check_code h hy
  have hfd := @f_from_digits
  generalize fn_power_of = F at hf ⊢
  generalize fn_check_code = G at hcc hcd ⊢
  generalize fn_from_digits = G2 at hfd ⊢
  have lo := h.lo
  have hi := h.hi
  have : ∃ e', forL (bName 5)
    (sSeq (sSet 7 (fIf (fTB (fBin oGe (fVar 3) (fC (.int 0)))) (fC (.int 1)) (fUn oNeg (fC (.int 1)))))
  (sSeq (sSet 3 (fBin oSub (fBin oAdd (fBin oMul (fC (.int 2)) (fVar 3)) (fBin oMod (fBin oDiv (fVar 1) (fCall F (fCons (fVar 5) fNil))) (fC (.int 2)))) (fBin oMul (fVar 7) (fVar 2))))
  (sExpr (fMt 4 oAppend (fCons (fVar 7) fNil))))) (dwnL (b - 1) b.toNat) [some (.d (.int b)), some (.d (.int x)), some (.d (.int y)), some (.d (.int 0)), some (.m (.lst [])), none, none, none] = some (.nx e') ∧
      ∃ (row : List Int) (r : Int) (o5 o7 : Option S), e' = [some (.d (.int b)), some (.d (.int x)), some (.d (.int y)), some (.d (.int r)), some (.m (.lst (row.map D.int))), o5, none, o7] ∧ row.length = b.toNat ∧ Dg row ∧ x / pw (b - (b.toNat : Int)) = fd row.reverse * y + r ∧ -y ≤ r ∧ r < y := by
    refine for_dwn (fun k e => ∃ (row : List Int) (r : Int) (o5 o7 : Option S), e = [some (.d (.int b)), some (.d (.int x)), some (.d (.int y)), some (.d (.int r)), some (.m (.lst (row.map D.int))), o5, none, o7] ∧ row.length = k ∧ Dg row ∧ x / pw (b - (k : Int)) = fd row.reverse * y + r ∧ -y ≤ r ∧ r < y) ⟨[], 0, none, none, rfl, rfl, (by intro z hz; simp at hz), ?_, by omega, h0⟩ ?_
    · simp [cd_top hx, fd]
    · rintro k e hk ⟨row, r, o5, o7, rfl, hl, hD, hP, hr1, hr2⟩
      have hlr : row.length < sizeLine := sizeLine_gt (by omega)
      have e1 : (b - ((k + 1 : Nat) : Int)) = b - 1 - k := by omega
      have e2 : b - (k : Int) = (b - 1 - k) + 1 := by omega
      rw [e1]
      rw [e2] at hP
      have hps := pre_step (c := x) (i := b - 1 - k) (by omega)
      have hfi := hf (b - 1 - k) (by omega) (by omega)
      have hpl := pw_le (i := b - 1 - k) (n := 32) (by omega)
      generalize b - 1 - (k : Int) = i at *
      have hpp := pw_pos i
      have hyl : y < 2 ^ 33 := by have := hy.hi; have := h.pw; omega
      have hm : mulC 2 r = true := mulC_of (by omega) (by omega) (by omega) (by omega)
      have hm1 : mulC 1 y = true := mulC_of (by omega) (by omega) (by omega) (by omega)
      have hm2 : mulC (-1) y = true := mulC_of (by omega) (by omega) (by omega) (by omega)
      have hd : ∀ n, divC n (pw i) = true := fun n => divC_of hpp (by omega)
      have hbt : x / pw i % 2 = bt x i := rfl
      have hbr := bt_range x i
      generalize x / pw (i + 1) = P at *
      generalize bt x i = t at *
      by_cases z : 0 ≤ r
      · have hS := snap_step (x := x) h0 hP hr1 hr2 hbr (d := 1) (by rw [if_pos z])
        refine ⟨_, _, rfl, ?_, row ++ [1], 2 * r + t - 1 * y, some (.d (.int i)), some (.d (.int 1)), rfl, by simp [hl], hD.snoc (by omega), ?_, hS.2⟩
        · simp -implicitDefEqProofs [hfi, hd, hm, hbt, z, hlr, hm1]
        · rw [hps, hS.1]
          simp [fd]
      · have hS := snap_step (x := x) h0 hP hr1 hr2 hbr (d := -1) (by rw [if_neg z])
        refine ⟨_, _, rfl, ?_, row ++ [-1], 2 * r + t - (-1) * y, some (.d (.int i)), some (.d (.int (-1))), rfl, by simp [hl], hD.snoc (by omega), ?_, hS.2⟩
        · simp -implicitDefEqProofs [hfi, hd, hm, hbt, z, hlr, hm2]
        · rw [hps, hS.1]
          simp [fd]
  obtain ⟨e', h1, row, r, o5, o7, rfl, hl, hD, hP, hr1, hr2⟩ := this
  have z0 : 0 ≤ sizeLine := Nat.zero_le _
  have z3 : 3 ≤ sizeLine := smallT (by decide)
  have hs : smallI (b - 1) = true := smallI_of (by omega) (by omega)
  have hs1 : smallI (-1) = true := smallI_of (by omega) (by omega)
  have e3 : (b - 1 - -1).toNat = b.toNat := by omega
  have e4 : b - (b.toNat : Int) = 0 := by omega
  have hy0 : y ≠ 0 := by omega
  have hfd1 := hfd (l := row.reverse) (fun x hx => hD x (List.mem_reverse.mp hx)) (by simp; omega)
  rw [List.map_reverse] at hfd1
  rw [e4, pw_zero, Int.ediv_one] at hP
  refine ⟨row, ?_⟩
  by_cases z : r < 0
  · have := dm (a := x) (b := y) (q := fd row.reverse - 1) (r := r + y) (by rw [hP]; grind) (by omega) (by omega)
    simp -implicitDefEqProofs [hcc, hcd, h1, hs, hs1, e3, e4, z3, hy0, hfd1, z, this.1, this.2]
  · have := dm (a := x) (b := y) (q := fd row.reverse) (r := r) (by rw [hP]; grind) (by omega) (by omega)
    simp -implicitDefEqProofs [hcc, hcd, h1, hs, hs1, e3, e4, z3, hy0, hfd1, z, this.1, this.2]
end K44
end

section
set_option Elab.async false
set_option linter.all false
set_option maxRecDepth 100000
namespace K44
open PySem PySem.Spec PyProof.Rows L2 QL
/-! ### the drawing -/
def GS : M → Prop
  | .st _ p c z => 0 ≤ p ∧ 0 ≤ c ∧ 0 ≤ z ∧ z < 2 ^ 32
  | _ => False
theorem f_take {st : M} {many : Int} (g : GS st) (h0 : 0 < many) (h1 : many < 2 ^ 100) :
    ∃ r st', fn__law_take [.m st, .d (.int many)] = some (.d (.int r), [.m st', .d (.int many)]) ∧ 0 ≤ r ∧ r < many ∧ GS st' := by
  cases st with
  | lst xs => exact g.elim
  | st ns p c z =>
    obtain ⟨g1, g2, g3, g4⟩ := g
    simp only [fn__law_take, mkFn, b__law_take, A__law_take]
    have hm : mulC z 48271 = true := mulC_of (by omega) (by omega) (by omega) (by omega)
    have hd3 : ∀ n, divC n 3 = true := fun n => divC_of (by omega) (by omega)
    have hdm : ∀ n, divC n many = true := fun n => divC_of (by omega) (by omega)
    have mod : ∀ n : Int, 0 ≤ n % many ∧ n % many < many := fun n => ⟨Int.emod_nonneg _ (by omega), Int.emod_lt_of_pos _ h0⟩
    have divs : ∀ n : Int, 0 ≤ n → 0 ≤ n / many := fun n hn => Int.ediv_nonneg hn (by omega)
    have seedR : ∀ n : Int, 0 ≤ n % 2147483647 ∧ n % 2147483647 < 2 ^ 32 := fun n => by omega
    by_cases hc : c = 0
    · subst hc
      by_cases hp : p < ns.length
      · obtain ⟨i, hi⟩ : ∃ i, getI ns p = some i := by
          unfold getI
          rw [if_pos g1]
          exact ⟨_, List.getElem?_eq_getElem (by omega)⟩
        generalize ha : (if i < 0 then -i else i) = a
        have ha0 : 0 ≤ a := by rw [← ha]; split <;> omega
        by_cases hs : a < 1000000000000000000
        · refine ⟨a % many, .st ns (p + 1) 0 z, ?_, (mod a).1, (mod a).2, by omega, by omega, g3, g4⟩
          simp -implicitDefEqProofs [hp, hi, ha, hs, h0]
        · have hn : 0 < a := by omega
          refine ⟨a % many, .st ns (p + 1) (a / many) z, ?_, (mod a).1, (mod a).2, by omega, divs a ha0, g3, g4⟩
          simp -implicitDefEqProofs [hp, hi, ha, hs, h0, hn, hdm]
      · refine ⟨_, .st ns p 0 ((z * 48271 + 11) % 2147483647), ?_, (mod ((z * 48271 + 11) % 2147483647 / 3)).1, (mod ((z * 48271 + 11) % 2147483647 / 3)).2, g1, g2, seedR _⟩
        simp -implicitDefEqProofs [hp, h0, hm, hd3]
    · have hn : 0 < c := by omega
      refine ⟨c % many, .st ns p (c / many) z, ?_, (mod c).1, (mod c).2, g1, divs c g2, g3, g4⟩
      simp -implicitDefEqProofs [hc, h0, hn, hdm]
theorem f_begin {ns : List Int} : ∃ z, fn__law_begin [.lk (.lst (ns.map D.int))] = some (.m (.st ns 0 0 z), [.lk (.lst (ns.map D.int))]) ∧ GS (.st ns 0 0 z) := by
  simp only [fn__law_begin, mkFn, b__law_begin, A__law_begin]
  have := for_list (b := bName 2) (f := sSet 1 (fBin oMod (fBin oAdd (fBin oAdd (fBin oMul (fVar 1) (fC (.int 69621))) (fBin oMod (fOp oInt (fCons (fVar 2) fNil)) (fC (.int 2147483629)))) (fC (.int 7))) (fC (.int 2147483647)))) (xs := ns.map D.int) (e := [some (.lk (.lst (ns.map D.int))), some (.d (.int 1)), none])
    (fun k e => ∃ z o, e = [some (.lk (.lst (ns.map D.int))), some (.d (.int z)), o] ∧ 0 ≤ z ∧ z < 2 ^ 32) ⟨1, none, rfl, by omega, by omega⟩ ?_
  · obtain ⟨e', h1, z, o, rfl, h2, h3⟩ := this
    refine ⟨z, ?_, by omega, by omega, h2, h3⟩
    simp -implicitDefEqProofs [h1]
  · rintro k x e hx ⟨z, o, rfl, h2, h3⟩
    rw [List.getElem?_map] at hx
    cases hn : ns[k]? with
    | none => rw [hn] at hx; cases hx
    | some i =>
      rw [hn] at hx
      cases hx
      have hm : mulC z 69621 = true := mulC_of (by omega) (by omega) (by omega) (by omega)
      refine ⟨_, _, rfl, ?_, (z * 69621 + i % 2147483629 + 7) % 2147483647, some (.d (.int i)), rfl, by omega, by omega⟩
      simp -implicitDefEqProofs [hm]

/-! ### bits -/
def tbL (n : Nat) (b c : Int) : List Int := (List.range n).filterMap fun (k : Nat) => if bt c k = 1 then some (pw (b - 1 - k)) else none
/-- the bits below n, turned -/
def rv : Nat → Int → Int
  | 0, _ => 0
  | n + 1, c => 2 * rv n c + bt c n
theorem tbL_sum {b c : Int} : ∀ n : Nat, (n : Int) ≤ b → (tbL n b c).sum = rv n c * pw (b - n)
  | 0, _ => by simp [tbL, rv]
  | n + 1, h => by
    have ih := tbL_sum (b := b) (c := c) n (by omega)
    have e : tbL (n + 1) b c = tbL n b c ++ (if bt c n = 1 then [pw (b - 1 - n)] else []) := by
      unfold tbL
      rw [List.range_succ, List.filterMap_append]
      congr 1
      by_cases q : bt c n = 1 <;> simp [q]
    have e2 := pw_pred (i := b - n) (by omega)
    rw [e, List.sum_append, ih, rv, e2, show (b - ((n + 1 : Nat) : Int)) = b - n - 1 by omega, show b - 1 - (n : Int) = b - n - 1 by omega]
    rcases bt_range c n with q | q
    · rw [q]
      simp
      grind
    · rw [q]
      simp
      grind
theorem rv_range (c : Int) : ∀ n : Nat, 0 ≤ rv n c ∧ rv n c < pw n
  | 0 => by simp [rv]
  | n + 1 => by
    have := rv_range c n
    have := bt_range c n
    have := pw_succ (i := (n : Int)) (by omega)
    rw [rv]
    push_cast
    omega
theorem bt_zero (c : Int) : bt c 0 = c % 2 := by simp [bt]
theorem bt_succ (c : Int) {k : Int} (h : 0 ≤ k) : bt c (k + 1) = bt (c / 2) k := by
  unfold bt
  rw [pw_succ h, Int.ediv_ediv, if_neg (by omega)]
  simp
theorem bt_rv (c : Int) : ∀ (n k : Nat), k < n → bt (rv n c) k = bt c (n - 1 - k : Nat)
  | 0, k, h => absurd h (by omega)
  | n + 1, 0, _ => by
    rw [rv]
    have := bt_range c n
    simp only [Int.ofNat_zero, Int.natCast_zero] 
    rw [bt_zero, show n + 1 - 1 - 0 = n by omega]
    omega
  | n + 1, k + 1, h => by
    have := bt_range c n
    rw [rv, show ((k + 1 : Nat) : Int) = (k : Int) + 1 by omega, bt_succ _ (by omega), show (2 * rv n c + bt c n) / 2 = rv n c by omega, bt_rv c n k (by omega), show n + 1 - 1 - (k + 1) = n - 1 - k by omega]
theorem rv_ext : ∀ {n : Nat} {c d : Int}, (∀ k : Nat, k < n → bt c k = bt d k) → rv n c = rv n d
  | 0, _, _, _ => rfl
  | n + 1, c, d, h => by rw [rv, rv, rv_ext fun k hk => h k (by omega), h n (by omega)]
theorem rv_back : ∀ {n : Nat} {c d : Int}, 0 ≤ c → c < pw n → (∀ k : Nat, k < n → bt d k = bt c (n - 1 - k : Nat)) → rv n d = c
  | 0, c, d, h0, h1, _ => by simp at h1; rw [rv]; omega
  | n + 1, c, d, h0, h1, h => by
    have hs := pw_succ (i := (n : Int)) (by omega)
    push_cast at h1
    have := rv_back (n := n) (c := c / 2) (d := d) (by omega) (by omega) fun k hk => by
      rw [h k (by omega), show n + 1 - 1 - k = (n - 1 - k) + 1 by omega]
      push_cast
      rw [bt_succ _ (by omega)]
    rw [rv, this, h n (by omega), show n + 1 - 1 - n = 0 by omega]
    have : bt c ((0 : Nat) : Int) = c % 2 := bt_zero c
    omega
theorem rv_rv {n : Nat} {c : Int} (h0 : 0 ≤ c) (h1 : c < pw n) : rv n (rv n c) = c := rv_back h0 h1 fun k hk => bt_rv c n k hk
end K44
end

section
set_option Elab.async false
set_option linter.all false
set_option maxRecDepth 100000
namespace K44
open PySem PySem.Spec PyProof.Rows L2 QL
theorem fm_congr {α β : Type} {f g : α → Option β} {l : List α} (h : ∀ x, f x = g x) : l.filterMap f = l.filterMap g := by rw [show f = g from funext h]
theorem toNat_cast {b : Int} (h : 0 ≤ b) : (b.toNat : Int) = b := by omega
theorem f_turned_bits {b c : Int} (h : Bt b) (hc : Cd b c) : fn_turned_bits [.d (.int b), .d (.int c)] = some (.d (.int (rv b.toNat c)), [.d (.int b), .d (.int c)]) := by
  simp only [fn_turned_bits, mkFn, b_turned_bits, A_turned_bits]
  have hf : ∀ i : Int, 0 ≤ i → i < 32 → fn_power_of [.d (.int i)] = some (.d (.int (pw i)), [.d (.int i)]) := fun i h1 h2 => f_power_of (by omega) (by omega)
  have hcc := f_check_code h hc
  generalize fn_power_of = F at hf ⊢
  generalize fn_check_code = G at hcc ⊢
  have lo := h.lo
  have hi := h.hi
  have hL : lcL [2] (bName 2) (fTB (fBin oEq (fBin oMod (fBin oDiv (fVar 1) (fCall F (fCons (fVar 2) fNil))) (fC (.int 2))) (fC (.int 1)))) (fCall F (fCons (fBin oSub (fBin oSub (fVar 0) (fC (.int 1))) (fVar 2)) fNil)) (rngL 0 b.toNat) [] [some (.d (.int b)), some (.d (.int c)), none]
      = some (.val (.m (.lst ((tbL b.toNat b c).map D.int))), [some (.d (.int b)), some (.d (.int c)), none]) := by
    rw [lc_pure (fun x => match x with | .int i => if bt c i = 1 then some (.int (pw (b - 1 - i))) else none | _ => none)]
    · congr 4
      rw [List.nil_append, rngL_zero, List.filterMap_map, tbL, List.map_filterMap]
      refine congrArg M.lst (fm_congr fun k => ?_)
      show (if bt c k = 1 then some (D.int (pw (b - 1 - k))) else none) = _
      split <;> rfl
    · intro x hx
      obtain ⟨k, hk0⟩ := List.getElem?_of_mem hx
      obtain ⟨hk, rfl⟩ := rngL_get hk0
      clear hk0
      have h1 := hf (0 + (k : Int)) (by omega) (by omega)
      have h2 := hf (b - 1 - (0 + (k : Int))) (by omega) (by omega)
      have h3 := pw_le (i := 0 + (k : Int)) (n := 32) (by omega)
      have h4 : ∀ n, divC n (pw (0 + (k : Int))) = true := fun n => divC_of (pw_pos _) (by omega)
      generalize (0 + (k : Int)) = i at *
      have h5 : c / pw i % 2 = bt c i := rfl
      by_cases z : bt c i = 1 <;> simp -implicitDefEqProofs [lcOne, h1, h2, h4, h5, z]
  have hs := tbL_sum (b := b) (c := c) b.toNat (by omega)
  rw [toNat_cast (by omega), Int.sub_self, pw_zero, Int.mul_one] at hs
  have z0 : b.toNat ≤ sizeLine := smallT (by omega)
  simp -implicitDefEqProofs [hcc, hL, h.sm, rngL_len, z0, oSum, hs]
theorem f_bits_of {c m : Int} (h0 : 0 ≤ m) (h1 : m ≤ 100) : fn_bits_of [.d (.int c), .d (.int m)] = some (.d (.tup (((List.range m.toNat).map fun (k : Nat) => bt c k).map D.int)), [.d (.int c), .d (.int m)]) := by
  simp only [fn_bits_of, mkFn, b_bits_of, A_bits_of]
  have : ∃ e', forL (bName 3) (sSeq (sExpr (fMt 2 oAppend (fCons (fBin oMod (fVar 0) (fC (.int 2))) fNil))) (sAug 0 oIDiv (fC (.int 2)))) (rngL 0 m.toNat) [some (.d (.int c)), some (.d (.int m)), some (.m (.lst [])), none] = some (.nx e') ∧
      ∃ o, e' = [some (.d (.int (c / pw m.toNat))), some (.d (.int m)), some (.m (.lst (((List.range m.toNat).map fun (k : Nat) => bt c k).map D.int))), o] := by
    refine for_rng (fun k e => ∃ o, e = [some (.d (.int (c / pw k))), some (.d (.int m)), some (.m (.lst (((List.range k).map fun (k : Nat) => bt c k).map D.int))), o]) ⟨none, by simp⟩ ?_
    rintro k e hk ⟨o, rfl⟩
    have hl : k < sizeLine := sizeLine_gt (by omega)
    have e1 : c / pw ((k + 1 : Nat) : Int) = c / pw k / 2 := div_pw_succ (i := (k : Int)) (by omega)
    have hL : ((List.range k).map fun (k : Nat) => bt c k).length = k := by simp
    have e2 : bt c k = c / pw k % 2 := rfl
    rw [List.range_succ, List.map_append, List.map_append, e1]
    generalize ((List.range k).map fun (k : Nat) => bt c k) = L at *
    generalize (c / pw (k : Int)) = q at *
    simp only [List.map_cons, List.map_nil, e2]
    subst hL
    simp -implicitDefEqProofs [hl]
  obtain ⟨e', h2, o, rfl⟩ := this
  have hs : smallI m = true := smallI_of (by omega) (by omega)
  simp -implicitDefEqProofs [h2, hs]
theorem f_number_of {l : List Int} (hd : Dg l) (hl : l.length ≤ 100) : fn_number_of [.d (.tup (l.map D.int))] = some (.d (.int (fd l)), [.d (.tup (l.map D.int))]) := by
  simp only [fn_number_of, mkFn, b_number_of, A_number_of]
  have : ∃ e', forL (bName 2) (sSet 1 (fBin oAdd (fBin oMul (fVar 1) (fC (.int 2))) (fVar 2))) (l.map D.int).reverse [some (.d (.tup (l.map D.int))), some (.d (.int 0)), none] = some (.nx e') ∧ ∃ o, e' = [some (.d (.tup (l.map D.int))), some (.d (.int (fd l))), o] := by
    have := for_list (b := bName 2) (f := sSet 1 (fBin oAdd (fBin oMul (fVar 1) (fC (.int 2))) (fVar 2))) (xs := (l.map D.int).reverse) (e := [some (.d (.tup (l.map D.int))), some (.d (.int 0)), none])
      (fun k e => ∃ o, e = [some (.d (.tup (l.map D.int))), some (.d (.int (fd (l.drop (l.length - k))))), o]) ⟨none, by simp [fd]⟩ ?_
    · obtain ⟨e', h1, o, rfl⟩ := this
      exact ⟨_, h1, o, by simp⟩
    · rintro k x e hx ⟨o, rfl⟩
      have hk : k < l.length := by
        by_cases z : k < l.length
        · exact z
        · rw [List.getElem?_eq_none (by simp; omega)] at hx
          cases hx
      rw [List.getElem?_reverse (by simpa using hk), List.length_map, List.getElem?_map] at hx
      have hj : l.length - 1 - k < l.length := by omega
      rw [List.getElem?_eq_getElem hj] at hx
      cases hx
      have hdr : l.drop (l.length - (k + 1)) = l[l.length - 1 - k] :: l.drop (l.length - k) := by
        rw [show l.length - (k + 1) = l.length - 1 - k by omega, List.drop_eq_getElem_cons hj, show l.length - 1 - k + 1 = l.length - k by omega]
      have hr := fd_range (l := l.drop (l.length - k)) fun x hx => hd x (List.mem_of_mem_drop hx)
      have hp := pow_mono (a := (l.drop (l.length - k)).length) (b := 100) (by simp; omega)
      have hm : mulC (fd (l.drop (l.length - k))) 2 = true := mulC_of (by omega) (by omega) (by omega) (by omega)
      exact ⟨_, _, rfl, by simp [hm]; rfl, _, by rw [hdr, fd, Int.mul_comm]⟩
  obtain ⟨e', h1, o, rfl⟩ := this
  simp [h1]
theorem fd_bits (c : Int) : ∀ n : Nat, fd ((List.range n).map fun (k : Nat) => bt c k).reverse = rv n c
  | 0 => rfl
  | n + 1 => by
    rw [List.range_succ, List.map_append, List.reverse_append]
    show 2 * fd ((List.range n).map fun (k : Nat) => bt c k).reverse + bt c n = _
    rw [fd_bits c n, rv]
theorem Dg_bits (c : Int) (n : Nat) : Dg ((List.range n).map fun (k : Nat) => bt c k).reverse := fun x hx => by
  obtain ⟨k, _, rfl⟩ := List.mem_map.mp (List.mem_reverse.mp hx)
  have := bt_range c k
  omega

/-! ### counts -/
def oL (n : Nat) (c : Int) : List Nat := (List.range n).filter fun k => bt c k = 1
def firstO (n : Nat) (c : Int) : Int := match (oL n c).head? with
  | some k => k
  | none => n
def lastO (n : Nat) (c : Int) : Int := match (oL n c).getLast? with
  | some k => n - 1 - k
  | none => n
theorem f_counts {b c : Int} (h : Bt b) (hc : Cd b c) : fn_counts [.d (.int b), .d (.int c)] = some (.d (.tup [.int (oL b.toNat c).length, .int (lastO b.toNat c), .int (firstO b.toNat c)]), [.d (.int b), .d (.int c)]) := by
  simp only [fn_counts, mkFn, b_counts, A_counts]
  have hf : ∀ i : Int, 0 ≤ i → i < 32 → fn_power_of [.d (.int i)] = some (.d (.int (pw i)), [.d (.int i)]) := fun i h1 h2 => f_power_of (by omega) (by omega)
  have hcc := f_check_code h hc
  generalize fn_power_of = F at hf ⊢
  generalize fn_check_code = G at hcc ⊢
  have lo := h.lo
  have hi := h.hi
  have hL1 : lcL [4] (bName 4) fYes (fBin oMod (fBin oDiv (fVar 1) (fCall F (fCons (fVar 4) fNil))) (fC (.int 2))) (rngL 0 b.toNat) [] [some (.d (.int b)), some (.d (.int c)), none, none, none]
      = some (.val (.m (.lst (((List.range b.toNat).map fun (k : Nat) => bt c k).map D.int))), [some (.d (.int b)), some (.d (.int c)), none, none, none]) := by
    rw [lc_map (fun x => match x with | .int i => .int (bt c i) | _ => .non)]
    · rw [rngL_zero, List.map_map, List.map_map]
      rfl
    · intro x hx
      obtain ⟨k, hk0⟩ := List.getElem?_of_mem hx
      obtain ⟨hk, rfl⟩ := rngL_get hk0
      clear hk0
      have h1 := hf (0 + (k : Int)) (by omega) (by omega)
      have h3 := pw_le (i := 0 + (k : Int)) (n := 32) (by omega)
      have h4 : ∀ n, divC n (pw (0 + (k : Int))) = true := fun n => divC_of (pw_pos _) (by omega)
      generalize (0 + (k : Int)) = i at *
      have h5 : c / pw i % 2 = bt c i := rfl
      simp -implicitDefEqProofs [lcOne, h1, h4, h5]
  generalize hR : ((List.range b.toNat).map fun (k : Nat) => bt c k) = R at hL1
  have hL2 : lcL [4] (bName 4) (fTB (fBin oEq (fBin oIx (fVar 2) (fVar 4)) (fC (.int 1)))) (fVar 4) (rngL 0 b.toNat) [] [some (.d (.int b)), some (.d (.int c)), some (.m (.lst (R.map D.int))), none, none]
      = some (.val (.m (.lst ((oL b.toNat c).map fun (k : Nat) => D.int k))), [some (.d (.int b)), some (.d (.int c)), some (.m (.lst (R.map D.int))), none, none]) := by
    rw [lc_filter (fun x => match x with | .int i => decide (bt c i = 1) | _ => false)]
    · congr 4
      rw [rngL_zero, List.filter_map, oL]
      rfl
    · intro x hx
      obtain ⟨k, hk0⟩ := List.getElem?_of_mem hx
      obtain ⟨hk, rfl⟩ := rngL_get hk0
      clear hk0
      have h1 : getI (R.map D.int) (0 + (k : Int)) = some (.int (bt c k)) := by
        rw [Int.zero_add, getI_nat, ← hR, List.getElem?_map, List.getElem?_map, List.getElem?_range hk]
        rfl
      rw [Int.zero_add] at h1 ⊢
      generalize (k : Int) = i at *
      by_cases z : bt c i = 1 <;> simp -implicitDefEqProofs [lcOne, h1, z]
  have z0 : b.toNat ≤ sizeLine := smallT (by omega)
  have z3 : 3 ≤ sizeLine := smallT (by decide)
  have hb : (b.toNat : Int) = b := by omega
  unfold firstO lastO
  rw [hb]
  generalize oL b.toNat c = O at *
  rcases List.eq_nil_or_concat O with rfl | ⟨O', k, rfl⟩
  · simp -implicitDefEqProofs [hcc, hL1, hL2, h.sm, rngL_len, z0, z3]
  · cases O' with
    | nil => simp -implicitDefEqProofs [hcc, hL1, hL2, h.sm, rngL_len, z0, z3, getI]
    | cons k' O' =>
      have g : getI (D.int k' :: (O'.map (fun (k : Nat) => D.int k) ++ [D.int k])) (-1) = some (D.int k) := by
        have := getI_last (xs := D.int k' :: O'.map (fun (k : Nat) => D.int k)) (x := D.int k)
        simpa using this
      have g0 : getI (D.int k' :: (O'.map (fun (k : Nat) => D.int k) ++ [D.int k])) 0 = some (D.int k') := rfl
      have gl : (k' :: (O' ++ [k])).getLast? = some k := by
        rw [← List.cons_append, List.getLast?_concat]
      simp -implicitDefEqProofs [hcc, hL1, hL2, h.sm, rngL_len, z0, z3, g, g0, gl]
end K44
end

section
set_option Elab.async false
set_option linter.all false
set_option maxRecDepth 100000
namespace K44
open PySem PySem.Spec PyProof.Rows L2 QL
theorem pairsE_get : ∀ {xs : List D} {n k : Nat} {z : D}, (pairsE n xs)[k]? = some z → ∃ x, xs[k]? = some x ∧ z = .tup [.int ((n + k : Nat) : Int), x]
  | [], n, k, z, h => by simp at h
  | x :: xs, n, 0, z, h => ⟨x, rfl, by cases h; rfl⟩
  | x :: xs, n, k + 1, z, h => by
    obtain ⟨y, h1, rfl⟩ := pairsE_get (xs := xs) (n := n + 1) (k := k) (z := z) h
    exact ⟨y, h1, by rw [show n + 1 + k = n + (k + 1) by omega]⟩
theorem pairsE_len : ∀ {xs : List D} {n : Nat}, (pairsE n xs).length = xs.length
  | [], n => rfl
  | x :: xs, n => by show (pairsE (n + 1) xs).length + 1 = _; rw [pairsE_len]; rfl
theorem digL_len {n : Nat} {c : Int} : (digL n c).length = n := by simp [digL]
theorem dgt_range (c : Int) (k : Nat) : dgt c k = -1 ∨ dgt c k = 0 ∨ dgt c k = 1 := by
  unfold dgt
  have := bt_range c k
  have := bt_range c (k - 1)
  split <;> omega
theorem Dg_digL (n : Nat) (c : Int) : Dg (digL n c) := fun x hx => by
  obtain ⟨k, _, rfl⟩ := List.mem_map.mp hx
  exact dgt_range c k
theorem mul_bound {a b A B : Int} (h1 : -A ≤ a) (h2 : a ≤ A) (h3 : -B ≤ b) (h4 : b ≤ B) : -(A * B) ≤ a * b ∧ a * b ≤ A * B := by
  have k1 := Int.mul_nonneg (show 0 ≤ A - a by omega) (show 0 ≤ B - b by omega)
  have k2 := Int.mul_nonneg (show 0 ≤ A - a by omega) (show 0 ≤ B + b by omega)
  have k3 := Int.mul_nonneg (show 0 ≤ A + a by omega) (show 0 ≤ B - b by omega)
  have k4 := Int.mul_nonneg (show 0 ≤ A + a by omega) (show 0 ≤ B + b by omega)
  constructor <;> grind
theorem f_by_digits {b x y : Int} (h : Bt b) (hx : Cd b x) (hy : Cd b y) : ∃ n : Int, fn_by_digits [.d (.int b), .d (.int x), .d (.int y)] = some (.d (.tup [.int (mn b x * fd (digL b.toNat y)), .int n]), [.d (.int b), .d (.int x), .d (.int y)]) := by
  simp only [fn_by_digits, mkFn, b_by_digits, A_by_digits]
  have hf : ∀ i : Int, 0 ≤ i → i < 32 → fn_power_of [.d (.int i)] = some (.d (.int (pw i)), [.d (.int i)]) := fun i h1 h2 => f_power_of (by omega) (by omega)
  have hcc := f_check_code h hx
  have hdg := f_digits h hy
  have hmn := f_meaning h hx
  have hmr := mn_range h hx
  generalize fn_power_of = F at hf ⊢
  generalize fn_check_code = G at hcc ⊢
  generalize fn_digits = G1 at hdg ⊢
  generalize fn_meaning = G2 at hmn ⊢
  have lo := h.lo
  have hi := h.hi
  have hDg := Dg_digL b.toNat y
  have hlen : (digL b.toNat y).length = b.toNat := digL_len
  generalize hLe : digL b.toNat y = L at *
  have hpw := h.pw
  generalize mn b x = M at *
  have : ∃ e', forL (bTup 2 (bCons (bName 6) (bCons (bName 7) bNil))) (sAug 5 oIAdd (fBin oMul (fBin oMul (fVar 7) (fVar 4)) (fCall F (fCons (fVar 6) fNil)))) (pairsE 0 (L.map D.int)) [some (.d (.int b)), some (.d (.int x)), some (.d (.int y)), some (.d (.tup (L.map D.int))), some (.d (.int M)), some (.d (.int 0)), none, none] = some (.nx e') ∧
      ∃ o6 o7, e' = [some (.d (.int b)), some (.d (.int x)), some (.d (.int y)), some (.d (.tup (L.map D.int))), some (.d (.int M)), some (.d (.int (M * fd L))), o6, o7] ∧ okS o7 = true := by
    have := for_list (b := bTup 2 (bCons (bName 6) (bCons (bName 7) bNil))) (f := sAug 5 oIAdd (fBin oMul (fBin oMul (fVar 7) (fVar 4)) (fCall F (fCons (fVar 6) fNil)))) (xs := pairsE 0 (L.map D.int)) (e := [some (.d (.int b)), some (.d (.int x)), some (.d (.int y)), some (.d (.tup (L.map D.int))), some (.d (.int M)), some (.d (.int 0)), none, none])
      (fun k e => ∃ o6 o7, e = [some (.d (.int b)), some (.d (.int x)), some (.d (.int y)), some (.d (.tup (L.map D.int))), some (.d (.int M)), some (.d (.int (M * fd (L.take k)))), o6, o7] ∧ okS o7 = true) ⟨none, none, by simp [fd], rfl⟩ ?_
    · obtain ⟨e', h1, o6, o7, rfl, ho⟩ := this
      refine ⟨_, h1, o6, o7, ?_, ho⟩
      rw [pairsE_len, List.length_map, List.take_length]
    · rintro k z e hz ⟨o6, o7, rfl, ho⟩
      obtain ⟨d, hd, rfl⟩ := pairsE_get hz
      rw [List.getElem?_map] at hd
      have hk : k < L.length := by
        by_cases q : k < L.length
        · exact q
        · rw [List.getElem?_eq_none (by omega)] at hd
          cases hd
      rw [List.getElem?_eq_getElem hk] at hd
      cases hd
      have hdr := hDg L[k] (List.getElem_mem hk)
      have htk : L.take (k + 1) = L.take k ++ [L[k]] := (List.take_append_getElem hk).symm
      rw [htk, fd_snoc, List.length_take, Nat.min_eq_left (by omega)]
      have h1 := hf (k : Int) (by omega) (by omega)
      have hpl := pw_le (i := (k : Int)) (n := 32) (by omega)
      have hpp := pw_pos (k : Int)
      have e1 : (2 : Int) ^ k = pw k := (pw_nat k).symm
      rw [e1, Nat.zero_add]
      generalize (k : Int) = i at *
      generalize L[k] = d at *
      generalize fd (L.take k) = f0 at *
      have m1 : mulC d M = true := mulC_of (by omega) (by omega) (by omega) (by omega)
      have hb := mul_bound (a := d) (A := 1) (b := M) (B := 2 ^ 32) (by omega) (by omega) (by omega) (by omega)
      have m2 : mulC (d * M) (pw i) = true := mulC_of (by omega) (by omega) (by omega) (by omega)
      refine ⟨_, _, rfl, ?_, some (.d (.int i)), some (.d (.int d)), rfl, rfl⟩
      simp -implicitDefEqProofs [h1, m1, m2]
      grind
  obtain ⟨e', h1, o6, o7, rfl, ho7⟩ := this
  have hL : lcL [7] (bName 7) (fTB (fBin oNe (fVar 7) (fC (.int 0)))) (fVar 7) (L.map D.int) [] [some (.d (.int b)), some (.d (.int x)), some (.d (.int y)), some (.d (.tup (L.map D.int))), some (.d (.int M)), some (.d (.int (M * fd L))), o6, o7] = some (.val (.m (.lst ((L.map D.int).filter fun x => match x with | .int i => decide (i ≠ 0) | _ => false))), [some (.d (.int b)), some (.d (.int x)), some (.d (.int y)), some (.d (.tup (L.map D.int))), some (.d (.int M)), some (.d (.int (M * fd L))), o6, o7]) := by
    refine lc_filter _ fun z hz => ?_
    obtain ⟨i, _, rfl⟩ := List.mem_map.mp hz
    by_cases q : i = 0
    · subst q
      simp -implicitDefEqProofs [lcOne]
    · simp -implicitDefEqProofs [lcOne, q]
  have z0 : L.length ≤ sizeLine := smallT (by omega)
  have z2 : 2 ≤ sizeLine := smallT (by decide)
  refine ⟨((((L.map D.int).filter fun x => match x with | .int i => decide (i ≠ 0) | _ => false).length : Nat) : Int), ?_⟩
  simp -implicitDefEqProofs [hcc, hdg, hmn, h1, hL, z0, z2, ho7]
end K44
end

section
set_option Elab.async false
set_option linter.all false
set_option maxRecDepth 100000
namespace K44
open PySem PySem.Spec PyProof.Rows L2 QL
theorem csa : ∀ (n a b c : Nat), a + b + c ≤ n → (a ^^^ b ^^^ c) + 2 * ((a &&& b) ||| (a &&& c) ||| (b &&& c)) = a + b + c
  | 0, a, b, c, h => by
    have : a = 0 := by omega
    have : b = 0 := by omega
    have : c = 0 := by omega
    subst_vars
    rfl
  | n + 1, a, b, c, h => by
    by_cases z : a + b + c = 0
    · have : a = 0 := by omega
      have : b = 0 := by omega
      have : c = 0 := by omega
      subst_vars
      rfl
    · have ih := csa n (a / 2) (b / 2) (c / 2) (by omega)
      generalize hx : a ^^^ b ^^^ c = x
      generalize hm : ((a &&& b) ||| (a &&& c) ||| (b &&& c)) = m
      have hx2 : x / 2 = (a / 2) ^^^ (b / 2) ^^^ (c / 2) := by rw [← hx, Nat.xor_div_two, Nat.xor_div_two]
      have hm2 : m / 2 = ((a / 2 &&& b / 2) ||| (a / 2 &&& c / 2) ||| (b / 2 &&& c / 2)) := by
        rw [← hm]
        simp only [Nat.or_div_two, Nat.and_div_two]
      rw [← hx2, ← hm2] at ih
      have hx1 : x % 2 = (a % 2 + b % 2 + c % 2) % 2 := by
        have t1 := Nat.xor_mod_two_eq_one (a := a ^^^ b) (b := c)
        have t2 := Nat.xor_mod_two_eq_one (a := a) (b := b)
        rw [hx] at t1
        omega
      have hm1 : m % 2 = (a % 2 + b % 2 + c % 2) / 2 := by
        have t1 := Nat.or_mod_two_eq_one (a := (a &&& b) ||| (a &&& c)) (b := b &&& c)
        have t2 := Nat.or_mod_two_eq_one (a := a &&& b) (b := a &&& c)
        have t3 := Nat.and_mod_two_eq_one (a := a) (b := b)
        have t4 := Nat.and_mod_two_eq_one (a := a) (b := c)
        have t5 := Nat.and_mod_two_eq_one (a := b) (b := c)
        rw [hm] at t1
        omega
      omega
theorem bitAnd_nn {x y : Int} (hx : 0 ≤ x) (hy : 0 ≤ y) : Builtin.bitAnd x y = ((x.toNat &&& y.toNat : Nat) : Int) := by
  simp [Builtin.bitAnd, hx, hy]
theorem bitOr_nn {x y : Int} (hx : 0 ≤ x) (hy : 0 ≤ y) : Builtin.bitOr x y = ((x.toNat ||| y.toNat : Nat) : Int) := by
  have h1 : decide (0 ≤ Builtin.bitNot x) = false := decide_eq_false (by unfold Builtin.bitNot; omega)
  have h2 : decide (0 ≤ Builtin.bitNot y) = false := decide_eq_false (by unfold Builtin.bitNot; omega)
  have e : ∀ z, Builtin.bitNot (Builtin.bitNot z) = z := fun z => by unfold Builtin.bitNot; omega
  rw [Builtin.bitOr, Builtin.bitAnd, h1, h2]
  show Builtin.bitNot (Builtin.bitNot _) = _
  rw [e, e, e]
theorem or_xor : ∀ (n a b : Nat), a + b ≤ n → (a ^^^ b) + (a &&& b) = a ||| b
  | 0, a, b, h => by
    have : a = 0 := by omega
    have : b = 0 := by omega
    subst_vars
    rfl
  | n + 1, a, b, h => by
    by_cases z : a + b = 0
    · have : a = 0 := by omega
      have : b = 0 := by omega
      subst_vars
      rfl
    · have ih := or_xor n (a / 2) (b / 2) (by omega)
      have t1 := Nat.or_mod_two_eq_one (a := a) (b := b)
      have t2 := Nat.and_mod_two_eq_one (a := a) (b := b)
      have t3 := Nat.xor_mod_two_eq_one (a := a) (b := b)
      rw [← Nat.xor_div_two, ← Nat.and_div_two, ← Nat.or_div_two] at ih
      omega
theorem bitXor_nn {x y : Int} (hx : 0 ≤ x) (hy : 0 ≤ y) : Builtin.bitXor x y = ((x.toNat ^^^ y.toNat : Nat) : Int) := by
  have := or_xor _ x.toNat y.toNat (Nat.le_refl _)
  rw [Builtin.bitXor, bitOr_nn hx hy, bitAnd_nn hx hy]
  omega
theorem minL_3 {x y z : Int} : ∃ m, minL [x, y, z] = some m ∧ (0 ≤ x → 0 ≤ y → 0 ≤ z → 0 ≤ m) := by
  refine ⟨_, rfl, fun a b c => ?_⟩
  simp only [List.foldl]
  (repeat' split) <;> omega
theorem f_saved {x y z : Int} (hx : 0 ≤ x) (hy : 0 ≤ y) (hz : 0 ≤ z) (hs : x + y + z < 2 ^ 100) : ∃ u v, fn_saved [.d (.tup [.int x, .int y, .int z])] = some (.d (.tup [.int u, .int v]), [.d (.tup [.int x, .int y, .int z])]) ∧ u + v = x + y + z ∧ 0 ≤ u ∧ 0 ≤ v := by
  simp only [fn_saved, mkFn, b_saved, A_saved]
  obtain ⟨m, hm, hm0⟩ := minL_3 (x := x) (y := y) (z := z)
  have hm1 : ¬ m < 0 := by have := hm0 hx hy hz; omega
  have z2 : 2 ≤ sizeLine := smallT (by decide)
  have hc := csa _ x.toNat y.toNat z.toNat (Nat.le_refl _)
  have e1 := bitAnd_nn hx hy
  have e2 := bitAnd_nn hx hz
  have e3 := bitAnd_nn hy hz
  have e4 := bitOr_nn (x := ((x.toNat &&& y.toNat : Nat) : Int)) (y := ((x.toNat &&& z.toNat : Nat) : Int)) (by omega) (by omega)
  have e5 := bitOr_nn (x := (((x.toNat &&& y.toNat) ||| (x.toNat &&& z.toNat) : Nat) : Int)) (y := ((y.toNat &&& z.toNat : Nat) : Int)) (by omega) (by omega)
  have e6 := bitXor_nn hx hy
  have e7 := bitXor_nn (x := ((x.toNat ^^^ y.toNat : Nat) : Int)) (y := z) (by omega) hz
  simp only [Int.toNat_natCast] at e4 e5 e7
  generalize hM : ((x.toNat &&& y.toNat) ||| (x.toNat &&& z.toNat)) ||| (y.toNat &&& z.toNat) = M at *
  generalize hX : (x.toNat ^^^ y.toNat) ^^^ z.toNat = X at *
  have hml : mulC 2 (M : Int) = true := mulC_of (by omega) (by omega) (by omega) (by omega)
  refine ⟨X, 2 * M, ?_, by omega, by omega, by omega⟩
  simp -implicitDefEqProofs [hm, hm1, z2, e1, e2, e3, e4, e5, e6, e7, hml, oMin]
end K44
end

section
set_option Elab.async false
set_option linter.all false
set_option maxRecDepth 100000
namespace K44
open PySem PySem.Spec PyProof.Rows L2 QL
def rnd (n : Nat) : Nat := if h : n ≤ 2 then 0 else 1 + rnd (2 * (n / 3) + n % 3)
termination_by n
decreasing_by omega
theorem rnd_small {n : Nat} (h : n ≤ 2) : rnd n = 0 := by rw [rnd]; simp [h]
theorem rnd_step {n : Nat} (h : 2 < n) : rnd n = 1 + rnd (2 * (n / 3) + n % 3) := by rw [rnd]; simp [show ¬ n ≤ 2 by omega]
def NN (l : List Int) : Prop := ∀ x ∈ l, 0 ≤ x
theorem NN.sum {l : List Int} (h : NN l) : 0 ≤ l.sum := by
  induction l with
  | nil => simp
  | cons a l ih =>
    have := h a (by simp)
    have := ih fun x hx => h x (by simp [hx])
    simp; omega
theorem NN.app {a b : List Int} (h : NN a) (g : NN b) : NN (a ++ b) := fun x hx => (List.mem_append.mp hx).elim (h x) (g x)
/-- one round -/
abbrev bIn (F : FnS) : FS := (sSeq (sExpr (fMt 3 oExtT (fCons (fCall F (fCons (fOp oTup (fCons (fBin oIx (fVar 1) (fC (.int 0))) (fCons (fBin oIx (fVar 1) (fC (.int 1))) (fCons (fBin oIx (fVar 1) (fC (.int 2))) fNil)))) fNil)) fNil)))
  (sSet 1 (fSl (fVar 1) (fPart (fC (.int 3))) fNo)))
abbrev tIn : Fn1 Bool := (fTB (fBin oGt (fOp oLen (fCons (fVar 1) fNil)) (fC (.int 2))))
theorem cut_from {l : List D} {k : Nat} (h : k ≤ l.length) : QL.cutD l (some (k : Int)) none = l.drop k := by
  unfold QL.cutD
  rw [HT.sIx_nat, HT.sIx_none, Nat.min_eq_left h]
  exact List.take_of_length_le (by simp)
theorem cut_to {l : List D} {k : Nat} (h : k ≤ l.length) : QL.cutD l none (some (k : Int)) = l.take k := by
  unfold QL.cutD
  rw [HT.sIx_nat, HT.sIx_none, Nat.min_eq_left h]
  simp
theorem cut3 {x y z : D} {l : List D} : QL.cutD (x :: y :: z :: l) (some 3) none = l := cut_from (k := 3) (by simp)
theorem in_round {F : FnS} (hF : ∀ {x y z : Int}, 0 ≤ x → 0 ≤ y → 0 ≤ z → x + y + z < 2 ^ 100 → ∃ u v, F [.d (.tup [.int x, .int y, .int z])] = some (.d (.tup [.int u, .int v]), [.d (.tup [.int x, .int y, .int z])]) ∧ u + v = x + y + z ∧ 0 ≤ u ∧ 0 ≤ v)
    {r : S} {s : Int} {o : Option S} {L : List Int} (hL : NN L) (hs : L.sum < 2 ^ 100) (hl : L.length ≤ 1000) :
    ∃ e', whileN tIn (bIn F) (fuel0 [some r, some (.m (.lst (L.map D.int))), some (.d (.int s)), some (.m (.lst [])), o]) [some r, some (.m (.lst (L.map D.int))), some (.d (.int s)), some (.m (.lst [])), o] = some (.nx e') ∧
      ∃ A B : List Int, e' = [some r, some (.m (.lst (B.map D.int))), some (.d (.int s)), some (.m (.lst (A.map D.int))), o] ∧ NN A ∧ NN B ∧ A.sum + B.sum = L.sum ∧ A.length = 2 * (L.length / 3) ∧ B.length = L.length % 3 := by
  refine while0 (fun m e => ∃ A B : List Int, e = [some r, some (.m (.lst (B.map D.int))), some (.d (.int s)), some (.m (.lst (A.map D.int))), o] ∧ NN A ∧ NN B ∧ A.sum + B.sum = L.sum ∧ 3 * A.length + 2 * B.length = 2 * L.length ∧ A.length % 2 = 0 ∧ B.length = m) _ L.length (by omega) ⟨[], L, rfl, fun _ h => by simp at h, hL, by simp, by simp, by simp, rfl⟩ ?_
  rintro m e ⟨A, B, rfl, hA, hB, hsum, hlen, hev, rfl⟩
  match B, hB, hsum, hlen with
  | [], hB, hsum, hlen =>
    refine .inl ⟨_, by simp, A, [], rfl, hA, hB, hsum, ?_, ?_⟩
    · simp only [List.length_cons, List.length_nil] at hlen ⊢; omega
    · simp only [List.length_cons, List.length_nil] at hlen ⊢; omega
  | [x], hB, hsum, hlen =>
    refine .inl ⟨_, by simp, A, [x], rfl, hA, hB, hsum, ?_, ?_⟩
    · simp only [List.length_cons, List.length_nil] at hlen ⊢; omega
    · simp only [List.length_cons, List.length_nil] at hlen ⊢; omega
  | [x, y], hB, hsum, hlen =>
    refine .inl ⟨_, by simp, A, [x, y], rfl, hA, hB, hsum, ?_, ?_⟩
    · simp only [List.length_cons, List.length_nil] at hlen ⊢; omega
    · simp only [List.length_cons, List.length_nil] at hlen ⊢; omega
  | x :: y :: z :: B, hB, hsum, hlen =>
    have hB' : NN B := fun w hw => hB w (by simp [hw])
    have hx := hB x (by simp)
    have hy := hB y (by simp)
    have hz := hB z (by simp)
    have hAs := hA.sum
    have hBs := hB'.sum
    simp only [List.sum_cons, List.length_cons] at hsum hlen
    obtain ⟨u, v, h1, h2, h3, h4⟩ := hF hx hy hz (by omega)
    have z3 : 3 ≤ sizeLine := smallT (by decide)
    have zA : A.length + 2 ≤ sizeLine := smallT (by omega)
    have t1 : tIn [some r, some (.m (.lst ((x :: y :: z :: B).map D.int))), some (.d (.int s)), some (.m (.lst (A.map D.int))), o] = some (true, [some r, some (.m (.lst ((x :: y :: z :: B).map D.int))), some (.d (.int s)), some (.m (.lst (A.map D.int))), o]) := by
      have : (2 : Int) < (B.length : Int) + 1 + 1 + 1 := by omega
      simp [this]
    refine .inr ⟨_, _, B.length, t1, ?_, by simp; omega, A ++ [u, v], B, rfl, hA.app (by intro w hw; simp at hw; rcases hw with rfl | rfl <;> assumption), hB', ?_, ?_, ?_, rfl⟩
    · simp -implicitDefEqProofs [h1, z3, zA, getI, cut3]
    · simp; omega
    · simp; omega
    · simp; omega

theorem blsOf_trueD {l : List Int} : blsOf (l.map fun _ => D.bl true) = some (l.map fun _ => true) := by
  have := blsOf_map (l := l.map fun _ => true)
  rwa [List.map_map] at this
theorem f_summed {L : List Int} (hL : NN L) (hs : L.sum < 2 ^ 100) (hl : L.length ≤ 1000) :
    ∃ B : List Int, fn_summed [.d (.tup (L.map D.int))] = some (.d (.tup [.int (rnd L.length), .tup (B.map D.int)]), [.d (.tup (L.map D.int))]) ∧ B.sum = L.sum := by
  simp only [fn_summed, mkFn, b_summed, A_summed]
  have hF := @f_saved
  generalize fn_saved = F at hF ⊢
  have hC : lcL [4] (bName 4) fYes (fBin oGe (fVar 4) (fC (.int 0))) (L.map D.int) [] [some (.d (.tup (L.map D.int))), none, none, none, none] = some (.val (.m (.lst (L.map fun _ => D.bl true))), [some (.d (.tup (L.map D.int))), none, none, none, none]) := by
    rw [lc_map (fun _ => .bl true)]
    · simp
    · intro x hx
      obtain ⟨i, hi, rfl⟩ := List.mem_map.mp hx
      have := hL i hi
      simp -implicitDefEqProofs [lcOne, this]
  have : ∃ e', whileN tIn (sSeq (sSet 3 (fOp oLst fNil))
  (sSeq (sWhile fuel0 tIn (bIn F))
  (sSeq (sSet 1 (fBin oAdd (fVar 3) (fVar 1)))
  (sAug 2 oIAdd (fC (.int 1)))))) (fuel0 [some (.d (.tup (L.map D.int))), some (.m (.lst (L.map D.int))), some (.d (.int 0)), none, none]) [some (.d (.tup (L.map D.int))), some (.m (.lst (L.map D.int))), some (.d (.int 0)), none, none] = some (.nx e') ∧
      ∃ (B : List Int) (o3 : Option S), e' = [some (.d (.tup (L.map D.int))), some (.m (.lst (B.map D.int))), some (.d (.int (rnd L.length))), o3, none] ∧ B.sum = L.sum := by
    refine while0 (fun m e => ∃ (B : List Int) (n : Nat) (o3 : Option S), e = [some (.d (.tup (L.map D.int))), some (.m (.lst (B.map D.int))), some (.d (.int n)), o3, none] ∧ NN B ∧ B.sum = L.sum ∧ n + rnd B.length = rnd L.length ∧ B.length = m ∧ B.length ≤ 1000) _ L.length (by omega) ⟨L, 0, none, rfl, hL, rfl, by omega, rfl, hl⟩ ?_
    rintro m e ⟨B, n, o3, rfl, hB, hsum, hr, rfl, hl⟩
    by_cases h2 : 2 < B.length
    · obtain ⟨e', h1, A, C, rfl, hA, hC, h3, h4, h5⟩ := in_round (F := F) hF (r := .d (.tup (L.map D.int))) (s := n) (o := none) hB (by omega) hl
      have zA : A.length + C.length ≤ sizeLine := smallT (by omega)
      have z0 : 0 ≤ sizeLine := Nat.zero_le _
      have g2 : (2 : Int) < (B.length : Int) := by omega
      have t1 : tIn [some (.d (.tup (L.map D.int))), some (.m (.lst (B.map D.int))), some (.d (.int n)), o3, none] = some (true, [some (.d (.tup (L.map D.int))), some (.m (.lst (B.map D.int))), some (.d (.int n)), o3, none]) := by
        simp [g2]
      refine .inr ⟨_, [some (.d (.tup (L.map D.int))), some (.m (.lst ((A ++ C).map D.int))), some (.d (.int ((n + 1 : Nat) : Int))), some (.m (.lst (A.map D.int))), none], A.length + C.length, t1, ?_, by omega, A ++ C, n + 1, some (.m (.lst (A.map D.int))), rfl, hA.app hC, by rw [List.sum_append]; omega, ?_, by simp, by simp; omega⟩
      · simp -implicitDefEqProofs only [sSeq_ap, sSet_ap, fOp_ap, fNil_ap, bnd_some, fOp1_ap, gets_nil, opN_some, oLst_def, allD_nil, Option.bind_some, List.length_nil, z0, if_true, ret_some, bndS_some, valK_m, List.set_cons_succ, List.set_cons_zero, sqK_nx, sWhile_ap, h1]
        simp -implicitDefEqProofs [zA]
      · rw [List.length_append, h4, h5]
        rw [rnd_step h2] at hr
        omega
    · have g2 : ¬ (2 : Int) < (B.length : Int) := by omega
      have t1 : tIn [some (.d (.tup (L.map D.int))), some (.m (.lst (B.map D.int))), some (.d (.int n)), o3, none] = some (false, [some (.d (.tup (L.map D.int))), some (.m (.lst (B.map D.int))), some (.d (.int n)), o3, none]) := by
        simp [g2]
      refine .inl ⟨_, t1, B, o3, ?_, hsum⟩
      rw [rnd_small (by omega)] at hr
      rw [← hr, Nat.add_zero]
  obtain ⟨e', h1, B, o3, rfl, h2⟩ := this
  have z0 : L.length ≤ sizeLine := smallT hl
  have z2 : 2 ≤ sizeLine := smallT (by decide)
  have e3 : (L.map fun _ => true).all id = true := by simp
  refine ⟨B, ?_, h2⟩
  simp -implicitDefEqProofs [hC, z0, z2, oAll, blsOf_trueD, e3, h1]
end K44
end

section
set_option Elab.async false
set_option linter.all false
set_option maxRecDepth 100000
namespace K44
open PySem PySem.Spec PyProof.Rows L2 QL
theorem sq_unique {R r n : Int} (hR : 0 ≤ R) (hr : 0 ≤ r) (h1 : R * R ≤ n) (h2 : n < (R + 1) * (R + 1)) (h3 : r * r ≤ n) (h4 : n < (r + 1) * (r + 1)) : R = r := by
  rcases Int.lt_trichotomy R r with h | h | h
  · have := Int.mul_le_mul (show R + 1 ≤ r by omega) (show R + 1 ≤ r by omega) (by omega) hr
    omega
  · exact h
  · have := Int.mul_le_mul (show r + 1 ≤ R by omega) (show r + 1 ≤ R by omega) (by omega) hR
    omega
theorem pw_ge {i : Int} (h : 0 ≤ i) : 1 ≤ pw i := pw_pos i
abbrev rb1 : FS := sAug 1 oIMul (fC (.int 4))
abbrev rt1 : Fn1 Bool := (fTB (fBin oLe (fBin oMul (fVar 1) (fC (.int 4))) (fVar 0)))
abbrev rt2 : Fn1 Bool := (fTB (fBin oGt (fVar 1) (fC (.int 0))))
abbrev rb2 : FS := (sSeq (sIf (fTB (fBin oGe (fVar 3) (fBin oAdd (fVar 2) (fVar 1))))
  (sSeq (sAug 3 oSub (fBin oAdd (fVar 2) (fVar 1)))
  (sSet 2 (fBin oAdd (fBin oDiv (fVar 2) (fC (.int 2))) (fVar 1))))
  (sAug 2 oIDiv (fC (.int 2))))
  (sAug 1 oIDiv (fC (.int 4))))
theorem root_up {n : Int} (h0 : 0 ≤ n) (h1 : n < 2 ^ 100) : ∃ e', whileN rt1 rb1 (fuel0 [some (.d (.int n)), some (.d (.int 1)), none, none]) [some (.d (.int n)), some (.d (.int 1)), none, none] = some (.nx e') ∧
    ∃ k : Nat, e' = [some (.d (.int n)), some (.d (.int (pw k * pw k))), none, none] ∧ n < 4 * (pw k * pw k) ∧ k ≤ 51 := by
  refine while0 (fun m e => ∃ k : Nat, e = [some (.d (.int n)), some (.d (.int (pw k * pw k))), none, none] ∧ (k = 0 ∨ pw k * pw k ≤ n) ∧ k + m = 51) _ 51 (by omega) ⟨0, rfl, .inl rfl, rfl⟩ ?_
  rintro m e ⟨k, rfl, h2, h3⟩
  have hpl := pw_le (i := (k : Int)) (n := 51) (by omega)
  have hpp := pw_pos (k : Int)
  have hs := pw_succ (i := (k : Int)) (by omega)
  have hb := mul_bound (a := pw k) (A := 2 ^ 51) (b := pw k) (B := 2 ^ 51) (by omega) (by omega) (by omega) (by omega)
  have m1 : mulC (pw k * pw k) 4 = true := mulC_of (by omega) (by omega) (by omega) (by omega)
  by_cases q : pw k * pw k * 4 ≤ n
  · have hm : m ≠ 0 := by
      intro z
      have : k = 51 := by omega
      subst this
      have e : pw ((51 : Nat) : Int) = 2 ^ 51 := by rw [pw_nat]
      rw [e] at q
      omega
    have t1 : rt1 [some (.d (.int n)), some (.d (.int (pw k * pw k))), none, none] = some (true, [some (.d (.int n)), some (.d (.int (pw k * pw k))), none, none]) := by
      simp [m1, q]
    refine .inr ⟨_, _, m - 1, t1, ?_, by omega, k + 1, rfl, .inr ?_, by omega⟩
    · have e2 : pw ((k + 1 : Nat) : Int) * pw ((k + 1 : Nat) : Int) = pw k * pw k * 4 := by
        push_cast
        rw [hs]
        grind
      rw [e2]
      simp
    · push_cast
      rw [hs]
      grind
  · have t1 : rt1 [some (.d (.int n)), some (.d (.int (pw k * pw k))), none, none] = some (false, [some (.d (.int n)), some (.d (.int (pw k * pw k))), none, none]) := by
      simp [m1, q]
    exact .inl ⟨_, t1, k, rfl, by omega, by omega⟩
theorem root_down {n : Int} (h0 : 0 ≤ n) (h1 : n < 2 ^ 100) {k : Nat} (hk : k ≤ 51) (hn : n < 4 * (pw k * pw k)) {e0 : En} (he : e0 = [some (.d (.int n)), some (.d (.int (pw k * pw k))), some (.d (.int 0)), some (.d (.int n))]) :
    ∃ e', whileN rt2 rb2 (fuel0 e0) e0 = some (.nx e') ∧
    ∃ R : Int, e' = [some (.d (.int n)), some (.d (.int 0)), some (.d (.int R)), some (.d (.int (n - R * R)))] ∧ 0 ≤ R ∧ R * R ≤ n ∧ n < (R + 1) * (R + 1) := by
  refine while0 (fun m e => ∃ R : Int, 0 ≤ R ∧ R * R ≤ n ∧ ((m = 0 ∧ e = [some (.d (.int n)), some (.d (.int 0)), some (.d (.int R)), some (.d (.int (n - R * R)))] ∧ n < (R + 1) * (R + 1)) ∨
    ∃ j : Nat, m = j + 1 ∧ e = [some (.d (.int n)), some (.d (.int (pw j * pw j))), some (.d (.int (2 * (R * pw j)))), some (.d (.int (n - R * R)))] ∧ n < (R + 2 * pw j) * (R + 2 * pw j))) _ (k + 1) (by omega) ⟨0, by omega, by omega, .inr ⟨k, rfl, ?_, ?_⟩⟩ ?_
  · rw [he]; simp
  · grind
  · rintro m e ⟨R, hR, hRn, ⟨rfl, rfl, h2⟩ | ⟨j, rfl, rfl, h2⟩⟩
    · have t1 : rt2 [some (.d (.int n)), some (.d (.int 0)), some (.d (.int R)), some (.d (.int (n - R * R)))] = some (false, [some (.d (.int n)), some (.d (.int 0)), some (.d (.int R)), some (.d (.int (n - R * R)))]) := by simp
      exact .inl ⟨_, t1, R, rfl, hR, hRn, h2⟩
    · have hpp := pw_pos (j : Int)
      have hpp2 : 0 < pw j * pw j := Int.mul_pos hpp hpp
      have t1 : rt2 [some (.d (.int n)), some (.d (.int (pw j * pw j))), some (.d (.int (2 * (R * pw j)))), some (.d (.int (n - R * R)))] = some (true, [some (.d (.int n)), some (.d (.int (pw j * pw j))), some (.d (.int (2 * (R * pw j)))), some (.d (.int (n - R * R)))]) := by simp [hpp2]
      have e1 : 2 * (R * pw j) / 2 = R * pw j := by omega
      obtain ⟨T, f, g, hT, hTn, hf, hg, hlt⟩ : ∃ T f g : Int, 0 ≤ T ∧ T * T ≤ n ∧ f = T * pw j ∧ g = n - T * T ∧ n < (T + pw j) * (T + pw j) ∧ rb2 [some (.d (.int n)), some (.d (.int (pw j * pw j))), some (.d (.int (2 * (R * pw j)))), some (.d (.int (n - R * R)))] = some (.nx [some (.d (.int n)), some (.d (.int (pw j * pw j / 4))), some (.d (.int f)), some (.d (.int g))]) := by
        by_cases q : 2 * (R * pw j) + pw j * pw j ≤ n - R * R
        · refine ⟨R + pw j, R * pw j + pw j * pw j, n - R * R - (2 * (R * pw j) + pw j * pw j), by omega, by grind, by grind, by grind, by grind, ?_⟩
          generalize pw j * pw j = P at *
          generalize R * pw j = RP at *
          generalize R * R = RR at *
          simp [q, e1]
        · refine ⟨R, R * pw j, n - R * R, hR, hRn, rfl, rfl, by grind, ?_⟩
          generalize pw j * pw j = P at *
          generalize R * pw j = RP at *
          generalize R * R = RR at *
          simp [q, e1]
      refine .inr ⟨_, _, j, t1, hlt.2, by omega, T, hT, hTn, ?_⟩
      cases j with
      | zero =>
        refine .inl ⟨rfl, ?_, ?_⟩
        · rw [hf, hg]
          simp
        · have := hlt.1
          simpa using this
      | succ j =>
        have hs := pw_succ (i := (j : Int)) (by omega)
        have ec : ((j + 1 : Nat) : Int) = (j : Int) + 1 := by omega
        refine .inr ⟨j, rfl, ?_, ?_⟩
        · have e2 : pw ((j + 1 : Nat) : Int) * pw ((j + 1 : Nat) : Int) / 4 = pw j * pw j := by
            rw [ec, hs, show 2 * pw (j : Int) * (2 * pw j) = 4 * (pw j * pw j) by grind]
            omega
          have e3 : T * pw ((j + 1 : Nat) : Int) = 2 * (T * pw j) := by
            rw [ec, hs]
            grind
          rw [e2, hf, hg, e3]
        · have := hlt.1
          rw [ec, hs] at this
          exact this
theorem f_root_of {n : Int} (h0 : 0 ≤ n) (h1 : n < 2 ^ 100) : ∃ R : Int, fn_root_of [.d (.int n)] = some (.d (.tup [.int R, .int (n - R * R)]), [.d (.int n)]) ∧ 0 ≤ R ∧ R * R ≤ n ∧ n < (R + 1) * (R + 1) := by
  simp only [fn_root_of, mkFn, b_root_of, A_root_of]
  obtain ⟨e1, u1, k, rfl, hn, hk⟩ := root_up h0 h1
  obtain ⟨e2, u2, R, rfl, hR⟩ := root_down h0 h1 hk hn rfl
  have z2 : 2 ≤ sizeLine := smallT (by decide)
  have hn0 : ¬ n < 0 := by omega
  refine ⟨R, ?_, hR⟩
  simp -implicitDefEqProofs [u1, u2, z2, hn0]
theorem root_at {n r : Int} (h0 : 0 ≤ n) (h1 : n < 2 ^ 100) (hr : 0 ≤ r) (h3 : r * r ≤ n) (h4 : n < (r + 1) * (r + 1)) : fn_root_of [.d (.int n)] = some (.d (.tup [.int r, .int (n - r * r)]), [.d (.int n)]) := by
  obtain ⟨R, e, h5, h6, h7⟩ := f_root_of h0 h1
  rw [sq_unique h5 hr h6 h7 h3 h4] at e
  exact e
end K44
end

section
set_option Elab.async false
set_option linter.all false
set_option maxRecDepth 100000
namespace K44
open PySem PySem.Spec PyProof.Rows L2 QL
/-! ### sparse digits: their laws -/
theorem nd_dg (n : Int) : nd n = -1 ∨ nd n = 0 ∨ nd n = 1 := by unfold nd; (repeat' split) <;> omega
theorem naf_ind {P : Int → Prop} (h0 : P 0) (h : ∀ n, n ≠ 0 → P ((n - nd n) / 2) → P n) : ∀ (k : Nat) (n : Int), n.natAbs ≤ k → P n
  | 0, n, hk => by
    have : n = 0 := by omega
    rw [this]; exact h0
  | k + 1, n, hk => by
    by_cases z : n = 0
    · rw [z]; exact h0
    · have := nd_lt z
      exact h n z (naf_ind h0 h k _ (by omega))
theorem Dg_naf (n : Int) : Dg (naf n) := naf_ind (P := fun n => Dg (naf n)) (by rw [naf_zero]; intro x hx; simp at hx) (fun n z ih => by
  rw [naf_step z]
  intro x hx
  rcases List.mem_cons.mp hx with rfl | q
  · exact nd_dg n
  · exact ih x q) _ n (Nat.le_refl _)
theorem fd_naf (n : Int) : fd (naf n) = n := naf_ind (P := fun n => fd (naf n) = n) (by rw [naf_zero]; rfl) (fun n z ih => by
  rw [naf_step z, fd, ih]
  have := nd_half n
  omega) _ n (Nat.le_refl _)
theorem naf_neg (n : Int) : naf (-n) = (naf n).map (fun d => 0 - d) := naf_ind (P := fun n => naf (-n) = (naf n).map (fun d => 0 - d)) (by rw [Int.neg_zero, naf_zero]; rfl) (fun n z ih => by
  have e1 : nd (-n) = 0 - nd n := by unfold nd; (repeat' split) <;> omega
  have e2 : (-n - nd (-n)) / 2 = -((n - nd n) / 2) := by
    rw [e1]
    have := nd_half n
    omega
  rw [naf_step (show -n ≠ 0 by omega), naf_step z, e2, ih, e1]
  rfl) _ n (Nat.le_refl _)
theorem naf_len : ∀ (f : Nat) (n : Int), -(2 ^ f) ≤ n → n ≤ 2 ^ f → (naf n).length ≤ f + 1
  | 0, n, h1, h2 => by
    by_cases z : n = 0
    · rw [z, naf_zero]; simp
    · have : (n - nd n) / 2 = 0 := by
        unfold nd
        simp at h1 h2
        (repeat' split) <;> omega
      rw [naf_step z, this, naf_zero]; simp
  | f + 1, n, h1, h2 => by
    rw [Int.pow_succ] at h1 h2
    have hp : (0 : Int) < 2 ^ f := Int.pow_pos (by decide)
    by_cases z : n = 0
    · rw [z, naf_zero]; simp
    · have := nd_half n
      have := nd_dg n
      have := naf_len f ((n - nd n) / 2) (by omega) (by omega)
      rw [naf_step z, List.length_cons]
      omega
def nz (l : List Int) : Nat := (l.filter fun x => decide (x ≠ 0)).length
@[simp] theorem nz_nil : nz [] = 0 := rfl
theorem nz_cons {d : Int} {l : List Int} : nz (d :: l) = (if d = 0 then 0 else 1) + nz l := by
  unfold nz
  by_cases z : d = 0 <;> simp [z, List.filter_cons] <;> omega
def wt (n : Int) : Nat := nz (naf n)
theorem wt_zero : wt 0 = 0 := by unfold wt; rw [naf_zero]; rfl
theorem wt_step {n : Int} (h : n ≠ 0) : wt n = (if nd n = 0 then 0 else 1) + wt ((n - nd n) / 2) := by
  unfold wt
  rw [naf_step h, nz_cons]
theorem wt_even (m : Int) : wt (2 * m) = wt m := by
  by_cases z : m = 0
  · rw [z, Int.mul_zero]
  · have e : nd (2 * m) = 0 := by unfold nd; rw [if_neg (by omega)]
    rw [wt_step (by omega), e, if_pos rfl, Nat.zero_add]
    congr 1
    omega
theorem wt_one {n m : Int} (h : n % 4 = 1) (hm : n = 2 * m + 1) : wt n = 1 + wt m := by
  have e : nd n = 1 := by unfold nd; rw [if_pos (by omega), if_pos h]
  rw [wt_step (by omega), e, if_neg (by omega)]
  congr 2
  omega
theorem wt_three {n m : Int} (h : n % 4 = 3) (hm : n = 2 * m - 1) : wt n = 1 + wt m := by
  have e : nd n = -1 := by unfold nd; rw [if_pos (by omega), if_neg (by omega)]
  rw [wt_step (by omega), e, if_neg (by omega)]
  congr 2
  omega
theorem wt_near : ∀ (k : Nat) (m : Int), m.natAbs ≤ k → wt (2 * m + 1) ≤ 1 + wt m ∧ wt (2 * m - 1) ≤ 1 + wt m
  | 0, m, h => by
    have : m = 0 := by omega
    subst this
    rw [wt_one (m := 0) (by omega) rfl, wt_three (m := 0) (by omega) rfl]
    exact ⟨Nat.le_refl _, Nat.le_refl _⟩
  | k + 1, m, h => by
    by_cases e : m % 2 = 0
    · rw [wt_one (n := 2 * m + 1) (m := m) (by omega) rfl, wt_three (n := 2 * m - 1) (m := m) (by omega) rfl]
      exact ⟨Nat.le_refl _, Nat.le_refl _⟩
    · obtain ⟨a, ha⟩ : ∃ a, m = 2 * a + 1 := ⟨m / 2, by omega⟩
      -- 2 m + 1 = 2 (m + 1) - 1, 2 m - 1 = 2 (m - 1) + 1
      have h1 : wt (2 * m + 1) = 1 + wt (a + 1) := by
        rw [wt_three (n := 2 * m + 1) (m := m + 1) (by omega) (by omega), show m + 1 = 2 * (a + 1) by omega, wt_even]
      have h2 : wt (2 * m - 1) = 1 + wt a := by
        rw [wt_one (n := 2 * m - 1) (m := m - 1) (by omega) (by omega), show m - 1 = 2 * a by omega, wt_even]
      rw [h1, h2]
      by_cases q : a % 2 = 0
      · have h3 : wt m = 1 + wt a := wt_one (by omega) ha
        obtain ⟨j, hj⟩ : ∃ j, a = 2 * j := ⟨a / 2, by omega⟩
        have h4 : wt (a + 1) ≤ 1 + wt a := by
          rw [hj, wt_even]
          exact (wt_near k j (by omega)).1
        omega
      · have h3 : wt m = 1 + wt (a + 1) := wt_three (n := m) (m := a + 1) (by omega) (by omega)
        obtain ⟨j, hj⟩ : ∃ j, a = 2 * j - 1 := ⟨(a + 1) / 2, by omega⟩
        have h4 : wt a ≤ 1 + wt (a + 1) := by
          rw [show a + 1 = 2 * j by omega, wt_even, hj]
          exact (wt_near k j (by omega)).2
        omega
theorem wt_least : ∀ {l : List Int}, Dg l → wt (fd l) ≤ nz l
  | [], _ => by rw [fd, wt_zero]; exact Nat.zero_le _
  | d :: l, h => by
    have ih := wt_least h.cons.2
    rw [fd, nz_cons]
    have hn := wt_near _ (fd l) (Nat.le_refl _)
    rcases h.cons.1 with rfl | rfl | rfl
    · rw [if_neg (by omega), ← Int.sub_eq_add_neg]
      omega
    · rw [if_pos rfl, Int.add_zero, wt_even]
      omega
    · rw [if_neg (by omega)]
      omega
theorem wt_p1 : wt 1 = 1 := by have := wt_one (n := 1) (m := 0) (by omega) (by omega); rw [wt_zero] at this; exact this
theorem wt_m1 : wt (-1) = 1 := by have := wt_three (n := -1) (m := 0) (by omega) (by omega); rw [wt_zero] at this; exact this
theorem len_filters {α : Type} (p : α → Bool) : ∀ l : List α, (l.filter p).length + (l.filter fun x => !p x).length = l.length
  | [] => rfl
  | a :: l => by
    have := len_filters p l
    cases h : p a <;> simp [h, List.filter_cons] <;> omega
theorem wt_bound : ∀ (f : Nat) (n : Int), -(2 ^ f) ≤ n → n ≤ 2 ^ f → 2 * wt n ≤ f + 2
  | 0, n, h1, h2 => by
    simp at h1 h2
    have : n = 0 ∨ n = 1 ∨ n = -1 := by omega
    rcases this with rfl | rfl | rfl
    · rw [wt_zero]; omega
    · rw [wt_p1]; omega
    · rw [wt_m1]; omega
  | 1, n, h1, h2 => by
    simp at h1 h2
    have : n = 0 ∨ n = 1 ∨ n = -1 ∨ n = 2 ∨ n = -2 := by omega
    rcases this with rfl | rfl | rfl | rfl | rfl
    · rw [wt_zero]; omega
    · rw [wt_p1]; omega
    · rw [wt_m1]; omega
    · rw [show (2 : Int) = 2 * 1 by rfl, wt_even, wt_p1]; omega
    · rw [show (-2 : Int) = 2 * (-1) by rfl, wt_even, wt_m1]; omega
  | f + 2, n, h1, h2 => by
    rw [Int.pow_succ, Int.pow_succ] at h1 h2
    have hp : (0 : Int) < 2 ^ f := Int.pow_pos (by decide)
    have hp1 : (2 : Int) ^ (f + 1) = 2 ^ f * 2 := Int.pow_succ ..
    by_cases e : n % 2 = 0
    · have := wt_bound (f + 1) (n / 2) (by omega) (by omega)
      rw [show n = 2 * (n / 2) by omega, wt_even]
      omega
    · by_cases q : n % 4 = 1
      · have := wt_bound f (n / 4) (by omega) (by omega)
        rw [wt_one (m := 2 * (n / 4)) q (by omega), wt_even]
        omega
      · have := wt_bound f ((n + 1) / 4) (by omega) (by omega)
        rw [wt_three (m := 2 * ((n + 1) / 4)) (by omega) (by omega), wt_even]
        omega

/-! ### the digits' value -/
theorem emod_pw_succ {c i : Int} (h : 0 ≤ i) : c % pw (i + 1) = c % pw i + bt c i * pw i := by
  have h1 := Int.mul_ediv_add_emod c (pw (i + 1))
  have h2 := Int.mul_ediv_add_emod c (pw i)
  have h3 := pre_step (c := c) h
  have h4 := pw_succ h
  generalize c / pw (i + 1) = q at *
  rw [h4] at h1 ⊢
  rw [h3] at h2
  generalize c % (2 * pw i) = u at *
  generalize c % pw i = v at *
  grind
theorem fd_digL (c : Int) : ∀ n : Nat, fd (digL (n + 1) c) = c % pw n - bt c n * pw n
  | 0 => by
    show 2 * 0 + (0 - bt c 0) = _
    rw [show ((0 : Nat) : Int) = 0 by rfl, pw_zero, Int.emod_one]
    omega
  | n + 1 => by
    have e : digL (n + 1 + 1) c = digL (n + 1) c ++ [dgt c (n + 1)] := digL_succ
    rw [e, fd_snoc, fd_digL c n, digL_len, ← pw_nat]
    have e2 : dgt c (n + 1) = bt c n - bt c (n + 1) := by
      unfold dgt
      rw [if_neg (by omega)]
      congr 2
      omega
    rw [e2]
    have h1 := emod_pw_succ (c := c) (i := (n : Int)) (by omega)
    have h2 := pw_succ (i := (n : Int)) (by omega)
    have ec : ((n + 1 : Nat) : Int) = (n : Int) + 1 := by omega
    rw [ec, h1, h2]
    grind
theorem fd_digits {b c : Int} (h : Bt b) (hc : Cd b c) : fd (digL b.toNat c) = mn b c := by
  have lo := h.lo
  obtain ⟨n, hn⟩ : ∃ n : Nat, b.toNat = n + 1 := ⟨b.toNat - 1, by omega⟩
  have hb : b - 1 = n := by omega
  have hp := h.pw
  have hlo := hc.lo
  have hhi := hc.hi
  rw [hn, fd_digL]
  unfold mn bt
  rw [hb] at hp ⊢
  by_cases q : pw n ≤ c
  · have := dm (a := c) (b := pw n) (q := 1) (r := c - pw n) (by omega) (by omega) (by omega)
    rw [if_pos q, this.1, this.2]
    omega
  · have := dm (a := c) (b := pw n) (q := 0) (r := c) (by omega) (by omega) (by omega)
    rw [if_neg q, this.1, this.2]
    omega

/-! ### bits: those of the first and the last -/
theorem oL_rv {n : Nat} {c : Int} : (oL n c).reverse = (oL n (rv n c)).map fun k => n - 1 - k := by
  have hr : (List.range n).reverse = (List.range n).map fun k => n - 1 - k := by
    apply List.ext_getElem
    · simp
    · intro i h1 h2
      simp
  unfold oL
  rw [← List.filter_reverse, hr, List.filter_map]
  congr 1
  apply List.filter_congr
  intro k hk
  have hk : k < n := List.mem_range.mp hk
  show decide (bt c ((n - 1 - k : Nat) : Int) = 1) = _
  rw [bt_rv c n k hk]
theorem oL_lt {n : Nat} {c : Int} {k : Nat} (h : k ∈ oL n c) : k < n ∧ bt c k = 1 := by
  unfold oL at h
  obtain ⟨h1, h2⟩ := List.mem_filter.mp h
  exact ⟨List.mem_range.mp h1, of_decide_eq_true h2⟩
theorem oL_rv_len {n : Nat} {c : Int} : (oL n (rv n c)).length = (oL n c).length := by
  have := congrArg List.length (oL_rv (n := n) (c := c))
  simpa using this.symm
theorem first_rv {n : Nat} {c : Int} : firstO n (rv n c) = lastO n c := by
  have h := congrArg List.head? (oL_rv (n := n) (c := c))
  rw [List.head?_reverse, List.head?_map] at h
  unfold firstO lastO
  rw [h]
  cases q : (oL n (rv n c)).head? with
  | none => rfl
  | some k =>
    have := (oL_lt (List.mem_of_head? q)).1
    show (k : Int) = n - 1 - ((n - 1 - k : Nat) : Int)
    omega
theorem last_rv {n : Nat} {c : Int} : lastO n (rv n c) = firstO n c := by
  have h := congrArg List.getLast? (oL_rv (n := n) (c := c))
  rw [List.getLast?_reverse, List.getLast?_map] at h
  unfold firstO lastO
  rw [h]
  cases q : (oL n (rv n c)).getLast? with
  | none => rfl
  | some k =>
    have := (oL_lt (List.mem_of_getLast? q)).1
    show (n : Int) - 1 - k = ((n - 1 - k : Nat) : Int)
    omega
theorem bt_compl {c i b : Int} (h0 : 0 ≤ i) (h1 : i < b) : bt (pw b - 1 - c) i = 1 - bt c i := by
  obtain ⟨m, hm⟩ : ∃ m, pw b = 2 * m * pw i := by
    refine ⟨pw (b - i - 1), ?_⟩
    have e : b = (b - i - 1 + 1) + i := by omega
    have e2 : pw ((b - i - 1 + 1) + i) = pw (b - i - 1 + 1) * pw i := by
      unfold pw
      rw [show ((b - i - 1 + 1) + i).toNat = (b - i - 1 + 1).toNat + i.toNat by omega, Int.pow_add]
    rw [← pw_succ (by omega), ← e2, ← e]
  have hp := pw_pos i
  have h2 := Int.mul_ediv_add_emod c (pw i)
  have h3 := Int.emod_nonneg c (b := pw i) (by omega)
  have h4 := Int.emod_lt_of_pos c hp
  have := dm (a := pw b - 1 - c) (b := pw i) (q := 2 * m - 1 - c / pw i) (r := pw i - 1 - c % pw i) (by rw [hm]; grind) (by omega) (by omega)
  unfold bt
  rw [this.1]
  omega
theorem oL_compl {n : Nat} {c : Int} : ((oL n (pw n - 1 - c)).length : Int) = n - (oL n c).length := by
  have e : oL n (pw n - 1 - c) = (List.range n).filter fun (k : Nat) => !decide (bt c k = 1) := by
    apply List.filter_congr
    intro k hk
    have hk : k < n := List.mem_range.mp hk
    rw [bt_compl (by omega) (by omega)]
    have := bt_range c k
    rcases this with h | h <;> rw [h] <;> rfl
  have := len_filters (fun (k : Nat) => decide (bt c k = 1)) (List.range n)
  rw [List.length_range] at this
  rw [e]
  unfold oL
  omega
theorem low_zero {c : Int} : ∀ {h : Nat}, (∀ k : Nat, k < h → bt c k = 0) → c / pw h * pw h = c
  | 0, _ => by simp
  | h + 1, z => by
    have ih := low_zero (h := h) fun k hk => z k (by omega)
    have h1 := pre_step (c := c) (i := (h : Int)) (by omega)
    have h2 := z h (by omega)
    have h3 := pw_succ (i := (h : Int)) (by omega)
    have ec : ((h + 1 : Nat) : Int) = (h : Int) + 1 := by omega
    rw [ec, h3]
    rw [h2] at h1
    rw [h1] at ih
    rw [h3] at ih
    grind
theorem first_low {n : Nat} {c : Int} : ∃ h : Nat, firstO n c = h ∧ h ≤ n ∧ ∀ k : Nat, k < h → bt c k = 0 := by
  unfold firstO
  cases q : (oL n c).head? with
  | none =>
    refine ⟨n, rfl, Nat.le_refl _, fun k hk => ?_⟩
    have e := List.head?_eq_none_iff.mp q
    have := List.filter_eq_nil_iff.mp e k (List.mem_range.mpr hk)
    have r := bt_range c k
    simp at this
    omega
  | some h =>
    have hl := oL_lt (List.mem_of_head? q)
    refine ⟨h, rfl, by omega, fun k hk => ?_⟩
    have r := bt_range c k
    rcases r with r | r
    · exact r
    · exfalso
      have hs : (oL n c).Pairwise (· < ·) := List.Pairwise.filter _ List.pairwise_lt_range
      have hm : k ∈ oL n c := List.mem_filter.mpr ⟨List.mem_range.mpr (by omega), decide_eq_true r⟩
      cases hO : oL n c with
      | nil => rw [hO] at q; cases q
      | cons a l =>
        rw [hO] at q hs hm
        cases q
        rcases List.mem_cons.mp hm with z | z
        · omega
        · have := (List.pairwise_cons.mp hs).1 k z
          omega
end K44
end

section
set_option Elab.async false
set_option linter.all false
set_option maxRecDepth 100000
set_option maxHeartbeats 4000000
namespace K44
open PySem PySem.Spec PyProof.Rows L2 QL
def nzL (N : List Int) : List Int := N.filter fun x => decide (x ≠ 0)
def ngL (N : List Int) : List Int := N.map fun x => 0 - x
theorem nzL_len (N : List Int) : (nzL N).length = nz N := rfl
theorem lc_nz {o0 o1 o2 o3 o4 o5 o6 o7 o8 o9 o10 o11 o12 o13 o14 o15 o16 o17 o18 o19 o20 o21 o23 : Option S} {N : List Int} : lcL [22] (bName 22) (fTB (fBin oNe (fVar 22) (fC (.int 0)))) (fVar 22) (N.map D.int) [] [o0, o1, o2, o3, o4, o5, o6, o7, o8, o9, o10, o11, o12, o13, o14, o15, o16, o17, o18, o19, o20, o21, none, o23] = some (.val (.m (.lst ((nzL N).map D.int))), [o0, o1, o2, o3, o4, o5, o6, o7, o8, o9, o10, o11, o12, o13, o14, o15, o16, o17, o18, o19, o20, o21, none, o23]) := by
  rw [lc_filter (fun x => match x with | .int i => decide (i ≠ 0) | _ => false)]
  · congr 4
    rw [List.filter_map]
    rfl
  · intro z hz
    obtain ⟨i, _, rfl⟩ := List.mem_map.mp hz
    by_cases q : i = 0
    · subst q
      simp -implicitDefEqProofs [lcOne]
    · simp -implicitDefEqProofs [lcOne, q]
theorem lc_neg {o0 o1 o2 o3 o4 o5 o6 o7 o8 o9 o10 o11 o12 o13 o14 o15 o16 o17 o18 o19 o20 o21 o23 : Option S} {N : List Int} : lcL [22] (bName 22) fYes (fBin oSub (fC (.int 0)) (fVar 22)) (N.map D.int) [] [o0, o1, o2, o3, o4, o5, o6, o7, o8, o9, o10, o11, o12, o13, o14, o15, o16, o17, o18, o19, o20, o21, none, o23] = some (.val (.m (.lst ((ngL N).map D.int))), [o0, o1, o2, o3, o4, o5, o6, o7, o8, o9, o10, o11, o12, o13, o14, o15, o16, o17, o18, o19, o20, o21, none, o23]) := by
  rw [lc_map (fun x => match x with | .int i => .int (0 - i) | _ => .non)]
  · rw [ngL, List.map_map, List.map_map]
    rfl
  · intro z hz
    obtain ⟨i, _, rfl⟩ := List.mem_map.mp hz
    simp -implicitDefEqProofs [lcOne]
theorem lc_take {T : FnS} (hT : ∀ {st : M} {many : Int}, GS st → 0 < many → many < 2 ^ 100 → ∃ r st', T [.m st, .d (.int many)] = some (.d (.int r), [.m st', .d (.int many)]) ∧ 0 ≤ r ∧ r < many ∧ GS st') : ∀ (xs : List D) (acc : List Int) (st : M), (∀ x ∈ xs, ∃ i, x = D.int i) → GS st →
    ∃ (L : List Int) (st' : M), (∀ o1 o2 o3 o4 o5 o6 o7 o8 o9 o10 o11 o12 o13 o14 o15 o16 o17 o18 o19 o20 o21 o22 : Option S, lcL [23] (bName 23) fYes (fCall T (fCons (fVar 0) (fCons (fC (.int 900)) fNil))) xs (acc.map D.int) [some (.m st), o1, o2, o3, o4, o5, o6, o7, o8, o9, o10, o11, o12, o13, o14, o15, o16, o17, o18, o19, o20, o21, o22, none] = some (.val (.m (.lst ((acc ++ L).map D.int))), [some (.m st'), o1, o2, o3, o4, o5, o6, o7, o8, o9, o10, o11, o12, o13, o14, o15, o16, o17, o18, o19, o20, o21, o22, none])) ∧ GS st' ∧ L.length = xs.length ∧ ∀ x ∈ L, 0 ≤ x ∧ x < 900
  | [], acc, st, _, g => ⟨[], st, by simp, g, rfl, by simp⟩
  | x :: xs, acc, st, hx, g => by
    obtain ⟨i, rfl⟩ := hx x (by simp)
    obtain ⟨r, st2, h5, h6, h7, h8⟩ := hT (many := 900) g (by omega) (by omega)
    obtain ⟨L, st3, h1, h2, h3, h4⟩ := lc_take hT xs (acc ++ [r]) st2 (fun x h => hx x (by simp [h])) h8
    refine ⟨r :: L, st3, ?_, h2, by simp [h3], ?_⟩
    · intro o1 o2 o3 o4 o5 o6 o7 o8 o9 o10 o11 o12 o13 o14 o15 o16 o17 o18 o19 o20 o21 o22
      rw [lc_step (r := some (.int r)) (e' := [some (.m st2), o1, o2, o3, o4, o5, o6, o7, o8, o9, o10, o11, o12, o13, o14, o15, o16, o17, o18, o19, o20, o21, o22, none])]
      · have := h1 o1 o2 o3 o4 o5 o6 o7 o8 o9 o10 o11 o12 o13 o14 o15 o16 o17 o18 o19 o20 o21 o22
        simpa using this
      · simp -implicitDefEqProofs [lcOne, h5]
    · intro x hx
      rcases List.mem_cons.mp hx with q | q
      · rw [q]; exact ⟨h6, h7⟩
      · exact h4 x q
def wfin (n : Nat) : Nat := if h : n ≤ 2 then n else wfin (2 * (n / 3) + n % 3)
termination_by n
decreasing_by omega
theorem wfin_small {n : Nat} (h : n ≤ 2) : wfin n = n := by rw [wfin]; simp [h]
theorem wfin_step {n : Nat} (h : 2 < n) : wfin n = wfin (2 * (n / 3) + n % 3) := by rw [wfin]; simp [show ¬ n ≤ 2 by omega]
theorem wh_bound {o0 o1 o2 o3 o4 o5 o6 o7 o8 o9 o10 o11 o12 o13 o16 o17 o18 o19 o20 o21 o22 o23 : Option S} {m : Nat} (hm : m ≤ 1000) :
    whileN (fTB (fBin oGt (fVar 15) (fC (.int 2)))) (sSeq (sSet 15 (fBin oAdd (fBin oDiv (fBin oMul (fC (.int 2)) (fVar 15)) (fC (.int 3))) (fOp oInt (fCons (fBin oGt (fBin oMod (fOp oInt (fCons (fBin oMul (fC (.int 2)) (fVar 15)) fNil)) (fC (.int 3))) (fC (.int 0))) fNil))))
  (sSet 14 (fBin oAdd (fVar 14) (fC (.int 1))))) (fuel0 [o0, o1, o2, o3, o4, o5, o6, o7, o8, o9, o10, o11, o12, o13, some (.d (.int 1)), some (.d (.int (m : Int))), o16, o17, o18, o19, o20, o21, o22, o23]) [o0, o1, o2, o3, o4, o5, o6, o7, o8, o9, o10, o11, o12, o13, some (.d (.int 1)), some (.d (.int (m : Int))), o16, o17, o18, o19, o20, o21, o22, o23] = some (.nx [o0, o1, o2, o3, o4, o5, o6, o7, o8, o9, o10, o11, o12, o13, some (.d (.int (1 + rnd m : Nat))), some (.d (.int (wfin m : Nat))), o16, o17, o18, o19, o20, o21, o22, o23]) := by
  suffices this : ∃ e', whileN (fTB (fBin oGt (fVar 15) (fC (.int 2)))) (sSeq (sSet 15 (fBin oAdd (fBin oDiv (fBin oMul (fC (.int 2)) (fVar 15)) (fC (.int 3))) (fOp oInt (fCons (fBin oGt (fBin oMod (fOp oInt (fCons (fBin oMul (fC (.int 2)) (fVar 15)) fNil)) (fC (.int 3))) (fC (.int 0))) fNil))))
  (sSet 14 (fBin oAdd (fVar 14) (fC (.int 1))))) (fuel0 [o0, o1, o2, o3, o4, o5, o6, o7, o8, o9, o10, o11, o12, o13, some (.d (.int 1)), some (.d (.int (m : Int))), o16, o17, o18, o19, o20, o21, o22, o23]) [o0, o1, o2, o3, o4, o5, o6, o7, o8, o9, o10, o11, o12, o13, some (.d (.int 1)), some (.d (.int (m : Int))), o16, o17, o18, o19, o20, o21, o22, o23] = some (.nx e') ∧ e' = [o0, o1, o2, o3, o4, o5, o6, o7, o8, o9, o10, o11, o12, o13, some (.d (.int (1 + rnd m : Nat))), some (.d (.int (wfin m : Nat))), o16, o17, o18, o19, o20, o21, o22, o23] by
    obtain ⟨e', h1, rfl⟩ := this
    exact h1
  refine while0 (fun q e => ∃ c k : Nat, e = [o0, o1, o2, o3, o4, o5, o6, o7, o8, o9, o10, o11, o12, o13, some (.d (.int (c : Nat))), some (.d (.int (k : Nat))), o16, o17, o18, o19, o20, o21, o22, o23] ∧ c + rnd k = 1 + rnd m ∧ k = q ∧ k ≤ 1000 ∧ wfin k = wfin m) _ m (by omega) ⟨1, m, rfl, rfl, rfl, hm, rfl⟩ ?_
  rintro q e ⟨c, k, rfl, h1, rfl, h2, h3⟩
  by_cases z : 2 < k
  · have t1 : (fTB (fBin oGt (fVar 15) (fC (.int 2)))) [o0, o1, o2, o3, o4, o5, o6, o7, o8, o9, o10, o11, o12, o13, some (.d (.int (c : Nat))), some (.d (.int (k : Nat))), o16, o17, o18, o19, o20, o21, o22, o23] = some (true, [o0, o1, o2, o3, o4, o5, o6, o7, o8, o9, o10, o11, o12, o13, some (.d (.int (c : Nat))), some (.d (.int (k : Nat))), o16, o17, o18, o19, o20, o21, o22, o23]) := by
      have : (2 : Int) < (k : Int) := by omega
      simp [this]
    have m1 : mulC 2 (k : Int) = true := mulC_of (by omega) (by omega) (by omega) (by omega)
    have d1 : ∀ n, divC n 3 = true := fun n => divC_of (by omega) (by omega)
    rw [rnd_step z] at h1
    rw [wfin_step z] at h3
    have e1 : 2 * (k : Int) / 3 + (if 0 < 2 * (k : Int) % 3 then 1 else 0) = ((2 * (k / 3) + k % 3 : Nat) : Int) := by
      split <;> omega
    refine .inr ⟨_, [o0, o1, o2, o3, o4, o5, o6, o7, o8, o9, o10, o11, o12, o13, some (.d (.int ((c + 1 : Nat) : Int))), some (.d (.int ((2 * (k / 3) + k % 3 : Nat) : Int))), o16, o17, o18, o19, o20, o21, o22, o23], 2 * (k / 3) + k % 3, t1, ?_, by omega, c + 1, 2 * (k / 3) + k % 3, rfl, by omega, rfl, by omega, h3⟩
    rw [← e1]
    simp -implicitDefEqProofs [m1, d1]
  · have t1 : (fTB (fBin oGt (fVar 15) (fC (.int 2)))) [o0, o1, o2, o3, o4, o5, o6, o7, o8, o9, o10, o11, o12, o13, some (.d (.int (c : Nat))), some (.d (.int (k : Nat))), o16, o17, o18, o19, o20, o21, o22, o23] = some (false, [o0, o1, o2, o3, o4, o5, o6, o7, o8, o9, o10, o11, o12, o13, some (.d (.int (c : Nat))), some (.d (.int (k : Nat))), o16, o17, o18, o19, o20, o21, o22, o23]) := by
      have : ¬ (2 : Int) < (k : Int) := by omega
      simp [this]
    rw [rnd_small (by omega), Nat.add_zero] at h1
    rw [wfin_small (by omega)] at h3
    subst h1 h3
    exact .inl ⟨_, t1, rfl⟩
end K44
end

section
set_option Elab.async false
set_option linter.all false
set_option maxRecDepth 100000
set_option maxHeartbeats 4000000
namespace K44
open PySem PySem.Spec PyProof.Rows L2 QL
theorem mn_neg {b c : Int} (h : Bt b) (hc : Cd b c) : (cof b (0 - mn b c) = .non) ∨ ∃ e, cof b (0 - mn b c) = .int e ∧ Cd b e ∧ mn b e = -(mn b c) := by
  have hp := h.pw
  have hm := mn_range h hc
  unfold cof
  by_cases q : -pw (b - 1) ≤ 0 - mn b c ∧ 0 - mn b c < pw (b - 1)
  · refine .inr ⟨_, by rw [if_pos q], Cd.mod h, ?_⟩
    have hc2 := Cd.mod (n := 0 - mn b c) h
    generalize mn b c = M at *
    have := Int.mul_ediv_add_emod (0 - M) (pw b)
    by_cases z : 0 ≤ 0 - M
    · rw [Int.emod_eq_of_lt z (by omega)]
      unfold mn
      rw [if_neg (by omega)]
      omega
    · have := dm (a := 0 - M) (b := pw b) (q := -1) (r := pw b - M) (by omega) (by omega) (by omega)
      rw [this.2]
      unfold mn
      rw [if_pos (by omega)]
      omega
  · exact .inl (by rw [if_neg q])
theorem mn_zero {b : Int} (h : Bt b) : mn b 0 = 0 := by
  have := h.pw
  unfold mn
  rw [if_neg (by omega)]
theorem Cd.zero {b : Int} (h : Bt b) : Cd b 0 := ⟨by omega, pw_pos b⟩
theorem sum_bound {l : List Int} {k : Int} (h : ∀ x ∈ l, x < k) : l.sum ≤ k * l.length := by
  induction l with
  | nil => simp
  | cons a l ih =>
    have := h a (by simp)
    have := ih fun x hx => h x (by simp [hx])
    rw [List.sum_cons, List.length_cons]
    push_cast
    grind
theorem row_max {n : Nat} {b x y : Int} (h0 : 0 < y) (hn : 0 < n) : ∃ m, maxL (rowL n b x y) = some m ∧ m < y := by
  have hl : (rowL n b x y).length = n := by simp [rowL]
  cases hr : rowL n b x y with
  | nil => rw [hr] at hl; simp at hl; omega
  | cons a l =>
    refine ⟨_, rfl, ?_⟩
    have hm := maxL_spec (l := a :: l) rfl
    have : l.foldl max a ∈ rowL n b x y := by rw [hr]; exact hm.1
    obtain ⟨k, _, e⟩ := List.mem_map.mp this
    rw [← e]
    exact Int.emod_lt_of_pos _ h0
theorem row_last {n : Nat} {b x y : Int} (hb : (n : Int) = b) (hn : 0 < n) : getI ((rowL n b x y).map D.int) (-1) = some (.int (x % y)) := by
  obtain ⟨m, rfl⟩ : ∃ m, n = m + 1 := ⟨n - 1, by omega⟩
  have e : rowL (m + 1) b x y = rowL m b x y ++ [x % y] := by
    unfold rowL
    rw [List.range_succ, List.map_append]
    congr 1
    simp
    rw [show b - 1 - (m : Int) = 0 by omega]
    simp
  rw [e, List.map_append]
  exact getI_last
theorem take3 {L : List Int} (h : 3 ≤ L.length) : ∃ a b c R, L = a :: b :: c :: R := by
  match L, h with
  | a :: b :: c :: R, _ => exact ⟨a, b, c, R, rfl⟩
theorem sq_facts {r : Int} (h : 3 ≤ r) : 0 ≤ r * r ∧ r * r < (r + 1) * (r + 1) ∧ r * r + 2 * r < (r + 1) * (r + 1) ∧ 0 ≤ r * r - 1 ∧ (r - 1) * (r - 1) ≤ r * r - 1 ∧ r * r - 1 < (r - 1 + 1) * (r - 1 + 1) ∧ r * r - 1 - (r - 1) * (r - 1) = 2 * r - 2 := by
  have : 0 < r * r := Int.mul_pos (by omega) (by omega)
  have e1 : (r + 1) * (r + 1) = r * r + 2 * r + 1 := by grind
  have e2 : (r - 1) * (r - 1) = r * r - 2 * r + 1 := by grind
  have e3 : r - 1 + 1 = r := by omega
  rw [e1, e2, e3]
  omega
theorem f_part1 {b x y : Int} (h : Bt b) (hx : Cd b x) (hy : Cd b y) {st : M} (g : GS st) :
    ∃ st', fn__law_part1 [.m st, .d (.int b), .d (.int (pw b)), .d (.int x), .d (.int y), .d (.int (oL b.toNat x).length), .d (.int (lastO b.toNat x)), .d (.int (firstO b.toNat x))] = some (.d (.bl true), [.m st', .d (.int b), .d (.int (pw b)), .d (.int x), .d (.int y), .d (.int (oL b.toNat x).length), .d (.int (lastO b.toNat x)), .d (.int (firstO b.toNat x))]) := by
  simp only [fn__law_part1, mkFn, b__law_part1, A__law_part1]
  have lo := h.lo
  have hi := h.hi
  have hb : (b.toNat : Int) = b := by omega
  have hp := h.pw
  have hx0 := hx.lo
  have hx1 := hx.hi
  -- turned, counts
  have hrv := rv_range x b.toNat
  rw [hb] at hrv
  have cRv : Cd b (rv b.toNat x) := ⟨hrv.1, hrv.2⟩
  have t1 := f_turned_bits h hx
  have t2 := f_counts h cRv
  rw [oL_rv_len, last_rv, first_rv] at t2
  have t3 := f_counts h (c := pw b - 1 - x) ⟨by omega, by omega⟩
  have hcomp := oL_compl (n := b.toNat) (c := x)
  rw [hb] at hcomp
  rw [hcomp] at t3
  obtain ⟨lowH, hfe, hln, hlz⟩ := first_low (n := b.toNat) (c := x)
  have hlow := low_zero hlz
  have t4 := f_raise (i := (lowH : Int)) (by omega) (by omega)
  have hlp := pw_le (i := (lowH : Int)) (n := 32) (by omega)
  have hlq := pw_pos (lowH : Int)
  have hdl : ∀ n, divC n (pw (lowH : Int)) = true := fun n => divC_of hlq (by omega)
  have hql : 0 ≤ x / pw (lowH : Int) ∧ x / pw (lowH : Int) ≤ x := ⟨Int.ediv_nonneg hx0 (by omega), Int.ediv_le_self _ hx0⟩
  have hml : mulC (x / pw (lowH : Int)) (pw (lowH : Int)) = true := mulC_of (by omega) (by omega) (by omega) (by omega)
  -- digits
  have hmr := mn_range h hx
  have hpb : pw (b - 1) ≤ 2 ^ 31 := pw_le (by omega)
  have t5 := f_sparse h hx
  have t6 := f_meaning h hx
  have t7 := f_digits h hx
  have hnl := naf_len 32 (mn b x) (by omega) (by omega)
  have t8 := f_from_digits (Dg_naf (mn b x)) (by omega)
  rw [fd_naf] at t8
  have t9 := f_from_digits (Dg_digL b.toNat x) (by rw [digL_len]; omega)
  rw [fd_digits h hx] at t9
  have hw1 := wt_least (Dg_digL b.toNat x)
  rw [fd_digits h hx] at hw1
  have hw2 : 2 * wt (mn b x) ≤ b.toNat + 1 := by
    have e : pw (b - 1) = 2 ^ (b.toNat - 1) := by unfold pw; rw [show (b - 1).toNat = b.toNat - 1 by omega]
    have := wt_bound (b.toNat - 1) (mn b x) (by omega) (by omega)
    omega
  unfold wt at hw1 hw2
  have t10 := f_code_of (n := 0 - mn b x) h
  have t11 : ∃ S0, (cof b (0 - mn b x) = .non ∧ S0 = (0 : Int)) ∨ (cof b (0 - mn b x) = .int S0 ∧ Cd b S0 ∧ mn b S0 = -(mn b x)) := by
    rcases mn_neg h hx with q | ⟨e, q⟩
    · exact ⟨0, .inl ⟨q, rfl⟩⟩
    · exact ⟨e, .inr q⟩
  have t12 := f_sparse h (Cd.zero h)
  rw [mn_zero h, naf_zero] at t12
  have t13 : ∀ S0, Cd b S0 → mn b S0 = -(mn b x) → fn_sparse [.d (.int b), .d (.int S0)] = some (.d (.tup ((ngL (naf (mn b x))).map D.int)), [.d (.int b), .d (.int S0)]) := fun S0 c e => by
    rw [f_sparse h c, e, naf_neg]
    rfl
  -- division
  have t14 : 0 < y → _ := fun hy0 => f_divided h hx hy hy0
  have t15 : 0 < y → _ := fun hy0 => f_divided_both h hx hy hy0
  have t16 : 0 < y → _ := fun hy0 => f_divided (x := x / y) h ⟨Int.ediv_nonneg hx0 (by omega), by have := Int.ediv_le_self y hx0; omega⟩ hy hy0
  have t17 := f_divided h hx (y := 1) ⟨by omega, by omega⟩ (by omega)
  rw [Int.ediv_one] at t17
  have t18 : 0 < y → _ := fun hy0 => row_max (n := b.toNat) (b := b) (x := x) hy0 (by omega)
  have t19 := row_last (x := x) (y := y) hb (by omega)
  have hdy : 0 < y → ∀ n, divC n y = true := fun hy0 n => divC_of hy0 (by have := hy.hi; omega)
  -- numbers
  have hT := @f_take
  have hS := @f_saved
  have hSu := @f_summed
  have hR := @root_at
  generalize fn__law_take = FT at *
  generalize fn_saved = FSa at *
  generalize fn_summed = FSu at *
  generalize fn_root_of = FRo at *
  generalize fn_turned_bits = F1 at *
  generalize fn_counts = F2 at *
  generalize fn__law_raise = F3 at *
  generalize fn_sparse = F4 at *
  generalize fn_from_digits = F5 at *
  generalize fn_meaning = F6 at *
  generalize fn_digits = F7 at *
  generalize fn_code_of = F8 at *
  generalize fn_divided = F9 at *
  generalize fn_divided_both = F10 at *
  rw [hfe]
  generalize (oL b.toNat x).length = nO at *
  generalize lastO b.toNat x = lO at *
  generalize rv b.toNat x = rX at *
  generalize hN : naf (mn b x) = N at *
  generalize hDg : digL b.toNat x = DL at *
  obtain ⟨r1, st1, hT1, hr1, hr2, g1⟩ := hT (many := 20) g (by omega) (by omega)
  have hsm : smallI (3 + r1) = true := smallI_of (by omega) (by omega)
  have z3 : 3 ≤ sizeLine := smallT (by decide)
  have z2 : 2 ≤ sizeLine := smallT (by decide)
  have z0 : 0 ≤ sizeLine := Nat.zero_le _
  have zN : N.length ≤ sizeLine := smallT (by omega)
  have zD : DL.length ≤ sizeLine := smallT (by rw [← hDg, digL_len]; omega)
  obtain ⟨L, st2, hLc, g2, hLl, hLb⟩ := lc_take (T := FT) hT (rngL 0 (3 + r1).toNat) [] st1 (fun x hx => by
    obtain ⟨k, hk⟩ := List.getElem?_of_mem hx
    exact ⟨_, (rngL_get hk).2⟩) g1
  rw [rngL_len] at hLl
  have hLnn : NN L := fun x hx => (hLb x hx).1
  have hLs := sum_bound (l := L) (k := 900) fun x hx => (hLb x hx).2
  have zL : (rngL 0 (3 + r1).toNat).length ≤ sizeLine := smallT (by rw [rngL_len]; omega)
  obtain ⟨B, hSu1, hSu2⟩ := hSu hLnn (by omega) (by omega)
  have hwh := fun o0 o1 o2 o3 o4 o5 o6 o7 o8 o9 o10 o11 o12 o13 o16 o17 o18 o19 o20 o21 o22 o23 => @wh_bound o0 o1 o2 o3 o4 o5 o6 o7 o8 o9 o10 o11 o12 o13 o16 o17 o18 o19 o20 o21 o22 o23 L.length (by omega)
  obtain ⟨a, b', c, R, hLe⟩ := take3 (L := L) (by omega)
  simp only [List.map_nil, List.nil_append] at hLc
  have ha := hLb a (by rw [hLe]; simp)
  have hb' := hLb b' (by rw [hLe]; simp)
  have hc := hLb c (by rw [hLe]; simp)
  obtain ⟨u, v, hS1, hS2, hS3, hS4⟩ := hS ha.1 hb'.1 hc.1 (by omega)
  obtain ⟨u2, v2, hS5, hS6, hS7, hS8⟩ := hS hS3 hS4 (show (0 : Int) ≤ 0 by omega) (by omega)
  have hcut : QL.cutD (L.map D.int) none (some 3) = [.int a, .int b', .int c] := by
    rw [hLe]
    have := cut_to (l := (a :: b' :: c :: R).map D.int) (k := 3) (by simp)
    simpa using this
  have hq1 : ¬ nz DL < nz N := by omega
  have hq2 : ¬ b + 1 < 2 * (nz N : Int) := by omega
  have hq3 : mulC 2 (nz N : Int) = true := mulC_of (by omega) (by omega) (by omega) (by omega)
  -- roots
  have mx : mulC x 7 = true := mulC_of (by omega) (by omega) (by omega) (by omega)
  generalize hr : x * 7 + 3 = r at *
  have hrb : 3 ≤ r ∧ r < 2 ^ 40 := by omega
  have hsq := sq_facts hrb.1
  have hrr := mul_bound (a := r) (A := 2 ^ 40) (b := r) (B := 2 ^ 40) (by omega) (by omega) (by omega) (by omega)
  have mr : mulC r r = true := mulC_of (by omega) (by omega) (by omega) (by omega)
  have m2r : mulC 2 r = true := mulC_of (by omega) (by omega) (by omega) (by omega)
  have hR1 := hR (n := r * r) (r := r) hsq.1 (by omega) (by omega) (by omega) hsq.2.1
  have hR2 := hR (n := r * r + 2 * r) (r := r) (by omega) (by omega) (by omega) (by omega) hsq.2.2.1
  have hR3 := hR (n := r * r - 1) (r := r - 1) (by omega) (by omega) (by omega) hsq.2.2.2.2.1 hsq.2.2.2.2.2.1
  rw [show r * r - r * r = 0 by omega] at hR1
  rw [show r * r + 2 * r - r * r = 2 * r by omega] at hR2
  rw [show r * r - 1 - (r - 1) * (r - 1) = 2 * r - 2 from hsq.2.2.2.2.2.2] at hR3
  generalize hrr0 : r * r = rr at *
  have hq4 : ¬ 1 + (rnd L.length : Int) < (rnd L.length : Int) := by omega
  have hS2' : u + v = a + (b' + c) := by omega
  have hS6' : u2 + v2 = a + (b' + c) := by omega
  refine ⟨st2, ?_⟩
  obtain ⟨S0, t11⟩ := t11
  rw [Int.zero_sub] at t10 t11
  by_cases hy0 : 0 < y
  · have t14 := t14 hy0
    obtain ⟨rowB, t15⟩ := t15 hy0
    have t16 := t16 hy0
    obtain ⟨mx2, t18, t18b⟩ := t18 hy0
    have hdy := hdy hy0
    have t18c : ¬ y ≤ mx2 := by omega
    rcases t11 with ⟨t11, rfl⟩ | ⟨t11, c11, e11⟩
    · rw [t11] at t10
      simp -implicitDefEqProofs [t1, t2, t3, t4, t5, t6, t7, t8, t9, t10, t12, t14, t15, t16, t17, hdl, hml, hlow, hfe, z3, z2, z0, zN, zD, hcut, hLc, hwh, hSu1, hS1, hS5, hR1, hR2, hR3, hT1, hsm, zL, mx, mr, m2r, lc_nz, hr, hy0, t18, t19, hdy, nzL_len, lc_neg, t18c, hrr0, oSum, oMax, hSu2, hq4, hS2', hS6', hq1, hq2, hq3]
    · have t13 := t13 S0 c11 e11
      rw [t11] at t10
      simp -implicitDefEqProofs [t1, t2, t3, t4, t5, t6, t7, t8, t9, t10, t13, t14, t15, t16, t17, hdl, hml, hlow, hfe, z3, z2, z0, zN, zD, hcut, hLc, hwh, hSu1, hS1, hS5, hR1, hR2, hR3, hT1, hsm, zL, mx, mr, m2r, lc_nz, hr, hy0, t18, t19, hdy, nzL_len, lc_neg, t18c, hrr0, oSum, oMax, hSu2, hq4, hS2', hS6', hq1, hq2, hq3]
  · rcases t11 with ⟨t11, rfl⟩ | ⟨t11, c11, e11⟩
    · rw [t11] at t10
      simp -implicitDefEqProofs [t1, t2, t3, t4, t5, t6, t7, t8, t9, t10, t12, hdl, hml, hlow, hfe, z3, z2, z0, zN, zD, hcut, hLc, hwh, hSu1, hS1, hS5, hR1, hR2, hR3, hT1, hsm, zL, mx, mr, m2r, lc_nz, hr, hy0, nzL_len, lc_neg, hrr0, oSum, oMax, hSu2, hq4, hS2', hS6', hq1, hq2, hq3]
    · have t13 := t13 S0 c11 e11
      rw [t11] at t10
      simp -implicitDefEqProofs [t1, t2, t3, t4, t5, t6, t7, t8, t9, t10, t13, hdl, hml, hlow, hfe, z3, z2, z0, zN, zD, hcut, hLc, hwh, hSu1, hS1, hS5, hR1, hR2, hR3, hT1, hsm, zL, mx, mr, m2r, lc_nz, hr, hy0, nzL_len, lc_neg, hrr0, oSum, oMax, hSu2, hq4, hS2', hS6', hq1, hq2, hq3]
end K44
end

section
set_option Elab.async false
set_option linter.all false
set_option maxRecDepth 100000
set_option maxHeartbeats 4000000
namespace K44
open PySem PySem.Spec PyProof.Rows L2 QL
theorem mod2 {W s : Int} (h0 : 0 ≤ s) (h1 : s < 2 * W) : (s < W ∧ s % W = s ∧ s / W = 0) ∨ (W ≤ s ∧ s % W = s - W ∧ s / W = 1) := by
  by_cases z : s < W
  · have := dm (a := s) (b := W) (q := 0) (r := s) (by omega) (by omega) z
    exact .inl ⟨z, this.2, this.1⟩
  · have := dm (a := s) (b := W) (q := 1) (r := s - W) (by omega) (by omega) (by omega)
    exact .inr ⟨by omega, this.2, this.1⟩
theorem mn_cases (b n : Int) : (pw (b - 1) ≤ n ∧ mn b n = n - pw b) ∨ (n < pw (b - 1) ∧ mn b n = n) := by
  unfold mn
  by_cases z : pw (b - 1) ≤ n
  · rw [if_pos z]; exact .inl ⟨z, rfl⟩
  · rw [if_neg z]; exact .inr ⟨by omega, rfl⟩
theorem top_cases {b c : Int} (h : Bt b) (hc : Cd b c) : (pw (b - 1) ≤ c ∧ c / pw (b - 1) = 1) ∨ (c < pw (b - 1) ∧ c / pw (b - 1) = 0) := by
  have := h.pw
  have := hc.lo
  have := hc.hi
  rcases mod2 (W := pw (b - 1)) (s := c) (by omega) (by omega) with q | q
  · exact .inr ⟨q.1, q.2.2⟩
  · exact .inl ⟨q.1, q.2.2⟩
theorem back_eq {b x y : Int} (h : Bt b) (hx : Cd b x) (hy : Cd b y) :
    ((x + y) % pw b + (pw b - 1 - y) + 1) % pw b = x ∧ ((x + y) % pw b + (pw b - 1 - y) + 1) / pw b = (if y ≤ (x + y) % pw b then 1 else 0) := by
  have := h.pw
  have := hx.lo
  have := hx.hi
  have := hy.lo
  have := hy.hi
  rcases mod2 (W := pw b) (s := x + y) (by omega) (by omega) with q | q
  · rw [q.2.1]
    rcases mod2 (W := pw b) (s := x + y + (pw b - 1 - y) + 1) (by omega) (by omega) with q2 | q2
    · omega
    · rw [q2.2.1, q2.2.2]
      split <;> omega
  · rw [q.2.1]
    rcases mod2 (W := pw b) (s := x + y - pw b + (pw b - 1 - y) + 1) (by omega) (by omega) with q2 | q2
    · rw [q2.2.1, q2.2.2]
      split <;> omega
    · omega
def sg (W n : Int) : Int := if W ≤ 2 * n then 1 else 0
theorem over_eq {b x y : Int} (h : Bt b) (hx : Cd b x) (hy : Cd b y) :
    (if mn b x + mn b y = mn b ((x + y) % pw b) then (0 : Int) else 1) = (if (sg (pw b) x = sg (pw b) y ∧ ¬ sg (pw b) ((x + y) % pw b) = sg (pw b) x) then 1 else 0) := by
  have e : ∀ m n, (sg (pw b) m = sg (pw b) n) ↔ (pw b ≤ 2 * m ↔ pw b ≤ 2 * n) := fun m n => by
    unfold sg
    (repeat' split) <;> omega
  have e1 := e x y
  have e2 := e ((x + y) % pw b) x
  clear e
  have := h.pw
  have := hx.lo
  have := hx.hi
  have := hy.lo
  have := hy.hi
  have a1 := mn_cases b x
  have a2 := mn_cases b y
  have a3 := mn_cases b ((x + y) % pw b)
  have a4 := mod2 (W := pw b) (s := x + y) (by omega) (by omega)
  generalize mn b x = mx at *
  generalize mn b y = my at *
  generalize mn b ((x + y) % pw b) = mc at *
  generalize (x + y) % pw b = c at *
  generalize (x + y) / pw b = cc at *
  generalize pw b = W at *
  generalize pw (b - 1) = H at *
  generalize sg W x = sx at *
  generalize sg W y = sy at *
  generalize sg W c = sc at *
  by_cases k1 : mx + my = mc
  · rw [if_pos k1, if_neg]
    omega
  · rw [if_neg k1, if_pos]
    omega
theorem sign_eq {b c : Int} (h : Bt b) (hc : Cd b c) : c / pw (b - 1) = sg (pw b) c := by
  unfold sg
  have := h.pw
  rcases top_cases h hc with q | q
  · rw [q.2, if_pos (by omega)]
  · rw [q.2, if_neg (by omega)]
/-- the difference's marks -/
theorem less_eq {b x y : Int} (h : Bt b) (hx : Cd b x) (hy : Cd b y) :
    let d := (x + (pw b - 1 - y) + 1) % pw b
    ((¬ (if mn b x - mn b y = mn b d then (0 : Int) else 1) = d / pw (b - 1)) ↔ mn b x < mn b y) ∧ (x + (pw b - 1 - y) + 1) / pw b = (if x < y then 0 else 1) ∧ (d = 0 ↔ x = y) := by
  have := h.pw
  have := hx.lo
  have := hx.hi
  have := hy.lo
  have := hy.hi
  intro d
  have cd : Cd b d := Cd.mod h
  have hd : d = (x + (pw b - 1 - y) + 1) % pw b := rfl
  have a1 := mn_cases b x
  have a2 := mn_cases b y
  have a3 := mn_cases b d
  have a4 := mod2 (W := pw b) (s := x + (pw b - 1 - y) + 1) (by omega) (by omega)
  have a5 := top_cases h cd
  rw [← hd] at a4
  generalize d / pw (b - 1) = t at *
  generalize mn b x = mx at *
  generalize mn b y = my at *
  generalize mn b d = mc at *
  clear_value d
  generalize (x + (pw b - 1 - y) + 1) / pw b = cc at *
  refine ⟨?_, ?_, by omega⟩
  · by_cases k1 : mx - my = mc
    · rw [if_pos k1]; omega
    · rw [if_neg k1]; omega
  · split <;> omega
theorem again_eq {b x y : Int} (h : Bt b) (hx : Cd b x) (hy : Cd b y) :
    ((x + (pw b - 1 - y)) % pw b + 1 % pw b) % pw b = (x + (pw b - 1 - y) + 1) % pw b := by
  rw [← Int.add_emod]
theorem wide_eq {b m x y : Int} (h : Bt b) (hx : Cd b x) (hy : Cd b y) (hm : b + 1 ≤ m) (hm2 : m ≤ 32) :
    mn m ((mn b x % pw m + mn b y % pw m) % pw m) = mn b x + mn b y ∧ (mn b x % pw m + mn b y % pw m) % pw m % pw b = (x + y) % pw b := by
  have g : Bt m := ⟨by have := h.lo; omega, hm2⟩
  have hp := h.pw
  have hq := g.pw
  have r1 := mn_range h hx
  have r2 := mn_range h hy
  have hd : ∃ k, pw m = pw b * k ∧ 2 ≤ k := by
    refine ⟨pw (m - b), ?_, ?_⟩
    · unfold pw
      rw [← Int.pow_add]
      congr 1
      have := h.lo
      omega
    · have := pw_pred (i := m - b) (by omega)
      have := pw_pos (m - b - 1)
      omega
  obtain ⟨k, hk, hk2⟩ := hd
  have hge : 2 * pw b ≤ pw m := by
    rw [hk, Int.mul_comm]
    exact Int.mul_le_mul_of_nonneg_left hk2 (by omega)
  rw [← Int.add_emod]
  constructor
  · have a := mn_cases m ((mn b x + mn b y) % pw m)
    by_cases z : 0 ≤ mn b x + mn b y
    · rw [Int.emod_eq_of_lt z (by omega)] at a ⊢
      omega
    · have := dm (a := mn b x + mn b y) (b := pw m) (q := -1) (r := mn b x + mn b y + pw m) (by omega) (by omega) (by omega)
      rw [this.2] at a ⊢
      omega
  · rw [Int.emod_emod_of_dvd _ ⟨k, hk⟩]
    have e1 : ∃ i, mn b x = x - pw b * i := by
      rcases mn_cases b x with q | q
      · exact ⟨1, by omega⟩
      · exact ⟨0, by omega⟩
    have e2 : ∃ i, mn b y = y - pw b * i := by
      rcases mn_cases b y with q | q
      · exact ⟨1, by omega⟩
      · exact ⟨0, by omega⟩
    obtain ⟨i, e1⟩ := e1
    obtain ⟨j, e2⟩ := e2
    rw [e1, e2, show x - pw b * i + (y - pw b * j) = x + y + pw b * (-i - j) by grind, Int.add_mul_emod_self_left]
theorem prod_cof {b x y : Int} (h : Bt b) (hb : b ≤ 15) (hx : Cd b x) (hy : Cd b y) : ∃ i, cof (2 * b) (mn b x * fd (digL b.toNat y)) = .int i := by
  rw [fd_digits h hy]
  have r1 := mn_range h hx
  have r2 := mn_range h hy
  have lo := h.lo
  have hb2 := mul_bound (a := mn b x) (A := pw (b - 1)) (b := mn b y) (B := pw (b - 1)) (by omega) (by omega) (by omega) (by omega)
  have e : pw (2 * b - 1) = 2 * (pw (b - 1) * pw (b - 1)) := by
    rw [pw_pred (i := 2 * b - 1) (by omega)]
    congr 1
    unfold pw
    rw [← Int.pow_add]
    congr 1
    omega
  have hp : 0 < pw (b - 1) * pw (b - 1) := Int.mul_pos (pw_pos _) (pw_pos _)
  exact ⟨mn b x * mn b y % pw (2 * b), by unfold cof; rw [e, if_pos (by omega)]⟩
theorem lc_sign {o0 o1 o2 o4 o5 o6 o7 o8 o9 o10 o11 o12 o13 o14 o15 o16 o17 o18 o19 : Option S} {W a1 a2 a3 : Int} (m1 : mulC 2 a1 = true) (m2 : mulC 2 a2 = true) (m3 : mulC 2 a3 = true) : lcL [20] (bName 20) fYes (fOp oInt (fCons (fBin oGe (fBin oMul (fC (.int 2)) (fVar 20)) (fVar 3)) fNil)) [.int a1, .int a2, .int a3] [] [o0, o1, o2, some (.d (.int W)), o4, o5, o6, o7, o8, o9, o10, o11, o12, o13, o14, o15, o16, o17, o18, o19, none] = some (.val (.m (.lst [.int (sg W a1), .int (sg W a2), .int (sg W a3)])), [o0, o1, o2, some (.d (.int W)), o4, o5, o6, o7, o8, o9, o10, o11, o12, o13, o14, o15, o16, o17, o18, o19, none]) := by
  rw [lc_step (r := some (.int (sg W a1))) (e' := [o0, o1, o2, some (.d (.int W)), o4, o5, o6, o7, o8, o9, o10, o11, o12, o13, o14, o15, o16, o17, o18, o19, none]) (by simp -implicitDefEqProofs [lcOne, m1, sg]),
    lc_step (r := some (.int (sg W a2))) (e' := [o0, o1, o2, some (.d (.int W)), o4, o5, o6, o7, o8, o9, o10, o11, o12, o13, o14, o15, o16, o17, o18, o19, none]) (by simp -implicitDefEqProofs [lcOne, m2, sg]),
    lc_step (r := some (.int (sg W a3))) (e' := [o0, o1, o2, some (.d (.int W)), o4, o5, o6, o7, o8, o9, o10, o11, o12, o13, o14, o15, o16, o17, o18, o19, none]) (by simp -implicitDefEqProofs [lcOne, m3, sg])]
  rfl
end K44
end

section
set_option Elab.async false
set_option linter.all false
set_option maxRecDepth 100000
set_option maxHeartbeats 4000000
namespace K44
open PySem PySem.Spec PyProof.Rows L2 QL
theorem flagsA_comm {b x y c : Int} : flagsA b y x c = flagsA b x y c := by unfold flagsA; rw [Int.add_comm y x, Int.add_comm (mn b y)]
theorem law_true : ∀ ns : List Int, ns.length ≤ 63 → ∃ fin, fn_law [.lk (.lst (ns.map D.int))] = some (.d (.bl true), fin) := by
  intro ns _
  simp only [fn_law, mkFn, b_law, A_law]
  obtain ⟨z, hB, g0⟩ := f_begin (ns := ns)
  have hT := @f_take
  have hPw := @f_raise
  have hAd := @f_added
  have hTo := @f_taken_off
  have hMn := @f_meaning
  have hWi := @f_widened
  have hCo := @f_code_of
  have hBy := @f_by_digits
  have hTu := @f_turned_bits
  have hNu := @f_number_of
  have hBi := @f_bits_of
  have hCn := @f_counts
  have hP := @f_part1
  generalize fn__law_begin = F0 at *
  generalize fn__law_take = FT at *
  generalize fn__law_raise = F1 at *
  generalize fn_added = F2 at *
  generalize fn_taken_off = F3 at *
  generalize fn_meaning = F4 at *
  generalize fn_widened = F5 at *
  generalize fn_code_of = F6 at *
  generalize fn_by_digits = F7 at *
  generalize fn_turned_bits = F8 at *
  generalize fn_number_of = F9 at *
  generalize fn_bits_of = F10 at *
  generalize fn_counts = F11 at *
  generalize fn__law_part1 = F12 at *
  generalize M.st ns 0 0 z = st0 at *
  obtain ⟨r1, st1, T1, l1, u1, g1⟩ := hT (many := 10) g0 (by omega) (by omega)
  obtain ⟨r2, st2, T2, l2, u2, g2⟩ := hT (many := 5) g1 (by omega) (by omega)
  obtain ⟨r3, st3, T3, l3, u3, g3⟩ := hT (many := 900) g2 (by omega) (by omega)
  obtain ⟨r4, st4, T4, l4, u4, g4⟩ := hT (many := 900) g3 (by omega) (by omega)
  obtain ⟨r5, st5, T5, l5, u5, g5⟩ := hT (many := 900) g4 (by omega) (by omega)
  obtain ⟨r6, st6, T6, l6, u6, g6⟩ := hT (many := 900) g5 (by omega) (by omega)
  have m3 : mulC r3 4771819 = true := mulC_of (by omega) (by omega) (by omega) (by omega)
  have m5 : mulC r5 4771819 = true := mulC_of (by omega) (by omega) (by omega) (by omega)
  -- the width
  obtain ⟨b, hb, h⟩ : ∃ b, b = (if r2 = 0 then 32 else 1 + r1) ∧ Bt b := ⟨_, rfl, by split <;> constructor <;> omega⟩
  have lo := h.lo
  have hi := h.hi
  have hbn : (b.toNat : Int) = b := by omega
  have hp := h.pw
  have P1 := hPw (i := b) (by omega) (by omega)
  have hw0 : 0 < pw b := by omega
  obtain ⟨x, hxe, hx⟩ : ∃ x, (r3 * 4771819 + r4) % pw b = x ∧ Cd b x := ⟨_, rfl, Cd.mod h⟩
  obtain ⟨y, hye, hy⟩ : ∃ y, (r5 * 4771819 + r6) % pw b = y ∧ Cd b y := ⟨_, rfl, Cd.mod h⟩
  have A1 := hAd h hx hy
  have A2 := hAd h hy hx
  have O1 := over_eq h hx hy
  have B1 := back_eq h hx hy
  have hc : Cd b ((x + y) % pw b) := Cd.mod h
  have C1 := hTo h hc hy
  have S1 := sign_eq h hc
  have C2 := hTo h hx hy
  have L1 := less_eq h hx hy
  have M1 := hMn h hx
  have M2 := hMn h hy
  have hty : Cd b (pw b - 1 - y) := by
    have := hy.lo
    have := hy.hi
    exact ⟨by omega, by omega⟩
  have A3 := hAd h hx hty
  have htz : Cd b ((x + (pw b - 1 - y)) % pw b) := Cd.mod h
  have h1 : (1 : Int) % pw b = 1 := Int.emod_eq_of_lt (by omega) (by omega)
  have A4 := hAd h htz (y := 1) ⟨by omega, by omega⟩
  have G1 := again_eq h hx hy
  rw [h1] at G1
  rw [B1.1, flagsO, B1.2] at C1
  have U1 := hTu h hx
  have hrv := rv_range x b.toNat
  rw [hbn] at hrv
  have U2 := hTu h (c := rv b.toNat x) ⟨hrv.1, hrv.2⟩
  rw [rv_rv hx.lo (by rw [hbn]; exact hx.hi)] at U2
  have N1 := hBi (c := x) (m := b) (by omega) (by omega)
  have N2 := hNu (Dg_bits x b.toNat) (by simp; omega)
  rw [fd_bits, List.map_reverse] at N2
  generalize ((List.range b.toNat).map fun (k : Nat) => bt x k) = BL at N1 N2
  have K1 := hCn h hx
  rw [Int.add_comm y x, flagsA_comm] at A2
  unfold flagsA at A1 A2 A3 A4
  unfold flagsO at C2
  rw [O1, S1] at A1 A2
  have mlx : mulC 2 x = true := mulC_of (by omega) (by omega) (by have := hx.lo; omega) (by have := hx.hi; omega)
  have mly : mulC 2 y = true := mulC_of (by omega) (by omega) (by have := hy.lo; omega) (by have := hy.hi; omega)
  have mlc : mulC 2 ((x + y) % pw b) = true := mulC_of (by omega) (by omega) (by have := hc.lo; omega) (by have := hc.hi; omega)
  have z2 : 2 ≤ sizeLine := smallT (by decide)
  have z3 : 3 ≤ sizeLine := smallT (by decide)
  -- the marks of the difference
  obtain ⟨d, hd⟩ : ∃ d, d = (x + (pw b - 1 - y) + 1) % pw b := ⟨_, rfl⟩
  rw [← hd] at C2 L1 G1
  obtain ⟨L1, L2, L3⟩ := L1
  rw [L2] at C2
  generalize hf1 : (if mn b x - mn b y = mn b d then (0 : Int) else 1) = f1 at *
  generalize hf2 : d / pw (b - 1) = f2 at *
  have L1' : f1 = f2 ↔ ¬ mn b x < mn b y := by
    by_cases q : mn b x < mn b y
    · simp [q, L1.mpr q]
    · have := mt L1.mp q
      simp [q] at this ⊢
      exact this
  generalize hcx : (if x < y then (0 : Int) else 1) = cx at *
  have L2' : cx = 0 ↔ x < y := by rw [← hcx]; split <;> simp [*]
  generalize hc0 : (x + y) % pw b = c at *
  generalize hsx : sg (pw b) x = sx at *
  generalize hsy : sg (pw b) y = sy at *
  generalize hsc : sg (pw b) c = sc at *
  have last : ∀ st, GS st → _ := fun st g => hP h hx hy g
  have hno : ¬ (mn b y ≤ mn b x ↔ mn b x < mn b y) := by omega
  by_cases k1 : sx = sy <;> by_cases k2 : sc = sx
  all_goals by_cases hr2 : r2 = 0
  all_goals first
  | rw [if_pos hr2] at hb
    obtain ⟨st', last⟩ := last st6 g6
    refine ⟨[.lk (.lst (ns.map D.int))], ?_⟩
    simp -implicitDefEqProofs [hB, T1, T2, T3, T4, T5, T6, m3, m5, hr2, ← hb, P1, hw0, hxe, hye, A1, A2, C1, z2, z3, A3, A4, C2, lc_sign, mlx, mly, mlc, k1, k2, M1, M2, L1', L2', L3, G1, h1, U1, U2, N1, N2, K1, last, hsx, hsy, hsc, hno]
    done
  | rw [if_neg hr2] at hb
    have hb10 : b ≤ 15 := by omega
    have hb32 : b < 32 := by omega
    obtain ⟨r7, st7, T7, l7, u7, g7⟩ := hT (many := 32 - b) g6 (by omega) (by omega)
    obtain ⟨st', last⟩ := last st7 g7
    obtain ⟨m, hm⟩ : ∃ m, b + 1 + r7 = m := ⟨_, rfl⟩
    have gm : Bt m := ⟨by omega, by omega⟩
    have W1 := hWi h hx (m := m) (by omega) (by omega)
    have W2 := hWi h hy (m := m) (by omega) (by omega)
    have A5 := hAd gm (x := mn b x % pw m) (y := mn b y % pw m) (Cd.mod gm) (Cd.mod gm)
    have M3 := hMn gm (c := (mn b x % pw m + mn b y % pw m) % pw m) (Cd.mod gm)
    obtain ⟨E1, E2⟩ := wide_eq h hx hy (m := m) (by omega) (by omega)
    rw [E1] at M3
    rw [hc0] at E2
    generalize (mn b x % pw m + mn b y % pw m) % pw m = wd at *
    obtain ⟨nn, Y1⟩ := hBy h hx hy
    obtain ⟨i, hi2⟩ := prod_cof h hb10 hx hy
    have Y2 := hCo (b := 2 * b) (n := mn b x * fd (digL b.toNat y)) ⟨by omega, by omega⟩
    rw [hi2] at Y2
    generalize mn b x * fd (digL b.toNat y) = pr at *
    have m2b : mulC 2 b = true := mulC_of (by omega) (by omega) (by omega) (by omega)
    refine ⟨[.lk (.lst (ns.map D.int))], ?_⟩
    simp -implicitDefEqProofs [hB, T1, T2, T3, T4, T5, T6, m3, m5, hr2, ← hb, P1, hw0, hxe, hye, A1, A2, C1, z2, z3, A3, A4, C2, lc_sign, mlx, mly, mlc, k1, k2, M1, M2, L1', L2', L3, G1, h1, U1, U2, N1, N2, K1, last, hsx, hsy, hsc, hno, T7, hm, W1, W2, A5, M3, E2, Y1, Y2, m2b, hb10, hb32]
    done
end K44
end

section
set_option Elab.async false
set_option linter.all false
set_option maxRecDepth 100000
set_option maxHeartbeats 4000000
namespace K44
open PySem PySem.Spec PyProof.Rows L2 QL
def top (i : Nat) : Stmt := PySem.Challenge.pw_machinehall_k44_whole_figures_and_their.main.body.getD i (.Pass ⟨0, 0, 0, 0⟩)
/-- the built-ins and the constants that the defs name -/
structure Bl (mg : Str → Option Value) : Prop where
  z_abs : mg "abs" = none
  z_all : mg "all" = none
  z_enumerate : mg "enumerate" = none
  z_int : mg "int" = none
  z_len : mg "len" = none
  z_list : mg "list" = none
  z_max : mg "max" = none
  z_min : mg "min" = none
  z_range : mg "range" = none
  z_sum : mg "sum" = none
  z_tuple : mg "tuple" = none
  c_MOST_BITS : ∃ t, mg "MOST_BITS" = some (.int 32 t)
section
variable {P : Program} {w : World} {K : PySem.W.Frag} {mg : Str → Option Value} {base : Heap}
abbrev s_power_of : Stmt := top 4
theorem sc_power_of : FnScope ["number", "found", "_"] ["number"] (defScope s_power_of) := ⟨rfl, rfl, rfl, by decide +kernel, rfl, by decide +kernel, by decide +kernel⟩
theorem ok_power_of (Z : Bl mg) (d : Df K mg "power_of" s_power_of)  : Cal P w K mg base "power_of" 1 1 fn_power_of :=
  cal_ok (A := A_power_of) (body := b_power_of) d sc_power_of (fun f cdv Ar outer s H E hr => have nd := sc_power_of.nd;
  (qs_cons (qs_set (i := 1) nd qx_int)
  (qs_cons (qs_for PassesOwn.never rfl (qi_rng1 (by rfl) Z.z_range (qa_cons (qx_var 0) qa_nil)) (qg_name (i := 2) nd)
  (qs_one (qs_aug (i := 1) qg_mul nd qx_int)))
  (qs_one (qs_ret (qx_var 1)))))) (fun _ _ _ _ _ _ us hl => match us, hl with | [_], _ => rfl)
abbrev s_check : Stmt := top 5
theorem sc_check : FnScope ["bits"] ["bits"] (defScope s_check) := ⟨rfl, rfl, rfl, by decide +kernel, rfl, by decide +kernel, by decide +kernel⟩
theorem ok_check (Z : Bl mg) (d : Df K mg "check" s_check)  : Cal P w K mg base "check" 1 1 fn_check :=
  cal_ok (A := A_check) (body := b_check) d sc_check (fun f cdv Ar outer s H E hr => have nd := sc_check.nd;
  (qs_one (qs_if (qt_not (qt_chain qc_le qc_le qx_int (qx_var 0) (qx_globC Z.c_MOST_BITS (by rfl))))
  (qs_one qs_never)
  qs_nil))) (fun _ _ _ _ _ _ us hl => match us, hl with | [_], _ => rfl)
abbrev s_check_code : Stmt := top 6
theorem sc_check_code : FnScope ["bits", "code"] ["bits", "code"] (defScope s_check_code) := ⟨rfl, rfl, rfl, by decide +kernel, rfl, by decide +kernel, by decide +kernel⟩
theorem ok_check_code (Z : Bl mg) (d : Df K mg "check_code" s_check_code) (C_check : Cal P w K mg base "check" 1 1 fn_check) (C_power_of : Cal P w K mg base "power_of" 1 1 fn_power_of) : Cal P w K mg base "check_code" 2 2 fn_check_code :=
  cal_ok (A := A_check_code) (body := b_check_code) d sc_check_code (fun f cdv Ar outer s H E hr => have nd := sc_check_code.nd;
  (qs_cons (qs_expr (qx_cal C_check hr (by rfl) (qa_cons (qx_var 0) qa_nil)))
  (qs_one (qs_if (qt_not (qt_chain qc_le qc_lt qx_int (qx_var 1) (qx_cal C_power_of hr (by rfl) (qa_cons (qx_var 0) qa_nil))))
  (qs_one qs_never)
  qs_nil)))) (fun _ _ _ _ _ _ us hl => match us, hl with | [_, _], _ => rfl)
abbrev s_meaning : Stmt := top 7
theorem sc_meaning : FnScope ["bits", "code"] ["bits", "code"] (defScope s_meaning) := ⟨rfl, rfl, rfl, by decide +kernel, rfl, by decide +kernel, by decide +kernel⟩
theorem ok_meaning (Z : Bl mg) (d : Df K mg "meaning" s_meaning) (C_check_code : Cal P w K mg base "check_code" 2 2 fn_check_code) (C_power_of : Cal P w K mg base "power_of" 2 1 fn_power_of) : Cal P w K mg base "meaning" 3 2 fn_meaning :=
  cal_ok (A := A_meaning) (body := b_meaning) d sc_meaning (fun f cdv Ar outer s H E hr => have nd := sc_meaning.nd;
  (qs_cons (qs_expr (qx_cal C_check_code hr (by rfl) (qa_cons (qx_var 0) (qa_cons (qx_var 1) qa_nil))))
  (qs_one (qs_ret (qx_if (qt_cmp qc_ge (qx_var 1) (qx_cal C_power_of hr (by rfl) (qa_cons (qo_sub (qx_var 0) qx_int) qa_nil)) (nomark _)) (qo_sub (qx_var 1) (qx_cal C_power_of hr (by rfl) (qa_cons (qx_var 0) qa_nil))) (qx_var 1)))))) (fun _ _ _ _ _ _ us hl => match us, hl with | [_, _], _ => rfl)
abbrev s_code_of : Stmt := top 8
theorem sc_code_of : FnScope ["bits", "number"] ["bits", "number"] (defScope s_code_of) := ⟨rfl, rfl, rfl, by decide +kernel, rfl, by decide +kernel, by decide +kernel⟩
theorem ok_code_of (Z : Bl mg) (d : Df K mg "code_of" s_code_of) (C_check : Cal P w K mg base "check" 1 1 fn_check) (C_power_of : Cal P w K mg base "power_of" 1 1 fn_power_of) : Cal P w K mg base "code_of" 2 2 fn_code_of :=
  cal_ok (A := A_code_of) (body := b_code_of) d sc_code_of (fun f cdv Ar outer s H E hr => have nd := sc_code_of.nd;
  (qs_cons (qs_expr (qx_cal C_check hr (by rfl) (qa_cons (qx_var 0) qa_nil)))
  (qs_cons (qs_if (qt_not (qt_chain qc_le qc_lt (qo_sub qx_int (qx_cal C_power_of hr (by rfl) (qa_cons (qo_sub (qx_var 0) qx_int) qa_nil))) (qx_var 1) (qx_cal C_power_of hr (by rfl) (qa_cons (qo_sub (qx_var 0) qx_int) qa_nil))))
  (qs_one (qs_ret qx_non))
  qs_nil)
  (qs_one (qs_ret (qo_mod (qx_var 1) (qx_cal C_power_of hr (by rfl) (qa_cons (qx_var 0) qa_nil)))))))) (fun _ _ _ _ _ _ us hl => match us, hl with | [_, _], _ => rfl)
abbrev s_widened : Stmt := top 9
theorem sc_widened : FnScope ["bits", "code", "more"] ["bits", "code", "more"] (defScope s_widened) := ⟨rfl, rfl, rfl, by decide +kernel, rfl, by decide +kernel, by decide +kernel⟩
theorem ok_widened (Z : Bl mg) (d : Df K mg "widened" s_widened) (C_check_code : Cal P w K mg base "check_code" 3 2 fn_check_code) (C_meaning : Cal P w K mg base "meaning" 3 2 fn_meaning) (C_power_of : Cal P w K mg base "power_of" 3 1 fn_power_of) : Cal P w K mg base "widened" 4 3 fn_widened :=
  cal_ok (A := A_widened) (body := b_widened) d sc_widened (fun f cdv Ar outer s H E hr => have nd := sc_widened.nd;
  (qs_cons (qs_expr (qx_cal C_check_code hr (by rfl) (qa_cons (qx_var 0) (qa_cons (qx_var 1) qa_nil))))
  (qs_cons (qs_if (qt_not (qt_chain qc_le qc_le (qx_var 0) (qx_var 2) (qx_globC Z.c_MOST_BITS (by rfl))))
  (qs_one qs_never)
  qs_nil)
  (qs_one (qs_ret (qo_mod (qx_cal C_meaning hr (by rfl) (qa_cons (qx_var 0) (qa_cons (qx_var 1) qa_nil))) (qx_cal C_power_of hr (by rfl) (qa_cons (qx_var 2) qa_nil)))))))) (fun _ _ _ _ _ _ us hl => match us, hl with | [_, _, _], _ => rfl)
abbrev s_added : Stmt := top 10
theorem sc_added : FnScope ["bits", "one", "other", "whole", "code", "exact", "beyond"] ["bits", "one", "other"] (defScope s_added) := ⟨rfl, rfl, rfl, by decide +kernel, rfl, by decide +kernel, by decide +kernel⟩
theorem ok_added (Z : Bl mg) (d : Df K mg "added" s_added) (C_check_code : Cal P w K mg base "check_code" 3 2 fn_check_code) (C_power_of : Cal P w K mg base "power_of" 3 1 fn_power_of) (C_meaning : Cal P w K mg base "meaning" 3 2 fn_meaning) : Cal P w K mg base "added" 4 3 fn_added :=
  cal_ok (A := A_added) (body := b_added) d sc_added (fun f cdv Ar outer s H E hr => have nd := sc_added.nd;
  (qs_cons (qs_expr (qx_cal C_check_code hr (by rfl) (qa_cons (qx_var 0) (qa_cons (qx_var 1) qa_nil))))
  (qs_cons (qs_expr (qx_cal C_check_code hr (by rfl) (qa_cons (qx_var 0) (qa_cons (qx_var 2) qa_nil))))
  (qs_cons (qs_set (i := 3) nd (qo_add (qx_var 1) (qx_var 2)))
  (qs_cons (qs_set (i := 4) nd (qo_mod (qx_var 3) (qx_cal C_power_of hr (by rfl) (qa_cons (qx_var 0) qa_nil))))
  (qs_cons (qs_set (i := 5) nd (qo_add (qx_cal C_meaning hr (by rfl) (qa_cons (qx_var 0) (qa_cons (qx_var 1) qa_nil))) (qx_cal C_meaning hr (by rfl) (qa_cons (qx_var 0) (qa_cons (qx_var 2) qa_nil)))))
  (qs_cons (qs_set (i := 6) nd (qx_callTy (ct_int) (by rfl) Z.z_int (by decide +kernel) (qa_cons (qo_cmp (qc_ne hr.units) (qx_var 5) (qx_cal C_meaning hr (by rfl) (qa_cons (qx_var 0) (qa_cons (qx_var 4) qa_nil))) (nomark _)) qa_nil)))
  (qs_one (qs_ret (qx_tup (qa_cons (qx_var 4) (qa_cons (qx_tup (qa_cons (qo_div (qx_var 3) (qx_cal C_power_of hr (by rfl) (qa_cons (qx_var 0) qa_nil))) (qa_cons (qx_var 6) (qa_cons (qo_div (qx_var 4) (qx_cal C_power_of hr (by rfl) (qa_cons (qo_sub (qx_var 0) qx_int) qa_nil))) (qa_cons (qx_callTy (ct_int) (by rfl) Z.z_int (by decide +kernel) (qa_cons (qo_cmp (qc_eq hr.units) (qx_var 4) qx_int (nomark _)) qa_nil)) qa_nil))))) qa_nil)))))))))))) (fun _ _ _ _ _ _ us hl => match us, hl with | [_, _, _], _ => rfl)
abbrev s_taken_off : Stmt := top 11
theorem sc_taken_off : FnScope ["bits", "one", "other", "whole", "code", "exact", "beyond"] ["bits", "one", "other"] (defScope s_taken_off) := ⟨rfl, rfl, rfl, by decide +kernel, rfl, by decide +kernel, by decide +kernel⟩
theorem ok_taken_off (Z : Bl mg) (d : Df K mg "taken_off" s_taken_off) (C_check_code : Cal P w K mg base "check_code" 3 2 fn_check_code) (C_power_of : Cal P w K mg base "power_of" 3 1 fn_power_of) (C_meaning : Cal P w K mg base "meaning" 3 2 fn_meaning) : Cal P w K mg base "taken_off" 4 3 fn_taken_off :=
  cal_ok (A := A_taken_off) (body := b_taken_off) d sc_taken_off (fun f cdv Ar outer s H E hr => have nd := sc_taken_off.nd;
  (qs_cons (qs_expr (qx_cal C_check_code hr (by rfl) (qa_cons (qx_var 0) (qa_cons (qx_var 1) qa_nil))))
  (qs_cons (qs_expr (qx_cal C_check_code hr (by rfl) (qa_cons (qx_var 0) (qa_cons (qx_var 2) qa_nil))))
  (qs_cons (qs_set (i := 3) nd (qo_add (qo_add (qx_var 1) (qo_sub (qo_sub (qx_cal C_power_of hr (by rfl) (qa_cons (qx_var 0) qa_nil)) qx_int) (qx_var 2))) qx_int))
  (qs_cons (qs_set (i := 4) nd (qo_mod (qx_var 3) (qx_cal C_power_of hr (by rfl) (qa_cons (qx_var 0) qa_nil))))
  (qs_cons (qs_set (i := 5) nd (qo_sub (qx_cal C_meaning hr (by rfl) (qa_cons (qx_var 0) (qa_cons (qx_var 1) qa_nil))) (qx_cal C_meaning hr (by rfl) (qa_cons (qx_var 0) (qa_cons (qx_var 2) qa_nil)))))
  (qs_cons (qs_set (i := 6) nd (qx_callTy (ct_int) (by rfl) Z.z_int (by decide +kernel) (qa_cons (qo_cmp (qc_ne hr.units) (qx_var 5) (qx_cal C_meaning hr (by rfl) (qa_cons (qx_var 0) (qa_cons (qx_var 4) qa_nil))) (nomark _)) qa_nil)))
  (qs_one (qs_ret (qx_tup (qa_cons (qx_var 4) (qa_cons (qx_tup (qa_cons (qo_div (qx_var 3) (qx_cal C_power_of hr (by rfl) (qa_cons (qx_var 0) qa_nil))) (qa_cons (qx_var 6) (qa_cons (qo_div (qx_var 4) (qx_cal C_power_of hr (by rfl) (qa_cons (qo_sub (qx_var 0) qx_int) qa_nil))) (qa_cons (qx_callTy (ct_int) (by rfl) Z.z_int (by decide +kernel) (qa_cons (qo_cmp (qc_eq hr.units) (qx_var 4) qx_int (nomark _)) qa_nil)) qa_nil))))) qa_nil)))))))))))) (fun _ _ _ _ _ _ us hl => match us, hl with | [_, _, _], _ => rfl)
abbrev s_digits : Stmt := top 12
theorem sc_digits : FnScope ["bits", "code", "found", "before", "k", "now"] ["bits", "code"] (defScope s_digits) := ⟨rfl, rfl, rfl, by decide +kernel, rfl, by decide +kernel, by decide +kernel⟩
theorem ok_digits (Z : Bl mg) (d : Df K mg "digits" s_digits) (C_check_code : Cal P w K mg base "check_code" 2 2 fn_check_code) (C_power_of : Cal P w K mg base "power_of" 2 1 fn_power_of) : Cal P w K mg base "digits" 3 2 fn_digits :=
  cal_ok (A := A_digits) (body := b_digits) d sc_digits (fun f cdv Ar outer s H E hr => have nd := sc_digits.nd;
  (qs_cons (qs_expr (qx_cal C_check_code hr (by rfl) (qa_cons (qx_var 0) (qa_cons (qx_var 1) qa_nil))))
  (qs_cons (qs_set (i := 2) nd (qx_lst qa_nil))
  (qs_cons (qs_set (i := 3) nd qx_int)
  (qs_cons (qs_for PassesOwn.never rfl (qi_rng1 (by rfl) Z.z_range (qa_cons (qx_var 0) qa_nil)) (qg_name (i := 4) nd)
  (qs_cons (qs_set (i := 5) nd (qo_mod (qo_div (qx_var 1) (qx_cal C_power_of hr (by rfl) (qa_cons (qx_var 4) qa_nil))) qx_int))
  (qs_cons (qs_expr (qx_mt (i := 2) cm_append PySem.F.plainAttrs_list PySem.F.slot_list_append PySem.F.type_list_append (qa_cons (qo_sub (qx_var 3) (qx_var 5)) qa_nil)))
  (qs_one (qs_set (i := 3) nd (qx_var 5))))))
  (qs_one (qs_ret (qx_callTy (ct_tuple) (by rfl) Z.z_tuple (by decide +kernel) (qa_cons (qx_var 2) qa_nil))))))))) (fun _ _ _ _ _ _ us hl => match us, hl with | [_, _], _ => rfl)
abbrev s_sparse : Stmt := top 13
theorem sc_sparse : FnScope ["bits", "code", "number", "found", "digit"] ["bits", "code"] (defScope s_sparse) := ⟨rfl, rfl, rfl, by decide +kernel, rfl, by decide +kernel, by decide +kernel⟩
theorem ok_sparse (Z : Bl mg) (d : Df K mg "sparse" s_sparse) (C_meaning : Cal P w K mg base "meaning" 3 2 fn_meaning) : Cal P w K mg base "sparse" 4 2 fn_sparse :=
  cal_ok (A := A_sparse) (body := b_sparse) d sc_sparse (fun f cdv Ar outer s H E hr => have nd := sc_sparse.nd;
  (qs_cons (qs_set (i := 2) nd (qx_cal C_meaning hr (by rfl) (qa_cons (qx_var 0) (qa_cons (qx_var 1) qa_nil))))
  (qs_cons (qs_set (i := 3) nd (qx_lst qa_nil))
  (qs_cons (qs_while fuel0 PassesOwn.never (qt_cmp (qc_ne hr.units) (qx_var 2) qx_int (nomark _))
  (qs_cons (qs_set (i := 4) nd qx_int)
  (qs_cons (qs_if (qt_cmp (qc_eq hr.units) (qo_mod (qx_var 2) qx_int) qx_int (nomark _))
  (qs_one (qs_set (i := 4) nd (qx_if (qt_cmp (qc_eq hr.units) (qo_mod (qx_var 2) qx_int) qx_int (nomark _)) qx_int (qo_neg qx_int))))
  qs_nil)
  (qs_cons (qs_expr (qx_mt (i := 3) cm_append PySem.F.plainAttrs_list PySem.F.slot_list_append PySem.F.type_list_append (qa_cons (qx_var 4) qa_nil)))
  (qs_one (qs_set (i := 2) nd (qo_div (qo_sub (qx_var 2) (qx_var 4)) qx_int)))))))
  (qs_one (qs_ret (qx_callTy (ct_tuple) (by rfl) Z.z_tuple (by decide +kernel) (qa_cons (qx_var 3) qa_nil)))))))) (fun _ _ _ _ _ _ us hl => match us, hl with | [_, _], _ => rfl)
abbrev s_from_digits : Stmt := top 14
theorem sc_from_digits : FnScope ["row", "found", "digit"] ["row"] (defScope s_from_digits) := ⟨rfl, rfl, rfl, by decide +kernel, rfl, by decide +kernel, by decide +kernel⟩
theorem ok_from_digits (Z : Bl mg) (d : Df K mg "from_digits" s_from_digits)  : Cal P w K mg base "from_digits" 1 1 fn_from_digits :=
  cal_ok (A := A_from_digits) (body := b_from_digits) d sc_from_digits (fun f cdv Ar outer s H E hr => have nd := sc_from_digits.nd;
  (qs_cons (qs_if (qt_not (qt_tru (qx_callB (cb_all rfl) (by rfl) Z.z_all (by decide +kernel) (qa_cons (qx_lc (by decide) rfl nd (qi_seq (qx_var 0)) (blkOk_by (own := [("digit", 2)]) (by rfl)) (fun _ _ _ _ _ => (qg_name (i := 2) nd)) (fun _ _ _ _ _ => qts_nil) (fun _ _ _ _ _ => (qo_cmp qc_in (qx_var 2) (qx_tup (qa_cons (qo_neg qx_int) (qa_cons qx_int (qa_cons qx_int qa_nil)))) (by rfl)))) qa_nil))))
  (qs_one qs_never)
  qs_nil)
  (qs_cons (qs_set (i := 1) nd qx_int)
  (qs_cons (qs_for PassesOwn.never rfl (qi_seq (qx_rev (qx_var 0))) (qg_name (i := 2) nd)
  (qs_one (qs_set (i := 1) nd (qo_add (qo_mul qx_int (qx_var 1)) (qx_var 2)))))
  (qs_one (qs_ret (qx_var 1))))))) (fun _ _ _ _ _ _ us hl => match us, hl with | [_], _ => rfl)
abbrev s_by_digits : Stmt := top 15
theorem sc_by_digits : FnScope ["bits", "one", "other", "told", "number", "found", "k", "digit"] ["bits", "one", "other"] (defScope s_by_digits) := ⟨rfl, rfl, rfl, by decide +kernel, rfl, by decide +kernel, by decide +kernel⟩
theorem ok_by_digits (Z : Bl mg) (d : Df K mg "by_digits" s_by_digits) (C_check_code : Cal P w K mg base "check_code" 3 2 fn_check_code) (C_digits : Cal P w K mg base "digits" 3 2 fn_digits) (C_meaning : Cal P w K mg base "meaning" 3 2 fn_meaning) (C_power_of : Cal P w K mg base "power_of" 3 1 fn_power_of) : Cal P w K mg base "by_digits" 4 3 fn_by_digits :=
  cal_ok (A := A_by_digits) (body := b_by_digits) d sc_by_digits (fun f cdv Ar outer s H E hr => have nd := sc_by_digits.nd;
  (qs_cons (qs_expr (qx_cal C_check_code hr (by rfl) (qa_cons (qx_var 0) (qa_cons (qx_var 1) qa_nil))))
  (qs_cons (qs_set (i := 3) nd (qx_cal C_digits hr (by rfl) (qa_cons (qx_var 0) (qa_cons (qx_var 2) qa_nil))))
  (qs_cons (qs_set (i := 4) nd (qx_cal C_meaning hr (by rfl) (qa_cons (qx_var 0) (qa_cons (qx_var 1) qa_nil))))
  (qs_cons (qs_set (i := 5) nd qx_int)
  (qs_cons (qs_for PassesOwn.never rfl (qi_enum (by rfl) Z.z_enumerate (qa_cons (qx_var 3) qa_nil)) (qg_tup rfl (qg_cons (qg_name (i := 6) nd) (qg_cons (qg_name (i := 7) nd) qg_nil)))
  (qs_one (qs_aug (i := 5) qg_add nd (qo_mul (qo_mul (qx_var 7) (qx_var 4)) (qx_cal C_power_of hr (by rfl) (qa_cons (qx_var 6) qa_nil))))))
  (qs_one (qs_ret (qx_tup (qa_cons (qx_var 5) (qa_cons (qx_callB (cb_len) (by rfl) Z.z_len PySem.boot_len (qa_cons (qx_lc (by decide) rfl nd (qi_seq (qx_var 3)) (blkOk_by (own := [("digit", 7)]) (by rfl)) (fun _ _ _ _ _ => (qg_name (i := 7) nd)) (fun _ _ _ _ _ => (qts_one (qt_cmp (qc_ne hr.units) (qx_var 7) qx_int (nomark _)))) (fun _ _ _ _ _ => (qx_var 7))) qa_nil)) qa_nil))))))))))) (fun _ _ _ _ _ _ us hl => match us, hl with | [_, _, _], _ => rfl)
abbrev s_divided : Stmt := top 16
theorem sc_divided : FnScope ["bits", "one", "other", "rest", "quotient", "rows", "k"] ["bits", "one", "other"] (defScope s_divided) := ⟨rfl, rfl, rfl, by decide +kernel, rfl, by decide +kernel, by decide +kernel⟩
theorem ok_divided (Z : Bl mg) (d : Df K mg "divided" s_divided) (C_check_code : Cal P w K mg base "check_code" 2 2 fn_check_code) (C_power_of : Cal P w K mg base "power_of" 2 1 fn_power_of) : Cal P w K mg base "divided" 3 3 fn_divided :=
  cal_ok (A := A_divided) (body := b_divided) d sc_divided (fun f cdv Ar outer s H E hr => have nd := sc_divided.nd;
  (qs_cons (qs_expr (qx_cal C_check_code hr (by rfl) (qa_cons (qx_var 0) (qa_cons (qx_var 1) qa_nil))))
  (qs_cons (qs_expr (qx_cal C_check_code hr (by rfl) (qa_cons (qx_var 0) (qa_cons (qx_var 2) qa_nil))))
  (qs_cons (qs_if (qt_cmp (qc_eq hr.units) (qx_var 2) qx_int (nomark _))
  (qs_one qs_never)
  qs_nil)
  (qs_cons (qs_set (i := 3) nd qx_int)
  (qs_cons (qs_set (i := 4) nd qx_int)
  (qs_cons (qs_set (i := 5) nd (qx_lst qa_nil))
  (qs_cons (qs_for PassesOwn.never rfl (qi_dwn (by rfl) Z.z_range (qa_cons (qo_sub (qx_var 0) qx_int) (qa_cons (qo_neg qx_int) (qa_cons (qo_neg qx_int) qa_nil)))) (qg_name (i := 6) nd)
  (qs_cons (qs_set (i := 3) nd (qo_add (qo_mul qx_int (qx_var 3)) (qo_mod (qo_div (qx_var 1) (qx_cal C_power_of hr (by rfl) (qa_cons (qx_var 6) qa_nil))) qx_int)))
  (qs_cons (qs_aug (i := 4) qg_mul nd qx_int)
  (qs_cons (qs_if (qt_cmp qc_ge (qx_var 3) (qx_var 2) (nomark _))
  (qs_cons (qs_aug (i := 3) qg_sub nd (qx_var 2))
  (qs_one (qs_aug (i := 4) qg_add nd qx_int)))
  qs_nil)
  (qs_one (qs_expr (qx_mt (i := 5) cm_append PySem.F.plainAttrs_list PySem.F.slot_list_append PySem.F.type_list_append (qa_cons (qx_var 3) qa_nil))))))))
  (qs_one (qs_ret (qx_tup (qa_cons (qx_var 4) (qa_cons (qx_var 3) (qa_cons (qx_callTy (ct_tuple) (by rfl) Z.z_tuple (by decide +kernel) (qa_cons (qx_var 5) qa_nil)) qa_nil)))))))))))))) (fun _ _ _ _ _ _ us hl => match us, hl with | [_, _, _], _ => rfl)
abbrev s_divided_both : Stmt := top 17
theorem sc_divided_both : FnScope ["bits", "one", "other", "rest", "row", "k", "quotient", "digit"] ["bits", "one", "other"] (defScope s_divided_both) := ⟨rfl, rfl, rfl, by decide +kernel, rfl, by decide +kernel, by decide +kernel⟩
theorem ok_divided_both (Z : Bl mg) (d : Df K mg "divided_both" s_divided_both) (C_check_code : Cal P w K mg base "check_code" 2 2 fn_check_code) (C_power_of : Cal P w K mg base "power_of" 2 1 fn_power_of) (C_from_digits : Cal P w K mg base "from_digits" 2 1 fn_from_digits) : Cal P w K mg base "divided_both" 3 3 fn_divided_both :=
  cal_ok (A := A_divided_both) (body := b_divided_both) d sc_divided_both (fun f cdv Ar outer s H E hr => have nd := sc_divided_both.nd;
  (qs_cons (qs_expr (qx_cal C_check_code hr (by rfl) (qa_cons (qx_var 0) (qa_cons (qx_var 1) qa_nil))))
  (qs_cons (qs_expr (qx_cal C_check_code hr (by rfl) (qa_cons (qx_var 0) (qa_cons (qx_var 2) qa_nil))))
  (qs_cons (qs_if (qt_cmp (qc_eq hr.units) (qx_var 2) qx_int (nomark _))
  (qs_one qs_never)
  qs_nil)
  (qs_cons (qs_set (i := 3) nd qx_int)
  (qs_cons (qs_set (i := 4) nd (qx_lst qa_nil))
  (qs_cons (qs_for PassesOwn.never rfl (qi_dwn (by rfl) Z.z_range (qa_cons (qo_sub (qx_var 0) qx_int) (qa_cons (qo_neg qx_int) (qa_cons (qo_neg qx_int) qa_nil)))) (qg_name (i := 5) nd)
  (qs_cons (qs_set (i := 7) nd (qx_if (qt_cmp qc_ge (qx_var 3) qx_int (nomark _)) qx_int (qo_neg qx_int)))
  (qs_cons (qs_set (i := 3) nd (qo_sub (qo_add (qo_mul qx_int (qx_var 3)) (qo_mod (qo_div (qx_var 1) (qx_cal C_power_of hr (by rfl) (qa_cons (qx_var 5) qa_nil))) qx_int)) (qo_mul (qx_var 7) (qx_var 2))))
  (qs_one (qs_expr (qx_mt (i := 4) cm_append PySem.F.plainAttrs_list PySem.F.slot_list_append PySem.F.type_list_append (qa_cons (qx_var 7) qa_nil)))))))
  (qs_cons (qs_set (i := 6) nd (qx_cal C_from_digits hr (by rfl) (qa_cons (qx_callTy (ct_tuple) (by rfl) Z.z_tuple (by decide +kernel) (qa_cons (qx_rev (qx_var 4)) qa_nil)) qa_nil)))
  (qs_cons (qs_if (qt_cmp qc_lt (qx_var 3) qx_int (nomark _))
  (qs_one (qs_ret (qx_tup (qa_cons (qo_sub (qx_var 6) qx_int) (qa_cons (qo_add (qx_var 3) (qx_var 2)) (qa_cons (qx_callTy (ct_tuple) (by rfl) Z.z_tuple (by decide +kernel) (qa_cons (qx_var 4) qa_nil)) qa_nil))))))
  qs_nil)
  (qs_one (qs_ret (qx_tup (qa_cons (qx_var 6) (qa_cons (qx_var 3) (qa_cons (qx_callTy (ct_tuple) (by rfl) Z.z_tuple (by decide +kernel) (qa_cons (qx_var 4) qa_nil)) qa_nil))))))))))))))) (fun _ _ _ _ _ _ us hl => match us, hl with | [_, _, _], _ => rfl)
abbrev s_saved : Stmt := top 18
theorem sc_saved : FnScope ["rows", "one", "two", "three", "carries"] ["rows"] (defScope s_saved) := ⟨rfl, rfl, rfl, by decide +kernel, rfl, by decide +kernel, by decide +kernel⟩
theorem ok_saved (Z : Bl mg) (d : Df K mg "saved" s_saved)  : Cal P w K mg base "saved" 1 1 fn_saved :=
  cal_ok (A := A_saved) (body := b_saved) d sc_saved (fun f cdv Ar outer s H E hr => have nd := sc_saved.nd;
  (qs_cons (qs_if (qt_bool (qw_or (qt_cmp (qc_ne hr.units) (qx_callB (cb_len) (by rfl) Z.z_len PySem.boot_len (qa_cons (qx_var 0) qa_nil)) qx_int (nomark _)) (qw_or1 (qt_cmp qc_lt (qx_callB (cb_min rfl) (by rfl) Z.z_min (by decide +kernel) (qa_cons (qx_var 0) qa_nil)) qx_int (nomark _)))))
  (qs_one qs_never)
  qs_nil)
  (qs_cons (qs_pat (qg_tup rfl (qg_cons (qg_name (i := 1) nd) (qg_cons (qg_name (i := 2) nd) (qg_cons (qg_name (i := 3) nd) qg_nil)))) (qx_var 0))
  (qs_cons (qs_set (i := 4) nd (qo_or (qo_or (qo_and (qx_var 1) (qx_var 2)) (qo_and (qx_var 1) (qx_var 3))) (qo_and (qx_var 2) (qx_var 3))))
  (qs_one (qs_ret (qx_tup (qa_cons (qo_xor (qo_xor (qx_var 1) (qx_var 2)) (qx_var 3)) (qa_cons (qo_mul qx_int (qx_var 4)) qa_nil))))))))) (fun _ _ _ _ _ _ us hl => match us, hl with | [_], _ => rfl)
abbrev s_summed : Stmt := top 19
theorem sc_summed : FnScope ["rows", "left", "steps", "following", "row"] ["rows"] (defScope s_summed) := ⟨rfl, rfl, rfl, by decide +kernel, rfl, by decide +kernel, by decide +kernel⟩
theorem ok_summed (Z : Bl mg) (d : Df K mg "summed" s_summed) (C_saved : Cal P w K mg base "saved" 1 1 fn_saved) : Cal P w K mg base "summed" 2 1 fn_summed :=
  cal_ok (A := A_summed) (body := b_summed) d sc_summed (fun f cdv Ar outer s H E hr => have nd := sc_summed.nd;
  (qs_cons (qs_if (qt_not (qt_tru (qx_callB (cb_all rfl) (by rfl) Z.z_all (by decide +kernel) (qa_cons (qx_lc (by decide) rfl nd (qi_seq (qx_var 0)) (blkOk_by (own := [("row", 4)]) (by rfl)) (fun _ _ _ _ _ => (qg_name (i := 4) nd)) (fun _ _ _ _ _ => qts_nil) (fun _ _ _ _ _ => (qo_cmp qc_ge (qx_var 4) qx_int (nomark _)))) qa_nil))))
  (qs_one qs_never)
  qs_nil)
  (qs_cons (qs_set (i := 1) nd (qx_callTy (ct_list) (by rfl) Z.z_list (by decide +kernel) (qa_cons (qx_var 0) qa_nil)))
  (qs_cons (qs_set (i := 2) nd qx_int)
  (qs_cons (qs_while fuel0 PassesOwn.never (qt_cmp qc_gt (qx_callB (cb_len) (by rfl) Z.z_len PySem.boot_len (qa_cons (qx_var 1) qa_nil)) qx_int (nomark _))
  (qs_cons (qs_set (i := 3) nd (qx_lst qa_nil))
  (qs_cons (qs_while fuel0 PassesOwn.never (qt_cmp qc_gt (qx_callB (cb_len) (by rfl) Z.z_len PySem.boot_len (qa_cons (qx_var 1) qa_nil)) qx_int (nomark _))
  (qs_cons (qs_expr (qx_mt (i := 3) cm_extT PySem.F.plainAttrs_list PySem.F.slot_list_extend PySem.F.type_list_extend (qa_cons (qx_cal C_saved hr (by rfl) (qa_cons (qx_tup (qa_cons (qx_ix (qx_var 1) qx_int) (qa_cons (qx_ix (qx_var 1) qx_int) (qa_cons (qx_ix (qx_var 1) qx_int) qa_nil)))) qa_nil)) qa_nil)))
  (qs_one (qs_set (i := 1) nd (qx_sl (qx_var 1) (qp_some qx_int) qp_none)))))
  (qs_cons (qs_set (i := 1) nd (qo_add (qx_var 3) (qx_var 1)))
  (qs_one (qs_aug (i := 2) qg_add nd qx_int))))))
  (qs_one (qs_ret (qx_tup (qa_cons (qx_var 2) (qa_cons (qx_callTy (ct_tuple) (by rfl) Z.z_tuple (by decide +kernel) (qa_cons (qx_var 1) qa_nil)) qa_nil)))))))))) (fun _ _ _ _ _ _ us hl => match us, hl with | [_], _ => rfl)
abbrev s_root_of : Stmt := top 20
theorem sc_root_of : FnScope ["number", "place", "found", "rest"] ["number"] (defScope s_root_of) := ⟨rfl, rfl, rfl, by decide +kernel, rfl, by decide +kernel, by decide +kernel⟩
theorem ok_root_of (Z : Bl mg) (d : Df K mg "root_of" s_root_of)  : Cal P w K mg base "root_of" 1 1 fn_root_of :=
  cal_ok (A := A_root_of) (body := b_root_of) d sc_root_of (fun f cdv Ar outer s H E hr => have nd := sc_root_of.nd;
  (qs_cons (qs_if (qt_cmp qc_lt (qx_var 0) qx_int (nomark _))
  (qs_one qs_never)
  qs_nil)
  (qs_cons (qs_set (i := 1) nd qx_int)
  (qs_cons (qs_while fuel0 PassesOwn.never (qt_cmp qc_le (qo_mul (qx_var 1) qx_int) (qx_var 0) (nomark _))
  (qs_one (qs_aug (i := 1) qg_mul nd qx_int)))
  (qs_cons (qs_par (i := 2) (j := 3) rfl nd (qa_cons qx_int (qa_cons (qx_var 0) qa_nil)))
  (qs_cons (qs_while fuel0 PassesOwn.never (qt_cmp qc_gt (qx_var 1) qx_int (nomark _))
  (qs_cons (qs_if (qt_cmp qc_ge (qx_var 3) (qo_add (qx_var 2) (qx_var 1)) (nomark _))
  (qs_cons (qs_aug (i := 3) qg_sub nd (qo_add (qx_var 2) (qx_var 1)))
  (qs_one (qs_set (i := 2) nd (qo_add (qo_div (qx_var 2) qx_int) (qx_var 1)))))
  (qs_one (qs_aug (i := 2) qg_div nd qx_int)))
  (qs_one (qs_aug (i := 1) qg_div nd qx_int))))
  (qs_one (qs_ret (qx_tup (qa_cons (qx_var 2) (qa_cons (qx_var 3) qa_nil))))))))))) (fun _ _ _ _ _ _ us hl => match us, hl with | [_], _ => rfl)
abbrev s_turned_bits : Stmt := top 21
theorem sc_turned_bits : FnScope ["bits", "code", "k"] ["bits", "code"] (defScope s_turned_bits) := ⟨rfl, rfl, rfl, by decide +kernel, rfl, by decide +kernel, by decide +kernel⟩
theorem ok_turned_bits (Z : Bl mg) (d : Df K mg "turned_bits" s_turned_bits) (C_check_code : Cal P w K mg base "check_code" 2 2 fn_check_code) (C_power_of : Cal P w K mg base "power_of" 2 1 fn_power_of) : Cal P w K mg base "turned_bits" 3 2 fn_turned_bits :=
  cal_ok (A := A_turned_bits) (body := b_turned_bits) d sc_turned_bits (fun f cdv Ar outer s H E hr => have nd := sc_turned_bits.nd;
  (qs_cons (qs_expr (qx_cal C_check_code hr (by rfl) (qa_cons (qx_var 0) (qa_cons (qx_var 1) qa_nil))))
  (qs_one (qs_ret (qx_callB (cb_sum rfl) (by rfl) Z.z_sum (by decide +kernel) (qa_cons (qx_lc (by decide) rfl nd (qi_rng1 (by rfl) Z.z_range (qa_cons (qx_var 0) qa_nil)) (blkOk_by (own := [("k", 2)]) (by rfl)) (fun _ _ _ _ _ => (qg_name (i := 2) nd)) (fun _ _ _ _ _ => (qts_one (qt_cmp (qc_eq hr.units) (qo_mod (qo_div (qx_var 1) (qx_cal C_power_of hr (by rfl) (qa_cons (qx_var 2) qa_nil))) qx_int) qx_int (nomark _)))) (fun _ _ _ _ _ => (qx_cal C_power_of hr (by rfl) (qa_cons (qo_sub (qo_sub (qx_var 0) qx_int) (qx_var 2)) qa_nil)))) qa_nil)))))) (fun _ _ _ _ _ _ us hl => match us, hl with | [_, _], _ => rfl)
abbrev s_counts : Stmt := top 22
theorem sc_counts : FnScope ["bits", "code", "row", "ones", "k"] ["bits", "code"] (defScope s_counts) := ⟨rfl, rfl, rfl, by decide +kernel, rfl, by decide +kernel, by decide +kernel⟩
theorem ok_counts (Z : Bl mg) (d : Df K mg "counts" s_counts) (C_check_code : Cal P w K mg base "check_code" 2 2 fn_check_code) (C_power_of : Cal P w K mg base "power_of" 2 1 fn_power_of) : Cal P w K mg base "counts" 3 2 fn_counts :=
  cal_ok (A := A_counts) (body := b_counts) d sc_counts (fun f cdv Ar outer s H E hr => have nd := sc_counts.nd;
  (qs_cons (qs_expr (qx_cal C_check_code hr (by rfl) (qa_cons (qx_var 0) (qa_cons (qx_var 1) qa_nil))))
  (qs_cons (qs_set (i := 2) nd (qx_lc (by decide) rfl nd (qi_rng1 (by rfl) Z.z_range (qa_cons (qx_var 0) qa_nil)) (blkOk_by (own := [("k", 4)]) (by rfl)) (fun _ _ _ _ _ => (qg_name (i := 4) nd)) (fun _ _ _ _ _ => qts_nil) (fun _ _ _ _ _ => (qo_mod (qo_div (qx_var 1) (qx_cal C_power_of hr (by rfl) (qa_cons (qx_var 4) qa_nil))) qx_int))))
  (qs_cons (qs_setLc (i := 3) (by decide) rfl nd rfl rfl (sw_true rfl rfl rfl (by decide +kernel)) (qi_rng1 (by rfl) Z.z_range (qa_cons (qx_var 0) qa_nil)) (blkOk_by (own := [("k", 4)]) (by rfl)) (fun _ _ _ _ _ => (qg_name (i := 4) nd)) (fun _ _ _ _ _ => (qts_one (qt_cmp (qc_eq hr.units) (qx_ix (qx_var 2) (qx_var 4)) qx_int (nomark _)))) (fun _ _ _ _ _ => (qx_var 4)))
  (qs_one (qs_ret (qx_tup (qa_cons (qx_callB (cb_len) (by rfl) Z.z_len PySem.boot_len (qa_cons (qx_var 3) qa_nil)) (qa_cons (qx_if (qt_tru (qx_var 3)) (qo_sub (qo_sub (qx_var 0) qx_int) (qx_ix (qx_var 3) (qo_neg qx_int))) (qx_var 0)) (qa_cons (qx_if (qt_tru (qx_var 3)) (qx_ix (qx_var 3) qx_int) (qx_var 0)) qa_nil)))))))))) (fun _ _ _ _ _ _ us hl => match us, hl with | [_, _], _ => rfl)
abbrev s_bits_of : Stmt := top 24
theorem sc_bits_of : FnScope ["number", "many", "found", "_"] ["number", "many"] (defScope s_bits_of) := ⟨rfl, rfl, rfl, by decide +kernel, rfl, by decide +kernel, by decide +kernel⟩
theorem ok_bits_of (Z : Bl mg) (d : Df K mg "bits_of" s_bits_of)  : Cal P w K mg base "bits_of" 1 2 fn_bits_of :=
  cal_ok (A := A_bits_of) (body := b_bits_of) d sc_bits_of (fun f cdv Ar outer s H E hr => have nd := sc_bits_of.nd;
  (qs_cons (qs_set (i := 2) nd (qx_lst qa_nil))
  (qs_cons (qs_for PassesOwn.never rfl (qi_rng1 (by rfl) Z.z_range (qa_cons (qx_var 1) qa_nil)) (qg_name (i := 3) nd)
  (qs_cons (qs_expr (qx_mt (i := 2) cm_append PySem.F.plainAttrs_list PySem.F.slot_list_append PySem.F.type_list_append (qa_cons (qo_mod (qx_var 0) qx_int) qa_nil)))
  (qs_one (qs_aug (i := 0) qg_div nd qx_int))))
  (qs_one (qs_ret (qx_callTy (ct_tuple) (by rfl) Z.z_tuple (by decide +kernel) (qa_cons (qx_var 2) qa_nil))))))) (fun _ _ _ _ _ _ us hl => match us, hl with | [_, _], _ => rfl)
abbrev s_number_of : Stmt := top 25
theorem sc_number_of : FnScope ["bits", "found", "bit"] ["bits"] (defScope s_number_of) := ⟨rfl, rfl, rfl, by decide +kernel, rfl, by decide +kernel, by decide +kernel⟩
theorem ok_number_of (Z : Bl mg) (d : Df K mg "number_of" s_number_of)  : Cal P w K mg base "number_of" 1 1 fn_number_of :=
  cal_ok (A := A_number_of) (body := b_number_of) d sc_number_of (fun f cdv Ar outer s H E hr => have nd := sc_number_of.nd;
  (qs_cons (qs_set (i := 1) nd qx_int)
  (qs_cons (qs_for PassesOwn.never rfl (qi_seq (qx_rev (qx_var 0))) (qg_name (i := 2) nd)
  (qs_one (qs_set (i := 1) nd (qo_add (qo_mul (qx_var 1) qx_int) (qx_var 2)))))
  (qs_one (qs_ret (qx_var 1)))))) (fun _ _ _ _ _ _ us hl => match us, hl with | [_], _ => rfl)
abbrev s__law_begin : Stmt := top 27
theorem sc__law_begin : FnScope ["script", "seed", "cell"] ["script"] (defScope s__law_begin) := ⟨rfl, rfl, rfl, by decide +kernel, rfl, by decide +kernel, by decide +kernel⟩
theorem ok__law_begin (Z : Bl mg) (d : Df K mg "_law_begin" s__law_begin)  : Cal P w K mg base "_law_begin" 1 1 fn__law_begin :=
  cal_ok (A := A__law_begin) (body := b__law_begin) d sc__law_begin (fun f cdv Ar outer s H E hr => have nd := sc__law_begin.nd;
  (qs_cons (qs_set (i := 1) nd qx_int)
  (qs_cons (qs_for PassesOwn.never rfl (qi_seq (qx_var 0)) (qg_name (i := 2) nd)
  (qs_one (qs_set (i := 1) nd (qo_mod (qo_add (qo_add (qo_mul (qx_var 1) qx_int) (qo_mod (qx_callTy (ct_int) (by rfl) Z.z_int (by decide +kernel) (qa_cons (qx_var 2) qa_nil)) qx_int)) qx_int) qx_int))))
  (qs_one (qs_ret (qx_mkst (qa_cons (qx_callTy (ct_list) (by rfl) Z.z_list (by decide +kernel) (qa_cons (qx_var 0) qa_nil)) (qa_cons qx_int (qa_cons qx_int (qa_cons (qx_var 1) qa_nil)))))))))) (fun _ _ _ _ _ _ us hl => match us, hl with | [_], _ => rfl)
abbrev s__law_take : Stmt := top 28
theorem sc__law_take : FnScope ["d", "many", "digit", "small"] ["d", "many"] (defScope s__law_take) := ⟨rfl, rfl, rfl, by decide +kernel, rfl, by decide +kernel, by decide +kernel⟩
theorem ok__law_take (Z : Bl mg) (d : Df K mg "_law_take" s__law_take)  : Cal P w K mg base "_law_take" 1 2 fn__law_take :=
  cal_ok (A := A__law_take) (body := b__law_take) d sc__law_take (fun f cdv Ar outer s H E hr => have nd := sc__law_take.nd;
  (qs_cons (qs_if (qt_bool (qw_and (qt_cmp (qc_eq hr.units) (qx_stget 2) qx_int (nomark _)) (qw_and1 (qt_cmp qc_lt (qx_stget 1) (qx_stlen (by rfl) Z.z_len) (nomark _)))))
  (qs_cons (qs_stset 2 (qx_callB (cb_abs) (by rfl) Z.z_abs (by decide +kernel) (qa_cons (qx_callTy (ct_int) (by rfl) Z.z_int (by decide +kernel) (qa_cons qx_stix qa_nil)) qa_nil)))
  (qs_cons (qs_stset 1 (qo_add (qx_stget 1) qx_int))
  (qs_one (qs_if (qt_cmp qc_lt (qx_stget 2) (qo_pow qx_int qx_int) (nomark _))
  (qs_cons (qs_set (i := 3) nd (qx_callTy (ct_int) (by rfl) Z.z_int (by decide +kernel) (qa_cons (qx_stget 2) qa_nil)))
  (qs_cons (qs_stset 2 qx_int)
  (qs_one (qs_ret (qo_mod (qx_var 3) (qx_var 1))))))
  qs_nil))))
  qs_nil)
  (qs_cons (qs_if (qt_cmp qc_gt (qx_stget 2) qx_int (nomark _))
  (qs_cons (qs_set (i := 2) nd (qo_mod (qx_callTy (ct_int) (by rfl) Z.z_int (by decide +kernel) (qa_cons (qx_stget 2) qa_nil)) (qx_var 1)))
  (qs_cons (qs_stset 2 (qo_div (qx_callTy (ct_int) (by rfl) Z.z_int (by decide +kernel) (qa_cons (qx_stget 2) qa_nil)) (qx_var 1)))
  (qs_one (qs_ret (qx_var 2)))))
  qs_nil)
  (qs_cons (qs_stset 3 (qo_mod (qx_callTy (ct_int) (by rfl) Z.z_int (by decide +kernel) (qa_cons (qo_add (qo_mul (qx_stget 3) qx_int) qx_int) qa_nil)) qx_int))
  (qs_one (qs_ret (qo_mod (qx_callTy (ct_int) (by rfl) Z.z_int (by decide +kernel) (qa_cons (qo_div (qx_stget 3) qx_int) qa_nil)) (qx_var 1)))))))) (fun _ _ _ _ _ _ us hl => match us, hl with | [_, _], _ => rfl)
abbrev s__law_raise : Stmt := top 29
theorem sc__law_raise : FnScope ["times", "found", "k"] ["times"] (defScope s__law_raise) := ⟨rfl, rfl, rfl, by decide +kernel, rfl, by decide +kernel, by decide +kernel⟩
theorem ok__law_raise (Z : Bl mg) (d : Df K mg "_law_raise" s__law_raise)  : Cal P w K mg base "_law_raise" 1 1 fn__law_raise :=
  cal_ok (A := A__law_raise) (body := b__law_raise) d sc__law_raise (fun f cdv Ar outer s H E hr => have nd := sc__law_raise.nd;
  (qs_cons (qs_set (i := 1) nd qx_int)
  (qs_cons (qs_for PassesOwn.never rfl (qi_rng1 (by rfl) Z.z_range (qa_cons (qx_var 0) qa_nil)) (qg_name (i := 2) nd)
  (qs_one (qs_set (i := 1) nd (qo_mul qx_int (qx_var 1)))))
  (qs_one (qs_ret (qx_var 1)))))) (fun _ _ _ _ _ _ us hl => match us, hl with | [_], _ => rfl)
abbrev s__law_part1 : Stmt := top 30
theorem sc__law_part1 : FnScope ["d", "bits", "whole", "one", "other", "ones", "ahead", "behind", "mirrored", "row", "weight", "numbers", "steps", "left", "bound", "many", "a", "b", "root", "quotient", "rest", "rows", "digit", "k"] ["d", "bits", "whole", "one", "other", "ones", "ahead", "behind"] (defScope s__law_part1) := ⟨rfl, rfl, rfl, by decide +kernel, rfl, by decide +kernel, by decide +kernel⟩
theorem ok__law_part1 (Z : Bl mg) (d : Df K mg "_law_part1" s__law_part1) (C_counts : Cal P w K mg base "counts" 4 2 fn_counts) (C_turned_bits : Cal P w K mg base "turned_bits" 4 2 fn_turned_bits) (C__law_raise : Cal P w K mg base "_law_raise" 4 1 fn__law_raise) (C_sparse : Cal P w K mg base "sparse" 4 2 fn_sparse) (C_from_digits : Cal P w K mg base "from_digits" 4 1 fn_from_digits) (C_meaning : Cal P w K mg base "meaning" 4 2 fn_meaning) (C_digits : Cal P w K mg base "digits" 4 2 fn_digits) (C_code_of : Cal P w K mg base "code_of" 4 2 fn_code_of) (C_divided : Cal P w K mg base "divided" 4 3 fn_divided) (C_divided_both : Cal P w K mg base "divided_both" 4 3 fn_divided_both) (C__law_take : Cal P w K mg base "_law_take" 4 2 fn__law_take) (C_summed : Cal P w K mg base "summed" 4 1 fn_summed) (C_saved : Cal P w K mg base "saved" 4 1 fn_saved) (C_root_of : Cal P w K mg base "root_of" 4 1 fn_root_of) : Cal P w K mg base "_law_part1" 5 8 fn__law_part1 :=
  cal_ok (A := A__law_part1) (body := b__law_part1) d sc__law_part1 (fun f cdv Ar outer s H E hr => have nd := sc__law_part1.nd;
  (qs_cons (qs_set (i := 8) nd (qx_cal C_counts hr (by rfl) (qa_cons (qx_var 1) (qa_cons (qx_cal C_turned_bits hr (by rfl) (qa_cons (qx_var 1) (qa_cons (qx_var 3) qa_nil))) qa_nil))))
  (qs_cons (qs_if (qt_bool (qw_or (qt_cmp (qc_ne hr.units) (qx_var 8) (qx_tup (qa_cons (qx_var 5) (qa_cons (qx_var 7) (qa_cons (qx_var 6) qa_nil)))) (nomark _)) (qw_or (qt_cmp (qc_ne hr.units) (qx_ix (qx_cal C_counts hr (by rfl) (qa_cons (qx_var 1) (qa_cons (qo_sub (qo_sub (qx_var 2) qx_int) (qx_var 3)) qa_nil))) qx_int) (qo_sub (qx_var 1) (qx_var 5)) (nomark _)) (qw_or1 (qt_bool (qw_and (qt_cmp qc_gt (qx_var 3) qx_int (nomark _)) (qw_and1 (qt_cmp (qc_ne hr.units) (qo_mul (qo_div (qx_var 3) (qx_cal C__law_raise hr (by rfl) (qa_cons (qx_var 7) qa_nil))) (qx_cal C__law_raise hr (by rfl) (qa_cons (qx_var 7) qa_nil))) (qx_var 3) (nomark _)))))))))
  (qs_one (qs_ret qx_bl))
  qs_nil)
  (qs_cons (qs_set (i := 9) nd (qx_cal C_sparse hr (by rfl) (qa_cons (qx_var 1) (qa_cons (qx_var 3) qa_nil))))
  (qs_cons (qs_if (qt_bool (qw_or (qt_cmp (qc_ne hr.units) (qx_cal C_from_digits hr (by rfl) (qa_cons (qx_var 9) qa_nil)) (qx_cal C_meaning hr (by rfl) (qa_cons (qx_var 1) (qa_cons (qx_var 3) qa_nil))) (nomark _)) (qw_or1 (qt_cmp (qc_ne hr.units) (qx_cal C_from_digits hr (by rfl) (qa_cons (qx_cal C_digits hr (by rfl) (qa_cons (qx_var 1) (qa_cons (qx_var 3) qa_nil))) qa_nil)) (qx_cal C_meaning hr (by rfl) (qa_cons (qx_var 1) (qa_cons (qx_var 3) qa_nil))) (nomark _)))))
  (qs_one (qs_ret qx_bl))
  qs_nil)
  (qs_cons (qs_set (i := 10) nd (qx_callB (cb_len) (by rfl) Z.z_len PySem.boot_len (qa_cons (qx_lc (by decide) rfl nd (qi_seq (qx_var 9)) (blkOk_by (own := [("digit", 22)]) (by rfl)) (fun _ _ _ _ _ => (qg_name (i := 22) nd)) (fun _ _ _ _ _ => (qts_one (qt_cmp (qc_ne hr.units) (qx_var 22) qx_int (nomark _)))) (fun _ _ _ _ _ => (qx_var 22))) qa_nil)))
  (qs_cons (qs_if (qt_bool (qw_or (qt_cmp qc_gt (qx_var 10) (qx_callB (cb_len) (by rfl) Z.z_len PySem.boot_len (qa_cons (qx_lc (by decide) rfl nd (qi_seq (qx_cal C_digits hr (by rfl) (qa_cons (qx_var 1) (qa_cons (qx_var 3) qa_nil)))) (blkOk_by (own := [("digit", 22)]) (by rfl)) (fun _ _ _ _ _ => (qg_name (i := 22) nd)) (fun _ _ _ _ _ => (qts_one (qt_cmp (qc_ne hr.units) (qx_var 22) qx_int (nomark _)))) (fun _ _ _ _ _ => (qx_var 22))) qa_nil)) (nomark _)) (qw_or1 (qt_cmp qc_gt (qo_mul qx_int (qx_var 10)) (qo_add (qx_var 1) qx_int) (nomark _)))))
  (qs_one (qs_ret qx_bl))
  qs_nil)
  (qs_cons (qs_if (qt_cmp (qc_ne hr.units) (qx_cal C_sparse hr (by rfl) (qa_cons (qx_var 1) (qa_cons (qx_if (qt_cmp qc_notN (qx_cal C_code_of hr (by rfl) (qa_cons (qx_var 1) (qa_cons (qo_sub qx_int (qx_cal C_meaning hr (by rfl) (qa_cons (qx_var 1) (qa_cons (qx_var 3) qa_nil)))) qa_nil))) qx_non (nomark _)) (qx_cal C_code_of hr (by rfl) (qa_cons (qx_var 1) (qa_cons (qo_sub qx_int (qx_cal C_meaning hr (by rfl) (qa_cons (qx_var 1) (qa_cons (qx_var 3) qa_nil)))) qa_nil))) qx_int) qa_nil))) (qx_if (qt_cmp qc_notN (qx_cal C_code_of hr (by rfl) (qa_cons (qx_var 1) (qa_cons (qo_sub qx_int (qx_cal C_meaning hr (by rfl) (qa_cons (qx_var 1) (qa_cons (qx_var 3) qa_nil)))) qa_nil))) qx_non (nomark _)) (qx_callTy (ct_tuple) (by rfl) Z.z_tuple (by decide +kernel) (qa_cons (qx_lc (by decide) rfl nd (qi_seq (qx_var 9)) (blkOk_by (own := [("digit", 22)]) (by rfl)) (fun _ _ _ _ _ => (qg_name (i := 22) nd)) (fun _ _ _ _ _ => qts_nil) (fun _ _ _ _ _ => (qo_sub qx_int (qx_var 22)))) qa_nil)) (qx_tup qa_nil)) (nomark _))
  (qs_one (qs_ret qx_bl))
  qs_nil)
  (qs_cons (qs_if (qt_cmp qc_gt (qx_var 4) qx_int (nomark _))
  (qs_cons (qs_pat (qg_tup rfl (qg_cons (qg_name (i := 19) nd) (qg_cons (qg_name (i := 20) nd) (qg_cons (qg_name (i := 21) nd) qg_nil)))) (qx_cal C_divided hr (by rfl) (qa_cons (qx_var 1) (qa_cons (qx_var 3) (qa_cons (qx_var 4) qa_nil)))))
  (qs_cons (qs_if (qt_bool (qw_or (qt_cmp (qc_ne hr.units) (qx_sl (qx_cal C_divided_both hr (by rfl) (qa_cons (qx_var 1) (qa_cons (qx_var 3) (qa_cons (qx_var 4) qa_nil)))) qp_none (qp_some qx_int)) (qx_tup (qa_cons (qx_var 19) (qa_cons (qx_var 20) qa_nil))) (nomark _)) (qw_or (qt_cmp (qc_ne hr.units) (qx_ix (qx_var 21) (qo_neg qx_int)) (qx_var 20) (nomark _)) (qw_or1 (qt_cmp qc_ge (qx_callB (cb_max rfl) (by rfl) Z.z_max (by decide +kernel) (qa_cons (qx_var 21) qa_nil)) (qx_var 4) (nomark _))))))
  (qs_one (qs_ret qx_bl))
  qs_nil)
  (qs_one (qs_if (qt_bool (qw_or (qt_cmp (qc_ne hr.units) (qx_ix (qx_cal C_divided hr (by rfl) (qa_cons (qx_var 1) (qa_cons (qx_var 19) (qa_cons (qx_var 4) qa_nil)))) qx_int) (qo_div (qo_div (qx_var 3) (qx_var 4)) (qx_var 4)) (nomark _)) (qw_or1 (qt_cmp (qc_ne hr.units) (qx_ix (qx_cal C_divided hr (by rfl) (qa_cons (qx_var 1) (qa_cons (qx_var 3) (qa_cons qx_int qa_nil)))) qx_int) (qx_var 3) (nomark _)))))
  (qs_one (qs_ret qx_bl))
  qs_nil))))
  qs_nil)
  (qs_cons (qs_set (i := 11) nd (qx_callTy (ct_tuple) (by rfl) Z.z_tuple (by decide +kernel) (qa_cons (qx_lc (by decide) rfl nd (qi_rng1 (by rfl) Z.z_range (qa_cons (qo_add qx_int (qx_cal C__law_take hr (by rfl) (qa_cons (qx_var 0) (qa_cons qx_int qa_nil)))) qa_nil)) (blkOk_by (own := [("k", 23)]) (by rfl)) (fun _ _ _ _ _ => (qg_name (i := 23) nd)) (fun _ _ _ _ _ => qts_nil) (fun _ _ _ _ _ => (qx_cal C__law_take hr (by rfl) (qa_cons (qx_var 0) (qa_cons qx_int qa_nil))))) qa_nil)))
  (qs_cons (qs_pat (qg_tup rfl (qg_cons (qg_name (i := 12) nd) (qg_cons (qg_name (i := 13) nd) qg_nil))) (qx_cal C_summed hr (by rfl) (qa_cons (qx_var 11) qa_nil)))
  (qs_cons (qs_set (i := 14) nd qx_int)
  (qs_cons (qs_set (i := 15) nd (qx_callB (cb_len) (by rfl) Z.z_len PySem.boot_len (qa_cons (qx_var 11) qa_nil)))
  (qs_cons (qs_while fuel0 PassesOwn.never (qt_cmp qc_gt (qx_var 15) qx_int (nomark _))
  (qs_cons (qs_set (i := 15) nd (qo_add (qo_div (qo_mul qx_int (qx_var 15)) qx_int) (qx_callTy (ct_int) (by rfl) Z.z_int (by decide +kernel) (qa_cons (qo_cmp qc_gt (qo_mod (qx_callTy (ct_int) (by rfl) Z.z_int (by decide +kernel) (qa_cons (qo_mul qx_int (qx_var 15)) qa_nil)) qx_int) qx_int (nomark _)) qa_nil))))
  (qs_one (qs_set (i := 14) nd (qo_add (qx_var 14) qx_int)))))
  (qs_cons (qs_if (qt_bool (qw_or (qt_cmp (qc_ne hr.units) (qx_callB (cb_sum rfl) (by rfl) Z.z_sum (by decide +kernel) (qa_cons (qx_var 13) qa_nil)) (qx_callB (cb_sum rfl) (by rfl) Z.z_sum (by decide +kernel) (qa_cons (qx_var 11) qa_nil)) (nomark _)) (qw_or1 (qt_cmp qc_gt (qx_var 12) (qx_var 14) (nomark _)))))
  (qs_one (qs_ret qx_bl))
  qs_nil)
  (qs_cons (qs_pat (qg_tup rfl (qg_cons (qg_name (i := 16) nd) (qg_cons (qg_name (i := 17) nd) qg_nil))) (qx_cal C_saved hr (by rfl) (qa_cons (qx_sl (qx_var 11) qp_none (qp_some qx_int)) qa_nil)))
  (qs_cons (qs_if (qt_bool (qw_or (qt_cmp (qc_ne hr.units) (qo_add (qx_ix (qx_cal C_saved hr (by rfl) (qa_cons (qx_tup (qa_cons (qx_var 16) (qa_cons (qx_var 17) (qa_cons qx_int qa_nil)))) qa_nil)) qx_int) (qx_ix (qx_cal C_saved hr (by rfl) (qa_cons (qx_tup (qa_cons (qx_var 16) (qa_cons (qx_var 17) (qa_cons qx_int qa_nil)))) qa_nil)) qx_int)) (qo_add (qx_var 16) (qx_var 17)) (nomark _)) (qw_or1 (qt_cmp (qc_ne hr.units) (qo_add (qx_var 16) (qx_var 17)) (qx_callB (cb_sum rfl) (by rfl) Z.z_sum (by decide +kernel) (qa_cons (qx_sl (qx_var 11) qp_none (qp_some qx_int)) qa_nil)) (nomark _)))))
  (qs_one (qs_ret qx_bl))
  qs_nil)
  (qs_cons (qs_set (i := 18) nd (qo_add (qo_mul (qx_var 3) qx_int) qx_int))
  (qs_one (qs_ret (qx_and (qo_cmp (qc_eq hr.units) (qx_cal C_root_of hr (by rfl) (qa_cons (qo_mul (qx_var 18) (qx_var 18)) qa_nil)) (qx_tup (qa_cons (qx_var 18) (qa_cons qx_int qa_nil))) (nomark _)) (qx_and (qo_cmp (qc_eq hr.units) (qx_cal C_root_of hr (by rfl) (qa_cons (qo_add (qo_mul (qx_var 18) (qx_var 18)) (qo_mul qx_int (qx_var 18))) qa_nil)) (qx_tup (qa_cons (qx_var 18) (qa_cons (qo_mul qx_int (qx_var 18)) qa_nil))) (nomark _)) (qx_one (qo_cmp (qc_eq hr.units) (qx_cal C_root_of hr (by rfl) (qa_cons (qo_sub (qo_mul (qx_var 18) (qx_var 18)) qx_int) qa_nil)) (qx_tup (qa_cons (qo_sub (qx_var 18) qx_int) (qa_cons (qo_sub (qo_mul qx_int (qx_var 18)) qx_int) qa_nil))) (nomark _))))))))))))))))))))))))) (fun _ _ _ _ _ _ us hl => match us, hl with | [_, _, _, _, _, _, _, _], _ => rfl)
abbrev s_law : Stmt := top 31
theorem sc_law : FnScope ["script", "d", "bits", "whole", "one", "other", "code", "flags", "back", "second", "signs", "less", "marks", "turned", "again", "ones", "ahead", "behind", "more", "wide", "number"] ["script"] (defScope s_law) := ⟨rfl, rfl, rfl, by decide +kernel, rfl, by decide +kernel, by decide +kernel⟩
theorem ok_law (Z : Bl mg) (d : Df K mg "law" s_law) (C__law_begin : Cal P w K mg base "_law_begin" 5 1 fn__law_begin) (C__law_take : Cal P w K mg base "_law_take" 5 2 fn__law_take) (C__law_raise : Cal P w K mg base "_law_raise" 5 1 fn__law_raise) (C_added : Cal P w K mg base "added" 5 3 fn_added) (C_taken_off : Cal P w K mg base "taken_off" 5 3 fn_taken_off) (C_meaning : Cal P w K mg base "meaning" 5 2 fn_meaning) (C_widened : Cal P w K mg base "widened" 5 3 fn_widened) (C_code_of : Cal P w K mg base "code_of" 5 2 fn_code_of) (C_by_digits : Cal P w K mg base "by_digits" 5 3 fn_by_digits) (C_turned_bits : Cal P w K mg base "turned_bits" 5 2 fn_turned_bits) (C_number_of : Cal P w K mg base "number_of" 5 1 fn_number_of) (C_bits_of : Cal P w K mg base "bits_of" 5 2 fn_bits_of) (C_counts : Cal P w K mg base "counts" 5 2 fn_counts) (C__law_part1 : Cal P w K mg base "_law_part1" 5 8 fn__law_part1) : Cal P w K mg base "law" 6 1 fn_law :=
  cal_ok (A := A_law) (body := b_law) d sc_law (fun f cdv Ar outer s H E hr => have nd := sc_law.nd;
  (qs_cons (qs_set (i := 1) nd (qx_cal C__law_begin hr (by rfl) (qa_cons (qx_var 0) qa_nil)))
  (qs_cons (qs_set (i := 2) nd (qo_add qx_int (qx_cal C__law_take hr (by rfl) (qa_cons (qx_var 1) (qa_cons qx_int qa_nil)))))
  (qs_cons (qs_if (qt_cmp (qc_eq hr.units) (qx_cal C__law_take hr (by rfl) (qa_cons (qx_var 1) (qa_cons qx_int qa_nil))) qx_int (nomark _))
  (qs_one (qs_set (i := 2) nd qx_int))
  qs_nil)
  (qs_cons (qs_set (i := 3) nd (qx_cal C__law_raise hr (by rfl) (qa_cons (qx_var 2) qa_nil)))
  (qs_cons (qs_set (i := 4) nd (qo_mod (qx_callTy (ct_int) (by rfl) Z.z_int (by decide +kernel) (qa_cons (qo_add (qo_mul (qx_cal C__law_take hr (by rfl) (qa_cons (qx_var 1) (qa_cons qx_int qa_nil))) qx_int) (qx_cal C__law_take hr (by rfl) (qa_cons (qx_var 1) (qa_cons qx_int qa_nil)))) qa_nil)) (qx_var 3)))
  (qs_cons (qs_set (i := 5) nd (qo_mod (qx_callTy (ct_int) (by rfl) Z.z_int (by decide +kernel) (qa_cons (qo_add (qo_mul (qx_cal C__law_take hr (by rfl) (qa_cons (qx_var 1) (qa_cons qx_int qa_nil))) qx_int) (qx_cal C__law_take hr (by rfl) (qa_cons (qx_var 1) (qa_cons qx_int qa_nil)))) qa_nil)) (qx_var 3)))
  (qs_cons (qs_pat (qg_tup rfl (qg_cons (qg_name (i := 6) nd) (qg_cons (qg_name (i := 7) nd) qg_nil))) (qx_cal C_added hr (by rfl) (qa_cons (qx_var 2) (qa_cons (qx_var 4) (qa_cons (qx_var 5) qa_nil)))))
  (qs_cons (qs_pat (qg_tup rfl (qg_cons (qg_name (i := 8) nd) (qg_cons (qg_name (i := 9) nd) qg_nil))) (qx_cal C_taken_off hr (by rfl) (qa_cons (qx_var 2) (qa_cons (qx_var 6) (qa_cons (qx_var 5) qa_nil)))))
  (qs_cons (qs_if (qt_bool (qw_or (qt_cmp (qc_ne hr.units) (qx_var 8) (qx_var 4) (nomark _)) (qw_or (qt_cmp (qc_ne hr.units) (qx_cal C_added hr (by rfl) (qa_cons (qx_var 2) (qa_cons (qx_var 5) (qa_cons (qx_var 4) qa_nil)))) (qx_tup (qa_cons (qx_var 6) (qa_cons (qx_var 7) qa_nil))) (nomark _)) (qw_or1 (qt_cmp (qc_ne hr.units) (qx_ix (qx_var 9) qx_int) (qx_callTy (ct_int) (by rfl) Z.z_int (by decide +kernel) (qa_cons (qo_cmp qc_ge (qx_var 6) (qx_var 5) (nomark _)) qa_nil)) (nomark _))))))
  (qs_one (qs_ret qx_bl))
  qs_nil)
  (qs_cons (qs_setLc (i := 10) (by decide) rfl nd rfl rfl (sw_true rfl rfl rfl (by decide +kernel)) (qi_seq (qx_tup (qa_cons (qx_var 4) (qa_cons (qx_var 5) (qa_cons (qx_var 6) qa_nil))))) (blkOk_by (own := [("number", 20)]) (by rfl)) (fun _ _ _ _ _ => (qg_name (i := 20) nd)) (fun _ _ _ _ _ => qts_nil) (fun _ _ _ _ _ => (qx_callTy (ct_int) (by rfl) Z.z_int (by decide +kernel) (qa_cons (qo_cmp qc_ge (qo_mul qx_int (qx_var 20)) (qx_var 3) (nomark _)) qa_nil))))
  (qs_cons (qs_if (qt_bool (qw_or (qt_cmp (qc_ne hr.units) (qx_ix (qx_var 7) qx_int) (qx_callTy (ct_int) (by rfl) Z.z_int (by decide +kernel) (qa_cons (qx_and (qo_cmp (qc_eq hr.units) (qx_ix (qx_var 10) qx_int) (qx_ix (qx_var 10) qx_int) (nomark _)) (qx_one (qo_cmp (qc_ne hr.units) (qx_ix (qx_var 10) qx_int) (qx_ix (qx_var 10) qx_int) (nomark _)))) qa_nil)) (nomark _)) (qw_or1 (qt_cmp (qc_ne hr.units) (qx_ix (qx_var 7) qx_int) (qx_ix (qx_var 10) qx_int) (nomark _)))))
  (qs_one (qs_ret qx_bl))
  qs_nil)
  (qs_cons (qs_pat (qg_tup rfl (qg_cons (qg_name (i := 11) nd) (qg_cons (qg_name (i := 12) nd) qg_nil))) (qx_cal C_taken_off hr (by rfl) (qa_cons (qx_var 2) (qa_cons (qx_var 4) (qa_cons (qx_var 5) qa_nil)))))
  (qs_cons (qs_if (qt_bool (qw_or (qt_cmp (qc_ne hr.units) (qo_cmp (qc_ne hr.units) (qx_ix (qx_var 12) qx_int) (qx_ix (qx_var 12) qx_int) (nomark _)) (qo_cmp qc_lt (qx_cal C_meaning hr (by rfl) (qa_cons (qx_var 2) (qa_cons (qx_var 4) qa_nil))) (qx_cal C_meaning hr (by rfl) (qa_cons (qx_var 2) (qa_cons (qx_var 5) qa_nil))) (nomark _)) (nomark _)) (qw_or (qt_cmp (qc_ne hr.units) (qo_cmp (qc_eq hr.units) (qx_ix (qx_var 12) qx_int) qx_int (nomark _)) (qo_cmp qc_lt (qx_var 4) (qx_var 5) (nomark _)) (nomark _)) (qw_or1 (qt_cmp (qc_ne hr.units) (qo_cmp (qc_eq hr.units) (qx_ix (qx_var 12) qx_int) qx_int (nomark _)) (qo_cmp (qc_eq hr.units) (qx_var 4) (qx_var 5) (nomark _)) (nomark _))))))
  (qs_one (qs_ret qx_bl))
  qs_nil)
  (qs_cons (qs_set (i := 13) nd (qo_sub (qo_sub (qx_var 3) qx_int) (qx_var 5)))
  (qs_cons (qs_set (i := 14) nd (qx_ix (qx_cal C_added hr (by rfl) (qa_cons (qx_var 2) (qa_cons (qx_var 4) (qa_cons (qx_var 13) qa_nil)))) qx_int))
  (qs_cons (qs_if (qt_bool (qw_and (qt_cmp (qc_ne hr.units) (qx_ix (qx_cal C_added hr (by rfl) (qa_cons (qx_var 2) (qa_cons (qx_var 14) (qa_cons (qo_mod (qx_callTy (ct_int) (by rfl) Z.z_int (by decide +kernel) (qa_cons qx_int qa_nil)) (qx_var 3)) qa_nil)))) qx_int) (qx_var 11) (nomark _)) (qw_and1 (qt_cmp qc_gt (qx_var 2) qx_int (nomark _)))))
  (qs_one (qs_ret qx_bl))
  qs_nil)
  (qs_cons (qs_if (qt_cmp qc_lt (qx_var 2) qx_int (nomark _))
  (qs_cons (qs_set (i := 18) nd (qo_add (qo_add (qx_var 2) qx_int) (qx_cal C__law_take hr (by rfl) (qa_cons (qx_var 1) (qa_cons (qo_sub qx_int (qx_var 2)) qa_nil)))))
  (qs_cons (qs_set (i := 19) nd (qx_ix (qx_cal C_added hr (by rfl) (qa_cons (qx_var 18) (qa_cons (qx_cal C_widened hr (by rfl) (qa_cons (qx_var 2) (qa_cons (qx_var 4) (qa_cons (qx_var 18) qa_nil)))) (qa_cons (qx_cal C_widened hr (by rfl) (qa_cons (qx_var 2) (qa_cons (qx_var 5) (qa_cons (qx_var 18) qa_nil)))) qa_nil)))) qx_int))
  (qs_cons (qs_if (qt_bool (qw_or (qt_cmp (qc_ne hr.units) (qx_cal C_meaning hr (by rfl) (qa_cons (qx_var 18) (qa_cons (qx_var 19) qa_nil))) (qo_add (qx_cal C_meaning hr (by rfl) (qa_cons (qx_var 2) (qa_cons (qx_var 4) qa_nil))) (qx_cal C_meaning hr (by rfl) (qa_cons (qx_var 2) (qa_cons (qx_var 5) qa_nil)))) (nomark _)) (qw_or1 (qt_cmp (qc_ne hr.units) (qo_mod (qx_callTy (ct_int) (by rfl) Z.z_int (by decide +kernel) (qa_cons (qx_var 19) qa_nil)) (qx_var 3)) (qx_var 6) (nomark _)))))
  (qs_one (qs_ret qx_bl))
  qs_nil)
  (qs_one (qs_if (qt_bool (qw_and (qt_cmp qc_le (qx_var 2) qx_int (nomark _)) (qw_and1 (qt_cmp qc_isN (qx_cal C_code_of hr (by rfl) (qa_cons (qo_mul qx_int (qx_var 2)) (qa_cons (qx_ix (qx_cal C_by_digits hr (by rfl) (qa_cons (qx_var 2) (qa_cons (qx_var 4) (qa_cons (qx_var 5) qa_nil)))) qx_int) qa_nil))) qx_non (nomark _)))))
  (qs_one (qs_ret qx_bl))
  qs_nil)))))
  qs_nil)
  (qs_cons (qs_if (qt_bool (qw_or (qt_cmp (qc_ne hr.units) (qx_cal C_turned_bits hr (by rfl) (qa_cons (qx_var 2) (qa_cons (qx_cal C_turned_bits hr (by rfl) (qa_cons (qx_var 2) (qa_cons (qx_var 4) qa_nil))) qa_nil))) (qx_var 4) (nomark _)) (qw_or1 (qt_cmp (qc_ne hr.units) (qx_cal C_turned_bits hr (by rfl) (qa_cons (qx_var 2) (qa_cons (qx_var 4) qa_nil))) (qx_cal C_number_of hr (by rfl) (qa_cons (qx_rev (qx_cal C_bits_of hr (by rfl) (qa_cons (qx_var 4) (qa_cons (qx_var 2) qa_nil)))) qa_nil)) (nomark _)))))
  (qs_one (qs_ret qx_bl))
  qs_nil)
  (qs_cons (qs_pat (qg_tup rfl (qg_cons (qg_name (i := 15) nd) (qg_cons (qg_name (i := 16) nd) (qg_cons (qg_name (i := 17) nd) qg_nil)))) (qx_cal C_counts hr (by rfl) (qa_cons (qx_var 2) (qa_cons (qx_var 4) qa_nil))))
  (qs_one (qs_ret (qx_cal C__law_part1 hr (by rfl) (qa_cons (qx_var 1) (qa_cons (qx_var 2) (qa_cons (qx_var 3) (qa_cons (qx_var 4) (qa_cons (qx_var 5) (qa_cons (qx_var 15) (qa_cons (qx_var 16) (qa_cons (qx_var 17) qa_nil))))))))))))))))))))))))))))))) (fun _ _ _ _ _ _ us hl => match us, hl with | [_], _ => rfl)
end
theorem law_fn {P : Program} {w : World} {K : PySem.W.Frag} {mg : Str → Option Value} {base : Heap} {f : Addr} {fd : FuncData} (Z : Bl mg) (F : FunD K "law" "law" (defArgs s_law) (defBody s_law) (defScope s_law) [] [] f fd) (C__law_begin : Cal P w K mg base "_law_begin" 5 1 fn__law_begin) (C__law_take : Cal P w K mg base "_law_take" 5 2 fn__law_take) (C__law_raise : Cal P w K mg base "_law_raise" 5 1 fn__law_raise) (C_added : Cal P w K mg base "added" 5 3 fn_added) (C_taken_off : Cal P w K mg base "taken_off" 5 3 fn_taken_off) (C_meaning : Cal P w K mg base "meaning" 5 2 fn_meaning) (C_widened : Cal P w K mg base "widened" 5 3 fn_widened) (C_code_of : Cal P w K mg base "code_of" 5 2 fn_code_of) (C_by_digits : Cal P w K mg base "by_digits" 5 3 fn_by_digits) (C_turned_bits : Cal P w K mg base "turned_bits" 5 2 fn_turned_bits) (C_number_of : Cal P w K mg base "number_of" 5 1 fn_number_of) (C_bits_of : Cal P w K mg base "bits_of" 5 2 fn_bits_of) (C_counts : Cal P w K mg base "counts" 5 2 fn_counts) (C__law_part1 : Cal P w K mg base "_law_part1" 5 8 fn__law_part1) : FnOk P w K mg base CX0 6 f fd ["script"] (spF K 1 fn_law) :=
  fn_okD (A := A_law) (body := b_law) F sc_law fun cdv Ar outer s H E hr => have nd := sc_law.nd;
  (qs_cons (qs_set (i := 1) nd (qx_cal C__law_begin hr (by rfl) (qa_cons (qx_var 0) qa_nil)))
  (qs_cons (qs_set (i := 2) nd (qo_add qx_int (qx_cal C__law_take hr (by rfl) (qa_cons (qx_var 1) (qa_cons qx_int qa_nil)))))
  (qs_cons (qs_if (qt_cmp (qc_eq hr.units) (qx_cal C__law_take hr (by rfl) (qa_cons (qx_var 1) (qa_cons qx_int qa_nil))) qx_int (nomark _))
  (qs_one (qs_set (i := 2) nd qx_int))
  qs_nil)
  (qs_cons (qs_set (i := 3) nd (qx_cal C__law_raise hr (by rfl) (qa_cons (qx_var 2) qa_nil)))
  (qs_cons (qs_set (i := 4) nd (qo_mod (qx_callTy (ct_int) (by rfl) Z.z_int (by decide +kernel) (qa_cons (qo_add (qo_mul (qx_cal C__law_take hr (by rfl) (qa_cons (qx_var 1) (qa_cons qx_int qa_nil))) qx_int) (qx_cal C__law_take hr (by rfl) (qa_cons (qx_var 1) (qa_cons qx_int qa_nil)))) qa_nil)) (qx_var 3)))
  (qs_cons (qs_set (i := 5) nd (qo_mod (qx_callTy (ct_int) (by rfl) Z.z_int (by decide +kernel) (qa_cons (qo_add (qo_mul (qx_cal C__law_take hr (by rfl) (qa_cons (qx_var 1) (qa_cons qx_int qa_nil))) qx_int) (qx_cal C__law_take hr (by rfl) (qa_cons (qx_var 1) (qa_cons qx_int qa_nil)))) qa_nil)) (qx_var 3)))
  (qs_cons (qs_pat (qg_tup rfl (qg_cons (qg_name (i := 6) nd) (qg_cons (qg_name (i := 7) nd) qg_nil))) (qx_cal C_added hr (by rfl) (qa_cons (qx_var 2) (qa_cons (qx_var 4) (qa_cons (qx_var 5) qa_nil)))))
  (qs_cons (qs_pat (qg_tup rfl (qg_cons (qg_name (i := 8) nd) (qg_cons (qg_name (i := 9) nd) qg_nil))) (qx_cal C_taken_off hr (by rfl) (qa_cons (qx_var 2) (qa_cons (qx_var 6) (qa_cons (qx_var 5) qa_nil)))))
  (qs_cons (qs_if (qt_bool (qw_or (qt_cmp (qc_ne hr.units) (qx_var 8) (qx_var 4) (nomark _)) (qw_or (qt_cmp (qc_ne hr.units) (qx_cal C_added hr (by rfl) (qa_cons (qx_var 2) (qa_cons (qx_var 5) (qa_cons (qx_var 4) qa_nil)))) (qx_tup (qa_cons (qx_var 6) (qa_cons (qx_var 7) qa_nil))) (nomark _)) (qw_or1 (qt_cmp (qc_ne hr.units) (qx_ix (qx_var 9) qx_int) (qx_callTy (ct_int) (by rfl) Z.z_int (by decide +kernel) (qa_cons (qo_cmp qc_ge (qx_var 6) (qx_var 5) (nomark _)) qa_nil)) (nomark _))))))
  (qs_one (qs_ret qx_bl))
  qs_nil)
  (qs_cons (qs_setLc (i := 10) (by decide) rfl nd rfl rfl (sw_true rfl rfl rfl (by decide +kernel)) (qi_seq (qx_tup (qa_cons (qx_var 4) (qa_cons (qx_var 5) (qa_cons (qx_var 6) qa_nil))))) (blkOk_by (own := [("number", 20)]) (by rfl)) (fun _ _ _ _ _ => (qg_name (i := 20) nd)) (fun _ _ _ _ _ => qts_nil) (fun _ _ _ _ _ => (qx_callTy (ct_int) (by rfl) Z.z_int (by decide +kernel) (qa_cons (qo_cmp qc_ge (qo_mul qx_int (qx_var 20)) (qx_var 3) (nomark _)) qa_nil))))
  (qs_cons (qs_if (qt_bool (qw_or (qt_cmp (qc_ne hr.units) (qx_ix (qx_var 7) qx_int) (qx_callTy (ct_int) (by rfl) Z.z_int (by decide +kernel) (qa_cons (qx_and (qo_cmp (qc_eq hr.units) (qx_ix (qx_var 10) qx_int) (qx_ix (qx_var 10) qx_int) (nomark _)) (qx_one (qo_cmp (qc_ne hr.units) (qx_ix (qx_var 10) qx_int) (qx_ix (qx_var 10) qx_int) (nomark _)))) qa_nil)) (nomark _)) (qw_or1 (qt_cmp (qc_ne hr.units) (qx_ix (qx_var 7) qx_int) (qx_ix (qx_var 10) qx_int) (nomark _)))))
  (qs_one (qs_ret qx_bl))
  qs_nil)
  (qs_cons (qs_pat (qg_tup rfl (qg_cons (qg_name (i := 11) nd) (qg_cons (qg_name (i := 12) nd) qg_nil))) (qx_cal C_taken_off hr (by rfl) (qa_cons (qx_var 2) (qa_cons (qx_var 4) (qa_cons (qx_var 5) qa_nil)))))
  (qs_cons (qs_if (qt_bool (qw_or (qt_cmp (qc_ne hr.units) (qo_cmp (qc_ne hr.units) (qx_ix (qx_var 12) qx_int) (qx_ix (qx_var 12) qx_int) (nomark _)) (qo_cmp qc_lt (qx_cal C_meaning hr (by rfl) (qa_cons (qx_var 2) (qa_cons (qx_var 4) qa_nil))) (qx_cal C_meaning hr (by rfl) (qa_cons (qx_var 2) (qa_cons (qx_var 5) qa_nil))) (nomark _)) (nomark _)) (qw_or (qt_cmp (qc_ne hr.units) (qo_cmp (qc_eq hr.units) (qx_ix (qx_var 12) qx_int) qx_int (nomark _)) (qo_cmp qc_lt (qx_var 4) (qx_var 5) (nomark _)) (nomark _)) (qw_or1 (qt_cmp (qc_ne hr.units) (qo_cmp (qc_eq hr.units) (qx_ix (qx_var 12) qx_int) qx_int (nomark _)) (qo_cmp (qc_eq hr.units) (qx_var 4) (qx_var 5) (nomark _)) (nomark _))))))
  (qs_one (qs_ret qx_bl))
  qs_nil)
  (qs_cons (qs_set (i := 13) nd (qo_sub (qo_sub (qx_var 3) qx_int) (qx_var 5)))
  (qs_cons (qs_set (i := 14) nd (qx_ix (qx_cal C_added hr (by rfl) (qa_cons (qx_var 2) (qa_cons (qx_var 4) (qa_cons (qx_var 13) qa_nil)))) qx_int))
  (qs_cons (qs_if (qt_bool (qw_and (qt_cmp (qc_ne hr.units) (qx_ix (qx_cal C_added hr (by rfl) (qa_cons (qx_var 2) (qa_cons (qx_var 14) (qa_cons (qo_mod (qx_callTy (ct_int) (by rfl) Z.z_int (by decide +kernel) (qa_cons qx_int qa_nil)) (qx_var 3)) qa_nil)))) qx_int) (qx_var 11) (nomark _)) (qw_and1 (qt_cmp qc_gt (qx_var 2) qx_int (nomark _)))))
  (qs_one (qs_ret qx_bl))
  qs_nil)
  (qs_cons (qs_if (qt_cmp qc_lt (qx_var 2) qx_int (nomark _))
  (qs_cons (qs_set (i := 18) nd (qo_add (qo_add (qx_var 2) qx_int) (qx_cal C__law_take hr (by rfl) (qa_cons (qx_var 1) (qa_cons (qo_sub qx_int (qx_var 2)) qa_nil)))))
  (qs_cons (qs_set (i := 19) nd (qx_ix (qx_cal C_added hr (by rfl) (qa_cons (qx_var 18) (qa_cons (qx_cal C_widened hr (by rfl) (qa_cons (qx_var 2) (qa_cons (qx_var 4) (qa_cons (qx_var 18) qa_nil)))) (qa_cons (qx_cal C_widened hr (by rfl) (qa_cons (qx_var 2) (qa_cons (qx_var 5) (qa_cons (qx_var 18) qa_nil)))) qa_nil)))) qx_int))
  (qs_cons (qs_if (qt_bool (qw_or (qt_cmp (qc_ne hr.units) (qx_cal C_meaning hr (by rfl) (qa_cons (qx_var 18) (qa_cons (qx_var 19) qa_nil))) (qo_add (qx_cal C_meaning hr (by rfl) (qa_cons (qx_var 2) (qa_cons (qx_var 4) qa_nil))) (qx_cal C_meaning hr (by rfl) (qa_cons (qx_var 2) (qa_cons (qx_var 5) qa_nil)))) (nomark _)) (qw_or1 (qt_cmp (qc_ne hr.units) (qo_mod (qx_callTy (ct_int) (by rfl) Z.z_int (by decide +kernel) (qa_cons (qx_var 19) qa_nil)) (qx_var 3)) (qx_var 6) (nomark _)))))
  (qs_one (qs_ret qx_bl))
  qs_nil)
  (qs_one (qs_if (qt_bool (qw_and (qt_cmp qc_le (qx_var 2) qx_int (nomark _)) (qw_and1 (qt_cmp qc_isN (qx_cal C_code_of hr (by rfl) (qa_cons (qo_mul qx_int (qx_var 2)) (qa_cons (qx_ix (qx_cal C_by_digits hr (by rfl) (qa_cons (qx_var 2) (qa_cons (qx_var 4) (qa_cons (qx_var 5) qa_nil)))) qx_int) qa_nil))) qx_non (nomark _)))))
  (qs_one (qs_ret qx_bl))
  qs_nil)))))
  qs_nil)
  (qs_cons (qs_if (qt_bool (qw_or (qt_cmp (qc_ne hr.units) (qx_cal C_turned_bits hr (by rfl) (qa_cons (qx_var 2) (qa_cons (qx_cal C_turned_bits hr (by rfl) (qa_cons (qx_var 2) (qa_cons (qx_var 4) qa_nil))) qa_nil))) (qx_var 4) (nomark _)) (qw_or1 (qt_cmp (qc_ne hr.units) (qx_cal C_turned_bits hr (by rfl) (qa_cons (qx_var 2) (qa_cons (qx_var 4) qa_nil))) (qx_cal C_number_of hr (by rfl) (qa_cons (qx_rev (qx_cal C_bits_of hr (by rfl) (qa_cons (qx_var 4) (qa_cons (qx_var 2) qa_nil)))) qa_nil)) (nomark _)))))
  (qs_one (qs_ret qx_bl))
  qs_nil)
  (qs_cons (qs_pat (qg_tup rfl (qg_cons (qg_name (i := 15) nd) (qg_cons (qg_name (i := 16) nd) (qg_cons (qg_name (i := 17) nd) qg_nil)))) (qx_cal C_counts hr (by rfl) (qa_cons (qx_var 2) (qa_cons (qx_var 4) qa_nil))))
  (qs_one (qs_ret (qx_cal C__law_part1 hr (by rfl) (qa_cons (qx_var 1) (qa_cons (qx_var 2) (qa_cons (qx_var 3) (qa_cons (qx_var 4) (qa_cons (qx_var 5) (qa_cons (qx_var 15) (qa_cons (qx_var 16) (qa_cons (qx_var 17) qa_nil))))))))))))))))))))))))))))))
end K44
end

section
set_option Elab.async false
set_option linter.all false
set_option maxRecDepth 100000
set_option maxHeartbeats 0
namespace K44
open PySem PySem.Spec PyProof.Rows L2 QL
def dd_power_of : He.DefD := ⟨("power_of", none), "power_of", "power_of", defArgs s_power_of, defBody s_power_of, defScope s_power_of, [], []⟩
def dd_check : He.DefD := ⟨("check", none), "check", "check", defArgs s_check, defBody s_check, defScope s_check, [], []⟩
def dd_check_code : He.DefD := ⟨("check_code", none), "check_code", "check_code", defArgs s_check_code, defBody s_check_code, defScope s_check_code, [], []⟩
def dd_meaning : He.DefD := ⟨("meaning", none), "meaning", "meaning", defArgs s_meaning, defBody s_meaning, defScope s_meaning, [], []⟩
def dd_code_of : He.DefD := ⟨("code_of", none), "code_of", "code_of", defArgs s_code_of, defBody s_code_of, defScope s_code_of, [], []⟩
def dd_widened : He.DefD := ⟨("widened", none), "widened", "widened", defArgs s_widened, defBody s_widened, defScope s_widened, [], []⟩
def dd_added : He.DefD := ⟨("added", none), "added", "added", defArgs s_added, defBody s_added, defScope s_added, [], []⟩
def dd_taken_off : He.DefD := ⟨("taken_off", none), "taken_off", "taken_off", defArgs s_taken_off, defBody s_taken_off, defScope s_taken_off, [], []⟩
def dd_digits : He.DefD := ⟨("digits", none), "digits", "digits", defArgs s_digits, defBody s_digits, defScope s_digits, [], []⟩
def dd_sparse : He.DefD := ⟨("sparse", none), "sparse", "sparse", defArgs s_sparse, defBody s_sparse, defScope s_sparse, [], []⟩
def dd_from_digits : He.DefD := ⟨("from_digits", none), "from_digits", "from_digits", defArgs s_from_digits, defBody s_from_digits, defScope s_from_digits, [], []⟩
def dd_by_digits : He.DefD := ⟨("by_digits", none), "by_digits", "by_digits", defArgs s_by_digits, defBody s_by_digits, defScope s_by_digits, [], []⟩
def dd_divided : He.DefD := ⟨("divided", none), "divided", "divided", defArgs s_divided, defBody s_divided, defScope s_divided, [], []⟩
def dd_divided_both : He.DefD := ⟨("divided_both", none), "divided_both", "divided_both", defArgs s_divided_both, defBody s_divided_both, defScope s_divided_both, [], []⟩
def dd_saved : He.DefD := ⟨("saved", none), "saved", "saved", defArgs s_saved, defBody s_saved, defScope s_saved, [], []⟩
def dd_summed : He.DefD := ⟨("summed", none), "summed", "summed", defArgs s_summed, defBody s_summed, defScope s_summed, [], []⟩
def dd_root_of : He.DefD := ⟨("root_of", none), "root_of", "root_of", defArgs s_root_of, defBody s_root_of, defScope s_root_of, [], []⟩
def dd_turned_bits : He.DefD := ⟨("turned_bits", none), "turned_bits", "turned_bits", defArgs s_turned_bits, defBody s_turned_bits, defScope s_turned_bits, [], []⟩
def dd_counts : He.DefD := ⟨("counts", none), "counts", "counts", defArgs s_counts, defBody s_counts, defScope s_counts, [], []⟩
def dd_bits_of : He.DefD := ⟨("bits_of", none), "bits_of", "bits_of", defArgs s_bits_of, defBody s_bits_of, defScope s_bits_of, [], []⟩
def dd_number_of : He.DefD := ⟨("number_of", none), "number_of", "number_of", defArgs s_number_of, defBody s_number_of, defScope s_number_of, [], []⟩
def dd__law_begin : He.DefD := ⟨("_law_begin", none), "_law_begin", "_law_begin", defArgs s__law_begin, defBody s__law_begin, defScope s__law_begin, [], []⟩
def dd__law_take : He.DefD := ⟨("_law_take", none), "_law_take", "_law_take", defArgs s__law_take, defBody s__law_take, defScope s__law_take, [], []⟩
def dd__law_raise : He.DefD := ⟨("_law_raise", none), "_law_raise", "_law_raise", defArgs s__law_raise, defBody s__law_raise, defScope s__law_raise, [], []⟩
def dd__law_part1 : He.DefD := ⟨("_law_part1", none), "_law_part1", "_law_part1", defArgs s__law_part1, defBody s__law_part1, defScope s__law_part1, [], []⟩
def dd_law : He.DefD := ⟨("law", none), "law", "law", defArgs s_law, defBody s_law, defScope s_law, [], []⟩
def hfn : List He.DefD := [dd_power_of, dd_check, dd_check_code, dd_meaning, dd_code_of, dd_widened, dd_added, dd_taken_off, dd_digits, dd_sparse, dd_from_digits, dd_by_digits, dd_divided, dd_divided_both, dd_saved, dd_summed, dd_root_of, dd_turned_bits, dd_counts, dd_bits_of, dd_number_of, dd__law_begin, dd__law_take, dd__law_raise, dd__law_part1, dd_law]
def hfa : List He.Fa := [.glo "power_of", .glo "check", .glo "check_code", .glo "meaning", .glo "code_of", .glo "widened", .glo "added", .glo "taken_off", .glo "digits", .glo "sparse", .glo "from_digits", .glo "by_digits", .glo "divided", .glo "divided_both", .glo "saved", .glo "summed", .glo "root_of", .glo "turned_bits", .glo "counts", .glo "bits_of", .glo "number_of", .glo "_law_begin", .glo "_law_take", .glo "_law_raise", .glo "_law_part1", .glo "law", .free "abs", .free "all", .free "enumerate", .free "int", .free "len", .free "list", .free "max", .free "min", .free "range", .free "sum", .free "tuple", .int "MOST_BITS" 32]
abbrev R : PySem.W.OpenRow := PySem.W.OpenLaw.row PySem.Challenge.rw_machinehall_k44_whole_figures_and_their
abbrev hk : PySem.W.Hook := He.hookD 30 hfa hfn
def ob (s : PySem.W.SharedT) : He.AlD := He.obsDG 30 hfa hfn (HandSHeadRun.getT s)
theorem ob_eq (s : PySem.W.SharedT) : ob s = hk.obs s.abs := He.obsDG_eq (HandSHeadRun.getT_eq s)
def loose : List PySem.Str := ["power_of", "check", "check_code", "meaning", "code_of", "widened", "added", "taken_off", "digits", "sparse", "from_digits", "by_digits", "divided", "divided_both", "saved", "summed", "root_of", "turned_bits", "counts", "bits_of", "number_of", "_law_begin", "_law_take", "_law_raise", "_law_part1", "MachineError", "MOST_BITS"]
theorem run (w : World) : HandSHeadRun.RunEq R (PySem.W.view R.prog [31]) hk ob 4000 loose w := by
  intro os
  kernel_rfl
theorem facts {P : Program} {w : World} {K : PySem.W.Frag} {h : Heap} {mg : Str → Option Value} {f : Addr} (X : K.In h) (G : h.Ns mainGlobals mg) (hfa0 : mg ("law" : Str) = some (.ref f)) (c : He.SaysD hfa hfn K) :
    ∃ fd : FuncData, (∀ (s : Shared) (v : Value), BindsTo s fd ⟨[v], []⟩ [("script", v)]) ∧ ∀ base : Heap, K.In base → base.Ns mainGlobals mg → FnOk P w K mg base CX0 6 f fd ["script"] (spF K 1 fn_law) := by
  have Z : Bl mg := ⟨He.free_ok X G (c.fact 26 (f := .free "abs") rfl), He.free_ok X G (c.fact 27 (f := .free "all") rfl), He.free_ok X G (c.fact 28 (f := .free "enumerate") rfl), He.free_ok X G (c.fact 29 (f := .free "int") rfl), He.free_ok X G (c.fact 30 (f := .free "len") rfl), He.free_ok X G (c.fact 31 (f := .free "list") rfl), He.free_ok X G (c.fact 32 (f := .free "max") rfl), He.free_ok X G (c.fact 33 (f := .free "min") rfl), He.free_ok X G (c.fact 34 (f := .free "range") rfl), He.free_ok X G (c.fact 35 (f := .free "sum") rfl), He.free_ok X G (c.fact 36 (f := .free "tuple") rfl), He.int_ok X G (c.fact 37 (f := .int "MOST_BITS" 32) rfl)⟩
  have d_power_of : Df K mg "power_of" s_power_of := by
    obtain ⟨fd, F⟩ := c.def_ 0 (d := dd_power_of) rfl
    exact ⟨_, fd, F, He.glo_ok X G (c.fact 0 (f := .glo "power_of") rfl)⟩
  have d_check : Df K mg "check" s_check := by
    obtain ⟨fd, F⟩ := c.def_ 1 (d := dd_check) rfl
    exact ⟨_, fd, F, He.glo_ok X G (c.fact 1 (f := .glo "check") rfl)⟩
  have d_check_code : Df K mg "check_code" s_check_code := by
    obtain ⟨fd, F⟩ := c.def_ 2 (d := dd_check_code) rfl
    exact ⟨_, fd, F, He.glo_ok X G (c.fact 2 (f := .glo "check_code") rfl)⟩
  have d_meaning : Df K mg "meaning" s_meaning := by
    obtain ⟨fd, F⟩ := c.def_ 3 (d := dd_meaning) rfl
    exact ⟨_, fd, F, He.glo_ok X G (c.fact 3 (f := .glo "meaning") rfl)⟩
  have d_code_of : Df K mg "code_of" s_code_of := by
    obtain ⟨fd, F⟩ := c.def_ 4 (d := dd_code_of) rfl
    exact ⟨_, fd, F, He.glo_ok X G (c.fact 4 (f := .glo "code_of") rfl)⟩
  have d_widened : Df K mg "widened" s_widened := by
    obtain ⟨fd, F⟩ := c.def_ 5 (d := dd_widened) rfl
    exact ⟨_, fd, F, He.glo_ok X G (c.fact 5 (f := .glo "widened") rfl)⟩
  have d_added : Df K mg "added" s_added := by
    obtain ⟨fd, F⟩ := c.def_ 6 (d := dd_added) rfl
    exact ⟨_, fd, F, He.glo_ok X G (c.fact 6 (f := .glo "added") rfl)⟩
  have d_taken_off : Df K mg "taken_off" s_taken_off := by
    obtain ⟨fd, F⟩ := c.def_ 7 (d := dd_taken_off) rfl
    exact ⟨_, fd, F, He.glo_ok X G (c.fact 7 (f := .glo "taken_off") rfl)⟩
  have d_digits : Df K mg "digits" s_digits := by
    obtain ⟨fd, F⟩ := c.def_ 8 (d := dd_digits) rfl
    exact ⟨_, fd, F, He.glo_ok X G (c.fact 8 (f := .glo "digits") rfl)⟩
  have d_sparse : Df K mg "sparse" s_sparse := by
    obtain ⟨fd, F⟩ := c.def_ 9 (d := dd_sparse) rfl
    exact ⟨_, fd, F, He.glo_ok X G (c.fact 9 (f := .glo "sparse") rfl)⟩
  have d_from_digits : Df K mg "from_digits" s_from_digits := by
    obtain ⟨fd, F⟩ := c.def_ 10 (d := dd_from_digits) rfl
    exact ⟨_, fd, F, He.glo_ok X G (c.fact 10 (f := .glo "from_digits") rfl)⟩
  have d_by_digits : Df K mg "by_digits" s_by_digits := by
    obtain ⟨fd, F⟩ := c.def_ 11 (d := dd_by_digits) rfl
    exact ⟨_, fd, F, He.glo_ok X G (c.fact 11 (f := .glo "by_digits") rfl)⟩
  have d_divided : Df K mg "divided" s_divided := by
    obtain ⟨fd, F⟩ := c.def_ 12 (d := dd_divided) rfl
    exact ⟨_, fd, F, He.glo_ok X G (c.fact 12 (f := .glo "divided") rfl)⟩
  have d_divided_both : Df K mg "divided_both" s_divided_both := by
    obtain ⟨fd, F⟩ := c.def_ 13 (d := dd_divided_both) rfl
    exact ⟨_, fd, F, He.glo_ok X G (c.fact 13 (f := .glo "divided_both") rfl)⟩
  have d_saved : Df K mg "saved" s_saved := by
    obtain ⟨fd, F⟩ := c.def_ 14 (d := dd_saved) rfl
    exact ⟨_, fd, F, He.glo_ok X G (c.fact 14 (f := .glo "saved") rfl)⟩
  have d_summed : Df K mg "summed" s_summed := by
    obtain ⟨fd, F⟩ := c.def_ 15 (d := dd_summed) rfl
    exact ⟨_, fd, F, He.glo_ok X G (c.fact 15 (f := .glo "summed") rfl)⟩
  have d_root_of : Df K mg "root_of" s_root_of := by
    obtain ⟨fd, F⟩ := c.def_ 16 (d := dd_root_of) rfl
    exact ⟨_, fd, F, He.glo_ok X G (c.fact 16 (f := .glo "root_of") rfl)⟩
  have d_turned_bits : Df K mg "turned_bits" s_turned_bits := by
    obtain ⟨fd, F⟩ := c.def_ 17 (d := dd_turned_bits) rfl
    exact ⟨_, fd, F, He.glo_ok X G (c.fact 17 (f := .glo "turned_bits") rfl)⟩
  have d_counts : Df K mg "counts" s_counts := by
    obtain ⟨fd, F⟩ := c.def_ 18 (d := dd_counts) rfl
    exact ⟨_, fd, F, He.glo_ok X G (c.fact 18 (f := .glo "counts") rfl)⟩
  have d_bits_of : Df K mg "bits_of" s_bits_of := by
    obtain ⟨fd, F⟩ := c.def_ 19 (d := dd_bits_of) rfl
    exact ⟨_, fd, F, He.glo_ok X G (c.fact 19 (f := .glo "bits_of") rfl)⟩
  have d_number_of : Df K mg "number_of" s_number_of := by
    obtain ⟨fd, F⟩ := c.def_ 20 (d := dd_number_of) rfl
    exact ⟨_, fd, F, He.glo_ok X G (c.fact 20 (f := .glo "number_of") rfl)⟩
  have d__law_begin : Df K mg "_law_begin" s__law_begin := by
    obtain ⟨fd, F⟩ := c.def_ 21 (d := dd__law_begin) rfl
    exact ⟨_, fd, F, He.glo_ok X G (c.fact 21 (f := .glo "_law_begin") rfl)⟩
  have d__law_take : Df K mg "_law_take" s__law_take := by
    obtain ⟨fd, F⟩ := c.def_ 22 (d := dd__law_take) rfl
    exact ⟨_, fd, F, He.glo_ok X G (c.fact 22 (f := .glo "_law_take") rfl)⟩
  have d__law_raise : Df K mg "_law_raise" s__law_raise := by
    obtain ⟨fd, F⟩ := c.def_ 23 (d := dd__law_raise) rfl
    exact ⟨_, fd, F, He.glo_ok X G (c.fact 23 (f := .glo "_law_raise") rfl)⟩
  have d__law_part1 : Df K mg "_law_part1" s__law_part1 := by
    obtain ⟨fd, F⟩ := c.def_ 24 (d := dd__law_part1) rfl
    exact ⟨_, fd, F, He.glo_ok X G (c.fact 24 (f := .glo "_law_part1") rfl)⟩
  obtain ⟨fdL, FL⟩ := c.def_ 25 (d := dd_law) rfl
  have e := hfa0.symm.trans (He.glo_ok X G (c.fact 25 (f := .glo "law") rfl))
  cases e
  have b := FunD.bindsA (ps := ["script"]) FL fun _ _ _ _ _ _ us hl => match us, hl with | [_], _ => rfl
  refine ⟨fdL, fun s v => b s [v] rfl, fun base _ _ => ?_⟩
  have C_power_of : Cal P w K mg base "power_of" 1 1 fn_power_of := ok_power_of Z d_power_of 
  have C_check : Cal P w K mg base "check" 1 1 fn_check := ok_check Z d_check 
  have C_check_code : Cal P w K mg base "check_code" 2 2 fn_check_code := ok_check_code Z d_check_code (C_check.mono (by decide)) (C_power_of.mono (by decide))
  have C_meaning : Cal P w K mg base "meaning" 3 2 fn_meaning := ok_meaning Z d_meaning (C_check_code.mono (by decide)) (C_power_of.mono (by decide))
  have C_code_of : Cal P w K mg base "code_of" 2 2 fn_code_of := ok_code_of Z d_code_of (C_check.mono (by decide)) (C_power_of.mono (by decide))
  have C_widened : Cal P w K mg base "widened" 4 3 fn_widened := ok_widened Z d_widened (C_check_code.mono (by decide)) (C_meaning.mono (by decide)) (C_power_of.mono (by decide))
  have C_added : Cal P w K mg base "added" 4 3 fn_added := ok_added Z d_added (C_check_code.mono (by decide)) (C_power_of.mono (by decide)) (C_meaning.mono (by decide))
  have C_taken_off : Cal P w K mg base "taken_off" 4 3 fn_taken_off := ok_taken_off Z d_taken_off (C_check_code.mono (by decide)) (C_power_of.mono (by decide)) (C_meaning.mono (by decide))
  have C_digits : Cal P w K mg base "digits" 3 2 fn_digits := ok_digits Z d_digits (C_check_code.mono (by decide)) (C_power_of.mono (by decide))
  have C_sparse : Cal P w K mg base "sparse" 4 2 fn_sparse := ok_sparse Z d_sparse (C_meaning.mono (by decide))
  have C_from_digits : Cal P w K mg base "from_digits" 1 1 fn_from_digits := ok_from_digits Z d_from_digits 
  have C_by_digits : Cal P w K mg base "by_digits" 4 3 fn_by_digits := ok_by_digits Z d_by_digits (C_check_code.mono (by decide)) (C_digits.mono (by decide)) (C_meaning.mono (by decide)) (C_power_of.mono (by decide))
  have C_divided : Cal P w K mg base "divided" 3 3 fn_divided := ok_divided Z d_divided (C_check_code.mono (by decide)) (C_power_of.mono (by decide))
  have C_divided_both : Cal P w K mg base "divided_both" 3 3 fn_divided_both := ok_divided_both Z d_divided_both (C_check_code.mono (by decide)) (C_power_of.mono (by decide)) (C_from_digits.mono (by decide))
  have C_saved : Cal P w K mg base "saved" 1 1 fn_saved := ok_saved Z d_saved 
  have C_summed : Cal P w K mg base "summed" 2 1 fn_summed := ok_summed Z d_summed (C_saved.mono (by decide))
  have C_root_of : Cal P w K mg base "root_of" 1 1 fn_root_of := ok_root_of Z d_root_of 
  have C_turned_bits : Cal P w K mg base "turned_bits" 3 2 fn_turned_bits := ok_turned_bits Z d_turned_bits (C_check_code.mono (by decide)) (C_power_of.mono (by decide))
  have C_counts : Cal P w K mg base "counts" 3 2 fn_counts := ok_counts Z d_counts (C_check_code.mono (by decide)) (C_power_of.mono (by decide))
  have C_bits_of : Cal P w K mg base "bits_of" 1 2 fn_bits_of := ok_bits_of Z d_bits_of 
  have C_number_of : Cal P w K mg base "number_of" 1 1 fn_number_of := ok_number_of Z d_number_of 
  have C__law_begin : Cal P w K mg base "_law_begin" 1 1 fn__law_begin := ok__law_begin Z d__law_begin 
  have C__law_take : Cal P w K mg base "_law_take" 1 2 fn__law_take := ok__law_take Z d__law_take 
  have C__law_raise : Cal P w K mg base "_law_raise" 1 1 fn__law_raise := ok__law_raise Z d__law_raise 
  have C__law_part1 : Cal P w K mg base "_law_part1" 5 8 fn__law_part1 := ok__law_part1 Z d__law_part1 (C_counts.mono (by decide)) (C_turned_bits.mono (by decide)) (C__law_raise.mono (by decide)) (C_sparse.mono (by decide)) (C_from_digits.mono (by decide)) (C_meaning.mono (by decide)) (C_digits.mono (by decide)) (C_code_of.mono (by decide)) (C_divided.mono (by decide)) (C_divided_both.mono (by decide)) (C__law_take.mono (by decide)) (C_summed.mono (by decide)) (C_saved.mono (by decide)) (C_root_of.mono (by decide))
  exact law_fn Z FL (C__law_begin.mono (by decide)) (C__law_take.mono (by decide)) (C__law_raise.mono (by decide)) (C_added.mono (by decide)) (C_taken_off.mono (by decide)) (C_meaning.mono (by decide)) (C_widened.mono (by decide)) (C_code_of.mono (by decide)) (C_by_digits.mono (by decide)) (C_turned_bits.mono (by decide)) (C_number_of.mono (by decide)) (C_bits_of.mono (by decide)) (C_counts.mono (by decide)) (C__law_part1.mono (by decide))
end K44
end

section
set_option maxRecDepth 100000
open PySem PySem.W PySem.Calls PyProof.Rows
theorem PySem.Challenge.cw_machinehall_k44_whole_figures_and_their_holds : PySem.Challenge.rw_machinehall_k44_whole_figures_and_their.Holds := by
  w_on; o_law
  refine HandSHeadRun.head_any (r := OpenLaw.row PySem.Challenge.rw_machinehall_k44_whole_figures_and_their) (q := view (OpenLaw.row PySem.Challenge.rw_machinehall_k44_whole_figures_and_their).prog [31]) (H := K44.hk) (ob := K44.ob) (M := 4000) (loose := K44.loose) (d := HandSHeadRun.topDef (OpenLaw.row PySem.Challenge.rw_machinehall_k44_whole_figures_and_their).prog 31) (kwd := []) K44.ob_eq
    (by kernel_rfl) (fun s => by kernel_rfl) K44.run (by kernel_rfl) (by kernel_rfl) (by kernel_rfl) (by rfl) (by first | assumption | decide +kernel) (by decide +kernel) ⟨rfl, rfl, rfl, rfl, rfl, by decide +kernel⟩ ?hw ?hc
  case hw => w_witness2
  case hc =>
    refine L2.walk_ofE (l := PySem.Challenge.rw_machinehall_k44_whole_figures_and_their) (n := 63) (k := 6) (x := "script") (CX := L2.CX0) rfl (by decide) (by kernel_rfl) ⟨rfl, by decide, by decide⟩ ?F (fun _ _ _ _ z => z)
    intro w mg fa h Y G hmg0
    obtain ⟨K, KX, c⟩ := Y
    have hmg : mg ("law" : PySem.Str) = some (.ref fa) := by
      have e : (HandSHeadRun.topDef (OpenLaw.row PySem.Challenge.rw_machinehall_k44_whole_figures_and_their).prog 31).name = ("law" : PySem.Str) := by kernel_rfl
      rw [← e]
      exact hmg0
    obtain ⟨fd, hb, hF⟩ := K44.facts (P := (PySem.Challenge.rw_machinehall_k44_whole_figures_and_their).prog) (w := w) KX G hmg c
    exact ⟨K, fd, QL.spF K 1 K44.fn_law, KX, hb, fun H a ns hl hO hS => QL.law_sp K44.law_true H a ns hl hO hS, hF⟩
end
