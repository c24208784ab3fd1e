import PyProof.Rows.All
import Wide.All
import OpenK.AllK
import Wide.FinOn
import HandS.ForMost
import HandS.Walk
import HandS.TupAny
import HandS.Style
import HandS.HeadHook1
import KE.KDictKeyed
import HandS.Wide
import KE.KRevSl
import HandS.Iter
import KE.GoesMore
import HandS.Defaults
import HandS.Head0
import HandS.Head1
import HandS.Head2
import HandS.HeadEnd
import HandS.HeadHook2
import HandS.Deep
import HandS.Dict
import HandS.SortInts
import HandS.SortRule
import HandS.Keys
import HandS.More
import HandS.Conv
import HandS.SetFor
import HandS.DictComp
import HandS.TupMul
import HandS.Zip
import HandS.WideBits
import KE.SortData
import KE.DataMinMax
import KE.DataCmp
import HandS.SortOrd
import PyProof.Transfer
import PyProof.TupleOfSeq
import PySem.Challenge.RW_machinehall_k39_whole_deadlines_moved
section
set_option Elab.async false
set_option linter.all false
set_option maxRecDepth 100000
namespace QL
open PySem PySem.Spec PyProof.Rows L2

/-! ### pure data, mutable data, slots -/
inductive D where
  | non | bl (b : Bool) | int (i : Int) | str (s : Str) | tup (xs : List D)
/-- what an instance's field holds: data, a list of its own, a dict of its own -/
inductive F where
  | d (x : D) | l (xs : List D) | k (kvs : List (Key × D)) | t (kvs : List (D × D))
inductive M where
  | lst (xs : List D)
  | st (ns : List Int) (pos cur seed : Int)
  | dk (kvs : List (Key × D))
  | ins (c : Str) (fs : List (Str × F))
  | dt (kvs : List (D × D))
  | row (fs : List F)
/-- what a slot holds: data, an owned mutable thing, a locked (read only) one -/
inductive S where
  | d (x : D) | m (x : M) | lk (x : M)
abbrev Sl := L2.St
abbrev En := List (Option S)
inductive Arg where
  | slot (i : Nat) | val (s : S)
abbrev Fn1 (α : Type) := En → Option (α × En)

mutual
inductive RD (K : PySem.W.Frag) (H : Hp) : D → V → Prop
  | non : RD K H .non .non
  | bl (b : Bool) : RD K H (.bl b) (.bl b)
  | int (i : Int) : RD K H (.int i) (.int i)
  | str (s : Str) : RD K H (.str s) (.str s)
  | tup {a : Addr} {vs : List V} {ds : List D} : SqT K H a vs → RDs K H ds vs → RD K H (.tup ds) (.ref a)
inductive RDs (K : PySem.W.Frag) (H : Hp) : List D → List V → Prop
  | nil : RDs K H [] []
  | cons {x : D} {v : V} {ds : List D} {vs : List V} : RD K H x v → RDs K H ds vs → RDs K H (x :: ds) (v :: vs)
end
/-- tuples stay -/
def Pst (H H' : Hp) : Prop := ∀ a xs, Rd H a (.tup xs) → Rd H' a (.tup xs)
theorem Pst.seq {K : PySem.W.Frag} {H H' : Hp} {a : Addr} {xs : List V} (p : Pst H H') (h : SqT K H a xs) : SqT K H' a xs := by
  rcases h with h | h
  · exact .inl (p a xs h)
  · exact .inr h
mutual
theorem RD.pst {K : PySem.W.Frag} {H H' : Hp} (p : Pst H H') : ∀ {x : D} {v : V}, RD K H x v → RD K H' x v
  | _, _, .non => .non
  | _, _, .bl b => .bl b
  | _, _, .int i => .int i
  | _, _, .str s => .str s
  | _, _, .tup h hs => .tup (p.seq h) (RDs.pst p hs)
theorem RDs.pst {K : PySem.W.Frag} {H H' : Hp} (p : Pst H H') : ∀ {x : List D} {v : List V}, RDs K H x v → RDs K H' x v
  | _, _, .nil => .nil
  | _, _, .cons h hs => .cons (RD.pst p h) (RDs.pst p hs)
end
theorem RDs.length {K : PySem.W.Frag} {H : Hp} : ∀ {ds : List D} {vs : List V}, RDs K H ds vs → ds.length = vs.length
  | _, _, .nil => rfl
  | _, _, .cons _ t => by rw [List.length_cons, List.length_cons, RDs.length t]
theorem RDs.get {K : PySem.W.Frag} {H : Hp} : ∀ {ds : List D} {vs : List V} {i : Nat} {x : D}, RDs K H ds vs → ds[i]? = some x → ∃ v, vs[i]? = some v ∧ RD K H x v
  | _, _, _, _, .nil, e => by simp at e
  | _, _, 0, _, .cons r _, e => by simp at e; subst e; exact ⟨_, rfl, r⟩
  | _, _, i + 1, x, .cons _ t, e => by
    obtain ⟨u, h1, h2⟩ := RDs.get (i := i) (x := x) t (by simpa using e)
    exact ⟨u, by simpa using h1, h2⟩
theorem RDs.getV {K : PySem.W.Frag} {H : Hp} : ∀ {ds : List D} {vs : List V} {i : Nat} {v : V}, RDs K H ds vs → vs[i]? = some v → ∃ x, ds[i]? = some x ∧ RD K H x v
  | _, _, _, _, .nil, e => by simp at e
  | _, _, 0, _, .cons r _, e => by simp at e; subst e; exact ⟨_, rfl, r⟩
  | _, _, i + 1, x, .cons _ t, e => by
    obtain ⟨u, h1, h2⟩ := RDs.getV (i := i) (v := x) t (by simpa using e)
    exact ⟨u, by simpa using h1, h2⟩
theorem RDs.append {K : PySem.W.Frag} {H : Hp} : ∀ {xs ys : List D} {us ws : List V}, RDs K H xs us → RDs K H ys ws → RDs K H (xs ++ ys) (us ++ ws)
  | _, _, _, _, .nil, s => s
  | _, _, _, _, .cons r t, s => .cons r (RDs.append t s)
theorem RDs.take {K : PySem.W.Frag} {H : Hp} : ∀ {xs : List D} {us : List V} (n : Nat), RDs K H xs us → RDs K H (xs.take n) (us.take n)
  | _, _, 0, _ => .nil
  | _, _, _ + 1, .nil => .nil
  | _, _, n + 1, .cons r t => .cons r (RDs.take n t)
theorem RDs.drop {K : PySem.W.Frag} {H : Hp} : ∀ {xs : List D} {us : List V} (n : Nat), RDs K H xs us → RDs K H (xs.drop n) (us.drop n)
  | _, _, 0, r => r
  | _, _, _ + 1, .nil => .nil
  | _, _, n + 1, .cons _ t => RDs.drop n t
theorem RDs.reverse {K : PySem.W.Frag} {H : Hp} : ∀ {xs : List D} {us : List V}, RDs K H xs us → RDs K H xs.reverse us.reverse
  | _, _, .nil => .nil
  | _, _, .cons r t => by
    rw [List.reverse_cons, List.reverse_cons]
    exact RDs.append (RDs.reverse t) (.cons r .nil)
theorem RDs.set {K : PySem.W.Frag} {H : Hp} {x : D} {u : V} (r : RD K H x u) : ∀ {xs : List D} {us : List V} (i : Nat), RDs K H xs us → RDs K H (xs.set i x) (us.set i u)
  | _, _, _, .nil => .nil
  | _, _, 0, .cons _ t => .cons r t
  | _, _, i + 1, .cons q t => .cons q (RDs.set r i t)
theorem RDs.ints {K : PySem.W.Frag} {H : Hp} : ∀ (ns : List Int), RDs K H (ns.map D.int) (ns.map V.int)
  | [] => .nil
  | n :: ns => .cons (.int n) (RDs.ints ns)
theorem RDs.of_ints {K : PySem.W.Frag} {H : Hp} : ∀ {ns : List Int} {vs : List V}, RDs K H (ns.map D.int) vs → vs = ns.map V.int
  | [], _, .nil => rfl
  | n :: ns, _, .cons r t => by
    cases r
    rw [RDs.of_ints t]
    rfl

/-- a list that cannot be written: locked by an object, or of the module -/
def FzL (K : PySem.W.Frag) (H : Hp) (a : Addr) (vs : List V) : Prop := (∃ o, H a = some (.frz o (.lst vs))) ∨
    ∃ (o : Obj) (its : Array Value) (n : Nat), K.lookup a = some o ∧ o.cls = .type "list" ∧ o.dict = none ∧ o.data = .seq its n ∧ its.size ≤ sizeLine ∧ Vals vs its.toList
theorem FzL.sq {K : PySem.W.Frag} {H : Hp} {a : Addr} {vs : List V} (h : FzL K H a vs) : SqL K H a vs := by
  rcases h with h | h
  · exact .inl (.inr h)
  · exact .inr h

/-! ### dicts keyed by tuples of ints and None, of any nesting -/
mutual
def nh : NestedKey → Int
  | .none => reduceHash 0xFCA86420
  | .num i => hashInt i
  | .text _ => 0
  | .tup ks => reduceHash (Builtin.Tuple.tupleHashOf (nhs ks))
def nhs : List NestedKey → List Int
  | [] => []
  | k :: ks => nh k :: nhs ks
end
mutual
/-- the key that a datum is -/
def nk : D → Option NestedKey
  | .non => some .none
  | .int i => some (.num i)
  | .tup xs => match nks xs with
    | some ks => some (.tup ks)
    | none => none
  | _ => none
def nks : List D → Option (List NestedKey)
  | [] => some []
  | x :: xs => match nk x, nks xs with
    | some k, some ks => some (k :: ks)
    | _, _ => none
end
/-- a tuple, as a key -/
def tk (x : D) : Option NestedKey := match x with
  | .tup xs => (nk (.tup xs)).bind fun k => if k.depth ≤ 8 then some k else none
  | _ => none
/-- entries: the key, where it stands, the value -/
abbrev Ent := NestedKey × Addr × V
def entE (e : Ent) (u : Value) : DictEntry := ⟨nh e.1, .ref e.2.1, u⟩
def DE (a : Addr) (ents : List Ent) : HO := .ext fun h => ents.length ≤ sizeLine ∧ (a == sysModules) = false ∧ (ents.map (·.1)).Nodup ∧ ∃ us, Vals (ents.map fun e => e.2.2) us ∧
  ∃ o es ep, h.get? a = some o ∧ o.ExactDict ∧ o.data = .dict es ep ∧ es.toList = List.zipWith entE ents us
def RKD (K : PySem.W.Frag) (H : Hp) : List (D × D) → List Ent → Prop
  | [], [] => True
  | (x, y) :: kvs, (k, b, v) :: es => tk x = some k ∧ RD K H x (.ref b) ∧ RD K H y v ∧ RKD K H kvs es
  | _, _ => False
theorem RKD.pst {K : PySem.W.Frag} {H H' : Hp} (p : Pst H H') : ∀ {kvs : List (D × D)} {es : List Ent}, RKD K H kvs es → RKD K H' kvs es
  | [], [], h => h
  | (x, y) :: kvs, (k, b, v) :: es, ⟨h1, h2, h3, h4⟩ => ⟨h1, RD.pst p h2, RD.pst p h3, RKD.pst p h4⟩
  | [], _ :: _, h => h.elim
  | _ :: _, [], h => h.elim
/-- a dict's rows -/
def RKs (K : PySem.W.Frag) (H : Hp) (kvs : List (Key × D)) (ws : List (Key × V)) : Prop := ws.map (·.1) = kvs.map (·.1) ∧ RDs K H (kvs.map (·.2)) (ws.map (·.2))
def RF (K : PySem.W.Frag) (H : Hp) (x : F) (v : V) (bs : List Addr) : Prop := match x with
  | .d x => RD K H x v ∧ bs = []
  | .l xs => ∃ b vs, v = .ref b ∧ bs = [b] ∧ H b = some (.lst vs) ∧ RDs K H xs vs
  | .k kvs => ∃ b ws, v = .ref b ∧ bs = [b] ∧ H b = some (.dK ws) ∧ RKs K H kvs ws
  | .t kvs => ∃ b es, v = .ref b ∧ bs = [b] ∧ H b = some (DE b es) ∧ RKD K H kvs es
def RFs (K : PySem.W.Frag) (H : Hp) : List (Str × F) → List (Str × V) → List Addr → Prop
  | [], [], bs => bs = []
  | (x, f) :: fs, (y, v) :: vs, bs => x = y ∧ ∃ b1 b2, bs = b1 ++ b2 ∧ RF K H f v b1 ∧ RFs K H fs vs b2
  | _, _, _ => False
def RM (K : PySem.W.Frag) (H : Hp) (x : M) (v : V) (P : Addr → Prop) : Prop := match x with
  | .lst ds => ∃ a vs, v = .ref a ∧ P a ∧ H a = some (.lst vs) ∧ RDs K H ds vs
  | .st ns p c z => ∃ a b, v = .ref a ∧ P a ∧ P b ∧ H a = some (.lst [.ref b, .int p, .int c, .int z]) ∧ H b = some (.lst (ns.map V.int))
  | .dk kvs => ∃ a ws, v = .ref a ∧ P a ∧ H a = some (.dK ws) ∧ RKs K H kvs ws
  | .ins c fs => ∃ a dx fvs bs, v = .ref a ∧ P a ∧ H a = some (.ins (He.ga K c) dx fvs) ∧ RFs K H fs fvs bs ∧ (∀ b ∈ bs, P b) ∧ bs.Nodup
  | .dt kvs => ∃ a es, v = .ref a ∧ P a ∧ H a = some (DE a es) ∧ RKD K H kvs es
  | .row fs => ∃ a vs bs, v = .ref a ∧ SqT K H a vs ∧ RFs K H (fs.map fun f => (Str.empty, f)) (vs.map fun v => (Str.empty, v)) bs ∧ (∀ b ∈ bs, P b) ∧ bs.Nodup
theorem RKs.pst {K : PySem.W.Frag} {H H' : Hp} (p : Pst H H') {kvs : List (Key × D)} {ws : List (Key × V)} (h : RKs K H kvs ws) : RKs K H' kvs ws := ⟨h.1, RDs.pst p h.2⟩
theorem RF.move {K : PySem.W.Frag} {H H' : Hp} (p : Pst H H') {x : F} {v : V} {bs : List Addr} (h : RF K H x v bs) (k : ∀ b o, b ∈ bs → H b = some o → H' b = some o) : RF K H' x v bs := by
  cases x with
  | d x => exact ⟨RD.pst p h.1, h.2⟩
  | l xs =>
    obtain ⟨b, vs, e, rfl, hb, r⟩ := h
    exact ⟨b, vs, e, rfl, k b _ (by simp) hb, RDs.pst p r⟩
  | k kvs =>
    obtain ⟨b, ws, e, rfl, hb, r⟩ := h
    exact ⟨b, ws, e, rfl, k b _ (by simp) hb, r.pst p⟩
  | t kvs =>
    obtain ⟨b, ws, e, rfl, hb, r⟩ := h
    exact ⟨b, ws, e, rfl, k b _ (by simp) hb, r.pst p⟩
theorem RFs.move {K : PySem.W.Frag} {H H' : Hp} (p : Pst H H') : ∀ {fs : List (Str × F)} {fvs : List (Str × V)} {bs : List Addr}, RFs K H fs fvs bs → (∀ b o, b ∈ bs → H b = some o → H' b = some o) → RFs K H' fs fvs bs
  | [], [], _, h, _ => h
  | (x, f) :: fs, (y, v) :: vs, bs, h, k => by
    obtain ⟨e, b1, b2, rfl, r1, r2⟩ := h
    exact ⟨e, b1, b2, rfl, r1.move p fun b o hb => k b o (by simp [hb]), RFs.move p r2 fun b o hb => k b o (by simp [hb])⟩
  | [], _ :: _, _, h, _ => h.elim
  | _ :: _, [], _, h, _ => h.elim
/-- what stands at the addresses stays -/
theorem RM.move {K : PySem.W.Frag} {H H' : Hp} {P : Addr → Prop} (p : Pst H H') {x : M} {v : V} (h : RM K H x v P) (k : ∀ b o, P b → H b = some o → H' b = some o) : RM K H' x v P := by
  cases x with
  | lst ds =>
    obtain ⟨a, vs, e, pa, ha, r⟩ := h
    exact ⟨a, vs, e, pa, k a _ pa ha, RDs.pst p r⟩
  | st ns q c z =>
    obtain ⟨a, b, e, pa, pb, ha, hb⟩ := h
    exact ⟨a, b, e, pa, pb, k a _ pa ha, k b _ pb hb⟩
  | dk kvs =>
    obtain ⟨a, ws, e, pa, ha, r⟩ := h
    exact ⟨a, ws, e, pa, k a _ pa ha, r.pst p⟩
  | ins c fs =>
    obtain ⟨a, dx, fvs, bs, e, pa, ha, r, pb, n⟩ := h
    exact ⟨a, dx, fvs, bs, e, pa, k a _ pa ha, r.move p fun b o hb => k b o (pb b hb), pb, n⟩
  | dt kvs =>
    obtain ⟨a, ws, e, pa, ha, r⟩ := h
    exact ⟨a, ws, e, pa, k a _ pa ha, r.pst p⟩
  | row fs =>
    obtain ⟨a, vs, bs, e, ha, r, pb, n⟩ := h
    exact ⟨a, vs, bs, e, p.seq ha, r.move p fun b o hb => k b o (pb b hb), pb, n⟩
theorem RM.imp {K : PySem.W.Frag} {H : Hp} {P P' : Addr → Prop} {x : M} {v : V} (h : RM K H x v P) (hP : ∀ b, P b → P' b) : RM K H x v P' := by
  cases x with
  | lst ds =>
    obtain ⟨a, vs, e, pa, r⟩ := h
    exact ⟨a, vs, e, hP _ pa, r⟩
  | st ns q c z =>
    obtain ⟨a, b, e, pa, pb, r⟩ := h
    exact ⟨a, b, e, hP _ pa, hP _ pb, r⟩
  | dk kvs =>
    obtain ⟨a, ws, e, pa, r⟩ := h
    exact ⟨a, ws, e, hP _ pa, r⟩
  | ins c fs =>
    obtain ⟨a, dx, fvs, bs, e, pa, ha, r, pb, n⟩ := h
    exact ⟨a, dx, fvs, bs, e, hP _ pa, ha, r, fun b hb => hP b (pb b hb), n⟩
  | dt kvs =>
    obtain ⟨a, ws, e, pa, r⟩ := h
    exact ⟨a, ws, e, hP _ pa, r⟩
  | row fs =>
    obtain ⟨a, vs, bs, e, ha, r, pb, n⟩ := h
    exact ⟨a, vs, bs, e, ha, r, fun b hb => hP b (pb b hb), n⟩
/-- a field of a locked instance -/
def RFL (K : PySem.W.Frag) (H : Hp) (x : F) (v : V) : Prop := match x with
  | .d x => RD K H x v
  | .l xs => ∃ b vs o, v = .ref b ∧ H b = some (.frz o (.lst vs)) ∧ RDs K H xs vs
  | .k kvs => ∃ b ws o, v = .ref b ∧ H b = some (.frz o (.dK ws)) ∧ RKs K H kvs ws
  | .t kvs => ∃ b es o, v = .ref b ∧ H b = some (.frz o (DE b es)) ∧ RKD K H kvs es
def RFLs (K : PySem.W.Frag) (H : Hp) : List (Str × F) → List (Str × V) → Prop
  | [], [] => True
  | (x, f) :: fs, (y, v) :: vs => x = y ∧ RFL K H f v ∧ RFLs K H fs vs
  | _, _ => False
def RL (K : PySem.W.Frag) (H : Hp) (x : M) (v : V) : Prop := match x with
  | .lst ds => ∃ a vs, v = .ref a ∧ FzL K H a vs ∧ RDs K H ds vs
  | .dk kvs => ∃ a ws o, v = .ref a ∧ H a = some (.frz o (.dK ws)) ∧ RKs K H kvs ws
  | .ins c fs => ∃ a dx fvs o, v = .ref a ∧ H a = some (.frz o (.ins (He.ga K c) dx fvs)) ∧ RFLs K H fs fvs
  | .dt kvs => ∃ a es o, v = .ref a ∧ H a = some (.frz o (DE a es)) ∧ RKD K H kvs es
  | _ => False
theorem RFL.move {K : PySem.W.Frag} {H H' : Hp} (p : Pst H H') {x : F} {v : V} (h : RFL K H x v) (k : ∀ b o u, H b = some (.frz o u) → H' b = some (.frz o u)) : RFL K H' x v := by
  cases x with
  | d x => exact RD.pst p h
  | l xs =>
    obtain ⟨b, vs, o, e, hb, r⟩ := h
    exact ⟨b, vs, o, e, k b o _ hb, RDs.pst p r⟩
  | k kvs =>
    obtain ⟨b, ws, o, e, hb, r⟩ := h
    exact ⟨b, ws, o, e, k b o _ hb, r.pst p⟩
  | t kvs =>
    obtain ⟨b, ws, o, e, hb, r⟩ := h
    exact ⟨b, ws, o, e, k b o _ hb, r.pst p⟩
theorem RFLs.move {K : PySem.W.Frag} {H H' : Hp} (p : Pst H H') (k : ∀ b o u, H b = some (.frz o u) → H' b = some (.frz o u)) : ∀ {fs : List (Str × F)} {fvs : List (Str × V)}, RFLs K H fs fvs → RFLs K H' fs fvs
  | [], [], h => h
  | (x, f) :: fs, (y, v) :: vs, h => ⟨h.1, h.2.1.move p k, RFLs.move p k h.2.2⟩
  | [], _ :: _, h => h.elim
  | _ :: _, [], h => h.elim
theorem RL.move {K : PySem.W.Frag} {H H' : Hp} (p : Pst H H') {x : M} {v : V} (h : RL K H x v) (k : ∀ b o u, H b = some (.frz o u) → H' b = some (.frz o u)) : RL K H' x v := by
  cases x with
  | lst ds =>
    obtain ⟨a, vs, e, ha, r⟩ := h
    refine ⟨a, vs, e, ?_, RDs.pst p r⟩
    rcases ha with ⟨o, ha⟩ | ha
    · exact .inl ⟨o, k a o _ ha⟩
    · exact .inr ha
  | st ns q c z => exact h
  | dk kvs =>
    obtain ⟨a, ws, o, e, ha, r⟩ := h
    exact ⟨a, ws, o, e, k a o _ ha, r.pst p⟩
  | ins c fs =>
    obtain ⟨a, dx, fvs, o, e, ha, r⟩ := h
    exact ⟨a, dx, fvs, o, e, k a o _ ha, r.move p k⟩
  | dt kvs =>
    obtain ⟨a, ws, o, e, ha, r⟩ := h
    exact ⟨a, ws, o, e, k a o _ ha, r.pst p⟩
  | row fs => exact h
def RS (K : PySem.W.Frag) (H : Hp) (s : S) (v : V) (P : Addr → Prop) : Prop := match s with
  | .d x => RD K H x v
  | .m x => RM K H x v P
  | .lk x => RL K H x v

abbrev Ow := Nat → Addr → Prop
def Own (W : Ow) (b : Addr) : Prop := ∃ i, W i b
structure RE (K : PySem.W.Frag) (H : Hp) (σ : Sl) (env : En) (W : Ow) : Prop where
  slots : ∀ (i : Nat) (s : S), env[i]? = some (some s) → ∃ v, σ[i]? = some (some v) ∧ RS K H s v (W i)
  apart : ∀ i j b, W i b → W j b → i = j
  mu : ∀ i b, W i b → Mut (H b)
  len : env.length = σ.length

structure Tr (W : Ow) (H : Hp) (W' : Ow) (H' : Hp) (F : Addr → Prop) : Prop where
  frame : ∀ b o, H b = some o → ¬ Own W b → H' b = some o
  dom : ∀ b, H b ≠ none → H' b ≠ none
  out : ∀ b, H b ≠ none → ¬ Own W b → ¬ Own W' b ∧ ¬ F b
def Tm (W : Ow) (H : Hp) (F : Addr → Prop) : Prop := ∀ b, F b → ¬ Own W b ∧ Mut (H b)
abbrev F0 : Addr → Prop := fun _ => False
theorem Tm.zero {W : Ow} {H : Hp} : Tm W H F0 := fun _ h => h.elim
theorem mut_some {H : Hp} {b : Addr} (h : Mut (H b)) : H b ≠ none := fun e => by rw [e] at h; exact h
theorem Tr.refl {W : Ow} {H : Hp} : Tr W H W H F0 := ⟨fun _ _ h _ => h, fun _ h => h, fun _ _ h => ⟨h, fun z => z⟩⟩
theorem Tr.trans {W W1 W2 : Ow} {H H1 H2 : Hp} {F1 F2 : Addr → Prop} (a : Tr W H W1 H1 F1) (b : Tr W1 H1 W2 H2 F2) : Tr W H W2 H2 (fun x => F1 x ∨ F2 x) where
  frame := fun c o e n => b.frame c o (a.frame c o e n) (a.out c (by rw [e]; simp) n).1
  dom := fun c e => b.dom c (a.dom c e)
  out := fun c e n => by
    have h1 := a.out c e n
    have h2 := b.out c (a.dom c e) h1.1
    exact ⟨h2.1, fun z => z.elim h1.2 h2.2⟩
theorem Tr.less {W W' : Ow} {H H' : Hp} {F G : Addr → Prop} (a : Tr W H W' H' F) (h : ∀ b, G b → F b) : Tr W H W' H' G :=
  ⟨a.frame, a.dom, fun b e n => ⟨(a.out b e n).1, fun z => (a.out b e n).2 (h b z)⟩⟩
theorem Tr.trans0 {W W1 W2 : Ow} {H H1 H2 : Hp} {F1 F2 : Addr → Prop} (a : Tr W H W1 H1 F1) (b : Tr W1 H1 W2 H2 F2) : Tr W H W2 H2 F2 := (a.trans b).less fun _ h => .inr h
theorem Tr.left {W W1 W2 : Ow} {H H1 H2 : Hp} {F1 F2 : Addr → Prop} (a : Tr W H W1 H1 F1) (b : Tr W1 H1 W2 H2 F2) : Tr W H W2 H2 F1 := (a.trans b).less fun _ h => .inl h
theorem RE.fresh {K : PySem.W.Frag} {H : Hp} {σ : Sl} {env : En} {W : Ow} (r : RE K H σ env W) {b : Addr} (h : H b = none) : ¬ Own W b := fun ⟨i, z⟩ => mut_some (r.mu i b z) h
/-- what is locked, a tuple: not owned -/
theorem RE.nomut {K : PySem.W.Frag} {H : Hp} {σ : Sl} {env : En} {W : Ow} (r : RE K H σ env W) {b : Addr} {o : HO} (h : H b = some o) (n : ¬ Mut (some o)) : ¬ Own W b := fun ⟨i, z⟩ => by
  have := r.mu i b z
  rw [h] at this
  exact n this
theorem RE.pst {K : PySem.W.Frag} {H H' : Hp} {σ : Sl} {env : En} {W W' : Ow} {F : Addr → Prop} (r : RE K H σ env W) (t : Tr W H W' H' F) : Pst H H' := fun a xs h => by
  rcases h with h | ⟨o, h⟩
  · exact .inl (t.frame a _ h (r.nomut h fun z => z))
  · exact .inr ⟨o, t.frame a _ h (r.nomut h fun z => z)⟩
/-- a value that nobody of the slots owns stays -/
theorem RS.keep {K : PySem.W.Frag} {H H' : Hp} {W W' : Ow} {F P : Addr → Prop} (pm : ∀ i b, W i b → Mut (H b)) (t : Tr W H W' H' F) {s : S} {v : V} (h : RS K H s v P) (hP : ∀ b, P b → ¬ Own W b) : RS K H' s v P := by
  have nm : ∀ {b : Addr} {o : HO}, H b = some o → ¬ Mut (some o) → ¬ Own W b := fun {b o} h n ⟨i, z⟩ => by
    have := pm i b z
    rw [h] at this
    exact n this
  have p : Pst H H' := fun a xs h => by
    rcases h with h | ⟨o, h⟩
    · exact .inl (t.frame a _ h (nm h fun z => z))
    · exact .inr ⟨o, t.frame a _ h (nm h fun z => z)⟩
  cases s with
  | d x => exact RD.pst p h
  | m x => exact RM.move p h fun b o pb hb => t.frame b o hb (hP b pb)
  | lk x => exact RL.move p h fun b o u hb => t.frame b _ hb (nm hb fun z => z)
/-- with all objects kept -/
theorem RS.same {K : PySem.W.Frag} {H H' : Hp} {P : Addr → Prop} (t : Same H H') {s : S} {v : V} (h : RS K H s v P) : RS K H' s v P := by
  refine RS.keep (W := fun _ _ => False) (W' := fun _ _ => False) (F := F0) (fun _ _ z => z.elim) ⟨fun b o e _ => t b o e, fun b e => ?_, fun b _ _ => ⟨fun ⟨_, z⟩ => z, fun z => z⟩⟩ h fun b _ ⟨_, z⟩ => z
  cases q : H b with
  | none => exact absurd q e
  | some o => rw [t b o q]; simp
theorem RS.imp {K : PySem.W.Frag} {H : Hp} {P P' : Addr → Prop} {s : S} {v : V} (h : RS K H s v P) (hP : ∀ b, P b → P' b) : RS K H s v P' := by
  cases s with
  | d x => exact h
  | m x => exact RM.imp h hP
  | lk x => exact h
theorem RE.same {K : PySem.W.Frag} {H H' : Hp} {σ : Sl} {env : En} {W : Ow} (r : RE K H σ env W) (t : Same H H') : RE K H' σ env W :=
  ⟨fun i s e => let ⟨v, h1, h2⟩ := r.slots i s e; ⟨v, h1, h2.same t⟩, r.apart, fun i b z => by
    have := r.mu i b z
    cases q : H b with
    | none => rw [q] at this; exact this.elim
    | some o => rw [t b o q]; rw [q] at this; exact this, r.len⟩
theorem Tr.same {W : Ow} {H H' : Hp} {F : Addr → Prop} (t : Same H H') (hF : ∀ b, F b → H b = none) : Tr W H W H' F :=
  ⟨fun b o e _ => t b o e, fun b e => by
    cases q : H b with
    | none => exact absurd q e
    | some o => rw [t b o q]; simp, fun b e n => ⟨n, fun z => e (hF b z)⟩⟩

/-! ### arguments -/
def Arg.get (a : Arg) (env : En) : Option S := match a with
  | .slot i => (env[i]?).join
  | .val s => some s
def RA (K : PySem.W.Frag) (H : Hp) (σ : Sl) (a : Arg) (v : V) (F : Addr → Prop) : Prop := match a with
  | .slot i => σ[i]? = some (some v)
  | .val s => RS K H s v F
theorem join_some {α : Type} {x : Option (Option α)} {s : α} (h : x.join = some s) : x = some (some s) := by
  cases x with
  | none => cases h
  | some y => exact congrArg some h
/-- what an argument is worth: P, what it leans on -/
theorem RA.read {K : PySem.W.Frag} {H : Hp} {σ : Sl} {env : En} {W : Ow} {a : Arg} {v : V} {F : Addr → Prop} {s : S} (r : RE K H σ env W) (h : RA K H σ a v F) (e : a.get env = some s) :
    ∃ P, RS K H s v P := by
  cases a with
  | slot i =>
    obtain ⟨w, h1, h2⟩ := r.slots i s (join_some e)
    have h' : σ[i]? = some (some v) := h
    rw [h1] at h'
    cases h'
    exact ⟨_, h2⟩
  | val t =>
    cases e
    exact ⟨_, h⟩
theorem RA.keep {K : PySem.W.Frag} {H H' : Hp} {W W' : Ow} {F G : Addr → Prop} {σ : Sl} (pm : ∀ i b, W i b → Mut (H b)) (t : Tr W H W' H' G) {a : Arg} {v : V} (h : RA K H σ a v F) (hP : Tm W H F) : RA K H' σ a v F := by
  cases a with
  | slot i => exact h
  | val s => exact RS.keep pm t h fun b z => (hP b z).1
theorem Tm.keep {H H' : Hp} {W W' : Ow} {F G : Addr → Prop} (t : Tr W H W' H' G) (hP : Tm W H F) : Tm W' H' F := fun b z => by
  obtain ⟨n, mu⟩ := hP b z
  have hs := mut_some mu
  refine ⟨(t.out b hs n).1, ?_⟩
  cases q : H b with
  | none => exact absurd q hs
  | some o => rw [t.frame b o q n]; rw [q] at mu; exact mu

/-! ### expressions -/
def tE (K : PySem.W.Frag) (f : Fn1 Arg) : TE := fun σ H Q => ∃ env W a env', RE K H σ env W ∧ f env = some (a, env') ∧
  ∀ v H' W' F, RE K H' σ env' W' → RA K H' σ a v F → Tm W' H' F → Tr W H W' H' F → Q v H'
abbrev PX (X : Cx) (e : Expr) (f : Fn1 Arg) : Prop := PE X e (tE X.K f)
theorem PE.imp {X : Cx} {e : Expr} {t t' : TE} (h : PE X e t) (i : ∀ σ H Q, t' σ H Q → t σ H Q) : PE X e t' := ⟨fun pins s σ H Q I q => h.run pins s σ H Q I (i σ H Q q)⟩

def fC (x : D) : Fn1 Arg := fun env => some (.val (.d x), env)
def fVar (i : Nat) : Fn1 Arg := fun env => match env[i]? with
  | some (some _) => some (.slot i, env)
  | _ => none
section
variable {X : Cx}
theorem tE_C {K : PySem.W.Frag} {x : D} {v : V} {σ : Sl} {H : Hp} {Q : VK} (hv : ∀ H, RD K H x v) (h : tE K (fC x) σ H Q) : Q v H := by
  obtain ⟨env, W, a, env', r, e, k⟩ := h
  cases e
  exact k v H W F0 r (hv H) Tm.zero Tr.refl
theorem qx_int {n : Int} {k pos} : PX X (.Constant (.int n) k pos) (fC (.int n)) := PE.imp pe_int fun σ H Q h => tE_C (fun H => .int n) h
theorem qx_str {z : String} {k pos} : PX X (.Constant (.str z) k pos) (fC (.str (Str.ofString z))) := PE.imp pe_str fun σ H Q h => tE_C (fun H => .str _) h
theorem qx_var (i : Nat) {x : Str} {pos : Pos} (hN : X.N[i]? = some x := by rfl) (hv : Vis X.env.scope x := by first | exact Or.inl rfl | exact Or.inr (Or.inl rfl) | exact Or.inr (Or.inr rfl)) (hd : (x == ("__debug__" : Str)) = false := by decide)
    (hcd : (x == ("__classdict__" : Str)) = false := by decide) : PX X (.Name x pos) (fVar i) := PE.imp (pe_var hN hv hd hcd) fun σ H Q h => by
  obtain ⟨env, W, a, env', r, e, k⟩ := h
  unfold fVar at e
  split at e
  · rename_i s hs
    cases e
    obtain ⟨v, h1, h2⟩ := r.slots i s hs
    exact ⟨v, h1, k v H W F0 r h1 Tm.zero Tr.refl⟩
  · cases e
end
end QL
end

section
set_option Elab.async false
set_option linter.all false
set_option maxRecDepth 100000
namespace QL
open PySem PySem.Spec PyProof.Rows L2

/-! ### sequences of parts -/
def bnd {α β : Type} (x : Option (α × En)) (k : α → En → Option (β × En)) : Option (β × En) := match x with
  | some p => k p.1 p.2
  | none => none
@[simp] theorem bnd_some {α β : Type} {a : α} {e : En} {k : α → En → Option (β × En)} : bnd (some (a, e)) k = k a e := rfl
@[simp] theorem bnd_none {α β : Type} {k : α → En → Option (β × En)} : bnd (none : Option (α × En)) k = none := rfl
theorem bnd_eq {α β : Type} {x : Option (α × En)} {k : α → En → Option (β × En)} {r : β × En} (h : bnd x k = some r) : ∃ a e, x = some (a, e) ∧ k a e = some r := by
  cases x with
  | none => cases h
  | some p => exact ⟨p.1, p.2, rfl, h⟩
/-- hand back a value -/
def ret (z : Option S) (e : En) : Option (Arg × En) := match z with
  | some s => some (.val s, e)
  | none => none
@[simp] theorem ret_some {s : S} {e : En} : ret (some s) e = some (.val s, e) := rfl
theorem ret_eq {z : Option S} {e : En} {r : Arg × En} (h : ret z e = some r) : ∃ s, z = some s ∧ r = (.val s, e) := by
  cases z with
  | none => cases h
  | some s => cases h; exact ⟨s, rfl, rfl⟩
@[simp] theorem get_val {s : S} {e : En} : (Arg.val s).get e = some s := rfl
@[simp] theorem get_slot {i : Nat} {e : En} : (Arg.slot i).get e = (e[i]?).join := rfl

/-! ### operations by values -/
def Rd1 (K : PySem.W.Frag) (H : Hp) (s : S) (v : V) : Prop := ∃ P, RS K H s v P
/-- the end of an operation that makes s and changes nothing -/
def Fin (K : PySem.W.Frag) (H : Hp) (s : S) (Q : VK) : Prop := ∀ v H' F, Same H H' → (∀ b, F b → H b = none ∧ Mut (H' b)) → RS K H' s v F → Q v H'
section
variable {K : PySem.W.Frag} {H : Hp} {s : S} {Q : VK}
theorem Fin.imm {x : D} {v : V} (f : Fin K H (.d x) Q) (r : RD K H x v) : Q v H := f v H F0 (Same.refl H) (fun _ z => z.elim) r
theorem Fin.bl {b : Bool} (f : Fin K H (.d (.bl b)) Q) : Q (.bl b) H := f.imm (.bl b)
theorem Fin.int {i : Int} (f : Fin K H (.d (.int i)) Q) : Q (.int i) H := f.imm (.int i)
theorem Fin.str {i : Str} (f : Fin K H (.d (.str i)) Q) : Q (.str i) H := f.imm (.str i)
theorem same_new {p : Addr} {o : HO} (h : H p = none) : Same H (upd H p o) := fun b x e => by
  rw [upd_ne (ne_of_none e h)]
  exact e
theorem Same.pst {H H' : Hp} (t : Same H H') : Pst H H' := fun a xs h => by
  rcases h with h | ⟨o, h⟩
  · exact .inl (t a _ h)
  · exact .inr ⟨o, t a _ h⟩
theorem Fin.tup {ds : List D} {vs : List V} (f : Fin K H (.d (.tup ds)) Q) (r : RDs K H ds vs) {p : Addr} (h : H p = none) : Q (.ref p) (upd H p (.tup vs)) :=
  f (.ref p) _ F0 (same_new h) (fun _ z => z.elim) (.tup (SqT.of upd_same) (RDs.pst (Same.pst (same_new h)) r))
theorem Fin.lst {ds : List D} {vs : List V} (f : Fin K H (.m (.lst ds)) Q) (r : RDs K H ds vs) {p : Addr} (h : H p = none) : Q (.ref p) (upd H p (.lst vs)) :=
  f (.ref p) _ (fun b => b = p) (same_new h) (fun b z => by subst z; rw [upd_same]; exact ⟨h, trivial⟩) ⟨p, vs, rfl, rfl, upd_same, RDs.pst (Same.pst (same_new h)) r⟩
end
def Op2 (K : PySem.W.Frag) (r : R2) (o : S → S → Option S) : Prop := ∀ H x y sx sy s Q, o sx sy = some s → Rd1 K H sx x → Rd1 K H sy y → Fin K H s Q → r x y H Q
def Op1 (K : PySem.W.Frag) (r : V → Hp → VK → Prop) (o : S → Option S) : Prop := ∀ H x sx s Q, o sx = some s → Rd1 K H sx x → Fin K H s Q → r x H Q

/-- an operation's end within an expression -/
theorem fin_of {K : PySem.W.Frag} {H H2 : Hp} {σ : Sl} {env2 : En} {W W2 : Ow} {s : S} {Q : VK} {G : Addr → Prop} (r2 : RE K H2 σ env2 W2) (t : Tr W H W2 H2 G)
    (k : ∀ v H' W' F, RE K H' σ env2 W' → RA K H' σ (.val s) v F → Tm W' H' F → Tr W H W' H' F → Q v H') : Fin K H2 s Q := fun v H3 F sm hF rs =>
  k v H3 W2 F (r2.same sm) rs (fun b z => ⟨r2.fresh (hF b z).1, (hF b z).2⟩) (t.trans0 (Tr.same sm fun b z => (hF b z).1))

def op2 (o : S → S → Option S) (x y : Option S) : Option S := match x, y with
  | some x, some y => o x y
  | _, _ => none
@[simp] theorem op2_some {o : S → S → Option S} {x y : S} : op2 o (some x) (some y) = o x y := rfl
theorem op2_eq {o : S → S → Option S} {x y : Option S} {z : S} (h : op2 o x y = some z) : ∃ a b, x = some a ∧ y = some b ∧ o a b = some z := by
  unfold op2 at h
  split at h
  · exact ⟨_, _, rfl, rfl, h⟩
  · cases h
def fBin2 (o : S → S → Option S) (a b : Arg) (e : En) : Option (Arg × En) := ret (op2 o (a.get e) (b.get e)) e
def fBin1 (o : S → S → Option S) (fb : Fn1 Arg) (a : Arg) (e : En) : Option (Arg × En) := bnd (fb e) (fBin2 o a)
def fBin (o : S → S → Option S) (fa fb : Fn1 Arg) : Fn1 Arg := fun e => bnd (fa e) (fBin1 o fb)

/-- two parts, then an end R -/
theorem two_parts {K : PySem.W.Frag} {σ : Sl} {H : Hp} {env env1 env2 : En} {W : Ow} {fa fb : Fn1 Arg} {a b : Arg} {R : V → V → Hp → Prop} (r : RE K H σ env W) (ea : fa env = some (a, env1)) (eb : fb env1 = some (b, env2))
    (k : ∀ x y H2 W2 Fa Fb, RE K H2 σ env2 W2 → RA K H2 σ a x Fa → RA K H2 σ b y Fb → Tm W2 H2 Fa → Tm W2 H2 Fb → (∀ c, Fa c → ¬ Fb c) → Tr W H W2 H2 (fun c => Fa c ∨ Fb c) → R x y H2) :
    tE K fa σ H fun x H1 => tE K fb σ H1 fun y H2 => R x y H2 :=
  ⟨env, W, a, env1, r, ea, fun x H1 W1 Fa r1 ra tma t1 => ⟨env1, W1, b, env2, r1, eb, fun y H2 W2 Fb r2 rb tmb t2 =>
    k x y H2 W2 Fa Fb r2 (ra.keep r1.mu t2 tma) rb (Tm.keep t2 tma) tmb (fun c z => (t2.out c (mut_some (tma c z).2) (tma c z).1).2) (t1.trans t2)⟩⟩
section
variable {X : Cx} {a b c : Expr} {fa fb fc : Fn1 Arg} {pos : Pos}
theorem bin_read {r : R2} {o : S → S → Option S} {K : PySem.W.Frag} (hr : Op2 K r o) {σ : Sl} {H : Hp} {Q : VK} (h : tE K (fBin o fa fb) σ H Q) : tOp r (tE K fa) (tE K fb) σ H Q := by
  obtain ⟨env, W, z, env2, re, e, k⟩ := h
  obtain ⟨a, env1, ea, e⟩ := bnd_eq e
  obtain ⟨b, env2', eb, e⟩ := bnd_eq e
  obtain ⟨s, eq1, er⟩ := ret_eq e
  cases er
  obtain ⟨sx, sy, e1, e2, eo⟩ := op2_eq eq1
  refine two_parts re ea eb fun x y H2 W2 Fa Fb r2 ra rb _ _ _ t => ?_
  exact hr H2 x y sx sy s Q eo (ra.read r2 e1) (rb.read r2 e2) (fin_of r2 t k)
theorem qx_bin {op : Operator} {r : R2} {o : S → S → Option S} (ho : OpR X (binaryOp op) r) (hr : Op2 X.K r o) (ha : PX X a fa) (hb : PX X b fb) : PX X (.BinOp a op b pos) (fBin o fa fb) :=
  PE.imp (pe_op ho ha hb) fun σ H Q h => bin_read hr h
theorem qx_cmp {op : CmpOp} {r : R2} {o : S → S → Option S} (ho : OpR X (compareOp op) r) (hr : Op2 X.K r o) (ha : PX X a fa) (hb : PX X b fb) (hm : behindInMarks op b = false) : PX X (.Compare a [op] [b] pos) (fBin o fa fb) :=
  PE.imp (pe_cmpR ho ha hb hm) fun σ H Q h => bin_read hr h

/-! unary -/
def op1 (o : S → Option S) (x : Option S) : Option S := match x with
  | some x => o x
  | none => none
@[simp] theorem op1_some {o : S → Option S} {x : S} : op1 o (some x) = o x := rfl
theorem op1_eq {o : S → Option S} {x : Option S} {z : S} (h : op1 o x = some z) : ∃ a, x = some a ∧ o a = some z := by
  cases x with
  | none => cases h
  | some a => exact ⟨a, rfl, h⟩
def fUn1 (o : S → Option S) (a : Arg) (e : En) : Option (Arg × En) := ret (op1 o (a.get e)) e
def fUn (o : S → Option S) (fa : Fn1 Arg) : Fn1 Arg := fun e => bnd (fa e) (fUn1 o)
theorem un_read {r : V → Hp → VK → Prop} {o : S → Option S} {K : PySem.W.Frag} (hr : Op1 K r o) {σ : Sl} {H : Hp} {Q : VK} (h : tE K (fUn o fa) σ H Q) : tE K fa σ H fun x H1 => r x H1 Q := by
  obtain ⟨env, W, z, env2, re, e, k⟩ := h
  obtain ⟨a, env1, ea, e⟩ := bnd_eq e
  obtain ⟨s, eq1, er⟩ := ret_eq e
  cases er
  obtain ⟨sx, e1, eo⟩ := op1_eq eq1
  exact ⟨env, W, a, _, re, ea, fun x H1 W1 Fa r1 ra _ t1 => hr H1 x sx s Q eo (ra.read r1 e1) (fin_of r1 t1 k)⟩
theorem qx_un {op : UnaryOp} {r : V → Hp → VK → Prop} {o : S → Option S} (ho : UnR X (unaryOp op) r) (hr : Op1 X.K r o) (ha : PX X a fa) : PX X (.UnaryOp op a pos) (fUn o fa) :=
  PE.imp (pe_un ho ha) fun σ H Q h => un_read hr h
end

/-! ### the operators' values -/
def iOp (g : Int → Int → D) : S → S → Option S
  | .d (.int i), .d (.int j) => some (.d (g i j))
  | _, _ => none
@[simp] theorem iOp_int {g : Int → Int → D} {i j : Int} : iOp g (.d (.int i)) (.d (.int j)) = some (.d (g i j)) := rfl
def iOpC (c : Int → Int → Bool) (g : Int → Int → D) : S → S → Option S
  | .d (.int i), .d (.int j) => if c i j = true then some (.d (g i j)) else none
  | _, _ => none
@[simp] theorem iOpC_int {c : Int → Int → Bool} {g : Int → Int → D} {i j : Int} : iOpC c g (.d (.int i)) (.d (.int j)) = if c i j = true then some (.d (g i j)) else none := rfl
theorem rd_int {K : PySem.W.Frag} {H : Hp} {i : Int} {v : V} (h : Rd1 K H (.d (.int i)) v) : v = .int i := by
  obtain ⟨P, h⟩ := h
  cases (show RD K H (.int i) v from h)
  rfl
theorem rd_bl {K : PySem.W.Frag} {H : Hp} {i : Bool} {v : V} (h : Rd1 K H (.d (.bl i)) v) : v = .bl i := by
  obtain ⟨P, h⟩ := h
  cases (show RD K H (.bl i) v from h)
  rfl
theorem rd_str {K : PySem.W.Frag} {H : Hp} {i : Str} {v : V} (h : Rd1 K H (.d (.str i)) v) : v = .str i := by
  obtain ⟨P, h⟩ := h
  cases (show RD K H (.str i) v from h)
  rfl
theorem rd_non {K : PySem.W.Frag} {H : Hp} {v : V} (h : Rd1 K H (.d .non) v) : v = .non := by
  obtain ⟨P, h⟩ := h
  cases (show RD K H .non v from h)
  rfl
theorem rd_tup {K : PySem.W.Frag} {H : Hp} {ds : List D} {v : V} (h : Rd1 K H (.d (.tup ds)) v) : ∃ a vs, v = .ref a ∧ SqT K H a vs ∧ RDs K H ds vs := by
  obtain ⟨P, h⟩ := h
  cases (show RD K H (.tup ds) v from h) with
  | tup h1 h2 => exact ⟨_, _, rfl, h1, h2⟩
theorem rd_lst {K : PySem.W.Frag} {H : Hp} {ds : List D} {v : V} (h : Rd1 K H (.m (.lst ds)) v) : ∃ a vs, v = .ref a ∧ H a = some (.lst vs) ∧ RDs K H ds vs := by
  obtain ⟨P, a, vs, e, _, h1, h2⟩ := h
  exact ⟨a, vs, e, h1, h2⟩
theorem rd_lk {K : PySem.W.Frag} {H : Hp} {ds : List D} {v : V} (h : Rd1 K H (.lk (.lst ds)) v) : ∃ a vs, v = .ref a ∧ FzL K H a vs ∧ RDs K H ds vs := by
  obtain ⟨P, a, vs, e, h1, h2⟩ := h
  exact ⟨a, vs, e, h1, h2⟩
/-- the items of a list or a tuple -/
def seqOf : S → Option (List D)
  | .d (.tup ds) => some ds
  | .m (.lst ds) => some ds
  | .lk (.lst ds) => some ds
  | _ => none
@[simp] theorem seqOf_tup {ds : List D} : seqOf (.d (.tup ds)) = some ds := rfl
@[simp] theorem seqOf_lst {ds : List D} : seqOf (.m (.lst ds)) = some ds := rfl
@[simp] theorem seqOf_lk {ds : List D} : seqOf (.lk (.lst ds)) = some ds := rfl
theorem rd_seq {K : PySem.W.Frag} {H : Hp} {s : S} {ds : List D} {v : V} (e : seqOf s = some ds) (h : Rd1 K H s v) : ∃ a vs, v = .ref a ∧ RDs K H ds vs ∧ (SqL K H a vs ∨ SqT K H a vs) := by
  cases s with
  | d x =>
    cases x with
    | tup xs =>
      cases e
      obtain ⟨a, vs, e, h1, h2⟩ := rd_tup h
      exact ⟨a, vs, e, h2, .inr h1⟩
    | _ => cases e
  | m x =>
    cases x with
    | lst xs =>
      cases e
      obtain ⟨a, vs, e, h1, h2⟩ := rd_lst h
      exact ⟨a, vs, e, h2, .inl (SqL.of h1)⟩
    | _ => cases e
  | lk x =>
    cases x with
    | lst xs =>
      cases e
      obtain ⟨a, vs, e, h1, h2⟩ := rd_lk h
      exact ⟨a, vs, e, h2, .inl h1.sq⟩
    | _ => cases e
section
variable {X : Cx}
theorem op2_int {g : Int → Int → V} {g' : Int → Int → D} {K : PySem.W.Frag} (h : ∀ H i j, RD K H (g' i j) (g i j)) : Op2 K (rI0 g) (iOp g') := by
  intro H x y sx sy s Q e hx hy f
  unfold iOp at e
  split at e
  · cases e
    exact ⟨_, _, rd_int hx, rd_int hy, f.imm (h H _ _)⟩
  · cases e
theorem op2_intC {C : Int → Int → Prop} {c : Int → Int → Bool} {g : Int → Int → V} {g' : Int → Int → D} {K : PySem.W.Frag} (h : ∀ H i j, RD K H (g' i j) (g i j)) (hc : ∀ i j, c i j = true → C i j) : Op2 K (rI C g) (iOpC c g') := by
  intro H x y sx sy s Q e hx hy f
  unfold iOpC at e
  split at e
  · split at e
    · cases e
      rename_i hcc
      exact ⟨_, _, rd_int hx, rd_int hy, hc _ _ hcc, f.imm (h H _ _)⟩
    · cases e
  · cases e
theorem Op2.or {K : PySem.W.Frag} {r r' : R2} {o o' : S → S → Option S} (h : Op2 K r o) (h' : Op2 K r' o') : Op2 K (fun x y H Q => r x y H Q ∨ r' x y H Q) (fun x y => (o x y).or (o' x y)) := by
  intro H x y sx sy s Q e hx hy f
  have e : (o sx sy).or (o' sx sy) = some s := e
  cases q : o sx sy with
  | some z =>
    rw [q] at e
    have e : some z = some s := e
    cases e
    exact .inl (h H x y sx sy _ Q q hx hy f)
  | none =>
    rw [q, Option.none_or] at e
    exact .inr (h' H x y sx sy s Q e hx hy f)
/-- a + b -/
def oCatT : S → S → Option S
  | .d (.tup xs), .d (.tup ys) => if xs.length + ys.length ≤ sizeLine then some (.d (.tup (xs ++ ys))) else none
  | _, _ => none
def oCatL : S → S → Option S
  | .m (.lst xs), .m (.lst ys) => if xs.length + ys.length ≤ sizeLine then some (.m (.lst (xs ++ ys))) else none
  | _, _ => none
def oCatS : S → S → Option S
  | .d (.str x), .d (.str y) => if x.length + y.length ≤ sizeLine then some (.d (.str (x ++ y))) else none
  | _, _ => none
theorem op2_catT {K : PySem.W.Frag} : Op2 K (rCatA K) oCatT := by
  intro H x y sx sy s Q e hx hy f
  unfold oCatT at e
  split at e
  · rename_i xs ys
    split at e
    · rename_i hz
      cases e
      obtain ⟨a, vs, rfl, hs, rs⟩ := rd_tup hx
      obtain ⟨b, ws, rfl, hs', rs'⟩ := rd_tup hy
      refine ⟨a, b, vs, ws, rfl, rfl, hs, hs', by rw [← rs.length, ← rs'.length]; exact hz, fun e => ?_, fun _ e => ?_, fun _ _ p hp => f.tup (rs.append rs') hp⟩
      · subst e
        cases rs
        exact f.imm (.tup hs' rs')
      · subst e
        cases rs'
        refine f.imm ?_
        rw [List.append_nil]
        exact .tup hs rs
    · cases e
  · cases e
theorem op2_catL {K : PySem.W.Frag} : Op2 K rCat oCatL := by
  intro H x y sx sy s Q e hx hy f
  unfold oCatL at e
  split at e
  · rename_i xs ys
    split at e
    · rename_i hz
      cases e
      obtain ⟨a, vs, rfl, hs, rs⟩ := rd_lst hx
      obtain ⟨b, ws, rfl, hs', rs'⟩ := rd_lst hy
      exact ⟨a, b, vs, ws, rfl, rfl, hs, hs', by rw [← rs.length, ← rs'.length]; exact hz, fun p hp => f.lst (rs.append rs') hp⟩
    · cases e
  · cases e
theorem op2_catS {K : PySem.W.Frag} : Op2 K (fun x y H Q => ∃ i j, x = V.str i ∧ y = V.str j ∧ i.length + j.length ≤ sizeLine ∧ Q (V.str (i ++ j)) H) oCatS := by
  intro H x y sx sy s Q e hx hy f
  unfold oCatS at e
  split at e
  · split at e
    · rename_i hz
      cases e
      exact ⟨_, _, rd_str hx, rd_str hy, hz, f.str⟩
    · cases e
  · cases e
def oAdd : S → S → Option S := fun x y => (iOp (fun i j => .int (i + j)) x y).or ((oCatT x y).or ((oCatL x y).or (oCatS x y)))
@[simp] theorem oAdd_int {i j : Int} : oAdd (.d (.int i)) (.d (.int j)) = some (.d (.int (i + j))) := rfl
@[simp] theorem oAdd_tup {i j : List D} : oAdd (.d (.tup i)) (.d (.tup j)) = if i.length + j.length ≤ sizeLine then some (.d (.tup (i ++ j))) else none := by
  unfold oAdd iOp oCatT oCatL oCatS
  simp
@[simp] theorem oAdd_lst {i j : List D} : oAdd (.m (.lst i)) (.m (.lst j)) = if i.length + j.length ≤ sizeLine then some (.m (.lst (i ++ j))) else none := by
  unfold oAdd iOp oCatT oCatL oCatS
  simp
theorem qo_add {pos : Pos} {a b : Expr} {fa fb : Fn1 Arg} (ha : PX X a fa) (hb : PX X b fb) : PX X (.BinOp a .Add b pos) (fBin oAdd fa fb) :=
  qx_bin (OpR.or op_add (OpR.or op_catA (OpR.or op_cat op_add_str))) ((op2_int fun H i j => .int _).or (op2_catT.or (op2_catL.or op2_catS))) ha hb
def oSub : S → S → Option S := iOp fun i j => .int (i - j)
@[simp] theorem oSub_int {i j : Int} : oSub (.d (.int i)) (.d (.int j)) = some (.d (.int (i - j))) := rfl
theorem qo_sub {pos : Pos} {a b : Expr} {fa fb : Fn1 Arg} (ha : PX X a fa) (hb : PX X b fb) : PX X (.BinOp a .Sub b pos) (fBin oSub fa fb) := qx_bin op_sub (op2_int fun H i j => .int _) ha hb
/-- the product of numbers whose bits are few -/
def mulC (i j : Int) : Bool := decide (i.natAbs.log2 + j.natAbs.log2 < 1000000)
def oMul : S → S → Option S := iOpC mulC fun i j => .int (i * j)
@[simp] theorem oMul_int {i j : Int} : oMul (.d (.int i)) (.d (.int j)) = if mulC i j = true then some (.d (.int (i * j))) else none := rfl
theorem qo_mul {pos : Pos} {a b : Expr} {fa fb : Fn1 Arg} (ha : PX X a fa) (hb : PX X b fb) : PX X (.BinOp a .Mult b pos) (fBin oMul fa fb) := qx_bin op_mulW (op2_intC (fun H i j => .int _) fun i j h => (show CMulW i j from of_decide_eq_true (p := i.natAbs.log2 + j.natAbs.log2 < 1000000) h)) ha hb
def divC (_ j : Int) : Bool := decide (0 < j ∧ j.natAbs.log2 < 9000)
def oDiv : S → S → Option S := iOpC divC fun i j => .int (i / j)
@[simp] theorem oDiv_int {i j : Int} : oDiv (.d (.int i)) (.d (.int j)) = if divC i j = true then some (.d (.int (i / j))) else none := rfl
theorem qo_div {pos : Pos} {a b : Expr} {fa fb : Fn1 Arg} (ha : PX X a fa) (hb : PX X b fb) : PX X (.BinOp a .FloorDiv b pos) (fBin oDiv fa fb) := qx_bin op_fdivW (op2_intC (fun H i j => .int _) fun i j h => (show CDivW i j from of_decide_eq_true (p := 0 < j ∧ j.natAbs.log2 < 9000) h)) ha hb
def oMod : S → S → Option S := iOpC (fun _ j => decide (0 < j)) fun i j => .int (i % j)
@[simp] theorem oMod_int {i j : Int} : oMod (.d (.int i)) (.d (.int j)) = if 0 < j then some (.d (.int (i % j))) else none := by
  show (if decide (0 < j) = true then _ else _) = _
  by_cases h : 0 < j <;> simp [h]
theorem qo_mod {pos : Pos} {a b : Expr} {fa fb : Fn1 Arg} (ha : PX X a fa) (hb : PX X b fb) : PX X (.BinOp a .Mod b pos) (fBin oMod fa fb) := qx_bin op_mod (op2_intC (fun H i j => .int _) fun i j h => of_decide_eq_true h) ha hb
def oPow : S → S → Option S := iOpC (fun i j => decide (0 ≤ j ∧ j ≤ 1000000 ∧ i.natAbs < 2 ^ 64)) fun i j => .int (i ^ j.toNat)
@[simp] theorem oPow_int {i j : Int} : oPow (.d (.int i)) (.d (.int j)) = if decide (0 ≤ j ∧ j ≤ 1000000 ∧ i.natAbs < 2 ^ 64) = true then some (.d (.int (i ^ j.toNat))) else none := rfl
theorem qo_pow {pos : Pos} {a b : Expr} {fa fb : Fn1 Arg} (ha : PX X a fa) (hb : PX X b fb) : PX X (.BinOp a .Pow b pos) (fBin oPow fa fb) := qx_bin op_pow (op2_intC (fun H i j => .int _) fun i j h => (show CPow i j from of_decide_eq_true (p := 0 ≤ j ∧ j ≤ 1000000 ∧ i.natAbs < 2 ^ 64) h)) ha hb
def oAnd : S → S → Option S := iOp fun i j => .int (Builtin.bitAnd i j)
@[simp] theorem oAnd_int {i j : Int} : oAnd (.d (.int i)) (.d (.int j)) = some (.d (.int (Builtin.bitAnd i j))) := rfl
theorem qo_and {pos : Pos} {a b : Expr} {fa fb : Fn1 Arg} (ha : PX X a fa) (hb : PX X b fb) : PX X (.BinOp a .BitAnd b pos) (fBin oAnd fa fb) := qx_bin op_and (op2_int fun H i j => .int _) ha hb
def oOr : S → S → Option S := iOp fun i j => .int (Builtin.bitOr i j)
@[simp] theorem oOr_int {i j : Int} : oOr (.d (.int i)) (.d (.int j)) = some (.d (.int (Builtin.bitOr i j))) := rfl
theorem qo_or {pos : Pos} {a b : Expr} {fa fb : Fn1 Arg} (ha : PX X a fa) (hb : PX X b fb) : PX X (.BinOp a .BitOr b pos) (fBin oOr fa fb) := qx_bin op_or (op2_int fun H i j => .int _) ha hb
def oXor : S → S → Option S := iOp fun i j => .int (Builtin.bitXor i j)
@[simp] theorem oXor_int {i j : Int} : oXor (.d (.int i)) (.d (.int j)) = some (.d (.int (Builtin.bitXor i j))) := rfl
theorem qo_xor {pos : Pos} {a b : Expr} {fa fb : Fn1 Arg} (ha : PX X a fa) (hb : PX X b fb) : PX X (.BinOp a .BitXor b pos) (fBin oXor fa fb) := qx_bin op_xor (op2_int fun H i j => .int _) ha hb
/-- comparisons of ints -/
def oLt : S → S → Option S := iOp fun i j => .bl (decide (i < j))
def oLe : S → S → Option S := iOp fun i j => .bl (decide (i ≤ j))
def oGt : S → S → Option S := iOp fun i j => .bl (decide (j < i))
def oGe : S → S → Option S := iOp fun i j => .bl (decide (j ≤ i))
@[simp] theorem oLt_int {i j : Int} : oLt (.d (.int i)) (.d (.int j)) = some (.d (.bl (decide (i < j)))) := rfl
@[simp] theorem oLe_int {i j : Int} : oLe (.d (.int i)) (.d (.int j)) = some (.d (.bl (decide (i ≤ j)))) := rfl
@[simp] theorem oGt_int {i j : Int} : oGt (.d (.int i)) (.d (.int j)) = some (.d (.bl (decide (j < i)))) := rfl
@[simp] theorem oGe_int {i j : Int} : oGe (.d (.int i)) (.d (.int j)) = some (.d (.bl (decide (j ≤ i)))) := rfl
/-- a comparison's rule -/
structure CmpOk (X : Cx) (op : CmpOp) (o : S → S → Option S) : Prop where
  ex : ∃ r, OpR X (compareOp op) r ∧ Op2 X.K r o
theorem qc_lt : CmpOk X .Lt oLt := ⟨_, op_lt, op2_int fun H i j => .bl _⟩
theorem qc_le : CmpOk X .LtE oLe := ⟨_, op_le, op2_int fun H i j => .bl _⟩
theorem qc_gt : CmpOk X .Gt oGt := ⟨_, op_gt, op2_int fun H i j => .bl _⟩
theorem qc_ge : CmpOk X .GtE oGe := ⟨_, op_ge, op2_int fun H i j => .bl _⟩
end

/-! ### equality of data -/
mutual
def toPy : D → PyData
  | .non => .none
  | .bl b => .bool b
  | .int i => .int i
  | .str s => .str s
  | .tup xs => .tuple (toPys xs)
def toPys : List D → List PyData
  | [] => []
  | x :: xs => toPy x :: toPys xs
end
mutual
theorem RD.dp {K : PySem.W.Frag} {H : Hp} : ∀ {x : D} {v : V}, RD K H x v → Dp K H v (toPy x)
  | _, _, .non => .non
  | _, _, .bl b => .bl b
  | _, _, .int i => .int i
  | _, _, .str s => .str s
  | _, _, .tup h hs => .tup h (RDs.dp hs)
theorem RDs.dp {K : PySem.W.Frag} {H : Hp} : ∀ {x : List D} {v : List V}, RDs K H x v → DpAll K H v (toPys x)
  | _, _, .nil => .nil
  | _, _, .cons h hs => .cons (RD.dp h) (RDs.dp hs)
end
def pyOf : S → Option PyData
  | .d x => some (toPy x)
  | .m (.lst xs) => some (.list (toPys xs))
  | .lk (.lst xs) => some (.list (toPys xs))
  | _ => none
theorem rd_py {K : PySem.W.Frag} {H : Hp} {s : S} {v : V} {d : PyData} (e : pyOf s = some d) (h : Rd1 K H s v) : Dp K H v d := by
  cases s with
  | d x =>
    cases e
    obtain ⟨P, h⟩ := h
    exact RD.dp h
  | m x =>
    cases x with
    | lst xs =>
      cases e
      obtain ⟨a, vs, rfl, h1, h2⟩ := rd_lst h
      exact .lst (SqL.of h1) (RDs.dp h2)
    | _ => cases e
  | lk x =>
    cases x with
    | lst xs =>
      cases e
      obtain ⟨a, vs, rfl, h1, h2⟩ := rd_lk h
      exact .lst h1.sq (RDs.dp h2)
    | _ => cases e
def oEqB (neg : Bool) (x y : S) : Option S := match pyOf x, pyOf y with
  | some d, some e => if SeqAt.shaped d = true ∧ SeqAt.shaped e = true then some (.d (.bl (if neg then !PyData.eqv d e else PyData.eqv d e))) else none
  | _, _ => none
def oEq : S → S → Option S := oEqB false
def oNe : S → S → Option S := oEqB true
theorem oEqB_eq {neg : Bool} {x y s : S} (h : oEqB neg x y = some s) : ∃ d e, pyOf x = some d ∧ pyOf y = some e ∧ SeqAt.shaped d = true ∧ SeqAt.shaped e = true ∧ s = .d (.bl (if neg then !PyData.eqv d e else PyData.eqv d e)) := by
  unfold oEqB at h
  split at h
  · split at h
    · rename_i h1 h2 h3
      cases h
      exact ⟨_, _, h1, h2, h3.1, h3.2, rfl⟩
    · cases h
  · cases h
section
variable {X : Cx}
theorem qc_eq (hu : X.A.units + 64 < cLine) : CmpOk X .Eq oEq := ⟨_, op_eqD hu, fun H x y sx sy s Q e hx hy f => by
  obtain ⟨d, e', h1, h2, h3, h4, rfl⟩ := oEqB_eq e
  exact ⟨d, e', rd_py h1 hx, rd_py h2 hy, h3, h4, f.bl⟩⟩
theorem qc_ne (hu : X.A.units + 64 < cLine) : CmpOk X .NotEq oNe := ⟨_, op_neD hu, fun H x y sx sy s Q e hx hy f => by
  obtain ⟨d, e', h1, h2, h3, h4, rfl⟩ := oEqB_eq e
  exact ⟨d, e', rd_py h1 hx, rd_py h2 hy, h3, h4, f.bl⟩⟩
/-- is None -/
def isNon : S → Bool
  | .d .non => true
  | _ => false
theorem isNon_dec {K : PySem.W.Frag} {H : Hp} {s : S} {v : V} (h : Rd1 K H s v) : decide (v = .non) = isNon s := by
  cases s with
  | d x =>
    cases x with
    | non => rw [rd_non h]; rfl
    | bl b => rw [rd_bl h]; rfl
    | int b => rw [rd_int h]; rfl
    | str b => rw [rd_str h]; rfl
    | tup b => obtain ⟨a, vs, rfl, _⟩ := rd_tup h; rfl
  | m x =>
    obtain ⟨P, h⟩ := h
    cases x with
    | lst xs => obtain ⟨a, vs, rfl, _⟩ := h; rfl
    | st _ _ _ _ => obtain ⟨a, vs, rfl, _⟩ := h; rfl
    | dk _ => obtain ⟨a, vs, rfl, _⟩ := h; rfl
    | ins _ _ => obtain ⟨a, dx, fvs, bs, rfl, _⟩ := h; rfl
    | dt _ => obtain ⟨a, vs, rfl, _⟩ := h; rfl
    | row _ => obtain ⟨a, vs, bs, rfl, _⟩ := h; rfl
  | lk x =>
    obtain ⟨P, h⟩ := h
    cases x with
    | lst xs => obtain ⟨a, vs, rfl, _⟩ := h; rfl
    | st _ _ _ _ => exact h.elim
    | dk _ => obtain ⟨a, vs, o, rfl, _⟩ := h; rfl
    | ins _ _ => obtain ⟨a, dx, fvs, o, rfl, _⟩ := h; rfl
    | dt _ => obtain ⟨a, vs, o, rfl, _⟩ := h; rfl
    | row _ => exact h.elim
def oIsN (x y : S) : Option S := match y with
  | .d .non => some (.d (.bl (isNon x)))
  | _ => none
def oNotN (x y : S) : Option S := match y with
  | .d .non => some (.d (.bl (!isNon x)))
  | _ => none
@[simp] theorem oIsN_non {x : S} : oIsN x (.d .non) = some (.d (.bl (isNon x))) := rfl
@[simp] theorem oNotN_non {x : S} : oNotN x (.d .non) = some (.d (.bl (!isNon x))) := rfl
theorem qc_isN : CmpOk X .Is oIsN := ⟨_, op_isN, fun H x y sx sy s Q e hx hy f => by
  unfold oIsN at e
  split at e
  · cases e
    refine ⟨rd_non hy, ?_⟩
    rw [isNon_dec hx]
    exact f.bl
  · cases e⟩
theorem qc_notN : CmpOk X .IsNot oNotN := ⟨_, op_notN, fun H x y sx sy s Q e hx hy f => by
  unfold oNotN at e
  split at e
  · cases e
    refine ⟨rd_non hy, ?_⟩
    rw [isNon_dec hx]
    exact f.bl
  · cases e⟩
theorem qo_cmp {op : CmpOp} {o : S → S → Option S} {pos : Pos} {a b : Expr} {fa fb : Fn1 Arg} (c : CmpOk X op o) (ha : PX X a fa) (hb : PX X b fb) (hm : behindInMarks op b = false) : PX X (.Compare a [op] [b] pos) (fBin o fa fb) :=
  let ⟨_, h1, h2⟩ := c.ex; qx_cmp h1 h2 ha hb hm
theorem qx_bl {b : Bool} {k pos} : PX X (.Constant (.bool b) k pos) (fC (.bl b)) := PE.imp pe_bl fun σ H Q h => tE_C (fun H => .bl b) h
theorem qx_non {k pos} : PX X (.Constant .none k pos) (fC .non) := PE.imp pe_non fun σ H Q h => tE_C (fun H => .non) h
theorem qx_glob {n : Int} {x : Str} {u : Value} {pos : Pos} (hg : Gl X x) (hm : X.mg x = some u) (r : RelV (.int n) u) (hd : (x == ("__debug__" : Str)) = false := by decide) : PX X (.Name x pos) (fC (.int n)) := PE.imp (pe_glob hg hm r hd) fun σ H Q h => tE_C (fun H => .int n) h
def oNeg : S → Option S
  | .d (.int i) => some (.d (.int (-i)))
  | _ => none
@[simp] theorem oNeg_int {i : Int} : oNeg (.d (.int i)) = some (.d (.int (-i))) := rfl
theorem qo_neg {pos : Pos} {a : Expr} {fa : Fn1 Arg} (ha : PX X a fa) : PX X (.UnaryOp .USub a pos) (fUn oNeg fa) := qx_un un_neg (fun H x sx s Q e hx f => by
  unfold oNeg at e
  split at e
  · cases e
    exact ⟨_, rd_int hx, f.int⟩
  · cases e) ha
end
end QL
end

section
set_option Elab.async false
set_option linter.all false
set_option maxRecDepth 100000
namespace QL
open PySem PySem.Spec PyProof.Rows L2

/-! ### chains -/
def chK (z : Option S) (o' : S → S → Option S) (fc : Fn1 Arg) (b : Arg) (e : En) : Option (Arg × En) := match z with
  | some (.d (.bl true)) => bnd (fc e) (fBin2 o' b)
  | some (.d (.bl false)) => some (.val (.d (.bl false)), e)
  | _ => none
@[simp] theorem chK_bl {k : Bool} {o' : S → S → Option S} {fc : Fn1 Arg} {b : Arg} {e : En} : chK (some (.d (.bl k))) o' fc b e = if k = true then bnd (fc e) (fBin2 o' b) else some (.val (.d (.bl false)), e) := by
  cases k <;> rfl
theorem chK_eq {z : Option S} {o' : S → S → Option S} {fc : Fn1 Arg} {b : Arg} {e : En} {r : Arg × En} (h : chK z o' fc b e = some r) :
    (z = some (.d (.bl true)) ∧ bnd (fc e) (fBin2 o' b) = some r) ∨ (z = some (.d (.bl false)) ∧ r = (.val (.d (.bl false)), e)) := by
  unfold chK at h
  split at h
  · exact .inl ⟨rfl, h⟩
  · cases h
    exact .inr ⟨rfl, rfl⟩
  · cases h
def fChain2 (o o' : S → S → Option S) (fc : Fn1 Arg) (a b : Arg) (e : En) : Option (Arg × En) := chK (op2 o (a.get e) (b.get e)) o' fc b e
def fChain1 (o o' : S → S → Option S) (fb fc : Fn1 Arg) (a : Arg) (e : En) : Option (Arg × En) := bnd (fb e) (fChain2 o o' fc a)
def fChain (o o' : S → S → Option S) (fa fb fc : Fn1 Arg) : Fn1 Arg := fun e => bnd (fa e) (fChain1 o o' fb fc)
theorem Tm.same {W : Ow} {H H' : Hp} {F : Addr → Prop} (t : Same H H') (h : Tm W H F) : Tm W H' F := fun b z => ⟨(h b z).1, by
  have mu := (h b z).2
  cases q : H b with
  | none => rw [q] at mu; exact mu.elim
  | some o => rw [t b o q]; rw [q] at mu; exact mu⟩
theorem RA.same {K : PySem.W.Frag} {H H' : Hp} {σ : Sl} {a : Arg} {v : V} {F : Addr → Prop} (t : Same H H') (h : RA K H σ a v F) : RA K H' σ a v F := by
  cases a with
  | slot i => exact h
  | val s => exact RS.same t h
theorem chain_read {fa fb fc : Fn1 Arg} {r r' : R2} {o o' : S → S → Option S} {K : PySem.W.Frag} (hr : Op2 K r o) (hr' : Op2 K r' o') {σ : Sl} {H : Hp} {Q : VK} (h : tE K (fChain o o' fa fb fc) σ H Q) :
    tChain r r' (tE K fa) (tE K fb) (tE K fc) σ H Q := by
  obtain ⟨env, W, z, env3, re, e, k⟩ := h
  obtain ⟨a, env1, ea, e⟩ := bnd_eq e
  obtain ⟨b, env2, eb, e⟩ := bnd_eq e
  refine two_parts (R := fun x y H2 => r x y H2 fun z H3 => ∃ k, z = .bl k ∧ (if k = true then tE K fc σ H3 fun w' H4 => r' y w' H4 Q else Q (.bl false) H3)) re ea eb fun x y H2 W2 Fa Fb r2 ra rb _ tmb _ t => ?_
  rcases chK_eq e with ⟨ez, e⟩ | ⟨ez, er⟩
  · obtain ⟨sx, sy, e1, e2, eo⟩ := op2_eq ez
    refine hr H2 x y sx sy _ _ eo (ra.read r2 e1) (rb.read r2 e2) fun v H3 F sm hF rs => ?_
    have ev : v = .bl true := rd_bl ⟨F, rs⟩
    refine ⟨true, ev, ?_⟩
    rw [if_pos rfl]
    obtain ⟨c, env3', ec, e⟩ := bnd_eq e
    obtain ⟨s, eq1, er⟩ := ret_eq e
    cases er
    obtain ⟨ty, tz, f1, f2, fo⟩ := op2_eq eq1
    refine ⟨env2, W2, c, _, r2.same sm, ec, fun w H4 W4 Fc r4 rc tmc t4 => ?_⟩
    have rb4 : RA K H4 σ b y Fb := (rb.same sm).keep (r2.same sm).mu t4 (tmb.same sm)
    refine hr' H4 y w ty tz s Q fo (rb4.read r4 f1) (rc.read r4 f2) ?_
    exact fin_of r4 ((t.trans0 (Tr.same sm fun b (z : F0 b) => z.elim)).trans0 t4) k
  · cases er
    obtain ⟨sx, sy, e1, e2, eo⟩ := op2_eq ez
    refine hr H2 x y sx sy _ _ eo (ra.read r2 e1) (rb.read r2 e2) fun v H3 F sm hF rs => ?_
    have ev : v = .bl false := rd_bl ⟨F, rs⟩
    refine ⟨false, ev, ?_⟩
    rw [if_neg (by decide)]
    exact k _ H3 W2 F0 (r2.same sm) (.bl false) Tm.zero (t.trans0 (Tr.same sm fun b (z : F0 b) => z.elim))

/-! ### tests -/
def tT (K : PySem.W.Frag) (f : Fn1 Bool) : TT := fun σ H Q => ∃ env W b env', RE K H σ env W ∧ f env = some (b, env') ∧
  ∀ H' W', RE K H' σ env' W' → Tr W H W' H' F0 → Q b H'
abbrev PXT (X : Cx) (e : Expr) (f : Fn1 Bool) : Prop := PT X e (tT X.K f)
theorem PT.imp {X : Cx} {e : Expr} {t t' : TT} (h : PT X e t) (i : ∀ σ H Q, t' σ H Q → t σ H Q) : PT X e t' := ⟨fun pins s σ H Q I q => h.run pins s σ H Q I (i σ H Q q)⟩
theorem PW.imp {X : Cx} {e : Expr} {t t' : TT} (h : PW X e t) (i : ∀ σ H Q, t' σ H Q → t σ H Q) : PW X e t' := ⟨fun wh pins s σ H Q I q => h.run wh pins s σ H Q I (i σ H Q q)⟩
def tstK (z : Option S) (e : En) : Option (Bool × En) := match z with
  | some (.d (.bl b)) => some (b, e)
  | _ => none
@[simp] theorem tstK_bl {b : Bool} {e : En} : tstK (some (.d (.bl b))) e = some (b, e) := rfl
def fTB1 (a : Arg) (e : En) : Option (Bool × En) := tstK (a.get e) e
def fTB (fa : Fn1 Arg) : Fn1 Bool := fun e => bnd (fa e) fTB1
def truth : S → Option Bool
  | .d .non => some false
  | .d (.bl b) => some b
  | .d (.int i) => some (i != 0)
  | .d (.str x) => if x.length ≤ sizeLine then some ((x.length : Int) != 0) else none
  | .d (.tup xs) => some (!xs.isEmpty)
  | .m (.lst xs) => some (!xs.isEmpty)
  | .lk (.lst xs) => some (!xs.isEmpty)
  | _ => none
@[simp] theorem truth_non : truth (.d .non) = some false := rfl
@[simp] theorem truth_bl {b : Bool} : truth (.d (.bl b)) = some b := rfl
@[simp] theorem truth_int {b : Int} : truth (.d (.int b)) = some (b != 0) := rfl
@[simp] theorem truth_tup {b : List D} : truth (.d (.tup b)) = some (!b.isEmpty) := rfl
@[simp] theorem truth_lst {b : List D} : truth (.m (.lst b)) = some (!b.isEmpty) := rfl
def truK (z : Option S) (e : En) : Option (Bool × En) := match z with
  | some s => (truth s).map fun b => (b, e)
  | _ => none
@[simp] theorem truK_some {s : S} {e : En} : truK (some s) e = (truth s).map fun b => (b, e) := rfl
def fTru1 (a : Arg) (e : En) : Option (Bool × En) := truK (a.get e) e
def fTru (fa : Fn1 Arg) : Fn1 Bool := fun e => bnd (fa e) fTru1
theorem isEmpty_rds {K : PySem.W.Frag} {H : Hp} {ds : List D} {vs : List V} (h : RDs K H ds vs) : ds.isEmpty = vs.isEmpty := by
  cases h <;> rfl
theorem truth_ok {K : PySem.W.Frag} {H : Hp} {s : S} {v : V} {b : Bool} (h : Rd1 K H s v) (e : truth s = some b) : TruV K v H b := by
  cases s with
  | d x =>
    cases x with
    | non => rw [rd_non h]; cases e; rfl
    | bl b => rw [rd_bl h]; cases e; rfl
    | int b => rw [rd_int h]; cases e; rfl
    | str z =>
      rw [rd_str h]
      have e : (if z.length ≤ sizeLine then some ((z.length : Int) != 0) else none) = some b := e
      split at e
      · cases e
        exact ⟨by assumption, rfl⟩
      · cases e
    | tup ds =>
      obtain ⟨a, vs, rfl, h1, h2⟩ := rd_tup h
      cases e
      exact .inr (.inl ⟨vs, h1, by rw [isEmpty_rds h2]⟩)
  | m x =>
    cases x with
    | lst ds =>
      obtain ⟨a, vs, rfl, h1, h2⟩ := rd_lst h
      cases e
      exact .inl ⟨vs, SqL.of h1, by rw [isEmpty_rds h2]⟩
    | _ => cases e
  | lk x =>
    cases x with
    | lst ds =>
      obtain ⟨a, vs, rfl, h1, h2⟩ := rd_lk h
      cases e
      exact .inl ⟨vs, h1.sq, by rw [isEmpty_rds h2]⟩
    | _ => cases e
/-- a test's value within: from a bool -/
theorem tb_read {K : PySem.W.Frag} {fa : Fn1 Arg} {σ : Sl} {H : Hp} {Q : Bool → Hp → Prop} (h : tT K (fTB fa) σ H Q) : tE K fa σ H fun x H' => ∃ k, x = .bl k ∧ Q k H' := by
  obtain ⟨env, W, b, env', re, e, k⟩ := h
  obtain ⟨a, env1, ea, e⟩ := bnd_eq e
  unfold fTB1 tstK at e
  split at e
  · rename_i b' hb
    cases e
    exact ⟨env, W, a, _, re, ea, fun v H' W' F r ra tm t => ⟨_, rd_bl (ra.read r hb), k H' W' r (t.less fun _ z => z.elim)⟩⟩
  · cases e
theorem tru_read {K : PySem.W.Frag} {fa : Fn1 Arg} {σ : Sl} {H : Hp} {Q : Bool → Hp → Prop} (h : tT K (fTru fa) σ H Q) : tE K fa σ H fun x H' => ∃ k, TruV K x H' k ∧ Q k H' := by
  obtain ⟨env, W, b, env', re, e, k⟩ := h
  obtain ⟨a, env1, ea, e⟩ := bnd_eq e
  unfold fTru1 truK at e
  split at e
  · rename_i s hs
    cases q : truth s with
    | none => rw [q] at e; cases e
    | some c =>
      rw [q] at e
      cases e
      exact ⟨env, W, a, _, re, ea, fun v H' W' F r ra tm t => ⟨_, truth_ok (ra.read r hs) q, k H' W' r (t.less fun _ z => z.elim)⟩⟩
  · cases e
def fAndT1 (tb : Fn1 Bool) (b : Bool) (e : En) : Option (Bool × En) := if b = true then tb e else some (false, e)
def fAndT (ta tb : Fn1 Bool) : Fn1 Bool := fun e => bnd (ta e) (fAndT1 tb)
def fOrT1 (tb : Fn1 Bool) (b : Bool) (e : En) : Option (Bool × En) := if b = true then some (true, e) else tb e
def fOrT (ta tb : Fn1 Bool) : Fn1 Bool := fun e => bnd (ta e) (fOrT1 tb)
def fNotT1 (b : Bool) (e : En) : Option (Bool × En) := some (!b, e)
def fNotT (ta : Fn1 Bool) : Fn1 Bool := fun e => bnd (ta e) fNotT1
def fIf1 (fa fb : Fn1 Arg) (b : Bool) (e : En) : Option (Arg × En) := if b = true then fa e else fb e
def fIf (tc : Fn1 Bool) (fa fb : Fn1 Arg) : Fn1 Arg := fun e => bnd (tc e) (fIf1 fa fb)
def andK (z : Option S) (fb : Fn1 Arg) (e : En) : Option (Arg × En) := match z with
  | some (.d (.bl b)) => if b = true then fb e else some (.val (.d (.bl false)), e)
  | _ => none
def orK (z : Option S) (fb : Fn1 Arg) (e : En) : Option (Arg × En) := match z with
  | some (.d (.bl b)) => if b = true then some (.val (.d (.bl true)), e) else fb e
  | _ => none
@[simp] theorem andK_bl {b : Bool} {fb : Fn1 Arg} {e : En} : andK (some (.d (.bl b))) fb e = if b = true then fb e else some (.val (.d (.bl false)), e) := rfl
@[simp] theorem orK_bl {b : Bool} {fb : Fn1 Arg} {e : En} : orK (some (.d (.bl b))) fb e = if b = true then some (.val (.d (.bl true)), e) else fb e := rfl
def fAnd1 (fb : Fn1 Arg) (a : Arg) (e : En) : Option (Arg × En) := andK (a.get e) fb e
def fAnd (fa fb : Fn1 Arg) : Fn1 Arg := fun e => bnd (fa e) (fAnd1 fb)
def fOr1 (fb : Fn1 Arg) (a : Arg) (e : En) : Option (Arg × En) := orK (a.get e) fb e
def fOr (fa fb : Fn1 Arg) : Fn1 Arg := fun e => bnd (fa e) (fOr1 fb)
def oNotB : S → Option S
  | .d (.bl b) => some (.d (.bl (!b)))
  | _ => none
@[simp] theorem oNotB_bl {b : Bool} : oNotB (.d (.bl b)) = some (.d (.bl (!b))) := rfl
section
variable {X : Cx} {a b c : Expr} {fa fb fc : Fn1 Arg} {ta tb tc : Fn1 Bool} {pos : Pos} {rest : List Expr}
theorem qt_cmp {op : CmpOp} {o : S → S → Option S} (h : CmpOk X op o) (ha : PX X a fa) (hb : PX X b fb) (hm : behindInMarks op b = false) : PXT X (.Compare a [op] [b] pos) (fTB (fBin o fa fb)) :=
  let ⟨_, h1, h2⟩ := h.ex
  PT.imp (pt_cmpR h1 ha hb hm) fun σ H Q h => bin_read h2 (tb_read h)
theorem qx_chain {op op' : CmpOp} {o o' : S → S → Option S} (h : CmpOk X op o) (h' : CmpOk X op' o') (ha : PX X a fa) (hb : PX X b fb) (hc : PX X c fc) (hm : lastMarks [op, op'] [b, c] = false := by with_unfolding_all rfl) :
    PX X (.Compare a [op, op'] [b, c] pos) (fChain o o' fa fb fc) :=
  let ⟨_, h1, h2⟩ := h.ex
  let ⟨_, h3, h4⟩ := h'.ex
  PE.imp (pe_chain h1 h3 ha hb hc hm) fun σ H Q h => chain_read h2 h4 h
theorem qt_chain {op op' : CmpOp} {o o' : S → S → Option S} (h : CmpOk X op o) (h' : CmpOk X op' o') (ha : PX X a fa) (hb : PX X b fb) (hc : PX X c fc) (hm : lastMarks [op, op'] [b, c] = false := by with_unfolding_all rfl) :
    PXT X (.Compare a [op, op'] [b, c] pos) (fTB (fChain o o' fa fb fc)) :=
  let ⟨_, h1, h2⟩ := h.ex
  let ⟨_, h3, h4⟩ := h'.ex
  PT.imp (pt_chain h1 h3 ha hb hc hm) fun σ H Q h => chain_read h2 h4 (tb_read h)
theorem qt_tru (ha : PX X a fa) (he : ∀ whole, isTrue a X.env whole = (do let v ← whole; standAt a.pos; holding [v] (truthy v)) := by intro _; rfl) : PXT X a (fTru fa) :=
  PT.imp (pt_truth ha he) fun σ H Q h => tru_read h
theorem qw_and1 (ha : PXT X a ta) : PW X (.BoolOp .And [a] pos) (tT X.K ta) := pw_and1 ha
theorem qw_or1 (ha : PXT X a ta) : PW X (.BoolOp .Or [a] pos) (tT X.K ta) := pw_or1 ha
theorem qw_and (ha : PXT X a ta) (hb : PW X (.BoolOp .And (b :: rest) pos) (tT X.K tb)) : PW X (.BoolOp .And (a :: b :: rest) pos) (tT X.K (fAndT ta tb)) :=
  PW.imp (pw_and ha hb) fun σ H Q h => by
    obtain ⟨env, W, z, env', re, e, k⟩ := h
    obtain ⟨c, env1, ec, e⟩ := bnd_eq e
    refine ⟨env, W, c, env1, re, ec, fun H1 W1 r1 t1 => ?_⟩
    unfold fAndT1 at e
    split at e
    · rename_i hc
      rw [if_pos hc]
      exact ⟨env1, W1, z, env', r1, e, fun H2 W2 r2 t2 => k H2 W2 r2 (t1.trans0 t2)⟩
    · rename_i hc
      cases e
      rw [if_neg hc]
      exact k H1 W1 r1 t1
theorem qw_or (ha : PXT X a ta) (hb : PW X (.BoolOp .Or (b :: rest) pos) (tT X.K tb)) : PW X (.BoolOp .Or (a :: b :: rest) pos) (tT X.K (fOrT ta tb)) :=
  PW.imp (pw_or ha hb) fun σ H Q h => by
    obtain ⟨env, W, z, env', re, e, k⟩ := h
    obtain ⟨c, env1, ec, e⟩ := bnd_eq e
    refine ⟨env, W, c, env1, re, ec, fun H1 W1 r1 t1 => ?_⟩
    unfold fOrT1 at e
    split at e
    · rename_i hc
      cases e
      rw [if_pos hc]
      exact k H1 W1 r1 t1
    · rename_i hc
      rw [if_neg hc]
      exact ⟨env1, W1, z, env', r1, e, fun H2 W2 r2 t2 => k H2 W2 r2 (t1.trans0 t2)⟩
theorem qt_bool {op} {vs : List Expr} (h : PW X (.BoolOp op vs pos) (tT X.K ta)) : PXT X (.BoolOp op vs pos) ta := PW.pt h
theorem qt_not (ha : PXT X a ta) : PXT X (.UnaryOp .Not a pos) (fNotT ta) :=
  PT.imp (pt_not ha) fun σ H Q h => by
    obtain ⟨env, W, z, env', re, e, k⟩ := h
    obtain ⟨c, env1, ec, e⟩ := bnd_eq e
    cases e
    exact ⟨env, W, c, _, re, ec, fun H1 W1 r1 t1 => k H1 W1 r1 t1⟩
theorem qx_if (hc : PXT X c tc) (ha : PX X a fa) (hb : PX X b fb) : PX X (.IfExp c a b pos) (fIf tc fa fb) :=
  PE.imp (pe_ifExp hc ha hb) fun σ H Q h => by
    obtain ⟨env, W, z, env', re, e, k⟩ := h
    obtain ⟨c, env1, ec, e⟩ := bnd_eq e
    refine ⟨env, W, c, env1, re, ec, fun H1 W1 r1 t1 => ?_⟩
    unfold fIf1 at e
    split at e
    · rename_i hc
      rw [if_pos hc]
      exact ⟨env1, W1, z, env', r1, e, fun v H2 W2 F r2 ra tm t2 => k v H2 W2 F r2 ra tm (t1.trans0 t2)⟩
    · rename_i hc
      rw [if_neg hc]
      exact ⟨env1, W1, z, env', r1, e, fun v H2 W2 F r2 ra tm t2 => k v H2 W2 F r2 ra tm (t1.trans0 t2)⟩
theorem qx_one {op} (h : PX X a fa) : PX X (.BoolOp op [a] pos) fa := pe_one h
theorem qx_and (ha : PX X a fa) (hb : PX X (.BoolOp .And (b :: rest) pos) fb) : PX X (.BoolOp .And (a :: b :: rest) pos) (fAnd fa fb) :=
  PE.imp (pe_and ha hb) fun σ H Q h => by
    obtain ⟨env, W, z, env', re, e, k⟩ := h
    obtain ⟨c, env1, ec, e⟩ := bnd_eq e
    refine ⟨env, W, c, env1, re, ec, fun x H1 W1 F1 r1 ra tm t1 => ?_⟩
    unfold fAnd1 andK at e
    split at e
    · rename_i kb hk
      refine ⟨kb, rd_bl (ra.read r1 hk), ?_⟩
      split at e
      · rename_i hc
        rw [if_pos hc]
        exact ⟨env1, W1, z, env', r1, e, fun v H2 W2 F r2 ra tm t2 => k v H2 W2 F r2 ra tm (t1.trans0 t2)⟩
      · rename_i hc
        cases e
        rw [if_neg hc]
        exact k _ H1 W1 F0 r1 (.bl false) Tm.zero (t1.less fun _ z => z.elim)
    · cases e
theorem qx_or (ha : PX X a fa) (hb : PX X (.BoolOp .Or (b :: rest) pos) fb) : PX X (.BoolOp .Or (a :: b :: rest) pos) (fOr fa fb) :=
  PE.imp (pe_or ha hb) fun σ H Q h => by
    obtain ⟨env, W, z, env', re, e, k⟩ := h
    obtain ⟨c, env1, ec, e⟩ := bnd_eq e
    refine ⟨env, W, c, env1, re, ec, fun x H1 W1 F1 r1 ra tm t1 => ?_⟩
    unfold fOr1 orK at e
    split at e
    · rename_i kb hk
      refine ⟨kb, rd_bl (ra.read r1 hk), ?_⟩
      split at e
      · rename_i hc
        cases e
        rw [if_pos hc]
        exact k _ H1 W1 F0 r1 (.bl true) Tm.zero (t1.less fun _ z => z.elim)
      · rename_i hc
        rw [if_neg hc]
        exact ⟨env1, W1, z, env', r1, e, fun v H2 W2 F r2 ra tm t2 => k v H2 W2 F r2 ra tm (t1.trans0 t2)⟩
    · cases e
theorem qx_not (ha : PX X a fa) : PX X (.UnaryOp .Not a pos) (fUn oNotB fa) :=
  PE.imp (pe_not ha) fun σ H Q h => un_read (r := fun x H1 Q => ∃ c, x = .bl c ∧ Q (.bl (!c)) H1) (fun H x sx s Q e hx f => by
    unfold oNotB at e
    split at e
    · cases e
      exact ⟨_, rd_bl hx, f.bl⟩
    · cases e) h
end

/-! ### lists of arguments -/
def Fany : List (Addr → Prop) → Addr → Prop
  | [], _ => False
  | F :: Fs, b => F b ∨ Fany Fs b
inductive RAs (K : PySem.W.Frag) (H : Hp) (σ : Sl) (W : Ow) : List Arg → List V → List (Addr → Prop) → Prop
  | nil : RAs K H σ W [] [] []
  | cons {a as v vs F Fs} : RA K H σ a v F → Tm W H F → (∀ b, F b → ¬ Fany Fs b) → RAs K H σ W as vs Fs → RAs K H σ W (a :: as) (v :: vs) (F :: Fs)
def tA (K : PySem.W.Frag) (f : Fn1 (List Arg)) : TA := fun σ H Q => ∃ env W as env', RE K H σ env W ∧ f env = some (as, env') ∧
  ∀ vs H' W' Fs, RE K H' σ env' W' → RAs K H' σ W' as vs Fs → Tr W H W' H' (Fany Fs) → Q vs H'
abbrev PXA (X : Cx) (es : List Expr) (f : Fn1 (List Arg)) : Prop := PA X es (tA X.K f)
theorem PA.imp {X : Cx} {e : List Expr} {t t' : TA} (h : PA X e t) (i : ∀ σ H Q, t' σ H Q → t σ H Q) : PA X e t' := ⟨fun pos pins s σ H Q I q => h.run pos pins s σ H Q I (i σ H Q q)⟩
def fNil : Fn1 (List Arg) := fun e => some ([], e)
def fCons2 (a : Arg) (as : List Arg) (e : En) : Option (List Arg × En) := some (a :: as, e)
def fCons1 (fs : Fn1 (List Arg)) (a : Arg) (e : En) : Option (List Arg × En) := bnd (fs e) (fCons2 a)
def fCons (fa : Fn1 Arg) (fs : Fn1 (List Arg)) : Fn1 (List Arg) := fun e => bnd (fa e) (fCons1 fs)
section
variable {X : Cx} {e : Expr} {es : List Expr} {fa : Fn1 Arg} {fs : Fn1 (List Arg)} {pos : Pos}
theorem qa_nil : PXA X [] fNil := PA.imp pa_nil fun σ H Q h => by
  obtain ⟨env, W, z, env', re, e, k⟩ := h
  cases e
  exact k [] H W [] re .nil (Tr.refl.less fun b z => z)
theorem qa_cons (ha : PX X e fa) (hr : PXA X es fs) (hs : starEach (e :: es) X.env = (false, eval e X.env) :: starEach es X.env := by rfl) : PXA X (e :: es) (fCons fa fs) := PA.imp (pa_cons ha hr hs) fun σ H Q h => by
  obtain ⟨env, W, z, env', re, e, k⟩ := h
  obtain ⟨a, env1, ea, e⟩ := bnd_eq e
  obtain ⟨as, env2, eas, e⟩ := bnd_eq e
  cases e
  refine ⟨env, W, a, env1, re, ea, fun v H1 W1 F r1 ra tm t1 => ⟨env1, W1, as, _, r1, eas, fun vs H2 W2 Fs r2 ras t2 => ?_⟩⟩
  exact k (v :: vs) H2 W2 (F :: Fs) r2 (.cons (ra.keep r1.mu t2 tm) (Tm.keep t2 tm) (fun c z => (t2.out c (mut_some (tm c z).2) (tm c z).1).2) ras) (t1.trans t2)
end
def gets : List Arg → En → Option (List S)
  | [], _ => some []
  | a :: as, e => match a.get e, gets as e with
    | some s, some ss => some (s :: ss)
    | _, _ => none
inductive RR (K : PySem.W.Frag) (H : Hp) : List S → List V → Prop
  | nil : RR K H [] []
  | cons {s v ss vs} : Rd1 K H s v → RR K H ss vs → RR K H (s :: ss) (v :: vs)
theorem gets_cons {a : Arg} {as : List Arg} {e : En} {ss : List S} (h : gets (a :: as) e = some ss) : ∃ s ss', ss = s :: ss' ∧ a.get e = some s ∧ gets as e = some ss' := by
  unfold gets at h
  split at h
  · cases h
    exact ⟨_, _, rfl, by assumption, by assumption⟩
  · cases h
@[simp] theorem gets_nil {e : En} : gets [] e = some [] := rfl
def cons? (s : Option S) (ss : Option (List S)) : Option (List S) := match s, ss with
  | some s, some ss => some (s :: ss)
  | _, _ => none
@[simp] theorem cons?_some {s : S} {ss : List S} : cons? (some s) (some ss) = some (s :: ss) := rfl
@[simp] theorem gets_cons' {a : Arg} {as : List Arg} {e : En} : gets (a :: as) e = cons? (a.get e) (gets as e) := rfl
theorem RAs.read {K : PySem.W.Frag} {H : Hp} {σ : Sl} {env : En} {W : Ow} (r : RE K H σ env W) : ∀ {as : List Arg} {vs : List V} {Fs : List (Addr → Prop)} {ss : List S}, RAs K H σ W as vs Fs → gets as env = some ss → RR K H ss vs
  | _, _, _, _, .nil, e => by cases e; exact .nil
  | _, _, _, _, .cons ra _ _ t, e => by
    obtain ⟨s, ss', rfl, e1, e2⟩ := gets_cons e
    exact .cons (ra.read r e1) (RAs.read r t e2)
def OpN (K : PySem.W.Frag) (r : List V → Hp → VK → Prop) (o : List S → Option S) : Prop := ∀ H vs ss s Q, o ss = some s → RR K H ss vs → Fin K H s Q → r vs H Q
def opN (o : List S → Option S) (x : Option (List S)) : Option S := match x with
  | some x => o x
  | none => none
@[simp] theorem opN_some {o : List S → Option S} {x : List S} : opN o (some x) = o x := rfl
theorem opN_eq {o : List S → Option S} {x : Option (List S)} {z : S} (h : opN o x = some z) : ∃ a, x = some a ∧ o a = some z := by
  cases x with
  | none => cases h
  | some a => exact ⟨a, rfl, h⟩
def fOp1 (o : List S → Option S) (as : List Arg) (e : En) : Option (Arg × En) := ret (opN o (gets as e)) e
def fOp (o : List S → Option S) (fs : Fn1 (List Arg)) : Fn1 Arg := fun e => bnd (fs e) (fOp1 o)
theorem opN_read {K : PySem.W.Frag} {r : List V → Hp → VK → Prop} {o : List S → Option S} {fs : Fn1 (List Arg)} (hr : OpN K r o) {σ : Sl} {H : Hp} {Q : VK} (h : tE K (fOp o fs) σ H Q) : tA K fs σ H fun vs H1 => r vs H1 Q := by
  obtain ⟨env, W, z, env2, re, e, k⟩ := h
  obtain ⟨as, env1, ea, e⟩ := bnd_eq e
  obtain ⟨s, eq1, er⟩ := ret_eq e
  cases er
  obtain ⟨ss, e1, eo⟩ := opN_eq eq1
  exact ⟨env, W, as, _, re, ea, fun vs H1 W1 Fs r1 ras t1 => hr H1 vs ss s Q eo (ras.read r1 e1) (fin_of r1 t1 k)⟩

/-! ### displays -/
def allD : List S → Option (List D)
  | [] => some []
  | .d x :: ss => (allD ss).map (x :: ·)
  | _ :: _ => none
@[simp] theorem allD_nil : allD [] = some [] := rfl
@[simp] theorem allD_cons {x : D} {ss : List S} : allD (.d x :: ss) = (allD ss).map (x :: ·) := rfl
theorem allD_rds {K : PySem.W.Frag} {H : Hp} : ∀ {ss : List S} {vs : List V} {ds : List D}, RR K H ss vs → allD ss = some ds → RDs K H ds vs
  | _, _, _, .nil, e => by cases e; exact .nil
  | .d x :: ss, _, ds, .cons ⟨P, h⟩ t, e => by
    have e : (allD ss).map (x :: ·) = some ds := e
    cases q : allD ss with
    | none => rw [q] at e; cases e
    | some ds' =>
      rw [q] at e
      cases e
      exact .cons h (allD_rds t q)
  | .m x :: ss, _, ds, .cons _ t, e => by cases e
  | .lk x :: ss, _, ds, .cons _ t, e => by cases e
def oTup (ss : List S) : Option S := (allD ss).bind fun ds => if ds.length ≤ sizeLine then some (.d (.tup ds)) else none
def oLst (ss : List S) : Option S := (allD ss).bind fun ds => if ds.length ≤ sizeLine then some (.m (.lst ds)) else none
section
variable {X : Cx} {es : List Expr} {fs : Fn1 (List Arg)} {pos : Pos}
theorem qx_tup {x1} (h : PXA X es fs) : PX X (.Tuple es x1 pos) (fOp oTup fs) := PE.imp (pe_tup h) fun σ H Q h =>
  opN_read (r := fun xs H1 Q => xs.length ≤ sizeLine ∧ ∀ p, H1 p = none → Q (.ref p) (upd H1 p (.tup xs))) (fun H vs ss s Q e rr f => by
    unfold oTup at e
    cases q : allD ss with
    | none => rw [q] at e; cases e
    | some ds =>
      rw [q] at e
      have e : (if ds.length ≤ sizeLine then some (S.d (.tup ds)) else none) = some s := e
      split at e
      · rename_i hz
        cases e
        have rd := allD_rds rr q
        exact ⟨by rw [← rd.length]; exact hz, fun p hp => f.tup rd hp⟩
      · cases e) h
theorem qx_lst (h : PXA X es fs) : PX X (.List es pos) (fOp oLst fs) := PE.imp (pe_lst h) fun σ H Q h =>
  opN_read (r := fun xs H1 Q => xs.length ≤ sizeLine ∧ ∀ p, H1 p = none → Q (.ref p) (upd H1 p (.lst xs))) (fun H vs ss s Q e rr f => by
    unfold oLst at e
    cases q : allD ss with
    | none => rw [q] at e; cases e
    | some ds =>
      rw [q] at e
      have e : (if ds.length ≤ sizeLine then some (S.m (.lst ds)) else none) = some s := e
      split at e
      · rename_i hz
        cases e
        have rd := allD_rds rr q
        exact ⟨by rw [← rd.length]; exact hz, fun p hp => f.lst rd hp⟩
      · cases e) h

/-! ### builtins by name -/
structure CallOk (X : Cx) (f : Value) (o : List S → Option S) : Prop where
  ex : ∃ r, CallR X f r ∧ OpN X.K r o
variable {x : Str} {p : Pos} {e : Expr} {id T : String} {o : List S → Option S}
theorem qx_callB (c : CallOk X (.builtin id) o) (hg : Gl X x) (hm : X.mg x = none) (hv : bootBuiltins x = some (.builtin id)) (ha : PXA X (e :: es) fs) (hn : x ≠ "__name__" := by decide) (hdb : (x == ("__debug__" : Str)) = false := by decide)
    (he : starEach (e :: es) X.env = (false, eval e X.env) :: starEach es X.env := by rfl) (hpl : (backTo pos (starEach es X.env)).any (·.1) = false := by rfl) : PX X (.Call (.Name x p) (e :: es) [] pos) (fOp o fs) :=
  let ⟨_, h1, h2⟩ := c.ex
  PE.imp (pe_callB h1 hg hm hv ha hn hdb he hpl) fun σ H Q h => opN_read h2 h
theorem qx_callTy (c : CallOk X (.type T) o) (hg : Gl X x) (hm : X.mg x = none) (hv : bootBuiltins x = some (.type T)) (ha : PXA X (e :: es) fs) (hn : x ≠ "__name__" := by decide) (hdb : (x == ("__debug__" : Str)) = false := by decide)
    (he : starEach (e :: es) X.env = (false, eval e X.env) :: starEach es X.env := by rfl) (hpl : (backTo pos (starEach es X.env)).any (·.1) = false := by rfl) : PX X (.Call (.Name x p) (e :: es) [] pos) (fOp o fs) :=
  let ⟨_, h1, h2⟩ := c.ex
  PE.imp (pe_callTy h1 hg hm hv ha hn hdb he hpl) fun σ H Q h => opN_read h2 h
end
end QL
end

section
set_option Elab.async false
set_option linter.all false
set_option maxRecDepth 100000
namespace QL
open PySem PySem.Spec PyProof.Rows L2

/-! ### statements -/
inductive Res where
  | nx (e : En) | rt (s : S) (e : En) | bk (e : En) | ct (e : En)
abbrev FS := En → Option Res
def Eqs (A : List Nat) (σ σ' : Sl) : Prop := σ'.length = σ.length ∧ ∀ j, j ∉ A → σ'[j]? = σ[j]?
def Post (K : PySem.W.Frag) (A : List Nat) (W : Ow) (σ : Sl) (H : Hp) (Dn : Ends) : Res → Prop
  | .nx e => ∀ σ' H' W', RE K H' σ' e W' → Tr W H W' H' F0 → Eqs A σ σ' → Dn.nx σ' H'
  | .rt s e => ∀ v σ' H' W' F, RE K H' σ' e W' → RS K H' s v F → Tm W' H' F → Tr W H W' H' F → Eqs A σ σ' → Dn.rt v H'
  | .bk e => ∀ σ' H' W', RE K H' σ' e W' → Tr W H W' H' F0 → Eqs A σ σ' → Dn.bk σ' H'
  | .ct e => ∀ σ' H' W', RE K H' σ' e W' → Tr W H W' H' F0 → Eqs A σ σ' → Dn.ct σ' H'
def tS (K : PySem.W.Frag) (A : List Nat) (f : FS) : TS := fun Dn σ H => ∃ env W r, RE K H σ env W ∧ f env = some r ∧ Post K A W σ H Dn r
abbrev PXS (X : Cx) (st : Stmt) (A : List Nat) (f : FS) : Prop := PS X st (tS X.K A f)
abbrev PXSs (X : Cx) (st : List Stmt) (A : List Nat) (f : FS) : Prop := PSs X st (tS X.K A f)
theorem PS.imp {X : Cx} {e : Stmt} {t t' : TS} (h : PS X e t) (i : ∀ D σ H, t' D σ H → t D σ H) : PS X e t' := ⟨fun pins s σ H D I q => h.run pins s σ H D I (i D σ H q)⟩
theorem PSs.imp {X : Cx} {e : List Stmt} {t t' : TS} (h : PSs X e t) (i : ∀ D σ H, t' D σ H → t D σ H) : PSs X e t' := ⟨fun pins s σ H D I q => h.run pins s σ H D I (i D σ H q)⟩
theorem Eqs.refl {A : List Nat} {σ : Sl} : Eqs A σ σ := ⟨rfl, fun _ _ => rfl⟩
theorem Eqs.trans {A B C : List Nat} {σ σ1 σ2 : Sl} (a : Eqs A σ σ1) (b : Eqs B σ1 σ2) (h1 : ∀ j ∈ A, j ∈ C) (h2 : ∀ j ∈ B, j ∈ C) : Eqs C σ σ2 := ⟨b.1.trans a.1, fun j n => (b.2 j fun z => n (h2 j z)).trans (a.2 j fun z => n (h1 j z))⟩
theorem Eqs.more {A B : List Nat} {σ σ1 : Sl} (a : Eqs A σ σ1) (h : ∀ j ∈ A, j ∈ B) : Eqs B σ σ1 := ⟨a.1, fun j n => a.2 j fun z => n (h j z)⟩
theorem Post.after {K : PySem.W.Frag} {A B C : List Nat} {W W1 : Ow} {σ σ1 : Sl} {H H1 : Hp} {Dn : Ends} {r : Res} (p : Post K C W σ H Dn r) (t : Tr W H W1 H1 F0) (q : Eqs A σ σ1) (h1 : ∀ j ∈ A, j ∈ C) (h2 : ∀ j ∈ B, j ∈ C) : Post K B W1 σ1 H1 Dn r := by
  cases r with
  | nx e => exact fun σ' H' W' r t' q' => p σ' H' W' r (t.trans0 t') (q.trans q' h1 h2)
  | rt s e => exact fun v σ' H' W' F r rs tm t' q' => p v σ' H' W' F r rs tm (t.trans0 t') (q.trans q' h1 h2)
  | bk e => exact fun σ' H' W' r t' q' => p σ' H' W' r (t.trans0 t') (q.trans q' h1 h2)
  | ct e => exact fun σ' H' W' r t' q' => p σ' H' W' r (t.trans0 t') (q.trans q' h1 h2)
def sNext : FS := fun e => some (.nx e)
def sqK (r : Option Res) (g : FS) : Option Res := match r with
  | some (.nx e) => g e
  | r => r
@[simp] theorem sqK_nx {e : En} {g : FS} : sqK (some (.nx e)) g = g e := rfl
@[simp] theorem sqK_rt {s : S} {e : En} {g : FS} : sqK (some (.rt s e)) g = some (.rt s e) := rfl
@[simp] theorem sqK_bk {e : En} {g : FS} : sqK (some (.bk e)) g = some (.bk e) := rfl
@[simp] theorem sqK_ct {e : En} {g : FS} : sqK (some (.ct e)) g = some (.ct e) := rfl
def sSeq (f g : FS) : FS := fun e => sqK (f e) g
section
variable {X : Cx} {st : Stmt} {rest : List Stmt} {A B : List Nat} {f g : FS} {pos : Pos}
theorem qs_nil : PXSs X [] [] sNext := PSs.imp pss_nil fun D σ H h => by
  obtain ⟨env, W, r, re, e, p⟩ := h
  cases e
  exact p σ H W re Tr.refl Eqs.refl
theorem qs_cons (h1 : PXS X st A f) (h2 : PXSs X rest B g) : PXSs X (st :: rest) (A ++ B) (sSeq f g) := PSs.imp (pss_cons h1 h2) fun D σ H h => by
  obtain ⟨env, W, r, re, e, p⟩ := h
  have inA : ∀ j ∈ A, j ∈ A ++ B := fun j z => List.mem_append_left _ z
  have inB : ∀ j ∈ B, j ∈ A ++ B := fun j z => List.mem_append_right _ z
  unfold sSeq at e
  cases q : f env with
  | none => rw [q] at e; cases e
  | some r1 =>
    rw [q] at e
    refine ⟨env, W, r1, re, q, ?_⟩
    cases r1 with
    | nx e1 => exact fun σ1 H1 W1 r1 t1 q1 => ⟨e1, W1, r, r1, e, p.after t1 q1 inA inB⟩
    | rt s e1 =>
      cases e
      exact fun v σ' H' W' F r rs tm t' q' => p v σ' H' W' F r rs tm t' (q'.more inA)
    | bk e1 =>
      cases e
      exact fun σ' H' W' r t' q' => p σ' H' W' r t' (q'.more inA)
    | ct e1 =>
      cases e
      exact fun σ' H' W' r t' q' => p σ' H' W' r t' (q'.more inA)
theorem qs_one (h1 : PXS X st A f) : PXSs X [st] A f := pss_one h1
theorem qs_pass : PXS X (.Pass pos) [] sNext := PS.imp ps_pass fun D σ H h => by
  obtain ⟨env, W, r, re, e, p⟩ := h
  cases e
  exact p σ H W re Tr.refl Eqs.refl
def sBreak : FS := fun e => some (.bk e)
def sCont : FS := fun e => some (.ct e)
theorem qs_break : PXS X (.Break pos) [] sBreak := PS.imp ps_break fun D σ H h => by
  obtain ⟨env, W, r, re, e, p⟩ := h
  cases e
  exact p σ H W re Tr.refl Eqs.refl
theorem qs_cont : PXS X (.Continue pos) [] sCont := PS.imp ps_continue fun D σ H h => by
  obtain ⟨env, W, r, re, e, p⟩ := h
  cases e
  exact p σ H W re Tr.refl Eqs.refl
/-- what is never reached (a raise) -/
def sNever : FS := fun _ => none
theorem qs_never : PXS X st [] sNever := PS.imp ps_never fun D σ H h => by
  obtain ⟨env, W, r, re, e, p⟩ := h
  cases e
end

/-! ### storing -/
theorem RE.set {K : PySem.W.Frag} {H : Hp} {σ : Sl} {env : En} {W : Ow} {i : Nat} {s : S} {v : V} {F : Addr → Prop} (r : RE K H σ env W) (h : RS K H s v F) (tm : Tm W H F) :
    RE K H (σ.set i (some v)) (env.set i (some s)) (fun k b => if k = i then F b else W k b) where
  slots := fun j t e => by
    by_cases hj : j = i
    · subst hj
      rw [List.getElem?_set] at e
      rw [if_pos rfl] at e
      split at e
      · cases e
        rename_i hl
        refine ⟨v, ?_, ?_⟩
        · rw [List.getElem?_set_self (by rw [← r.len]; exact hl)]
        · exact h.imp fun b z => by rw [if_pos rfl]; exact z
      · cases e
    · rw [List.getElem?_set_ne (Ne.symm hj)] at e
      obtain ⟨w, h1, h2⟩ := r.slots j t e
      refine ⟨w, by rw [List.getElem?_set_ne (Ne.symm hj)]; exact h1, h2.imp fun b z => ?_⟩
      rw [if_neg hj]
      exact z
  apart := fun j k b h1 h2 => by
    by_cases hj : j = i
    · rw [if_pos hj] at h1
      by_cases hk : k = i
      · rw [hj, hk]
      · rw [if_neg hk] at h2
        exact absurd ⟨k, h2⟩ (tm b h1).1
    · rw [if_neg hj] at h1
      by_cases hk : k = i
      · rw [if_pos hk] at h2
        exact absurd ⟨j, h1⟩ (tm b h2).1
      · rw [if_neg hk] at h2
        exact r.apart j k b h1 h2
  mu := fun j b h1 => by
    by_cases hj : j = i
    · rw [if_pos hj] at h1
      exact (tm b h1).2
    · rw [if_neg hj] at h1
      exact r.mu j b h1
  len := by rw [List.length_set, List.length_set]; exact r.len
/-- behind a store -/
theorem Tr.set {W W1 : Ow} {H H1 : Hp} {F : Addr → Prop} {i : Nat} (t : Tr W H W1 H1 F) : Tr W H (fun k b => if k = i then F b else W1 k b) H1 F0 :=
  ⟨t.frame, t.dom, fun b e n => ⟨fun ⟨k, z⟩ => by
    have h := t.out b e n
    have z : if k = i then F b else W1 k b := z
    by_cases hk : k = i
    · rw [if_pos hk] at z
      exact h.2 z
    · rw [if_neg hk] at z
      exact h.1 ⟨k, z⟩, fun z => z⟩⟩
theorem eqs_set {σ : Sl} {i : Nat} {v : Option V} : Eqs [i] σ (σ.set i v) := ⟨List.length_set, fun j n => by
  rw [List.getElem?_set_ne]
  intro e
  exact n (by rw [e]; exact List.mem_singleton.mpr rfl)⟩
/-- the value that a store takes -/
def valK (i : Nat) (a : Arg) (e : En) : Option Res := match a with
  | .val (.lk _) => none
  | .val s => some (.nx (e.set i (some s)))
  | .slot j => match e[j]? with
    | some (some (.d x)) => some (.nx (e.set i (some (.d x))))
    | _ => none
def bndS {α : Type} (x : Option (α × En)) (k : α → En → Option Res) : Option Res := match x with
  | some p => k p.1 p.2
  | none => none
@[simp] theorem bndS_some {α : Type} {a : α} {e : En} {k : α → En → Option Res} : bndS (some (a, e)) k = k a e := rfl
theorem bndS_eq {α : Type} {x : Option (α × En)} {k : α → En → Option Res} {r : Res} (h : bndS x k = some r) : ∃ a e, x = some (a, e) ∧ k a e = some r := by
  cases x with
  | none => cases h
  | some p => exact ⟨p.1, p.2, rfl, h⟩
@[simp] theorem valK_d {i : Nat} {x : D} {e : En} : valK i (.val (.d x)) e = some (.nx (e.set i (some (.d x)))) := rfl
@[simp] theorem valK_m {i : Nat} {x : M} {e : En} : valK i (.val (.m x)) e = some (.nx (e.set i (some (.m x)))) := rfl
def slotK (i : Nat) (z : Option (Option S)) (e : En) : Option Res := match z with
  | some (some (.d x)) => some (.nx (e.set i (some (.d x))))
  | _ => none
@[simp] theorem slotK_d {i : Nat} {x : D} {e : En} : slotK i (some (some (.d x))) e = some (.nx (e.set i (some (.d x)))) := rfl
@[simp] theorem valK_slot {i j : Nat} {e : En} : valK i (.slot j) e = slotK i e[j]? e := by
  unfold valK slotK
  rfl
theorem valK_ok {K : PySem.W.Frag} {i : Nat} {a : Arg} {e : En} {r : Res} {H H1 : Hp} {σ : Sl} {W W1 : Ow} {v : V} {F : Addr → Prop} {D : Ends} (h : valK i a e = some r) (re : RE K H1 σ e W1) (ra : RA K H1 σ a v F) (tm : Tm W1 H1 F) (t : Tr W H W1 H1 F) (p : Post K [i] W σ H D r) :
    D.nx (σ.set i (some v)) H1 := by
  cases a with
  | val s =>
    cases s with
    | lk x => cases h
    | d x =>
      cases h
      exact p _ H1 _ (re.set ra tm) t.set eqs_set
    | m x =>
      cases h
      exact p _ H1 _ (re.set ra tm) t.set eqs_set
  | slot j =>
    rw [valK_slot] at h
    unfold slotK at h
    split at h
    · rename_i x hx
      cases h
      obtain ⟨w, h1, h2⟩ := re.slots j _ hx
      have h' : σ[j]? = some (some v) := ra
      rw [h1] at h'
      cases h'
      exact p _ H1 _ (re.set (F := F0) h2 Tm.zero) (t.less fun _ z => z.elim).set eqs_set
    · cases h
def sSet (i : Nat) (fa : Fn1 Arg) : FS := fun e => bndS (fa e) (valK i)
section
variable {X : Cx} {i : Nat} {x : Str} {e : Expr} {fa : Fn1 Arg} {pos pos' : Pos}
theorem asg_read {K : PySem.W.Frag} {D : Ends} {σ : Sl} {H : Hp} (h : tS K [i] (sSet i fa) D σ H) : tAsg (tE K fa) (gName i) D σ H := by
  obtain ⟨env, W, r, re, e, p⟩ := h
  obtain ⟨a, env1, ea, e⟩ := bndS_eq e
  exact ⟨env, W, a, env1, re, ea, fun v H1 W1 F r1 ra tm t => valK_ok e r1 ra tm t p⟩
theorem qs_set (hN : X.N.Nodup) (he : PX X e fa) (hi : X.N[i]? = some x := by rfl) (hx : Loc X.env.scope x := by first | exact Or.inl rfl | exact Or.inr rfl) (hs : swapsWith e (some (.Name x pos')) pos.line X.env = pure false := by rfl)
    (hf : X.fn x = true ∨ X.env.scope.names.lookup x = some .local := by first | exact .inl rfl | exact .inr rfl | assumption) :
    PXS X (.Assign [.Name x pos'] e pos) [i] (sSet i fa) := PS.imp (ps_set hN hi hx he hs hf) fun D σ H h => asg_read h
def sAug1 (i : Nat) (o : S → S → Option S) (x : Option (Option S)) (b : Arg) (e : En) : Option Res := bndS (ret (op2 o x.join (b.get e)) e) (valK i)
def augK (i : Nat) (o : S → S → Option S) (fb : Fn1 Arg) (x : Option (Option S)) (e : En) : Option Res := match x with
  | some (some (.d x)) => bndS (fb e) (sAug1 i o (some (some (.d x))))
  | _ => none
@[simp] theorem augK_d {i : Nat} {o : S → S → Option S} {fb : Fn1 Arg} {x : D} {e : En} : augK i o fb (some (some (.d x))) e = bndS (fb e) (sAug1 i o (some (some (.d x)))) := rfl
def sAug (i : Nat) (o : S → S → Option S) (fb : Fn1 Arg) : FS := fun e => augK i o fb e[i]? e
structure AugOk (X : Cx) (op : Operator) (o : S → S → Option S) : Prop where
  ex : ∃ r, OpR X (inplaceOp op) r ∧ Op2 X.K r o
theorem qs_aug {op : Operator} {o : S → S → Option S} (c : AugOk X op o) (hN : X.N.Nodup) (he : PX X e fa) (hi : X.N[i]? = some x := by rfl) (hx : Loc X.env.scope x := by first | exact Or.inl rfl | exact Or.inr rfl)
    (hf : X.fn x = true ∨ X.env.scope.names.lookup x = some .local := by first | exact .inl rfl | exact .inr rfl | assumption) :
    PXS X (.AugAssign (.Name x pos') op e pos) [i] (sAug i o fa) := by
  obtain ⟨r, h1, h2⟩ := c.ex
  refine PS.imp (ps_aug (ti := r) hN hi hx he (fun pins s σ H x y v u Q I rx ry q => h1 pins s σ H x y v u Q I rx ry q) hf) fun D σ H h => ?_
  obtain ⟨env, W, rr, re, e, p⟩ := h
  unfold sAug augK at e
  split at e
  · rename_i x hx
    obtain ⟨b, env1, eb, e⟩ := bndS_eq e
    obtain ⟨a, env2, e1, e⟩ := bndS_eq e
    obtain ⟨s, e2, er⟩ := ret_eq e1
    cases er
    obtain ⟨v, s1, s2⟩ := re.slots i _ hx
    refine ⟨v, s1, env, W, b, _, re, eb, fun y H1 W1 F1 r1 ra tm t => ?_⟩
    obtain ⟨sx, sy, e3, e4, eo⟩ := op2_eq e2
    cases e3
    have rx : Rd1 X.K H1 (.d x) v := ⟨F0, RD.pst (re.pst t) s2⟩
    exact h2 H1 v y _ sy s _ eo rx (ra.read r1 e4) (fin_of r1 t fun v H' W' F r ra tm t => valK_ok e r ra tm t p)
  · cases e
def oIAdd : S → S → Option S := fun x y => (iOp (fun i j => .int (i + j)) x y).or (oCatS x y)
@[simp] theorem oIAdd_int {i j : Int} : oIAdd (.d (.int i)) (.d (.int j)) = some (.d (.int (i + j))) := rfl
theorem qg_add : AugOk X .Add oIAdd := ⟨_, OpR.or iop_add iop_add_str, (op2_int fun H i j => .int _).or op2_catS⟩
theorem qg_sub : AugOk X .Sub oSub := ⟨_, iop_sub, op2_int fun H i j => .int _⟩
def mulC64 (i j : Int) : Bool := decide (i.natAbs < 2 ^ 64 ∨ j.natAbs < 2 ^ 64)
def oIMul : S → S → Option S := iOpC mulC64 fun i j => .int (i * j)
@[simp] theorem oIMul_int {i j : Int} : oIMul (.d (.int i)) (.d (.int j)) = if mulC64 i j = true then some (.d (.int (i * j))) else none := rfl
theorem qg_mul : AugOk X .Mult oIMul := ⟨_, iop_mul, op2_intC (fun H i j => .int _) fun i j h => by
  have h : i.natAbs < 2 ^ 64 ∨ j.natAbs < 2 ^ 64 := of_decide_eq_true h
  unfold CMul
  omega⟩
def divC30 (_ j : Int) : Bool := decide (0 < j ∧ j < 1073741824)
def oIDiv : S → S → Option S := iOpC divC30 fun i j => .int (i / j)
@[simp] theorem oIDiv_int {i j : Int} : oIDiv (.d (.int i)) (.d (.int j)) = if divC30 i j = true then some (.d (.int (i / j))) else none := rfl
theorem qg_div : AugOk X .FloorDiv oIDiv := ⟨_, iop_fdiv, op2_intC (fun H i j => .int _) fun i j h => (show CDiv i j from of_decide_eq_true (p := 0 < j ∧ j < 1073741824) h)⟩
theorem qg_mod : AugOk X .Mod oMod := ⟨_, iop_mod, op2_intC (fun H i j => .int _) fun i j h => of_decide_eq_true h⟩
def sExpr1 (_ : Arg) (e : En) : Option Res := some (.nx e)
def sExpr (fa : Fn1 Arg) : FS := fun e => bndS (fa e) sExpr1
theorem qs_expr (he : PX X e fa) (hs : swapsWith e none pos.line X.env = pure false := by rfl) : PXS X (.Expr e pos) [] (sExpr fa) := PS.imp (ps_expr he hs) fun D σ H h => by
  obtain ⟨env, W, r, re, e, p⟩ := h
  obtain ⟨a, env1, ea, e⟩ := bndS_eq e
  cases e
  exact ⟨env, W, a, _, re, ea, fun v H1 W1 F r1 ra tm t => p σ H1 W1 r1 (t.less fun _ z => z.elim) Eqs.refl⟩
/-- what a return hands back: a list of a slot leaves the slot -/
def rtK (a : Arg) (e : En) : Option Res := match a with
  | .val (.lk _) => none
  | .val s => some (.rt s e)
  | .slot j => match e[j]? with
    | some (some (.d x)) => some (.rt (.d x) e)
    | some (some (.m x)) => some (.rt (.m x) (e.set j none))
    | _ => none
def rtS (j : Nat) (z : Option (Option S)) (e : En) : Option Res := match z with
    | some (some (.d x)) => some (.rt (.d x) e)
    | some (some (.m x)) => some (.rt (.m x) (e.set j none))
    | _ => none
@[simp] theorem rtK_d {x : D} {e : En} : rtK (.val (.d x)) e = some (.rt (.d x) e) := rfl
@[simp] theorem rtK_m {x : M} {e : En} : rtK (.val (.m x)) e = some (.rt (.m x) e) := rfl
@[simp] theorem rtK_slot {j : Nat} {e : En} : rtK (.slot j) e = rtS j e[j]? e := rfl
@[simp] theorem rtS_d {j : Nat} {x : D} {e : En} : rtS j (some (some (.d x))) e = some (.rt (.d x) e) := rfl
@[simp] theorem rtS_m {j : Nat} {x : M} {e : En} : rtS j (some (some (.m x))) e = some (.rt (.m x) (e.set j none)) := rfl
theorem RE.forget {K : PySem.W.Frag} {H : Hp} {σ : Sl} {env : En} {W : Ow} {i : Nat} (r : RE K H σ env W) : RE K H σ (env.set i none) (fun k b => if k = i then False else W k b) where
  slots := fun j t e => by
    by_cases hj : j = i
    · subst hj
      rw [List.getElem?_set, if_pos rfl] at e
      split at e <;> cases e
    · rw [List.getElem?_set_ne (Ne.symm hj)] at e
      obtain ⟨w, h1, h2⟩ := r.slots j t e
      refine ⟨w, h1, h2.imp fun b z => ?_⟩
      rw [if_neg hj]
      exact z
  apart := fun j k b h1 h2 => by
    by_cases hj : j = i
    · rw [if_pos hj] at h1
      exact h1.elim
    · rw [if_neg hj] at h1
      by_cases hk : k = i
      · rw [if_pos hk] at h2
        exact h2.elim
      · rw [if_neg hk] at h2
        exact r.apart j k b h1 h2
  mu := fun j b h1 => by
    by_cases hj : j = i
    · rw [if_pos hj] at h1
      exact h1.elim
    · rw [if_neg hj] at h1
      exact r.mu j b h1
  len := by rw [List.length_set]; exact r.len
def sRet (fa : Fn1 Arg) : FS := fun e => bndS (fa e) rtK
theorem qs_ret (he : PX X e fa) : PXS X (.Return (some e) pos) [] (sRet fa) := PS.imp (ps_ret he) fun D σ H h => by
  obtain ⟨env, W, r, re, e, p⟩ := h
  obtain ⟨a, env1, ea, e⟩ := bndS_eq e
  refine ⟨env, W, a, env1, re, ea, fun v H1 W1 F r1 ra tm t => ?_⟩
  cases a with
  | val s =>
    cases s with
    | lk x => cases e
    | d x =>
      cases e
      exact p v σ H1 W1 F r1 ra tm t Eqs.refl
    | m x =>
      cases e
      exact p v σ H1 W1 F r1 ra tm t Eqs.refl
  | slot j =>
    rw [rtK_slot] at e
    unfold rtS at e
    split at e
    · rename_i x hx
      cases e
      obtain ⟨w, h1, h2⟩ := r1.slots j _ hx
      have h' : σ[j]? = some (some v) := ra
      rw [h1] at h'
      cases h'
      exact p _ σ H1 W1 F0 r1 h2 Tm.zero (t.less fun _ z => z.elim) Eqs.refl
    · rename_i x hx
      cases e
      obtain ⟨w, h1, h2⟩ := r1.slots j _ hx
      have h' : σ[j]? = some (some v) := ra
      rw [h1] at h'
      cases h'
      refine p _ σ H1 _ (W1 j) r1.forget h2 (fun b z => ⟨fun ⟨k, y⟩ => ?_, r1.mu j b z⟩) ⟨t.frame, t.dom, fun b e n => ⟨fun ⟨k, y⟩ => ?_, fun z => (t.out b e n).1 ⟨j, z⟩⟩⟩ Eqs.refl
      · have y : if k = j then False else W1 k b := y
        by_cases hk : k = j
        · rw [if_pos hk] at y
          exact y
        · rw [if_neg hk] at y
          exact hk (r1.apart k j b y z)
      · have y : if k = j then False else W1 k b := y
        by_cases hk : k = j
        · rw [if_pos hk] at y
          exact y
        · rw [if_neg hk] at y
          exact (t.out b e n).1 ⟨k, y⟩
    · cases e
def sRetN : FS := fun e => some (.rt (.d .non) e)
theorem qs_retN : PXS X (.Return none pos) [] sRetN := PS.imp ps_retN fun D σ H h => by
  obtain ⟨env, W, r, re, e, p⟩ := h
  cases e
  exact p .non σ H W F0 re .non Tm.zero Tr.refl Eqs.refl
def sIf1 (f g : FS) (b : Bool) (e : En) : Option Res := if b = true then f e else g e
def sIf (tc : Fn1 Bool) (f g : FS) : FS := fun e => bndS (tc e) (sIf1 f g)
theorem qs_if {c : Expr} {a b : List Stmt} {tc : Fn1 Bool} {A B : List Nat} {f g : FS} (hc : PXT X c tc) (ha : PXSs X a A f) (hb : PXSs X b B g) : PXS X (.If c a b pos) (A ++ B) (sIf tc f g) := PS.imp (ps_if hc ha hb) fun D σ H h => by
  obtain ⟨env, W, r, re, e, p⟩ := h
  obtain ⟨c, env1, ec, e⟩ := bndS_eq e
  have inA : ∀ j ∈ A, j ∈ A ++ B := fun j z => List.mem_append_left _ z
  have inB : ∀ j ∈ B, j ∈ A ++ B := fun j z => List.mem_append_right _ z
  refine ⟨env, W, c, env1, re, ec, fun H1 W1 r1 t1 => ?_⟩
  unfold sIf1 at e
  split at e
  · rename_i hc
    rw [if_pos hc]
    exact ⟨env1, W1, r, r1, e, p.after t1 (A := []) Eqs.refl (fun _ z => nomatch z) inA⟩
  · rename_i hc
    rw [if_neg hc]
    exact ⟨env1, W1, r, r1, e, p.after t1 (A := []) Eqs.refl (fun _ z => nomatch z) inB⟩

/-! ### while -/
def whileK (g : En → Option Res) : Option Res → Option Res
  | some (.nx e) => g e
  | some (.ct e) => g e
  | some (.bk e) => some (.nx e)
  | r => r
@[simp] theorem whileK_nx {g : En → Option Res} {e : En} : whileK g (some (.nx e)) = g e := rfl
@[simp] theorem whileK_ct {g : En → Option Res} {e : En} : whileK g (some (.ct e)) = g e := rfl
@[simp] theorem whileK_bk {g : En → Option Res} {e : En} : whileK g (some (.bk e)) = some (.nx e) := rfl
@[simp] theorem whileK_rt {g : En → Option Res} {s : S} {e : En} : whileK g (some (.rt s e)) = some (.rt s e) := rfl
def whileT (g : En → Option Res) (f : FS) (b : Bool) (e : En) : Option Res := if b = true then whileK g (f e) else some (.nx e)
def whileN (tc : Fn1 Bool) (f : FS) : Nat → En → Option Res
  | 0, _ => none
  | n + 1, e => bndS (tc e) (whileT (whileN tc f n) f)
def sWhile (fuel : En → Nat) (tc : Fn1 Bool) (f : FS) : FS := fun e => whileN tc f (fuel e) e
theorem qs_while {c : Expr} {body : List Stmt} {tc : Fn1 Bool} {A : List Nat} {f : FS} (fuel : En → Nat) (hp : PassesOwn (model X.prog X.w) X.A X.env X.xe) (hc : PXT X c tc) (hb : PXSs X body A f) : PXS X (.While c body [] pos) A (sWhile fuel tc f) :=
  PS.imp (ps_while hp hc hb) fun D σ H h => by
  obtain ⟨env, W, r, re, e, p⟩ := h
  refine ⟨fun m σ1 H1 => ∃ env1 W1, RE X.K H1 σ1 env1 W1 ∧ Tr W H W1 H1 F0 ∧ Eqs A σ σ1 ∧ whileN tc f m env1 = some r, ⟨_, env, W, re, Tr.refl, Eqs.refl, e⟩, ?_⟩
  rintro m σ1 H1 ⟨env1, W1, r1, t1, q1, e1⟩
  cases m with
  | zero => cases e1
  | succ m =>
    obtain ⟨b, env2, eb, e2⟩ := bndS_eq e1
    refine ⟨env1, W1, b, env2, r1, eb, fun H2 W2 r2 t2 => ?_⟩
    have t12 := t1.trans0 t2
    unfold whileT at e2
    split at e2
    · rename_i hb
      subst hb
      refine iteT ?_
      refine ⟨fun σ3 H3 => ∃ env3 W3, RE X.K H3 σ3 env3 W3 ∧ Tr W H W3 H3 F0 ∧ Eqs A σ σ3 ∧ whileN tc f m env3 = some r, fun σ3 H3 h => ⟨m, Nat.lt_succ_self m, h⟩, ?_⟩
      cases q : f env2 with
      | none => rw [q] at e2; cases e2
      | some r3 =>
        rw [q] at e2
        refine ⟨env2, W2, r3, r2, q, ?_⟩
        have same : ∀ {j}, j ∈ A → j ∈ A := fun z => z
        cases r3 with
        | nx e3 => exact fun σ' H' W' r' t' q' => ⟨e3, W', r', t12.trans0 t', q1.trans q' (fun _ => same) (fun _ => same), e2⟩
        | ct e3 => exact fun σ' H' W' r' t' q' => ⟨e3, W', r', t12.trans0 t', q1.trans q' (fun _ => same) (fun _ => same), e2⟩
        | bk e3 =>
          cases e2
          exact fun σ' H' W' r' t' q' => p σ' H' W' r' (t12.trans0 t') (q1.trans q' (fun _ => same) (fun _ => same))
        | rt s e3 =>
          cases e2
          exact fun v σ' H' W' F r' rs tm t' q' => p v σ' H' W' F r' rs tm (t12.trans0 t') (q1.trans q' (fun _ => same) (fun _ => same))
    · rename_i hb
      have hb : b = false := by cases b; rfl; exact absurd rfl hb
      subst hb
      cases e2
      refine iteF ?_
      exact p σ1 H2 W2 r2 t12 q1
end

/-! ### defs -/
abbrev FnS := List S → Option (S × List S)
def spF (K : PySem.W.Frag) (n : Nat) (fn : FnS) : Sp := fun vs H Q _ => vs.length = n ∧ ∃ ss W r fin, RE K H (vs.map some) (ss.map some) W ∧ fn ss = some (r, fin) ∧
  ∀ v H' W' F, RE K H' (vs.map some) (fin.map some) W' → RS K H' r v F → Tm W' H' F → Tr W H W' H' F → Q v H'
/-- what stands in a parameter at the end -/
def fin1 (A : List Nat) (i : Nat) (s : S) (e : En) : Option S := match s with
  | .m _ => if A.contains i = true then none else match e[i]? with
    | some (some (.m y)) => some (.m y)
    | _ => none
  | s => some s
def fins (A : List Nat) : Nat → List S → En → Option (List S)
  | _, [], _ => some []
  | i, s :: ss, e => cons? (fin1 A i s e) (fins A (i + 1) ss e)
@[simp] theorem fins_nil {A : List Nat} {i : Nat} {e : En} : fins A i [] e = some [] := rfl
@[simp] theorem fins_d {A : List Nat} {i : Nat} {x : D} {ss : List S} {e : En} : fins A i (.d x :: ss) e = cons? (some (.d x)) (fins A (i + 1) ss e) := rfl
@[simp] theorem fins_lk {A : List Nat} {i : Nat} {x : M} {ss : List S} {e : En} : fins A i (.lk x :: ss) e = cons? (some (.lk x)) (fins A (i + 1) ss e) := rfl
def fnEnd (A : List Nat) (ss : List S) : Option Res → Option (S × List S)
  | some (.rt r e) => (fins A 0 ss e).map fun l => (r, l)
  | some (.nx e) => (fins A 0 ss e).map fun l => (.d .non, l)
  | _ => none
@[simp] theorem fnEnd_rt {A : List Nat} {ss : List S} {r : S} {e : En} : fnEnd A ss (some (.rt r e)) = (fins A 0 ss e).map fun l => (r, l) := rfl
@[simp] theorem fnEnd_nx {A : List Nat} {ss : List S} {e : En} : fnEnd A ss (some (.nx e)) = (fins A 0 ss e).map fun l => (.d .non, l) := rfl
/-- a def's value: n parameters, N names, A the slots that are stored -/
def mkFn (n N : Nat) (A : List Nat) (f : FS) : FnS := fun ss => if ss.length = n then fnEnd A ss (f (ss.map some ++ List.replicate (N - n) none)) else none
end QL
end

section
set_option Elab.async false
set_option linter.all false
set_option maxRecDepth 100000
namespace QL
open PySem PySem.Spec PyProof.Rows L2

/-! ### a def's body keeps its promise -/
theorem cons?_eq {s : Option S} {ss : Option (List S)} {l : List S} (h : cons? s ss = some l) : ∃ a as, s = some a ∧ ss = some as ∧ l = a :: as := by
  unfold cons? at h
  split at h
  · cases h
    exact ⟨_, _, rfl, rfl, rfl⟩
  · cases h
theorem fins_at {A : List Nat} {e : En} : ∀ {ss fin : List S} {k : Nat}, fins A k ss e = some fin → fin.length = ss.length ∧ ∀ (i : Nat) (s : S), fin[i]? = some s → ∃ t, ss[i]? = some t ∧ fin1 A (k + i) t e = some s
  | [], fin, k, h => by
    cases h
    exact ⟨rfl, fun i s h => by simp at h⟩
  | t :: ss, fin, k, h => by
    have h : cons? (fin1 A k t e) (fins A (k + 1) ss e) = some fin := h
    obtain ⟨a, as, e1, e2, rfl⟩ := cons?_eq h
    obtain ⟨hl, ih⟩ := fins_at e2
    refine ⟨by rw [List.length_cons, List.length_cons, hl], fun i s hi => ?_⟩
    cases i with
    | zero =>
      simp at hi
      subst hi
      exact ⟨t, rfl, e1⟩
    | succ i =>
      obtain ⟨t', h1, h2⟩ := ih i s (by simpa using hi)
      exact ⟨t', by simpa using h1, by rw [show k + (i + 1) = k + 1 + i by omega]; exact h2⟩
theorem map_some_get {α : Type} {l : List α} {i : Nat} {x : α} : (l.map some)[i]? = some (some x) ↔ l[i]? = some x := by
  rw [List.getElem?_map]
  cases l[i]? <;> simp
theorem fin_re {K : PySem.W.Frag} {A : List Nat} {ss fin : List S} {vs : List V} {W W' : Ow} {H H' : Hp} {σ σ' : Sl} {e : En} {F : Addr → Prop}
    (r : RE K H (vs.map some) (ss.map some) W) (hσ : ∀ i, i < vs.length → σ[i]? = some vs[i]?) (h : fins A 0 ss e = some fin) (r' : RE K H' σ' e W') (t : Tr W H W' H' F) (q : Eqs A σ σ') :
    RE K H' (vs.map some) (fin.map some) (fun i b => (∃ m, ss[i]? = some (S.m m)) ∧ W' i b) := by
  obtain ⟨hl, hf⟩ := fins_at h
  have hlen : ss.length = vs.length := by have := r.len; simpa using this
  refine ⟨fun i s hs => ?_, fun i j b h1 h2 => r'.apart i j b h1.2 h2.2, fun i b h1 => r'.mu i b h1.2, by rw [List.length_map, List.length_map, hl, hlen]⟩
  obtain ⟨t', h1, h2⟩ := hf i s (map_some_get.mp hs)
  obtain ⟨v, h3, h4⟩ := r.slots i t' (map_some_get.mpr h1)
  refine ⟨v, h3, ?_⟩
  rw [Nat.zero_add] at h2
  cases t' with
  | d x =>
    cases h2
    exact RD.pst (r.pst t) h4
  | lk x =>
    cases h2
    exact RS.keep (P := F0) r.mu t (s := .lk x) h4 fun b z => z.elim
  | m x =>
    have h2 : (if A.contains i = true then none else match e[i]? with
      | some (some (S.m y)) => some (S.m y)
      | _ => none) = some s := h2
    split at h2
    · cases h2
    · rename_i hA
      split at h2
      · rename_i y hy
        cases h2
        obtain ⟨w, h5, h6⟩ := r'.slots i _ hy
        have hi : i < vs.length := by
          have := (List.getElem?_eq_some_iff.mp h1).1
          omega
        have e1 := q.2 i (fun z => hA (by simpa using z))
        rw [h5, hσ i hi, map_some_get.mp h3] at e1
        cases e1
        exact RS.imp (s := .m y) h6 fun b z => ⟨⟨x, h1⟩, z⟩
      · cases h2
section
variable {P : Program} {w : World} {K : PySem.W.Frag} {mg : Str → Option Value} {base : Heap}
/-- THE RULE for a def: its body as a derivation -/
theorem fn_ok {x qual : Str} {st : Stmt} {f : Addr} {fd : FuncData} {N ps : List Str} {k : Nat} {A : List Nat} {body : FS} (F : Fun K x qual st f fd) (Sc : FnScope N ps (defScope st))
    (hb : ∀ (cdv : Value) (Ar : Around) (outer : List Env) (s : Shared) (H : Hp) (E : XK), Room k (Ar.deeper (envOfC qual (defScope st) s.heap.objs.size f cdv)) →
      PXSs (cxOf CX0 P w K mg base N qual (defScope st) f cdv Ar outer s H E).nox (defBody st) A body) : FnOk P w K mg base CX0 (k + 1) f fd ps (spF K ps.length (mkFn ps.length N.length A body)) := by
  refine F.ok Sc (fun vs H Q E h => h.1) fun cdv Ar outer s H vs Q E hr h => ⟨_, hb cdv Ar outer s H E hr, ?_⟩
  obtain ⟨hl, ss, W, r, fin, re, e, kk⟩ := h
  have hss : ss.length = vs.length := by have := re.len; simpa using this
  have hpl : ps.length ≤ N.length := by have := congrArg List.length Sc.pre; rw [List.length_take] at this; omega
  have e' : (if ss.length = ps.length then fnEnd A ss (body (ss.map some ++ List.replicate (N.length - ps.length) none)) else none) = some (r, fin) := e
  rw [if_pos (by omega)] at e'
  have re0 : RE K H (L2.start N vs) (ss.map some ++ List.replicate (N.length - ps.length) none) W := by
    refine ⟨fun i s hs => ?_, re.apart, re.mu, ?_⟩
    · by_cases hi : i < ss.length
      · rw [List.getElem?_append_left (by simpa using hi)] at hs
        obtain ⟨v, h1, h2⟩ := re.slots i s hs
        refine ⟨v, ?_, h2⟩
        unfold L2.start
        rw [List.getElem?_append_left (by simpa [← hss] using hi)]
        exact h1
      · rw [List.getElem?_append_right (by simpa using hi), List.getElem?_replicate] at hs
        split at hs <;> cases hs
    · unfold L2.start
      simp only [List.length_append, List.length_map, List.length_replicate]
      omega
  have hσ : ∀ i, i < vs.length → (L2.start N vs)[i]? = some vs[i]? := fun i hi => by
    unfold L2.start
    rw [List.getElem?_append_left (by simpa using hi), List.getElem?_map, List.getElem?_eq_getElem hi]
    rfl
  have less : ∀ {W' : Ow} {H' : Hp} {F : Addr → Prop}, Tr W H W' H' F → Tr W H (fun i b => (∃ m, ss[i]? = some (S.m m)) ∧ W' i b) H' F := fun t =>
    ⟨t.frame, t.dom, fun b e n => ⟨fun ⟨i, z⟩ => (t.out b e n).1 ⟨i, z.2⟩, (t.out b e n).2⟩⟩
  cases q : body (ss.map some ++ List.replicate (N.length - ps.length) none) with
  | none => rw [q] at e'; cases e'
  | some rr =>
    rw [q] at e'
    refine ⟨_, W, rr, re0, q, ?_⟩
    cases rr with
    | bk e1 => cases e'
    | ct e1 => cases e'
    | nx e1 =>
      rw [fnEnd_nx] at e'
      cases hf : fins A 0 ss e1 with
      | none => rw [hf] at e'; cases e'
      | some fin' =>
        rw [hf] at e'
        cases e'
        intro σ' H' W' r' t' q'
        exact kk .non H' _ F0 (fin_re re hσ hf r' t' q') .non Tm.zero (less t')
    | rt s1 e1 =>
      rw [fnEnd_rt] at e'
      cases hf : fins A 0 ss e1 with
      | none => rw [hf] at e'; cases e'
      | some fin' =>
        rw [hf] at e'
        cases e'
        intro v σ' H' W' F r' rs tm t' q'
        exact kk v H' _ F (fin_re re hσ hf r' t' q') rs (fun b z => ⟨fun ⟨i, y⟩ => (tm b z).1 ⟨i, y.2⟩, (tm b z).2⟩) (less t')
end

/-! ### calls of defs -/
def mslots : List Arg → List S → List Nat
  | .slot j :: as, .m _ :: ss => j :: mslots as ss
  | _ :: as, _ :: ss => mslots as ss
  | _, _ => []
def wb : List Arg → List S → List S → En → Option En
  | [], _, _, e => some e
  | .slot j :: as, .m _ :: ss, .m y :: fs, e => wb as ss fs (e.set j (some (S.m y)))
  | .slot _ :: _, .m _ :: _, _, _ => none
  | _ :: as, _ :: ss, _ :: fs, e => wb as ss fs e
  | _, _, _, _ => none
@[simp] theorem mslots_nil {ss : List S} : mslots [] ss = [] := rfl
@[simp] theorem mslots_m {j : Nat} {x : M} {as : List Arg} {ss : List S} : mslots (.slot j :: as) (.m x :: ss) = j :: mslots as ss := rfl
@[simp] theorem mslots_d {a : Arg} {x : D} {as : List Arg} {ss : List S} : mslots (a :: as) (.d x :: ss) = mslots as ss := by cases a <;> rfl
@[simp] theorem mslots_lk {a : Arg} {x : M} {as : List Arg} {ss : List S} : mslots (a :: as) (.lk x :: ss) = mslots as ss := by cases a <;> rfl
@[simp] theorem mslots_val {s s' : S} {as : List Arg} {ss : List S} : mslots (.val s :: as) (s' :: ss) = mslots as ss := rfl
@[simp] theorem wb_nil {ss fs : List S} {e : En} : wb [] ss fs e = some e := rfl
@[simp] theorem wb_m {j : Nat} {x y : M} {as : List Arg} {ss fs : List S} {e : En} : wb (.slot j :: as) (.m x :: ss) (.m y :: fs) e = wb as ss fs (e.set j (some (S.m y))) := rfl
@[simp] theorem wb_d {a : Arg} {x : D} {s : S} {as : List Arg} {ss fs : List S} {e : En} : wb (a :: as) (.d x :: ss) (s :: fs) e = wb as ss fs e := by cases a <;> rfl
@[simp] theorem wb_lk {a : Arg} {x : M} {s : S} {as : List Arg} {ss fs : List S} {e : En} : wb (a :: as) (.lk x :: ss) (s :: fs) e = wb as ss fs e := by cases a <;> rfl
@[simp] theorem wb_val {t u s : S} {as : List Arg} {ss fs : List S} {e : En} : wb (.val t :: as) (u :: ss) (s :: fs) e = wb as ss fs e := rfl
theorem mslots_at : ∀ {as : List Arg} {ss : List S} {i j : Nat} {m : M}, as[i]? = some (Arg.slot j) → ss[i]? = some (S.m m) → j ∈ mslots as ss
  | [], _, i, _, _, h, _ => by simp at h
  | _ :: _, [], i, _, _, _, h => by simp at h
  | a :: as, s :: ss, 0, j, m, h1, h2 => by
    simp at h1 h2
    subst h1 h2
    exact List.mem_cons_self
  | a :: as, s :: ss, i + 1, j, m, h1, h2 => by
    have ih := mslots_at (as := as) (ss := ss) (i := i) (j := j) (m := m) (by simpa using h1) (by simpa using h2)
    cases a with
    | val t => exact ih
    | slot k => cases s with
      | m x => exact List.mem_cons_of_mem _ ih
      | d x => exact ih
      | lk x => exact ih
theorem mslots_in : ∀ {as : List Arg} {ss : List S} {j : Nat}, j ∈ mslots as ss → ∃ (i : Nat) (m : M), as[i]? = some (Arg.slot j) ∧ ss[i]? = some (S.m m)
  | [], _, _, h => by cases h
  | a :: as, [], _, h => by cases a <;> cases h
  | a :: as, s :: ss, j, h => by
    have tail : j ∈ mslots as ss → ∃ (i : Nat) (m : M), (a :: as)[i]? = some (Arg.slot j) ∧ (s :: ss)[i]? = some (S.m m) := fun h => by
      obtain ⟨i, m, h1, h2⟩ := mslots_in h
      exact ⟨i + 1, m, by simpa using h1, by simpa using h2⟩
    cases a with
    | val t => exact tail h
    | slot k => cases s with
      | d x => exact tail h
      | lk x => exact tail h
      | m x =>
        rcases List.mem_cons.mp h with e | h
        · subst e
          exact ⟨0, x, rfl, rfl⟩
        · exact tail h
theorem mslots_inj : ∀ {as : List Arg} {ss : List S} {i i' j : Nat} {m m' : M}, (mslots as ss).Nodup → as[i]? = some (Arg.slot j) → ss[i]? = some (S.m m) → as[i']? = some (Arg.slot j) → ss[i']? = some (S.m m') → i = i'
  | [], _, i, _, _, _, _, _, h, _, _, _ => by simp at h
  | _ :: _, [], i, _, _, _, _, _, _, h, _, _ => by simp at h
  | a :: as, s :: ss, 0, 0, j, m, m', nd, h1, h2, h3, h4 => rfl
  | a :: as, s :: ss, i + 1, 0, j, m, m', nd, h1, h2, h3, h4 => by
    simp at h3 h4
    subst h3 h4
    have := mslots_at (as := as) (ss := ss) (i := i) (j := j) (m := m) (by simpa using h1) (by simpa using h2)
    exact absurd this (List.nodup_cons.mp nd).1
  | a :: as, s :: ss, 0, i' + 1, j, m, m', nd, h1, h2, h3, h4 => by
    simp at h1 h2
    subst h1 h2
    have := mslots_at (as := as) (ss := ss) (i := i') (j := j) (m := m') (by simpa using h3) (by simpa using h4)
    exact absurd this (List.nodup_cons.mp nd).1
  | a :: as, s :: ss, i + 1, i' + 1, j, m, m', nd, h1, h2, h3, h4 => by
    have nd' : (mslots as ss).Nodup := by
      cases a with
      | val t => exact nd
      | slot k => cases s with
        | d x => exact nd
        | lk x => exact nd
        | m x => exact (List.nodup_cons.mp nd).2
    rw [mslots_inj (i := i) (i' := i') nd' (by simpa using h1) (by simpa using h2) (by simpa using h3) (by simpa using h4)]
theorem wb_spec : ∀ {as : List Arg} {ss fs : List S} {e e' : En}, wb as ss fs e = some e' → (mslots as ss).Nodup → e'.length = e.length ∧ (∀ j, j ∉ mslots as ss → e'[j]? = e[j]?) ∧
    ∀ (i j : Nat) (m : M), as[i]? = some (Arg.slot j) → ss[i]? = some (S.m m) → j < e.length → ∃ y, fs[i]? = some (S.m y) ∧ e'[j]? = some (some (S.m y))
  | [], _, _, e, e', h, _ => by
    cases h
    exact ⟨rfl, fun _ _ => rfl, fun i j m h => by simp at h⟩
  | a :: as, [], fs, e, e', h, _ => by cases a <;> cases fs <;> cases h
  | a :: as, s :: ss, fs, e, e', h, nd => by
    have plain : ∀ {f' : S} {fs' : List S}, fs = f' :: fs' → mslots (a :: as) (s :: ss) = mslots as ss → (∀ j m, ¬ (a = .slot j ∧ s = .m m)) → wb as ss fs' e = some e' → e'.length = e.length ∧ (∀ j, j ∉ mslots (a :: as) (s :: ss) → e'[j]? = e[j]?) ∧
        ∀ (i j : Nat) (m : M), (a :: as)[i]? = some (Arg.slot j) → (s :: ss)[i]? = some (S.m m) → j < e.length → ∃ y, fs[i]? = some (S.m y) ∧ e'[j]? = some (some (S.m y)) := fun {f' fs'} ef em hn h => by
      rw [em] at nd ⊢
      obtain ⟨h1, h2, h3⟩ := wb_spec h nd
      refine ⟨h1, h2, fun i j m q1 q2 hj => ?_⟩
      cases i with
      | zero =>
        simp at q1 q2
        exact absurd ⟨q1, q2⟩ (hn j m)
      | succ i =>
        rw [ef]
        obtain ⟨y, z1, z2⟩ := h3 i j m (by simpa using q1) (by simpa using q2) hj
        exact ⟨y, by simpa using z1, z2⟩
    cases a with
    | val t =>
      cases fs with
      | nil => cases h
      | cons f fs => exact plain rfl rfl (fun _ _ z => nomatch z.1) h
    | slot k =>
      cases s with
      | d x =>
        cases fs with
        | nil => cases h
        | cons f fs => exact plain rfl rfl (fun _ _ z => nomatch z.2) h
      | lk x =>
        cases fs with
        | nil => cases h
        | cons f fs => exact plain rfl rfl (fun _ _ z => nomatch z.2) h
      | m x =>
        cases fs with
        | nil => cases h
        | cons f fs =>
          cases f with
          | d y => cases h
          | lk y => cases h
          | m y =>
            have h : wb as ss fs (e.set k (some (S.m y))) = some e' := h
            have nd2 := List.nodup_cons.mp nd
            obtain ⟨h1, h2, h3⟩ := wb_spec h nd2.2
            rw [List.length_set] at h1 h3
            refine ⟨h1, fun j hj => ?_, fun i j m q1 q2 hj => ?_⟩
            · have hj2 : j ≠ k ∧ j ∉ mslots as ss := ⟨fun z => hj (by rw [z]; exact List.mem_cons_self), fun z => hj (List.mem_cons_of_mem _ z)⟩
              rw [h2 j hj2.2, List.getElem?_set_ne (Ne.symm hj2.1)]
            · cases i with
              | zero =>
                simp at q1
                subst q1
                exact ⟨y, rfl, by rw [h2 _ nd2.1, List.getElem?_set_self hj]⟩
              | succ i =>
                obtain ⟨y', z1, z2⟩ := h3 i j m (by simpa using q1) (by simpa using q2) hj
                exact ⟨y', by simpa using z1, z2⟩
theorem gets_at : ∀ {as : List Arg} {e : En} {ss : List S}, gets as e = some ss → ss.length = as.length ∧ ∀ (i : Nat) (a : Arg), as[i]? = some a → ∃ s, ss[i]? = some s ∧ a.get e = some s
  | [], _, _, h => by
    cases h
    exact ⟨rfl, fun i a h => by simp at h⟩
  | a :: as, e, ss, h => by
    obtain ⟨s, ss', rfl, e1, e2⟩ := gets_cons h
    obtain ⟨hl, ih⟩ := gets_at e2
    refine ⟨by rw [List.length_cons, List.length_cons, hl], fun i b hb => ?_⟩
    cases i with
    | zero =>
      simp at hb
      subst hb
      exact ⟨s, rfl, e1⟩
    | succ i =>
      obtain ⟨t, h1, h2⟩ := ih i b (by simpa using hb)
      exact ⟨t, by simpa using h1, h2⟩
theorem fany_at : ∀ {Fs : List (Addr → Prop)} {i : Nat} {F : Addr → Prop} {b : Addr}, Fs[i]? = some F → F b → Fany Fs b
  | [], _, _, _, h, _ => by simp at h
  | G :: Fs, 0, F, b, h, z => by
    simp at h
    subst h
    exact .inl z
  | G :: Fs, i + 1, F, b, h, z => .inr (fany_at (by simpa using h) z)
section
variable {K : PySem.W.Frag} {H : Hp} {σ : Sl} {W : Ow}
theorem RAs.length : ∀ {as : List Arg} {vs : List V} {Fs : List (Addr → Prop)}, RAs K H σ W as vs Fs → vs.length = as.length ∧ Fs.length = as.length
  | _, _, _, .nil => ⟨rfl, rfl⟩
  | _, _, _, .cons _ _ _ t => by
    obtain ⟨h1, h2⟩ := RAs.length t
    exact ⟨by rw [List.length_cons, List.length_cons, h1], by rw [List.length_cons, List.length_cons, h2]⟩
theorem RAs.at : ∀ {as : List Arg} {vs : List V} {Fs : List (Addr → Prop)} {i : Nat} {a : Arg}, RAs K H σ W as vs Fs → as[i]? = some a → ∃ v F, vs[i]? = some v ∧ Fs[i]? = some F ∧ RA K H σ a v F ∧ Tm W H F
  | _, _, _, i, _, .nil, h => by simp at h
  | _, _, _, 0, _, .cons ra tm _ _, h => by
    simp at h
    subst h
    exact ⟨_, _, rfl, rfl, ra, tm⟩
  | _, _, _, i + 1, _, .cons _ _ _ t, h => by
    obtain ⟨v, F, h1, h2, h3⟩ := RAs.at (i := i) t (by simpa using h)
    exact ⟨v, F, by simpa using h1, by simpa using h2, h3⟩
theorem RAs.apart : ∀ {as : List Arg} {vs : List V} {Fs : List (Addr → Prop)} {i j : Nat} {F G : Addr → Prop} {b : Addr}, RAs K H σ W as vs Fs → Fs[i]? = some F → Fs[j]? = some G → F b → G b → i = j
  | _, _, _, i, _, _, _, _, .nil, h, _, _, _ => by simp at h
  | _, _, _, 0, 0, _, _, _, .cons _ _ _ _, _, _, _, _ => rfl
  | _, _, _, 0, j + 1, _, _, b, .cons _ _ d _, h1, h2, z1, z2 => by
    simp at h1
    subst h1
    exact absurd (fany_at (by simpa using h2) z2) (d b z1)
  | _, _, _, i + 1, 0, _, _, b, .cons _ _ d _, h1, h2, z1, z2 => by
    simp at h2
    subst h2
    exact absurd (fany_at (by simpa using h1) z1) (d b z2)
  | _, _, _, i + 1, j + 1, _, _, b, .cons _ _ _ t, h1, h2, z1, z2 => by
    rw [RAs.apart (i := i) (j := j) t (by simpa using h1) (by simpa using h2) z1 z2]
end
def callK2 (as : List Arg) (ss : List S) (z : Option (S × List S)) (e : En) : Option (Arg × En) := match z with
  | some (r, fin) => (wb as ss fin e).map fun e' => (.val r, e')
  | none => none
@[simp] theorem callK2_some {as : List Arg} {ss : List S} {r : S} {fin : List S} {e : En} : callK2 as ss (some (r, fin)) e = (wb as ss fin e).map fun e' => (.val r, e') := rfl
def callK (fn : FnS) (as : List Arg) (z : Option (List S)) (e : En) : Option (Arg × En) := match z with
  | some ss => if (mslots as ss).Nodup then callK2 as ss (fn ss) e else none
  | none => none
@[simp] theorem callK_some {fn : FnS} {as : List Arg} {ss : List S} {e : En} : callK fn as (some ss) e = if (mslots as ss).Nodup then callK2 as ss (fn ss) e else none := rfl
def fCall1 (fn : FnS) (as : List Arg) (e : En) : Option (Arg × En) := callK fn as (gets as e) e
def fCall (fn : FnS) (fs : Fn1 (List Arg)) : Fn1 Arg := fun e => bnd (fs e) (fCall1 fn)
/-- who owns what in a callee -/
def ownA (W : Ow) : Arg → S → (Addr → Prop) → Addr → Prop
  | .slot j, .m _, _, b => W j b
  | .slot _, _, _, _ => False
  | .val _, _, F, b => F b
theorem call_core {K : PySem.W.Frag} {fn : FnS} {n : Nat} {E : XK} {σ : Sl} {H H2 : Hp} {Q : VK} {W W2 : Ow} {as : List Arg} {vs : List V} {Fs : List (Addr → Prop)} {env2 env3 : En} {z : Arg} (r2 : RE K H2 σ env2 W2) (ras : RAs K H2 σ W2 as vs Fs) (t2 : Tr W H W2 H2 (Fany Fs))
    (e : fCall1 fn as env2 = some (z, env3)) (k : ∀ v H' W' F, RE K H' σ env3 W' → RA K H' σ z v F → Tm W' H' F → Tr W H W' H' F → Q v H') (hn : ∀ ss r, fn ss = some r → ss.length = n) : spF K n fn vs H2 Q E := by
  unfold fCall1 callK at e
  split at e
  · rename_i ss hss
    split at e
    · rename_i nd
      unfold callK2 at e
      split at e
      · rename_i r fin hfn
        cases hwb : wb as ss fin env2 with
        | none => rw [hwb] at e; cases e
        | some e3 =>
          rw [hwb] at e
          cases e
          obtain ⟨hl1, hl2⟩ := ras.length
          obtain ⟨hl3, hg⟩ := gets_at hss
          obtain ⟨wl, w1, w2⟩ := wb_spec hwb nd
          have hsl : ss.length = n := hn ss _ hfn
          -- who owns what within
          let Wc : Ow := fun i b => ∃ (a : Arg) (s : S) (F : Addr → Prop), as[i]? = some a ∧ ss[i]? = some s ∧ Fs[i]? = some F ∧ ownA W2 a s F b
          have wcOut : ∀ b, H2 b ≠ none → ¬ Own W2 b → ¬ Fany Fs b → ¬ Own Wc b := fun b _ n1 n2 ⟨i, a, s, F, _, _, hF, z⟩ => by
            cases a with
            | slot j => cases s with
              | m x => exact n1 ⟨j, z⟩
              | d x => exact z
              | lk x => exact z
            | val t => exact n2 (fany_at hF z)
          have reC : RE K H2 (vs.map some) (ss.map some) Wc := by
            refine ⟨fun i s hs => ?_, fun i i' b ⟨a, s, F, q1, q2, q3, z⟩ ⟨a', s', F', q1', q2', q3', z'⟩ => ?_, fun i b ⟨a, s, F, q1, q2, q3, z⟩ => ?_, by rw [List.length_map, List.length_map]; omega⟩
            · have hs := map_some_get.mp hs
              have hi : i < as.length := by
                have := (List.getElem?_eq_some_iff.mp hs).1
                omega
              have ha : as[i]? = some as[i] := List.getElem?_eq_getElem hi
              obtain ⟨v, F, q1, q2, q3, q4⟩ := ras.at ha
              obtain ⟨s', q5, q6⟩ := hg i _ ha
              rw [hs] at q5
              cases q5
              refine ⟨v, map_some_get.mpr q1, ?_⟩
              cases ea : as[i] with
              | val t =>
                rw [ea] at q3 q6 ha
                cases q6
                exact RS.imp q3 fun b z => ⟨_, _, F, ha, hs, q2, z⟩
              | slot j =>
                rw [ea] at q3 q6 ha
                obtain ⟨w, h1, h2⟩ := r2.slots j s (join_some q6)
                have h' : σ[j]? = some (some v) := q3
                rw [h1] at h'
                cases h'
                cases s with
                | d x => exact h2
                | lk x => exact h2
                | m x => exact RS.imp (s := .m x) h2 fun b z => ⟨_, _, F, ha, hs, q2, z⟩
            · cases a with
              | val t =>
                cases a' with
                | val t' => exact ras.apart q3 q3' z z'
                | slot j' => cases s' with
                  | m x' =>
                    obtain ⟨v, G, _, g2, _, g4⟩ := ras.at q1
                    rw [q3] at g2
                    cases g2
                    exact absurd ⟨j', z'⟩ (g4 b z).1
                  | d x' => exact z'.elim
                  | lk x' => exact z'.elim
              | slot j =>
                cases s with
                | d x => exact z.elim
                | lk x => exact z.elim
                | m x =>
                  cases a' with
                  | val t' =>
                    obtain ⟨v, G, _, g2, _, g4⟩ := ras.at q1'
                    rw [q3'] at g2
                    cases g2
                    exact absurd ⟨j, z⟩ (g4 b z').1
                  | slot j' => cases s' with
                    | d x' => exact z'.elim
                    | lk x' => exact z'.elim
                    | m x' =>
                      have ej : j = j' := r2.apart j j' b z z'
                      subst ej
                      exact mslots_inj nd q1 q2 q1' q2'
            · cases a with
              | val t =>
                obtain ⟨v, G, _, g2, _, g4⟩ := ras.at q1
                rw [q3] at g2
                cases g2
                exact (g4 b z).2
              | slot j => cases s with
                | m x => exact r2.mu j b z
                | d x => exact z.elim
                | lk x => exact z.elim
          refine ⟨by omega, ss, Wc, r, fin, reC, hfn, fun v H3 W3 F r3 rs tm t3 => ?_⟩
          -- back at the caller
          let Wb : Ow := fun j b => (∃ (i : Nat) (m : M), as[i]? = some (Arg.slot j) ∧ ss[i]? = some (S.m m) ∧ W3 i b) ∨ (j ∉ mslots as ss ∧ W2 j b)
          have notC : ∀ j b, j ∉ mslots as ss → W2 j b → ¬ Own Wc b := fun j b hj hw ⟨i, a, s, F', q1, q2, q3, z⟩ => by
            cases a with
            | slot j' => cases s with
              | m x =>
                have ej : j = j' := r2.apart j j' b hw z
                subst ej
                exact hj (mslots_at q1 q2)
              | d x => exact z
              | lk x => exact z
            | val t =>
              obtain ⟨v, G, _, g2, _, g4⟩ := ras.at q1
              rw [q3] at g2
              cases g2
              exact (g4 b z).1 ⟨j, hw⟩
          have reB : RE K H3 σ env3 Wb := by
            refine ⟨fun j s hs => ?_, fun j j' b h1 h2 => ?_, fun j b h1 => ?_, by rw [wl]; exact r2.len⟩
            · by_cases hj : j ∈ mslots as ss
              · obtain ⟨i, m, q1, q2⟩ := mslots_in hj
                obtain ⟨s', q5, q6⟩ := hg i _ q1
                have hlt : j < env2.length := (List.getElem?_eq_some_iff.mp (join_some q6)).1
                obtain ⟨y, q3, q4⟩ := w2 i j m q1 q2 hlt
                rw [q4] at hs
                cases hs
                obtain ⟨v', g1, g2⟩ := r3.slots i _ (map_some_get.mpr q3)
                obtain ⟨v'', G, g3, _, g5, _⟩ := ras.at q1
                rw [map_some_get.mp g1] at g3
                cases g3
                exact ⟨v', g5, RS.imp (s := .m y) g2 fun b z => .inl ⟨i, m, q1, q2, z⟩⟩
              · rw [w1 j hj] at hs
                obtain ⟨v', g1, g2⟩ := r2.slots j s hs
                exact ⟨v', g1, (RS.keep reC.mu t3 g2 fun b z => notC j b hj z).imp fun b z => .inr ⟨hj, z⟩⟩
            · rcases h1 with ⟨i, m, q1, q2, z1⟩ | ⟨n1, z1⟩
              · rcases h2 with ⟨i', m', q1', q2', z2⟩ | ⟨n2, z2⟩
                · have ei := r3.apart i i' b z1 z2
                  subst ei
                  rw [q1] at q1'
                  cases q1'
                  rfl
                · exact absurd ⟨i, z1⟩ (t3.out b (mut_some (r2.mu _ b z2)) (notC _ b n2 z2)).1
              · rcases h2 with ⟨i', m', q1', q2', z2⟩ | ⟨n2, z2⟩
                · exact absurd ⟨i', z2⟩ (t3.out b (mut_some (r2.mu _ b z1)) (notC _ b n1 z1)).1
                · exact r2.apart _ _ b z1 z2
            · rcases h1 with ⟨i, m, q1, q2, z1⟩ | ⟨n1, z1⟩
              · exact r3.mu i b z1
              · have mu := r2.mu j b z1
                cases q : H2 b with
                | none => rw [q] at mu; exact mu.elim
                | some o => rw [t3.frame b o q (notC j b n1 z1)]; rw [q] at mu; exact mu
          have tmB : Tm Wb H3 F := fun b z => ⟨fun ⟨j, h1⟩ => by
            rcases h1 with ⟨i, m, q1, q2, z1⟩ | ⟨n1, z1⟩
            · exact (tm b z).1 ⟨i, z1⟩
            · exact (t3.out b (mut_some (r2.mu j b z1)) (notC j b n1 z1)).2 z, (tm b z).2⟩
          refine k v H3 Wb F reB rs tmB ⟨fun b o e n => ?_, fun b e => t3.dom b (t2.dom b e), fun b e n => ?_⟩
          · have h2 := t2.out b (by rw [e]; simp) n
            have e2 := t2.frame b o e n
            exact t3.frame b o e2 (wcOut b (by rw [e2]; simp) h2.1 h2.2)
          · have h2 := t2.out b e n
            have h3 := t3.out b (t2.dom b e) (wcOut b (t2.dom b e) h2.1 h2.2)
            refine ⟨fun ⟨j, h1⟩ => ?_, h3.2⟩
            rcases h1 with ⟨i, m, q1, q2, z1⟩ | ⟨n1, z1⟩
            · exact h3.1 ⟨i, z1⟩
            · exact h2.1 ⟨j, z1⟩
      · cases e
    · cases e
  · cases e
theorem call_read {K : PySem.W.Frag} {fn : FnS} {fs : Fn1 (List Arg)} {n : Nat} {E : XK} {σ : Sl} {H : Hp} {Q : VK} (h : tE K (fCall fn fs) σ H Q) (hn : ∀ ss r, fn ss = some r → ss.length = n) : tA K fs σ H fun vs H1 => spF K n fn (vs ++ []) H1 Q E := by
  obtain ⟨env, W, z, env3, re, e, k⟩ := h
  obtain ⟨as, env2, eas, e⟩ := bnd_eq e
  refine ⟨env, W, as, env2, re, eas, fun vs H2 W2 Fs r2 ras t2 => ?_⟩
  show spF K n fn (vs ++ []) H2 Q E
  rw [List.append_nil]
  exact call_core r2 ras t2 e k hn
theorem mkFn_len {n N : Nat} {A : List Nat} {f : FS} {ss : List S} {r : S × List S} (h : mkFn n N A f ss = some r) : ss.length = n := by
  unfold mkFn at h
  split at h
  · assumption
  · cases h
section
variable {X : Cx} {k : Nat} {f : Addr} {fd : FuncData} {ps : List Str} {n : Nat} {fn : FnS} {x : Str} {p pos : Pos} {e : Expr} {es : List Expr} {fs : Fn1 (List Arg)}
theorem qx_call (F : FnOk X.prog X.w X.K X.mg X.base CX0 k f fd ps (spF X.K n fn)) (hn : ∀ ss r, fn ss = some r → ss.length = n) (hr : Room k X.A) (hg : Gl X x) (hm : X.mg x = some (.ref f)) (hk : PySem.W.keepIn X.K (.ref f) = true) (hb : Binds X.K fd ps [])
    (ha : PXA X (e :: es) fs) (hdb : (x == ("__debug__" : Str)) = false := by decide) (he : starEach (e :: es) X.env = (false, eval e X.env) :: starEach es X.env := by rfl) (hpl : (backTo pos (starEach es X.env)).any (·.1) = false := by rfl) :
    PX X (.Call (.Name x p) (e :: es) [] pos) (fCall fn fs) :=
  PE.imp (pe_call (E := E0) F hr hg hm hk hb .nil pass0 ha hdb he hpl) fun σ H Q h => call_read h hn
theorem qx_call0 (F : FnOk X.prog X.w X.K X.mg X.base CX0 k f fd ps (spF X.K n fn)) (hn : ∀ ss r, fn ss = some r → ss.length = n) (hr : Room k X.A) (hg : Gl X x) (hm : X.mg x = some (.ref f)) (hk : PySem.W.keepIn X.K (.ref f) = true) (hb : Binds X.K fd ps [])
    (hdb : (x == ("__debug__" : Str)) = false := by decide) :
    PX X (.Call (.Name x p) [] [] pos) (fCall fn fNil) :=
  PE.imp (pe_call0 (E := E0) F hr hg hm hk hb .nil pass0 hdb) fun σ H Q h => by
    obtain ⟨env, W, as, env', re, e, k⟩ := call_read (E := E0) h hn
    cases e
    exact k [] H W [] re .nil (Tr.refl.less fun b z => z)
end
end QL
end

section
set_option Elab.async false
set_option linter.all false
set_option maxRecDepth 100000
namespace QL
open PySem PySem.Spec PyProof.Rows L2

/-! ### targets -/
def tP (K : PySem.W.Frag) (A : List Nat) (b : D → En → Option En) : TG := fun v σ H Q => ∃ x env W env', RE K H σ env W ∧ RD K H x v ∧ b x env = some env' ∧ ∀ σ', RE K H σ' env' W → Eqs A σ σ' → Q σ' H
def tPs (K : PySem.W.Frag) (A : List Nat) (b : List D → En → Option En) : TGs := fun vs σ H Q => ∃ xs env W env', RE K H σ env W ∧ RDs K H xs vs ∧ b xs env = some env' ∧ ∀ σ', RE K H σ' env' W → Eqs A σ σ' → Q σ' H
abbrev PXG (X : Cx) (tg : Expr) (A : List Nat) (b : D → En → Option En) : Prop := PG X tg (tP X.K A b)
abbrev PXGs (X : Cx) (tg : List Expr) (A : List Nat) (b : List D → En → Option En) : Prop := PGs X tg (tPs X.K A b)
theorem PG.imp {X : Cx} {e : Expr} {t t' : TG} (h : PG X e t) (i : ∀ v σ H Q, t' v σ H Q → t v σ H Q) : PG X e t' := ⟨fun pins s σ H v u Q I r q => h.run pins s σ H v u Q I r (i v σ H Q q)⟩
theorem PGs.imp {X : Cx} {e : List Expr} {t t' : TGs} (h : PGs X e t) (i : ∀ v σ H Q, t' v σ H Q → t v σ H Q) : PGs X e t' := ⟨fun pins s σ H v u Q I r q => h.run pins s σ H v u Q I r (i v σ H Q q)⟩
def bName (i : Nat) (x : D) (e : En) : Option En := some (e.set i (some (.d x)))
@[simp] theorem bName_eq {i : Nat} {x : D} {e : En} : bName i x e = some (e.set i (some (.d x))) := rfl
def bNil (xs : List D) (e : En) : Option En := match xs with
  | [] => some e
  | _ => none
@[simp] theorem bNil_nil {e : En} : bNil [] e = some e := rfl
def bNext (bs : List D → En → Option En) (xs : List D) : Option En → Option En
  | some e => bs xs e
  | none => none
@[simp] theorem bNext_some {bs : List D → En → Option En} {xs : List D} {e : En} : bNext bs xs (some e) = bs xs e := rfl
def bCons (b : D → En → Option En) (bs : List D → En → Option En) (xs : List D) (e : En) : Option En := match xs with
  | x :: xs => bNext bs xs (b x e)
  | [] => none
@[simp] theorem bCons_cons {b : D → En → Option En} {bs : List D → En → Option En} {x : D} {xs : List D} {e : En} : bCons b bs (x :: xs) e = bNext bs xs (b x e) := rfl
def bTup (n : Nat) (bs : List D → En → Option En) (x : D) (e : En) : Option En := match x with
  | .tup xs => if xs.length = n then bs xs e else none
  | _ => none
@[simp] theorem bTup_tup {n : Nat} {bs : List D → En → Option En} {xs : List D} {e : En} : bTup n bs (.tup xs) e = if xs.length = n then bs xs e else none := rfl
theorem RE.setd {K : PySem.W.Frag} {H : Hp} {σ : Sl} {env : En} {W : Ow} {i : Nat} {x : D} {v : V} (r : RE K H σ env W) (h : RD K H x v) : RE K H (σ.set i (some v)) (env.set i (some (.d x))) W where
  slots := fun j t e => by
    by_cases hj : j = i
    · subst hj
      rw [List.getElem?_set, if_pos rfl] at e
      split at e
      · cases e
        rename_i hl
        exact ⟨v, by rw [List.getElem?_set_self (by rw [← r.len]; exact hl)], h⟩
      · cases e
    · rw [List.getElem?_set_ne (Ne.symm hj)] at e
      obtain ⟨w, h1, h2⟩ := r.slots j t e
      exact ⟨w, by rw [List.getElem?_set_ne (Ne.symm hj)]; exact h1, h2⟩
  apart := r.apart
  mu := r.mu
  len := by rw [List.length_set, List.length_set]; exact r.len
section
variable {X : Cx} {pos : Pos}
theorem qg_name {i : Nat} {x : Str} (hN : X.N.Nodup) (hi : X.N[i]? = some x := by rfl) (hx : Loc X.env.scope x := by first | exact Or.inl rfl | exact Or.inr rfl) (hf : X.fn x = true ∨ X.env.scope.names.lookup x = some .local := by first | exact .inl rfl | exact .inr rfl | assumption) :
    PXG X (.Name x pos) [i] (bName i) := PG.imp (pg_name hN hi hx hf) fun v σ H Q h => by
  obtain ⟨x, env, W, env', r, rd, e, k⟩ := h
  cases e
  exact k _ (r.setd rd) eqs_set
theorem qg_nil : PXGs X [] [] bNil := PGs.imp pgs_nil fun v σ H Q h => by
  obtain ⟨xs, env, W, env', r, rd, e, k⟩ := h
  unfold bNil at e
  split at e
  · cases e
    cases rd
    exact ⟨rfl, k σ r Eqs.refl⟩
  · cases e
theorem qg_cons {e : Expr} {es : List Expr} {A B : List Nat} {b : D → En → Option En} {bs : List D → En → Option En} (h1 : PXG X e A b) (h2 : PXGs X es B bs)
    (hs : (assignEach (e :: es) X.env).map (·.2) = assign e X.env :: (assignEach es X.env).map (·.2) := by rfl) : PXGs X (e :: es) (A ++ B) (bCons b bs) := PGs.imp (pgs_cons h1 h2 hs) fun v σ H Q h => by
  obtain ⟨xs, env, W, env', r, rd, e, k⟩ := h
  unfold bCons at e
  split at e
  · rename_i x xs
    cases rd with
    | cons rx rxs =>
      cases q : b x env with
      | none => rw [q] at e; cases e
      | some e1 =>
        rw [q] at e
        refine ⟨_, _, rfl, x, env, W, e1, r, rx, q, fun σ1 r1 q1 => ⟨xs, e1, W, env', r1, rxs, e, fun σ2 r2 q2 => k σ2 r2 (q1.trans q2 (fun j z => List.mem_append_left _ z) (fun j z => List.mem_append_right _ z))⟩⟩
  · cases e
theorem qg_tup {es : List Expr} {k : Nat} {A : List Nat} {bs : List D → En → Option En} {n : Nat} (hc : X.calm = true) (h : PXGs X es A bs)
    (hn : (assignEach es X.env).length = n := by rfl) (hst : (assignEach es X.env).findIdx? (·.1) = none := by rfl) : PXG X (.Tuple es k pos) A (bTup n bs) := PG.imp (pg_tup hc h hn hst) fun v σ H Q h => by
  obtain ⟨x, env, W, env', r, rd, e, k⟩ := h
  unfold bTup at e
  split at e
  · rename_i xs
    split at e
    · rename_i hl
      cases rd with
      | tup h1 h2 => exact ⟨_, _, rfl, h1, by rw [← h2.length]; exact hl, xs, env, W, env', r, h2, e, k⟩
    · cases e
  · cases e
/-- pattern = value -/
def patK1 : Option En → Option Res
  | some e => some (.nx e)
  | none => none
@[simp] theorem patK1_some {e : En} : patK1 (some e) = some (.nx e) := rfl
def patK (b : D → En → Option En) (z : Option S) (e : En) : Option Res := match z with
  | some (.d x) => patK1 (b x e)
  | _ => none
@[simp] theorem patK_d {b : D → En → Option En} {x : D} {e : En} : patK b (some (.d x)) e = patK1 (b x e) := rfl
def sPat1 (b : D → En → Option En) (a : Arg) (e : En) : Option Res := patK b (a.get e) e
def sPat (b : D → En → Option En) (fa : Fn1 Arg) : FS := fun e => bndS (fa e) (sPat1 b)
theorem qs_pat {tg e : Expr} {fa : Fn1 Arg} {A : List Nat} {b : D → En → Option En} (hg : PXG X tg A b) (he : PX X e fa) (hs : swapsWithSole [tg] e pos.line X.env = pure false := by rfl) (hw : swappedStores [tg] e X.env = pure none := by rfl)
    (h1 : (assignEach [tg] X.env).map (·.2) = [assign tg X.env] := by rfl) : PXS X (.Assign [tg] e pos) A (sPat b fa) := PS.imp (ps_asg he hg hs hw h1) fun D σ H h => by
  obtain ⟨env, W, r, re, e, p⟩ := h
  obtain ⟨a, env1, ea, e⟩ := bndS_eq e
  refine ⟨env, W, a, env1, re, ea, fun v H1 W1 F r1 ra tm t => ?_⟩
  unfold sPat1 patK at e
  split at e
  · rename_i x hx
    obtain ⟨P, rd⟩ := ra.read r1 hx
    cases q : b x env1 with
    | none => rw [q] at e; cases e
    | some e2 =>
      rw [q] at e
      cases e
      exact ⟨x, env1, W1, e2, r1, rd, q, fun σ' r' q' => p σ' H1 W1 r' (t.less fun _ z => z.elim) q'⟩
  · cases e
end

/-! ### what is walked -/
/-- what the slots do not own stands as at (H0, W0) -/
def Gd (H0 : Hp) (W0 : Ow) (H : Hp) : Prop := ∀ b o, H0 b = some o → ¬ Own W0 b → H b = some o
def WalkD (K : PySem.W.Frag) (J : It) (xs : List D) (H0 : Hp) (W0 : Ow) : Prop :=
  ∃ Y, Walk J xs.length (Gd H0 W0) Y ∧ ∀ i H x H', i < xs.length → Gd H0 W0 H → Y i H x H' → Same H H' ∧ ∃ d, xs[i]? = some d ∧ RD K H' d x
def tIt (K : PySem.W.Frag) (f : Fn1 (List D)) : TI := fun σ H R => ∃ env W xs env', RE K H σ env W ∧ f env = some (xs, env') ∧
  ∀ J H' W', RE K H' σ env' W' → Tr W H W' H' F0 → WalkD K J xs H' W' → R J H'
abbrev PXI (X : Cx) (tg e : Expr) (f : Fn1 (List D)) : Prop := PI X tg e (tIt X.K f)
theorem PI.imp {X : Cx} {tg e : Expr} {t t' : TI} (h : PI X tg e t) (i : ∀ σ H Q, t' σ H Q → t σ H Q) : PI X tg e t' := ⟨fun pins s σ H Q I q => h.run pins s σ H Q I (i σ H Q q)⟩
theorem Gd.pst {K : PySem.W.Frag} {H0 H : Hp} {σ : Sl} {env : En} {W0 : Ow} (r : RE K H0 σ env W0) (g : Gd H0 W0 H) : Pst H0 H := fun a xs h => by
  rcases h with h | ⟨o, h⟩
  · exact .inl (g a _ h (r.nomut h fun z => z))
  · exact .inr ⟨o, g a _ h (r.nomut h fun z => z)⟩
theorem Gd.of {W0 W : Ow} {H0 H : Hp} {F : Addr → Prop} (t : Tr W0 H0 W H F) : Gd H0 W0 H := fun b o e n => t.frame b o e n
/-! a list or a tuple -/
def iSeq (K : PySem.W.Frag) (tl : TE) : TI := fun σ H R => tl σ H fun x H1 => ∃ a, x = .ref a ∧ (((∃ xs, SqL K H1 a xs) ∧ R (Itl K a) H1) ∨ ((∃ xs, SqT K H1 a xs) ∧ R (Itt K a) H1))
theorem pi_seq {X : Cx} {tg l : Expr} {tl : TE} (hl : PE X l tl) : PI X tg l (iSeq X.K tl) := by
  refine ⟨fun pins s σ H R I h => ?_⟩
  refine thn (hl.run pins s σ H _ I h) fun v s1 ⟨x, H1, I1, r1, q1⟩ => ?_
  obtain ⟨a, e, q1⟩ := q1
  subst e
  cases r1
  rcases q1 with ⟨⟨xs, hq⟩, q⟩ | ⟨⟨xs, hq⟩, q⟩
  · obtain ⟨its, rv, p, hz⟩ := I1.list hq
    refine wpAny_pyIter_list p.isList ?_
    refine ⟨s1.heap.objs.size, [s1.heap.objs.size], _, _, H1, rfl, I1.kept (t' := s1.toks) fun b o e => Heap.get?_push_of_some _ e, turn_list a _, ⟨_, Heap.get?_push_size _ rfl, rfl, rfl⟩, fun b hb => ?_, q⟩
    have e : b = s1.heap.objs.size := by simpa using hb
    subst e
    exact I1.fpOk (Nat.le_refl _) (I1.hok.fresh (Nat.le_refl _))
  · obtain ⟨its, rv, p, hz⟩ := I1.tuple hq
    refine wpAny_pyIter_tuple (show s1.heap.IsTuple a its.toArray from p) ?_
    refine ⟨s1.heap.objs.size, [s1.heap.objs.size], _, _, H1, rfl, I1.kept (t' := s1.toks) fun b o e => Heap.get?_push_of_some _ e, turn_tuple a _, ⟨_, Heap.get?_push_size _ rfl, rfl, rfl⟩, fun b hb => ?_, q⟩
    have e : b = s1.heap.objs.size := by simpa using hb
    subst e
    exact I1.fpOk (Nat.le_refl _) (I1.hok.fresh (Nat.le_refl _))
/-- the items of an argument that stands still while it is walked: a tuple, a locked list of a slot, any sequence just made -/
def itemsS : Option (Option S) → Option (List D)
  | some (some (.d (.tup ds))) => some ds
  | some (some (.lk (.lst ds))) => some ds
  | _ => none
@[simp] theorem itemsS_tup {ds : List D} : itemsS (some (some (.d (.tup ds)))) = some ds := rfl
@[simp] theorem itemsS_lk {ds : List D} : itemsS (some (some (.lk (.lst ds)))) = some ds := rfl
def itemsA (a : Arg) (e : En) : Option (List D) := match a with
  | .slot j => itemsS e[j]?
  | .val s => seqOf s
@[simp] theorem itemsA_slot {j : Nat} {e : En} : itemsA (.slot j) e = itemsS e[j]? := rfl
@[simp] theorem itemsA_val {s : S} {e : En} : itemsA (.val s) e = seqOf s := rfl
def itK (z : Option (List D)) (e : En) : Option (List D × En) := match z with
  | some xs => some (xs, e)
  | none => none
@[simp] theorem itK_some {xs : List D} {e : En} : itK (some xs) e = some (xs, e) := rfl
def itSeq1 (a : Arg) (e : En) : Option (List D × En) := itK (itemsA a e) e
def itSeq (fa : Fn1 Arg) : Fn1 (List D) := fun e => bnd (fa e) itSeq1
theorem walkD_list {K : PySem.W.Frag} {a : Addr} {vs : List V} {xs : List D} {H0 : Hp} {σ : Sl} {env : En} {W0 : Ow} (r : RE K H0 σ env W0) (h : ∀ H, Gd H0 W0 H → SqL K H a vs) (rs : RDs K H0 xs vs) : WalkD K (Itl K a) xs H0 W0 := by
  refine ⟨_, (by rw [rs.length]; exact walk_list.mono h (fun i H x H' _ _ y => y) : Walk (Itl K a) xs.length (Gd H0 W0) (YAt vs)), fun i H x H' hi g y => ?_⟩
  obtain ⟨e, hx⟩ := y
  subst e
  obtain ⟨d, h1, h2⟩ := rs.getV hx
  exact ⟨Same.refl _, d, h1, RD.pst (Gd.pst r g) h2⟩
theorem walkD_tup {K : PySem.W.Frag} {a : Addr} {vs : List V} {xs : List D} {H0 : Hp} {σ : Sl} {env : En} {W0 : Ow} (r : RE K H0 σ env W0) (h : SqT K H0 a vs) (rs : RDs K H0 xs vs) : WalkD K (Itt K a) xs H0 W0 := by
  refine ⟨_, (by rw [rs.length]; exact walk_tup.mono (fun H g => (Gd.pst r g).seq h) (fun i H x H' _ _ y => y) : Walk (Itt K a) xs.length (Gd H0 W0) (YAt vs)), fun i H x H' hi g y => ?_⟩
  obtain ⟨e, hx⟩ := y
  subst e
  obtain ⟨d, h1, h2⟩ := rs.getV hx
  exact ⟨Same.refl _, d, h1, RD.pst (Gd.pst r g) h2⟩
theorem FzL.gd {K : PySem.W.Frag} {a : Addr} {vs : List V} {H0 H : Hp} {σ : Sl} {env : En} {W0 : Ow} (r : RE K H0 σ env W0) (h : FzL K H0 a vs) (g : Gd H0 W0 H) : SqL K H a vs := by
  rcases h with ⟨o, h⟩ | h
  · exact .inl (.inr ⟨o, g a _ h (r.nomut h fun z => z)⟩)
  · exact .inr h
/-- an argument's items, where they stand -/
theorem items_read {K : PySem.W.Frag} {H1 : Hp} {σ : Sl} {env1 : En} {W1 : Ow} {a : Arg} {v : V} {F : Addr → Prop} {xs : List D} (r1 : RE K H1 σ env1 W1) (ra : RA K H1 σ a v F) (tm : Tm W1 H1 F) (e : itemsA a env1 = some xs) :
    ∃ p vs, v = .ref p ∧ RDs K H1 xs vs ∧ ((∀ H, Gd H1 W1 H → SqL K H p vs) ∨ SqT K H1 p vs) := by
  cases a with
  | slot j =>
    rw [itemsA_slot] at e
    unfold itemsS at e
    split at e
    · rename_i ds hs
      cases e
      obtain ⟨w, h1, h2⟩ := r1.slots j _ hs
      have h' : σ[j]? = some (some v) := ra
      rw [h1] at h'
      cases h'
      obtain ⟨p, vs, e, q1, q2⟩ := rd_tup ⟨_, h2⟩
      exact ⟨p, vs, e, q2, .inr q1⟩
    · rename_i ds hs
      cases e
      obtain ⟨w, h1, h2⟩ := r1.slots j _ hs
      have h' : σ[j]? = some (some v) := ra
      rw [h1] at h'
      cases h'
      obtain ⟨p, vs, e, q1, q2⟩ := rd_lk ⟨_, h2⟩
      exact ⟨p, vs, e, q2, .inl fun H g => q1.gd r1 g⟩
    · cases e
  | val s =>
    have e : seqOf s = some xs := e
    cases s with
    | d x =>
      cases x with
      | tup ds =>
        cases e
        obtain ⟨p, vs, e, q1, q2⟩ := rd_tup ⟨F, ra⟩
        exact ⟨p, vs, e, q2, .inr q1⟩
      | _ => cases e
    | m x =>
      cases x with
      | lst ds =>
        cases e
        obtain ⟨p, vs, e, q1, q2, q3⟩ := ra
        exact ⟨p, vs, e, q3, .inl fun H g => SqL.of (g p _ q2 (tm p q1).1)⟩
      | _ => cases e
    | lk x =>
      cases x with
      | lst ds =>
        cases e
        obtain ⟨p, vs, e, q1, q2⟩ := rd_lk ⟨F, ra⟩
        exact ⟨p, vs, e, q2, .inl fun H g => q1.gd r1 g⟩
      | _ => cases e
theorem qi_seq {X : Cx} {tg l : Expr} {fa : Fn1 Arg} (hl : PX X l fa) : PXI X tg l (itSeq fa) := PI.imp (pi_seq hl) fun σ H R h => by
  obtain ⟨env, W, xs, env', re, e, k⟩ := h
  obtain ⟨a, env1, ea, e⟩ := bnd_eq e
  unfold itSeq1 itK at e
  split at e
  · rename_i xs' hx
    cases e
    refine ⟨env, W, a, _, re, ea, fun v H1 W1 F r1 ra tm t => ?_⟩
    obtain ⟨p, vs, ev, rs, q⟩ := items_read r1 ra tm hx
    have t0 := t.less (G := F0) fun _ z => z.elim
    refine ⟨p, ev, ?_⟩
    rcases q with q | q
    · exact .inl ⟨⟨vs, q H1 fun _ _ e _ => e⟩, k _ H1 W1 r1 t0 (walkD_list r1 q rs)⟩
    · exact .inr ⟨⟨vs, q⟩, k _ H1 W1 r1 t0 (walkD_tup r1 q rs)⟩
  · cases e
/-! ranges -/
def rngL (lo : Int) (n : Nat) : List D := (List.range n).map fun (k : Nat) => D.int (lo + (k : Int))
def smallI (i : Int) : Bool := decide (-(2 ^ 62) ≤ i ∧ i < 2 ^ 62)
def rngK : Option (List S) → Option (List D)
  | some [.d (.int j)] => if smallI j = true then some (rngL 0 j.toNat) else none
  | some [.d (.int i), .d (.int j)] => if smallI i = true ∧ smallI j = true then some (rngL i (j - i).toNat) else none
  | _ => none
@[simp] theorem rngK_1 {j : Int} : rngK (some [.d (.int j)]) = if smallI j = true then some (rngL 0 j.toNat) else none := rfl
@[simp] theorem rngK_2 {i j : Int} : rngK (some [.d (.int i), .d (.int j)]) = if smallI i = true ∧ smallI j = true then some (rngL i (j - i).toNat) else none := rfl
def itRng1 (as : List Arg) (e : En) : Option (List D × En) := itK (rngK (gets as e)) e
def itRng (fs : Fn1 (List Arg)) : Fn1 (List D) := fun e => bnd (fs e) itRng1
theorem rngL_at {lo : Int} {n i : Nat} (h : i < n) : (rngL lo n)[i]? = some (D.int (lo + (i : Int))) := by
  unfold rngL
  rw [List.getElem?_map, List.getElem?_range h]
  rfl
theorem rngL_length {lo : Int} {n : Nat} : (rngL lo n).length = n := by unfold rngL; simp
theorem walkD_rng {K : PySem.W.Frag} {lo : Int} {n : Nat} {H0 : Hp} {W0 : Ow} : WalkD K (Itr lo n) (rngL lo n) H0 W0 := by
  refine ⟨_, (by rw [rngL_length]; exact walk_range.mono (fun _ _ => trivial) (fun i H x H' _ _ y => y) : Walk (Itr lo n) (rngL lo n).length (Gd H0 W0) (YFn fun i => .int (lo + i))), fun i H x H' hi g y => ?_⟩
  obtain ⟨e, hx⟩ := y
  subst e hx
  rw [rngL_length] at hi
  exact ⟨Same.refl _, _, rngL_at hi, .int _⟩
section
variable {X : Cx} {tg a b : Expr} {fa fb : Fn1 Arg} {p pos : Pos}
theorem qi_rng1 (hg : Gl X "range") (hm : X.mg "range" = none) (ha : PXA X [a] (fCons fa fNil)) (hs : starEach [a] X.env = [(false, eval a X.env)] := by rfl) : PXI X tg (.Call (.Name "range" p) [a] [] pos) (itRng (fCons fa fNil)) := PI.imp (pi_range1 hg hm ha hs) fun σ H R h => by
  obtain ⟨env, W, xs, env', re, e, k⟩ := h
  obtain ⟨as, env1, ea, e⟩ := bnd_eq e
  unfold itRng1 itK at e
  split at e
  · rename_i xs' hx
    cases e
    refine ⟨env, W, as, _, re, ea, fun vs H1 W1 Fs r1 ras t => ?_⟩
    obtain ⟨a, e1, ea1, ea⟩ := bnd_eq ea
    obtain ⟨as', e2, ea2, ea⟩ := bnd_eq ea
    cases ea2
    cases ea
    cases ras with
    | cons ra tm d ras =>
      cases ras
      cases hg : (Arg.get a env') with
      | none => rw [gets_cons', hg] at hx; cases hx
      | some s =>
        rw [gets_cons', hg, gets_nil, cons?_some] at hx
        unfold rngK at hx
        split at hx
        · rename_i j heq
          cases heq
          split at hx
          · rename_i hsm
            cases hx
            have hsm : -(2 ^ 62) ≤ j ∧ j < 2 ^ 62 := of_decide_eq_true hsm
            refine ⟨j, by rw [rd_int (ra.read r1 hg)], hsm.1, hsm.2, ?_⟩
            exact k _ H1 W1 r1 (t.less fun _ z => z.elim) walkD_rng
          · cases hx
        · rename_i heq
          cases heq
        · cases hx
  · cases e
theorem qi_rng2 (hg : Gl X "range") (hm : X.mg "range" = none) (ha : PXA X [a, b] (fCons fa (fCons fb fNil))) (hs : starEach [a, b] X.env = [(false, eval a X.env), (false, eval b X.env)] := by rfl) (hs2 : starEach [b] X.env = [(false, eval b X.env)] := by rfl) :
    PXI X tg (.Call (.Name "range" p) [a, b] [] pos) (itRng (fCons fa (fCons fb fNil))) := PI.imp (pi_range2 hg hm ha hs hs2) fun σ H R h => by
  obtain ⟨env, W, xs, env', re, e, k⟩ := h
  obtain ⟨as, env1, ea, e⟩ := bnd_eq e
  unfold itRng1 itK at e
  split at e
  · rename_i xs' hx
    cases e
    refine ⟨env, W, as, _, re, ea, fun vs H1 W1 Fs r1 ras t => ?_⟩
    obtain ⟨a, e1, ea1, ea⟩ := bnd_eq ea
    obtain ⟨as', e2, ea2, ea⟩ := bnd_eq ea
    obtain ⟨b, e3, eb1, eb⟩ := bnd_eq ea2
    obtain ⟨bs', e4, eb2, eb⟩ := bnd_eq eb
    cases eb2
    cases eb
    cases ea
    cases ras with
    | cons ra tm d ras =>
      cases ras with
      | cons rb tmb db ras =>
        cases ras
        cases hg : (Arg.get a env') with
        | none => rw [gets_cons', hg] at hx; cases hx
        | some s =>
          cases hg2 : (Arg.get b env') with
          | none => rw [gets_cons', gets_cons', hg2, hg] at hx; cases hx
          | some s2 =>
            rw [gets_cons', gets_cons', hg, hg2, gets_nil, cons?_some, cons?_some] at hx
            unfold rngK at hx
            split at hx
            · rename_i heq
              cases heq
            · rename_i i j heq
              cases heq
              split at hx
              · rename_i hsm
                cases hx
                have h1 : -(2 ^ 62) ≤ i ∧ i < 2 ^ 62 := of_decide_eq_true hsm.1
                have h2 : -(2 ^ 62) ≤ j ∧ j < 2 ^ 62 := of_decide_eq_true hsm.2
                refine ⟨i, j, by rw [rd_int (ra.read r1 hg), rd_int (rb.read r1 hg2)], ⟨h1.1, h1.2, h2.1, h2.2⟩, ?_⟩
                exact k _ H1 W1 r1 (t.less fun _ z => z.elim) walkD_rng
              · cases hx
            · cases hx
  · cases e
end

/-! ### for -/
def forK (g : En → Option Res) (f : FS) : Option En → Option Res
  | some e => whileK g (f e)
  | none => none
@[simp] theorem forK_some {g : En → Option Res} {f : FS} {e : En} : forK g f (some e) = whileK g (f e) := rfl
def forL (b : D → En → Option En) (f : FS) : List D → En → Option Res
  | [], e => some (.nx e)
  | x :: xs, e => forK (forL b f xs) f (b x e)
@[simp] theorem forL_nil {b : D → En → Option En} {f : FS} {e : En} : forL b f [] e = some (.nx e) := rfl
theorem forL_cons {b : D → En → Option En} {f : FS} {x : D} {xs : List D} {e : En} : forL b f (x :: xs) e = forK (forL b f xs) f (b x e) := rfl
def sFor (it : Fn1 (List D)) (b : D → En → Option En) (f : FS) : FS := fun e => bndS (it e) (forL b f)
theorem qs_for {X : Cx} {tg iter : Expr} {body : List Stmt} {pos : Pos} {it : Fn1 (List D)} {A B : List Nat} {b : D → En → Option En} {f : FS} (hp : PassesOwn (model X.prog X.w) X.A X.env X.xe) (hc : X.calm = true) (hi : PXI X tg iter it) (hg : PXG X tg A b) (hb : PXSs X body B f)
    (hs : ∀ x, foldedSetIterable iter X.env x = pure x := by intro _; rfl) : PXS X (.For tg iter body [] pos) (A ++ B) (sFor it b f) := PS.imp (ps_for hp hc hi hg hb hs) fun D σ H h => by
  obtain ⟨env, W, r, re, e, p⟩ := h
  obtain ⟨xs, env1, ex, e⟩ := bndS_eq e
  have inA : ∀ j ∈ A, j ∈ A ++ B := fun j z => List.mem_append_left _ z
  have inB : ∀ j ∈ B, j ∈ A ++ B := fun j z => List.mem_append_right _ z
  have inAB : ∀ j ∈ A ++ B, j ∈ A ++ B := fun j z => z
  refine ⟨env, W, xs, env1, re, ex, fun J H1 W1 r1 t1 ⟨Y, wk, hY⟩ => ?_⟩
  refine for_it wk (fun i σ2 H2 => ∃ env2 W2, RE X.K H2 σ2 env2 W2 ∧ Tr W H W2 H2 F0 ∧ Tr W1 H1 W2 H2 F0 ∧ Eqs (A ++ B) σ σ2 ∧ forL b f (xs.drop i) env2 = some r) ⟨env1, W1, r1, t1, Tr.refl, Eqs.refl, e⟩ (fun i σ2 H2 hi ⟨env2, W2, r2, _, t2, _⟩ => Gd.of t2) ?_ ?_
  · rintro i x σ2 H2 H3 hi ⟨env2, W2, r2, t2, t12, q2, e2⟩ y
    obtain ⟨sm, d, hd, rd⟩ := hY i H2 x H3 hi (Gd.of t12) y
    have ed : xs.drop i = d :: xs.drop (i + 1) := by
      obtain ⟨h1, h2⟩ := List.getElem?_eq_some_iff.mp hd
      rw [List.drop_eq_getElem_cons h1, h2]
    rw [ed, forL_cons] at e2
    cases q : b d env2 with
    | none => rw [q] at e2; cases e2
    | some e3 =>
      rw [q, forK_some] at e2
      have t23 : Tr W2 H2 W2 H3 F0 := Tr.same sm fun _ z => z.elim
      refine ⟨d, env2, W2, e3, r2.same sm, rd, q, fun σ3 r3 q3 => ?_⟩
      cases qf : f e3 with
      | none => rw [qf] at e2; cases e2
      | some rr =>
        rw [qf] at e2
        refine ⟨e3, W2, rr, r3, qf, ?_⟩
        have q23 := q2.trans q3 inAB inA
        cases rr with
        | nx e4 => exact fun σ' H' W' r' t' q' => ⟨e4, W', r', (t2.trans0 t23).trans0 t', (t12.trans0 t23).trans0 t', q23.trans q' inAB inB, e2⟩
        | ct e4 => exact fun σ' H' W' r' t' q' => ⟨e4, W', r', (t2.trans0 t23).trans0 t', (t12.trans0 t23).trans0 t', q23.trans q' inAB inB, e2⟩
        | bk e4 =>
          cases e2
          exact fun σ' H' W' r' t' q' => p σ' H' W' r' ((t2.trans0 t23).trans0 t') (q23.trans q' inAB inB)
        | rt s e4 =>
          cases e2
          exact fun v σ' H' W' F r' rs tm t' q' => p v σ' H' W' F r' rs tm ((t2.trans0 t23).trans0 t') (q23.trans q' inAB inB)
  · rintro σ2 H2 ⟨env2, W2, r2, t2, t12, q2, e2⟩
    rw [List.drop_length, forL_nil] at e2
    cases e2
    exact p σ2 H2 W2 r2 t2 q2
end QL
end

section
set_option Elab.async false
set_option linter.all false
set_option maxRecDepth 100000
namespace QL
open PySem PySem.Spec PyProof.Rows L2

/-! ### list comprehensions -/
def wipeE (e : En) : List Nat → En
  | [] => e
  | v :: vs => (wipeE e vs).set v none
@[simp] theorem wipeE_nil {e : En} : wipeE e [] = e := rfl
@[simp] theorem wipeE_cons {e : En} {v : Nat} {vs : List Nat} : wipeE e (v :: vs) = (wipeE e vs).set v none := rfl
/-- e0's own slots back in e -/
def unw (e0 e : En) : List Nat → En
  | [] => e
  | v :: vs => (unw e0 e vs).set v (e0[v]?).join
@[simp] theorem unw_nil {e0 e : En} : unw e0 e [] = e := rfl
@[simp] theorem unw_cons {e0 e : En} {v : Nat} {vs : List Nat} : unw e0 e (v :: vs) = (unw e0 e vs).set v (e0[v]?).join := rfl
def okS : Option S → Bool
  | some (.m _) => false
  | some (.lk _) => false
  | _ => true
@[simp] theorem okS_none : okS none = true := rfl
@[simp] theorem okS_d {x : D} : okS (some (.d x)) = true := rfl
def okOwn (e : En) (vs : List Nat) : Bool := vs.all fun v => okS (e[v]?).join
@[simp] theorem okOwn_nil {e : En} : okOwn e [] = true := rfl
@[simp] theorem okOwn_cons {e : En} {v : Nat} {vs : List Nat} : okOwn e (v :: vs) = (okS (e[v]?).join && okOwn e vs) := rfl
theorem unw_at {e0 e : En} : ∀ {vs : List Nat} {j : Nat} {s : S}, (unw e0 e vs)[j]? = some (some s) → (j ∈ vs ∧ e0[j]? = some (some s)) ∨ (j ∉ vs ∧ e[j]? = some (some s))
  | [], j, s, h => .inr ⟨by simp, h⟩
  | v :: vs, j, s, h => by
    rw [unw_cons] at h
    by_cases hv : v = j
    · subst hv
      rw [List.getElem?_set, if_pos rfl] at h
      split at h
      · have h : (e0[v]?).join = some s := Option.some.inj h
        exact Or.inl ⟨List.mem_cons_self, join_some h⟩
      · cases h
    · rw [List.getElem?_set_ne hv] at h
      rcases unw_at h with ⟨h1, h2⟩ | ⟨h1, h2⟩
      · exact .inl ⟨List.mem_cons_of_mem _ h1, h2⟩
      · exact .inr ⟨fun z => (List.mem_cons.mp z).elim (fun q => hv q.symm) h1, h2⟩
theorem unw_length {e0 e : En} : ∀ {vs : List Nat}, (unw e0 e vs).length = e.length
  | [] => rfl
  | v :: vs => by rw [unw_cons, List.length_set, unw_length]
theorem wipeE_at {e : En} : ∀ {vs : List Nat} {j : Nat} {s : S}, (wipeE e vs)[j]? = some (some s) → j ∉ vs ∧ e[j]? = some (some s)
  | [], j, s, h => ⟨by simp, h⟩
  | v :: vs, j, s, h => by
    rw [wipeE_cons] at h
    by_cases hv : v = j
    · subst hv
      rw [List.getElem?_set, if_pos rfl] at h
      split at h <;> cases h
    · rw [List.getElem?_set_ne hv] at h
      obtain ⟨h1, h2⟩ := wipeE_at h
      exact ⟨fun z => (List.mem_cons.mp z).elim (fun q => hv q.symm) h1, h2⟩
theorem wipeE_length {e : En} : ∀ {vs : List Nat}, (wipeE e vs).length = e.length
  | [] => rfl
  | v :: vs => by rw [wipeE_cons, List.length_set, wipeE_length]
theorem wipe_ne {σ : Sl} : ∀ {vs : List Nat} {j : Nat}, j ∉ vs → (wipe σ vs)[j]? = σ[j]?
  | [], j, _ => rfl
  | v :: vs, j, h => by
    have h' : v ≠ j ∧ j ∉ vs := ⟨fun z => h (by rw [z]; exact List.mem_cons_self), fun z => h (List.mem_cons_of_mem _ z)⟩
    unfold wipe
    rw [List.getElem?_set_ne h'.1, wipe_ne h'.2]
theorem wipe_in {σ : Sl} : ∀ {vs : List Nat} {j : Nat}, j ∈ vs → (wipe σ vs)[j]? = if j < σ.length then some none else none
  | v :: vs, j, h => by
    unfold wipe
    by_cases hv : v = j
    · subst hv
      rw [List.getElem?_set, if_pos rfl, wipe_length]
    · rw [List.getElem?_set_ne hv]
      exact wipe_in ((List.mem_cons.mp h).resolve_left fun z => hv z.symm)
theorem wipe_same {σ σ2 : Sl} {vs A : List Nat} (q : Eqs A (wipe σ vs) σ2) (h : ∀ j ∈ A, j ∈ vs) : wipe σ2 vs = wipe σ vs := by
  have hl : σ2.length = σ.length := q.1.trans (wipe_length σ vs)
  refine List.ext_getElem? fun j => ?_
  by_cases hj : j ∈ vs
  · rw [wipe_in hj, wipe_in hj, hl]
  · rw [wipe_ne hj, q.2 j fun z => hj (h j z)]
theorem RE.wiped {K : PySem.W.Frag} {H : Hp} {σ : Sl} {env : En} {W : Ow} {vs : List Nat} (r : RE K H σ env W) : RE K H (wipe σ vs) (wipeE env vs) W :=
  ⟨fun i s e => by
    obtain ⟨h1, h2⟩ := wipeE_at e
    obtain ⟨v, q1, q2⟩ := r.slots i s h2
    exact ⟨v, by rw [wipe_ne h1]; exact q1, q2⟩, r.apart, r.mu, by rw [wipeE_length, wipe_length]; exact r.len⟩
theorem RE.unwiped {K : PySem.W.Frag} {H0 H : Hp} {σ σ2 : Sl} {env e3 : En} {W0 W : Ow} {vs A : List Nat} (r0 : RE K H0 σ env W0) (r : RE K H σ2 e3 W) (p : Pst H0 H) (q : Eqs A (wipe σ vs) σ2) (h : ∀ j ∈ A, j ∈ vs) (ok : okOwn env vs = true) : RE K H σ (unw env e3 vs) W :=
  ⟨fun i s e => by
    rcases unw_at e with ⟨h1, h2⟩ | ⟨h1, h2⟩
    · obtain ⟨v, q1, q2⟩ := r0.slots i s h2
      have o := List.all_eq_true.mp ok i h1
      rw [h2] at o
      cases s with
      | d x => exact ⟨v, q1, RD.pst p q2⟩
      | m x => cases o
      | lk x => cases o
    · obtain ⟨v, q1, q2⟩ := r.slots i s h2
      rw [q.2 i fun z => h1 (h i z), wipe_ne h1] at q1
      exact ⟨v, q1, q2⟩, r.apart, r.mu, by rw [unw_length, r.len, q.1, wipe_length]⟩
def lcV (g : List D → En → Option (Arg × En)) (acc : List D) (z : Option S) (e : En) : Option (Arg × En) := match z with
  | some (.d y) => g (acc ++ [y]) e
  | _ => none
@[simp] theorem lcV_d {g : List D → En → Option (Arg × En)} {acc : List D} {y : D} {e : En} : lcV g acc (some (.d y)) e = g (acc ++ [y]) e := rfl
def lcE (g : List D → En → Option (Arg × En)) (own : List Nat) (acc : List D) (e0 : En) (a : Arg) (e3 : En) : Option (Arg × En) := lcV g acc (a.get e3) (unw e0 e3 own)
def lcT (g : List D → En → Option (Arg × En)) (own : List Nat) (elt : Fn1 Arg) (acc : List D) (e0 : En) (c : Bool) (e2 : En) : Option (Arg × En) := if c = true then bnd (elt e2) (lcE g own acc e0) else g acc (unw e0 e2 own)
def lcB (g : List D → En → Option (Arg × En)) (own : List Nat) (tt : Fn1 Bool) (elt : Fn1 Arg) (acc : List D) (e0 : En) (z : Option En) : Option (Arg × En) := match z with
  | some e1 => bnd (tt e1) (lcT g own elt acc e0)
  | none => none
@[simp] theorem lcB_some {g : List D → En → Option (Arg × En)} {own : List Nat} {tt : Fn1 Bool} {elt : Fn1 Arg} {acc : List D} {e0 e1 : En} : lcB g own tt elt acc e0 (some e1) = bnd (tt e1) (lcT g own elt acc e0) := rfl
def lcL (own : List Nat) (b : D → En → Option En) (tt : Fn1 Bool) (elt : Fn1 Arg) : List D → List D → En → Option (Arg × En)
  | [], acc, e => some (.val (.m (.lst acc)), e)
  | x :: xs, acc, e => lcB (lcL own b tt elt xs) own tt elt acc e (b x (wipeE e own))
@[simp] theorem lcL_nil {own : List Nat} {b : D → En → Option En} {tt : Fn1 Bool} {elt : Fn1 Arg} {acc : List D} {e : En} : lcL own b tt elt [] acc e = some (.val (.m (.lst acc)), e) := rfl
theorem lcL_cons {own : List Nat} {b : D → En → Option En} {tt : Fn1 Bool} {elt : Fn1 Arg} {x : D} {xs acc : List D} {e : En} : lcL own b tt elt (x :: xs) acc e = lcB (lcL own b tt elt xs) own tt elt acc e (b x (wipeE e own)) := rfl
def fLc1 (own : List Nat) (b : D → En → Option En) (tt : Fn1 Bool) (elt : Fn1 Arg) (xs : List D) (e : En) : Option (Arg × En) := if xs.length ≤ sizeLine ∧ okOwn e own = true then lcL own b tt elt xs [] e else none
def fLc (own : List Nat) (it : Fn1 (List D)) (b : D → En → Option En) (tt : Fn1 Bool) (elt : Fn1 Arg) : Fn1 Arg := fun e => bnd (it e) (fLc1 own b tt elt)
def fYes : Fn1 Bool := fun e => some (true, e)
/-- a list that no slot owns is written -/
theorem RE.updF {K : PySem.W.Frag} {H : Hp} {σ : Sl} {env : En} {W : Ow} {p : Addr} {vs ws : List V} (r : RE K H σ env W) (h : H p = some (.lst vs)) (n : ¬ Own W p) : RE K (upd H p (.lst ws)) σ env W := by
  have sm : ∀ b o, H b = some o → b ≠ p → (upd H p (.lst ws)) b = some o := fun b o e hb => by rw [upd_ne hb]; exact e
  have t : Tr (fun (_ : Nat) b => b = p) H (fun (_ : Nat) b => b = p) (upd H p (.lst ws)) F0 :=
    ⟨fun b o e hn => sm b o e fun z => hn ⟨0, z⟩, fun b e => by
      by_cases hb : b = p
      · subst hb; rw [upd_same]; simp
      · rw [upd_ne hb]; exact e, fun b _ hn => ⟨hn, fun z => z⟩⟩
  refine ⟨fun i s e => ?_, r.apart, fun i b z => ?_, r.len⟩
  · obtain ⟨v, q1, q2⟩ := r.slots i s e
    exact ⟨v, q1, RS.keep (fun _ b z => by subst z; rw [h]; trivial) t q2 fun b z ⟨_, y⟩ => n (by rw [← y]; exact ⟨i, z⟩)⟩
  · have hb : b ≠ p := fun e => n (by rw [← e]; exact ⟨i, z⟩)
    rw [upd_ne hb]
    exact r.mu i b z
section
variable {X : Cx}
/-- the turns of a comprehension -/
theorem lc_read {K : PySem.W.Frag} {own : List Nat} {A : List Nat} {it : Fn1 (List D)} {b : D → En → Option En} {tt : Fn1 Bool} {elt : Fn1 Arg} {σ : Sl} {H : Hp} {Q : VK} (hA : ∀ j ∈ A, j ∈ own) (h : tE K (fLc own it b tt elt) σ H Q) :
    tLc (tIt K it) (tP K A b) (tT K tt) (tE K elt) own σ H Q := by
  obtain ⟨env, W, z, envF, re, e, k⟩ := h
  obtain ⟨xs, env1, ex, e⟩ := bnd_eq e
  unfold fLc1 at e
  split at e
  · rename_i hz
    obtain ⟨hz, hok⟩ := hz
    refine ⟨env, W, xs, env1, re, ex, fun J H1 W1 r1 t1 ⟨Y, wk, hY⟩ Dl nD => ?_⟩
    have sm0 : Same H1 (upd H1 Dl (.lst [])) := same_new nD
    refine lc_it wk (fun i H2 => ∃ env2 W2 acc vs, RE K H2 σ env2 W2 ∧ Tr W1 H1 W2 H2 (fun b => b = Dl) ∧ H2 Dl = some (.lst vs) ∧ RDs K H2 acc vs ∧ ¬ Own W2 Dl ∧ acc.length ≤ i ∧ okOwn env2 own = true ∧ lcL own b tt elt (xs.drop i) acc env2 = some (z, envF)) ?_ ?_ ?_ ?_
    · exact ⟨env1, W1, [], [], r1.same sm0, Tr.same sm0 fun b z => by rw [z]; exact nD, upd_same, .nil, r1.fresh nD, Nat.zero_le _, hok, e⟩
    · rintro i H2 hi ⟨env2, W2, acc, vs, r2, t2, _⟩
      exact Gd.of t2
    · rintro i x H2 H3 hi ⟨env2, W2, acc, vs, r2, t2, hD, rv, nW, hl, ok2, e2⟩ y
      obtain ⟨sm, d, hd, rd⟩ := hY i H2 x H3 hi (Gd.of t2) y
      have ed : xs.drop i = d :: xs.drop (i + 1) := by
        obtain ⟨h1, h2⟩ := List.getElem?_eq_some_iff.mp hd
        rw [List.drop_eq_getElem_cons h1, h2]
      rw [ed, lcL_cons] at e2
      cases q : b d (wipeE env2 own) with
      | none => rw [q] at e2; cases e2
      | some e3 =>
        rw [q, lcB_some] at e2
        have r3 := r2.same sm
        refine ⟨d, wipeE env2 own, W2, e3, r3.wiped, rd, q, fun σ3 r4 q4 => ⟨wipe_same q4 hA, ?_⟩⟩
        obtain ⟨c, e4, ec, e2⟩ := bnd_eq e2
        refine ⟨e3, W2, c, e4, r4, ec, fun H5 W5 r5 t5 => ?_⟩
        have hD3 : H3 Dl = some (.lst vs) := sm _ _ hD
        have hD5 : H5 Dl = some (.lst vs) := t5.frame _ _ hD3 nW
        have nW5 : ¬ Own W5 Dl := (t5.out Dl (by rw [hD3]; simp) nW).1
        have t25 : Tr W2 H2 W5 H5 F0 := (Tr.same (F := F0) sm fun _ z => z.elim).trans0 t5
        have p25 : Pst H2 H5 := r2.pst t25
        have okU : ∀ {e3 : En}, okOwn (unw env2 e3 own) own = true := by
          intro e3
          refine List.all_eq_true.mpr fun v hv => ?_
          cases q : (unw env2 e3 own)[v]? with
          | none => rfl
          | some o =>
            cases o with
            | none => rfl
            | some s =>
              rcases unw_at q with ⟨_, h2⟩ | ⟨h1, _⟩
              · have o := List.all_eq_true.mp ok2 v hv
                rw [h2] at o
                exact o
              · exact absurd hv h1
        unfold lcT at e2
        split at e2
        · rename_i hc
          subst hc
          refine iteT ?_
          obtain ⟨a, e5, ea, e2⟩ := bnd_eq e2
          refine ⟨e4, W5, a, e5, r5, ea, fun v H6 W6 F r6 ra tm t6 => ?_⟩
          unfold lcE lcV at e2
          split at e2
          · rename_i y hy
            obtain ⟨P, ry⟩ := ra.read r6 hy
            have hD6 : H6 Dl = some (.lst vs) := t6.frame _ _ hD5 nW5
            have nW6 : ¬ Own W6 Dl := (t6.out Dl (by rw [hD5]; simp) nW5).1
            have t26 : Tr W2 H2 W6 H6 F0 := (t25.trans0 t6).less fun _ z => z.elim
            have r7 : RE K H6 σ (unw env2 e5 own) W6 := r2.unwiped r6 (r2.pst t26) q4 hA ok2
            have pU : Pst H6 (upd H6 Dl (.lst (vs ++ [v]))) := fun a xs h => by
              have na : a ≠ Dl := fun z => by
                subst z
                rcases h with h | ⟨o, h⟩ <;> (rw [hD6] at h; cases h)
              unfold Rd
              rw [upd_ne na]
              exact h
            refine ⟨vs, hD6, ?_, ?_⟩
            · rw [← rv.length]
              omega
            · refine ⟨_, W6, acc ++ [y], vs ++ [v], r7.updF hD6 nW6, ?_, upd_same, RDs.append (RDs.pst pU (RDs.pst (r2.pst t26) rv)) (.cons (RD.pst pU ry) .nil), nW6, by rw [List.length_append]; exact Nat.succ_le_succ hl, okU, e2⟩
              have t06 := (t2.trans t26).less (G := fun b => b = Dl) fun b z => .inl z
              refine ⟨fun b o e n => ?_, fun b e => ?_, t06.out⟩
              · have nb : b ≠ Dl := fun z => by rw [z, nD] at e; cases e
                rw [upd_ne nb]
                exact t06.frame b o e n
              · by_cases hb : b = Dl
                · subst hb; rw [upd_same]; simp
                · rw [upd_ne hb]; exact t06.dom b e
          · cases e2
        · rename_i hc
          have hc : c = false := by cases c; rfl; exact absurd rfl hc
          subst hc
          refine iteF ?_
          exact ⟨_, W5, acc, vs, r2.unwiped r5 p25 q4 hA ok2, (t2.trans t25).less fun b z => .inl z, hD5, RDs.pst p25 rv, nW5, Nat.le_succ_of_le hl, okU, e2⟩
    · rintro H2 ⟨env2, W2, acc, vs, r2, t2, hD, rv, nW, hl, ok2, e2⟩
      rw [List.drop_length, lcL_nil] at e2
      cases e2
      refine k (.ref Dl) H2 W2 (fun b => b = Dl) r2 ⟨Dl, vs, rfl, rfl, hD, rv⟩ (fun b z => by subst z; exact ⟨nW, by rw [hD]; trivial⟩) (t1.trans0 t2)
  · cases e
theorem PTs.imp {ifs : List Expr} {t t' : TT} (h : PTs X ifs t) (i : ∀ σ H Q, t' σ H Q → t σ H Q) : PTs X ifs t' := ⟨fun pins s σ H Q I q => h.run pins s σ H Q I (i σ H Q q)⟩
theorem qts_nil : PTs X [] (tT X.K fYes) := PTs.imp pts_nil fun σ H Q h => by
  obtain ⟨env, W, b, env', re, e, k⟩ := h
  cases e
  exact k H W re Tr.refl
theorem qts_one {c : Expr} {t : Fn1 Bool} (h : PXT X c t) : PTs X [c] (tT X.K t) := pts_one h
theorem qx_lc {elt tg iter : Expr} {ifs : List Expr} {scope : Scope} {own : List (Str × Nat)} {pos : Pos} {it : Fn1 (List D)} {A : List Nat} {b : D → En → Option En} {tt : Fn1 Bool} {fe : Fn1 Arg} (hA : ∀ j ∈ A, j ∈ own.map (·.2)) (hc : X.calm = true) (hN : X.N.Nodup) (hi : PXI X tg iter it) (ok : BlkOk X.N X.env.scope scope own)
    (hg : ∀ (s : Shared) (H : Hp) (C : Addr) (cl : List (Str × Addr)) (fp : List Addr), PXG (X.blk s H scope (compEnvC scope cl C X.env) fp) tg A b) (ht : ∀ (s : Shared) (H : Hp) (C : Addr) (cl : List (Str × Addr)) (fp : List Addr), PTs (X.blk s H scope (compEnvC scope cl C X.env) fp) ifs (tT X.K tt))
    (he : ∀ (s : Shared) (H : Hp) (C : Addr) (cl : List (Str × Addr)) (fp : List Addr), PX (X.blk s H scope (compEnvC scope cl C X.env) fp) elt fe) (hs : ∀ x, foldedSetIterable iter X.env x = pure x := by intro _; rfl) :
    PX X (.ListComp elt [⟨tg, iter, ifs, 0⟩] scope pos) (fLc (own.map (·.2)) it b tt fe) := PE.imp (pe_lc hc hN hi ok hg ht he hs) fun σ H Q h => lc_read hA h
theorem qs_setLc {i : Nat} {y : Str} {py : Pos} {elt tg iter : Expr} {ifs : List Expr} {scope : Scope} {own : List (Str × Nat)} {pos spos : Pos} {it : Fn1 (List D)} {A : List Nat} {b : D → En → Option En} {tt : Fn1 Bool} {fe : Fn1 Arg} (hA : ∀ j ∈ A, j ∈ own.map (·.2)) (hc : X.calm = true) (hN : X.N.Nodup) (hy : X.N[i]? = some y) (hyl : X.env.scope.names.lookup y = some .local)
    (hsw : swapsWith (.ListComp elt [⟨tg, iter, ifs, 0⟩] scope pos) (some (.Name y py)) spos.line X.env = pure true) (hi : PXI X tg iter it) (ok : BlkOk X.N X.env.scope scope own)
    (hg : ∀ (s : Shared) (H : Hp) (C : Addr) (cl : List (Str × Addr)) (fp : List Addr), PXG (X.blk s H scope (compEnvC scope cl C X.env) fp) tg A b) (ht : ∀ (s : Shared) (H : Hp) (C : Addr) (cl : List (Str × Addr)) (fp : List Addr), PTs (X.blk s H scope (compEnvC scope cl C X.env) fp) ifs (tT X.K tt))
    (he : ∀ (s : Shared) (H : Hp) (C : Addr) (cl : List (Str × Addr)) (fp : List Addr), PX (X.blk s H scope (compEnvC scope cl C X.env) fp) elt fe) (hs : ∀ x, foldedSetIterable iter X.env x = pure x := by intro _; rfl) :
    PXS X (.Assign [.Name y py] (.ListComp elt [⟨tg, iter, ifs, 0⟩] scope pos) spos) [i] (sSet i (fLc (own.map (·.2)) it b tt fe)) := PS.imp (ps_setLc hc hN hy hyl hsw hi ok hg ht he hs) fun D σ H h => by
  obtain ⟨env, W, r, re, e, p⟩ := h
  obtain ⟨a, env1, ea, e⟩ := bndS_eq e
  exact lc_read hA ⟨env, W, a, env1, re, ea, fun v H1 W1 F r1 ra tm t => valK_ok e r1 ra tm t p⟩
end
end QL
end

section
set_option Elab.async false
set_option linter.all false
set_option maxRecDepth 100000
set_option maxHeartbeats 4000000
namespace QL
open PySem PySem.Spec PyProof.Rows L2

/-! ### subscripts -/
def getI {α : Type} (xs : List α) (i : Int) : Option α := if 0 ≤ i then xs[i.toNat]? else if -(xs.length : Int) ≤ i then xs[(i + xs.length).toNat]? else none
theorem getI_at {α : Type} {xs : List α} {i : Int} {x : α} (h : getI xs i = some x) : ∃ j, L2.ixN xs.length i = some j ∧ xs[j]? = some x := by
  unfold getI at h
  unfold L2.ixN
  split at h
  · rename_i h0
    have hlt := (List.getElem?_eq_some_iff.mp h).1
    rw [if_pos h0, if_pos (by omega)]
    exact ⟨_, rfl, h⟩
  · rename_i h0
    split at h
    · rename_i h1
      rw [if_neg h0, if_pos h1]
      exact ⟨_, rfl, h⟩
    · cases h
def oIx (x y : S) : Option S := match y with
  | .d (.int i) => match x with
    | .d (.str z) => if z.length ≤ sizeLine then (getI z.cps.toList i).map fun c => .d (.str ⟨#[c]⟩) else none
    | x => match seqOf x with
      | some ds => (getI ds i).map .d
      | none => none
  | _ => none
@[simp] theorem oIx_tup {ds : List D} {i : Int} : oIx (.d (.tup ds)) (.d (.int i)) = (getI ds i).map .d := rfl
@[simp] theorem oIx_lst {ds : List D} {i : Int} : oIx (.m (.lst ds)) (.d (.int i)) = (getI ds i).map .d := rfl
@[simp] theorem oIx_lk {ds : List D} {i : Int} : oIx (.lk (.lst ds)) (.d (.int i)) = (getI ds i).map .d := rfl
theorem op2_ix {K : PySem.W.Frag} : Op2 K (rIx K) oIx := by
  intro H x y sx sy s Q e hx hy f
  unfold oIx at e
  split at e
  · rename_i i
    split at e
    · rename_i z
      split at e
      · rename_i hz
        cases q : getI z.cps.toList i with
        | none => rw [q] at e; cases e
        | some c =>
          rw [q] at e
          cases e
          obtain ⟨j, h1, h2⟩ := getI_at q
          refine .inr (.inr ⟨z, i, c, rd_str hx, rd_int hy, hz, ?_, f.str⟩)
          unfold L2.atI
          rw [h1]
          exact h2
      · cases e
    · split at e
      · rename_i ds hs
        cases q : getI ds i with
        | none => rw [q] at e; cases e
        | some c =>
          rw [q] at e
          cases e
          obtain ⟨j, h1, h2⟩ := getI_at q
          obtain ⟨a, vs, ev, rs, sq⟩ := rd_seq hs hx
          obtain ⟨v, hv, rd⟩ := rs.get h2
          have at' : L2.atI vs i = some v := by
            unfold L2.atI
            rw [← rs.length, h1]
            exact hv
          rcases sq with sq | sq
          · exact .inl ⟨a, vs, i, v, ev, rd_int hy, sq, at', f.imm rd⟩
          · exact .inr (.inl ⟨a, vs, i, v, ev, rd_int hy, sq, at', f.imm rd⟩)
      · cases e
  · cases e
section
variable {X : Cx} {a b : Expr} {fa fb : Fn1 Arg} {pos : Pos}
theorem qx_ix (ha : PX X a fa) (hb : PX X b fb) (hs : PlainIx b := by intro _ _; rfl) : PX X (.Subscript a b pos) (fBin oIx fa fb) := PE.imp (pe_ix ix_seq ha hb hs) fun σ H Q h => bin_read op2_ix h

/-! ### slices -/
def tO (K : PySem.W.Frag) (f : Fn1 (Option Int)) : TO := fun σ H Q => ∃ env W o env', RE K H σ env W ∧ f env = some (o, env') ∧ ∀ H' W', RE K H' σ env' W' → Tr W H W' H' F0 → Q o H'
abbrev PXO (X : Cx) (e : Option Expr) (f : Fn1 (Option Int)) : Prop := PO X e (tO X.K f)
theorem PO.imp {e : Option Expr} {t t' : TO} (h : PO X e t) (i : ∀ σ H Q, t' σ H Q → t σ H Q) : PO X e t' := ⟨fun pins s σ H Q I q => h.run pins s σ H Q I (i σ H Q q)⟩
def fNo : Fn1 (Option Int) := fun e => some (none, e)
def partK (z : Option S) (e : En) : Option (Option Int × En) := match z with
  | some (.d (.int i)) => some (some i, e)
  | _ => none
@[simp] theorem partK_int {i : Int} {e : En} : partK (some (.d (.int i))) e = some (some i, e) := rfl
def fPart1 (a : Arg) (e : En) : Option (Option Int × En) := partK (a.get e) e
def fPart (fa : Fn1 Arg) : Fn1 (Option Int) := fun e => bnd (fa e) fPart1
theorem qp_none : PXO X none fNo := PO.imp po_none fun σ H Q h => by
  obtain ⟨env, W, o, env', re, e, k⟩ := h
  cases e
  exact k H W re Tr.refl
theorem qp_some (ha : PX X a fa) : PXO X (some a) (fPart fa) := PO.imp (po_some ha) fun σ H Q h => by
  obtain ⟨env, W, o, env', re, e, k⟩ := h
  obtain ⟨a, env1, ea, e⟩ := bnd_eq e
  unfold fPart1 partK at e
  split at e
  · rename_i i hi
    cases e
    exact ⟨env, W, a, _, re, ea, fun v H1 W1 F r1 ra tm t => ⟨i, rd_int (ra.read r1 hi), k H1 W1 r1 (t.less fun _ z => z.elim)⟩⟩
  · cases e
def sIxI (n d : Nat) : Option Int → Nat := HT.sIx n d
def cutD (xs : List D) (lo hi : Option Int) : List D := (xs.drop (HT.sIx xs.length 0 lo)).take (HT.sIx xs.length xs.length hi - HT.sIx xs.length 0 lo)
theorem cut_rds {K : PySem.W.Frag} {H : Hp} {ds : List D} {vs : List V} (r : RDs K H ds vs) (lo hi : Option Int) : RDs K H (cutD ds lo hi) (cutV vs lo hi) := by
  unfold cutD cutV
  rw [r.length]
  exact (r.drop _).take _
def oSl (lo hi : Option Int) : S → Option S
  | .d (.tup ds) => some (.d (.tup (cutD ds lo hi)))
  | .m (.lst ds) => some (.m (.lst (cutD ds lo hi)))
  | .lk (.lst ds) => some (.m (.lst (cutD ds lo hi)))
  | _ => none
@[simp] theorem oSl_tup {lo hi : Option Int} {ds : List D} : oSl lo hi (.d (.tup ds)) = some (.d (.tup (cutD ds lo hi))) := rfl
@[simp] theorem oSl_lst {lo hi : Option Int} {ds : List D} : oSl lo hi (.m (.lst ds)) = some (.m (.lst (cutD ds lo hi))) := rfl
@[simp] theorem oSl_lk {lo hi : Option Int} {ds : List D} : oSl lo hi (.lk (.lst ds)) = some (.m (.lst (cutD ds lo hi))) := rfl
def fSl3 (a : Arg) (lo hi : Option Int) (e : En) : Option (Arg × En) := ret (op1 (oSl lo hi) (a.get e)) e
def fSl2 (fhi : Fn1 (Option Int)) (a : Arg) (lo : Option Int) (e : En) : Option (Arg × En) := bnd (fhi e) (fSl3 a lo)
def fSl1 (flo fhi : Fn1 (Option Int)) (a : Arg) (e : En) : Option (Arg × En) := bnd (flo e) (fSl2 fhi a)
def fSl (fa : Fn1 Arg) (flo fhi : Fn1 (Option Int)) : Fn1 Arg := fun e => bnd (fa e) (fSl1 flo fhi)
theorem cut_whole {α : Type} {xs : List α} {lo hi : Option Int} (h : HT.sIx xs.length 0 lo = 0 ∧ HT.sIx xs.length xs.length hi = xs.length) : (xs.drop (HT.sIx xs.length 0 lo)).take (HT.sIx xs.length xs.length hi - HT.sIx xs.length 0 lo) = xs := by
  rw [h.1, h.2, List.drop_zero, Nat.sub_zero, List.take_length]
theorem qx_sl {lo hi : Option Expr} {flo fhi : Fn1 (Option Int)} {p2 : Pos} (ha : PX X a fa) (hl : PXO X lo flo) (hu : PXO X hi fhi) : PX X (.Subscript a (.Slice lo hi none p2) pos) (fSl fa flo fhi) :=
  PE.imp (pe_slice (SlR.or sl_list sl_tupA) ha hl hu) fun σ H Q h => by
  obtain ⟨env, W, z, env', re, e, k⟩ := h
  obtain ⟨a, env1, ea, e⟩ := bnd_eq e
  obtain ⟨l, env2, el, e⟩ := bnd_eq e
  obtain ⟨u, env3, eu, e⟩ := bnd_eq e
  obtain ⟨s, eq1, er⟩ := ret_eq e
  cases er
  obtain ⟨sx, e1, eo⟩ := op1_eq eq1
  refine ⟨env, W, a, env1, re, ea, fun v H1 W1 F r1 ra tm t1 => ⟨env1, W1, l, env2, r1, el, fun H2 W2 r2 t2 => ⟨env2, W2, u, _, r2, eu, fun H3 W3 r3 t3 => ?_⟩⟩⟩
  have ra3 : RA X.K H3 σ a v F := (ra.keep r1.mu t2 tm).keep r2.mu t3 (Tm.keep t2 tm)
  have fin := fin_of r3 ((t1.trans0 t2).trans0 t3) k
  have rd := ra3.read r3 e1
  cases sx with
  | d x =>
    cases x with
    | tup ds =>
      cases eo
      obtain ⟨p, vs, ev, sq, rs⟩ := rd_tup rd
      refine .inr ⟨p, vs, ev, sq, fun hw => ?_, fun _ q hq => fin.tup (cut_rds rs l u) hq⟩
      refine fin.imm ?_
      have e : cutD ds l u = ds := by
        unfold cutD
        rw [← rs.length] at hw
        exact cut_whole hw
      rw [e]
      exact .tup sq rs
    | _ => cases eo
  | m x =>
    cases x with
    | lst ds =>
      cases eo
      obtain ⟨p, vs, ev, sq, rs⟩ := rd_lst rd
      exact .inl ⟨p, vs, ev, SqL.of sq, fun q hq => fin.lst (cut_rds rs l u) hq⟩
    | _ => cases eo
  | lk x =>
    cases x with
    | lst ds =>
      cases eo
      obtain ⟨p, vs, ev, sq, rs⟩ := rd_lk rd
      exact .inl ⟨p, vs, ev, sq.sq, fun q hq => fin.lst (cut_rds rs l u) hq⟩
    | _ => cases eo
end

/-! ### builtins -/
def lenS (s : S) : Option Nat := match s with
  | .d (.str z) => if z.length ≤ sizeLine then some z.length else none
  | .d (.tup ds) => some ds.length
  | .m (.lst ds) => some ds.length
  | .lk (.lst ds) => some ds.length
  | _ => none
theorem lenS_ok {K : PySem.W.Frag} {H : Hp} {s : S} {v : V} {n : Nat} (e : lenS s = some n) (h : Rd1 K H s v) : LenV K v H n := by
  unfold lenS at e
  split at e
  · split at e
    · rename_i hz
      cases e
      rw [rd_str h]
      exact ⟨hz, rfl⟩
    · cases e
  · cases e
    obtain ⟨a, vs, rfl, sq, rs⟩ := rd_tup h
    exact .inr ⟨vs, sq, rs.length⟩
  · cases e
    obtain ⟨a, vs, rfl, sq, rs⟩ := rd_lst h
    exact .inl ⟨vs, SqL.of sq, rs.length⟩
  · cases e
    obtain ⟨a, vs, rfl, sq, rs⟩ := rd_lk h
    exact .inl ⟨vs, sq.sq, rs.length⟩
  · cases e
def oLen : List S → Option S
  | [s] => (lenS s).map fun (n : Nat) => .d (.int n)
  | _ => none
@[simp] theorem oLen_tup {ds : List D} : oLen [.d (.tup ds)] = some (.d (.int ds.length)) := rfl
@[simp] theorem oLen_lst {ds : List D} : oLen [.m (.lst ds)] = some (.d (.int ds.length)) := rfl
@[simp] theorem oLen_lk {ds : List D} : oLen [.lk (.lst ds)] = some (.d (.int ds.length)) := rfl
theorem rr1 {K : PySem.W.Frag} {H : Hp} {s : S} {vs : List V} (h : RR K H [s] vs) : ∃ v, vs = [v] ∧ Rd1 K H s v := by
  cases h with
  | cons h t => cases t; exact ⟨_, rfl, h⟩
theorem rr2 {K : PySem.W.Frag} {H : Hp} {s s' : S} {vs : List V} (h : RR K H [s, s'] vs) : ∃ v v', vs = [v, v'] ∧ Rd1 K H s v ∧ Rd1 K H s' v' := by
  cases h with
  | cons h t => cases t with
    | cons h' t' => cases t'; exact ⟨_, _, rfl, h, h'⟩
section
variable {X : Cx}
theorem cb_len : CallOk X (.builtin "len") oLen := ⟨_, call_len, fun H vs ss s Q e rr f => by
  unfold oLen at e
  split at e
  · rename_i s0
    obtain ⟨v, rfl, h⟩ := rr1 rr
    cases q : lenS s0 with
    | none => rw [q] at e; cases e
    | some n =>
      rw [q] at e
      cases e
      exact ⟨_, n, rfl, lenS_ok q h, f.int⟩
  · cases e⟩
def oInt : List S → Option S
  | [.d (.int i)] => some (.d (.int i))
  | [.d (.bl b)] => some (.d (.int (if b then 1 else 0)))
  | _ => none
@[simp] theorem oInt_int {i : Int} : oInt [.d (.int i)] = some (.d (.int i)) := rfl
@[simp] theorem oInt_bl {b : Bool} : oInt [.d (.bl b)] = some (.d (.int (if b then 1 else 0))) := rfl
theorem ct_int : CallOk X (.type "int") oInt := ⟨_, call_int1, fun H vs ss s Q e rr f => by
  unfold oInt at e
  split at e
  · cases e
    obtain ⟨v, rfl, h⟩ := rr1 rr
    exact .inl ⟨_, by rw [rd_int h], f.int⟩
  · cases e
    obtain ⟨v, rfl, h⟩ := rr1 rr
    exact .inr ⟨_, by rw [rd_bl h], f.int⟩
  · cases e⟩
def oAbs : List S → Option S
  | [.d (.int i)] => some (.d (.int (if i < 0 then -i else i)))
  | _ => none
@[simp] theorem oAbs_int {i : Int} : oAbs [.d (.int i)] = some (.d (.int (if i < 0 then -i else i))) := rfl
theorem cb_abs : CallOk X (.builtin "abs") oAbs := ⟨_, call_abs, fun H vs ss s Q e rr f => by
  unfold oAbs at e
  split at e
  · cases e
    obtain ⟨v, rfl, h⟩ := rr1 rr
    exact ⟨_, by rw [rd_int h], f.int⟩
  · cases e⟩
def oList : List S → Option S
  | [s] => (seqOf s).map fun ds => .m (.lst ds)
  | _ => none
@[simp] theorem oList_tup {ds : List D} : oList [.d (.tup ds)] = some (.m (.lst ds)) := rfl
@[simp] theorem oList_lst {ds : List D} : oList [.m (.lst ds)] = some (.m (.lst ds)) := rfl
@[simp] theorem oList_lk {ds : List D} : oList [.lk (.lst ds)] = some (.m (.lst ds)) := rfl
theorem ct_list : CallOk X (.type "list") oList := ⟨_, call_list_of, fun H vs ss s Q e rr f => by
  unfold oList at e
  split at e
  · rename_i s
    obtain ⟨v, rfl, h⟩ := rr1 rr
    cases q : seqOf s with
    | none => rw [q] at e; cases e
    | some ds =>
      rw [q] at e
      cases e
      obtain ⟨a, vs, rfl, rs, sq⟩ := rd_seq q h
      exact ⟨a, vs, rfl, sq, fun l hl => f.lst rs hl⟩
  · cases e⟩
def oTuple : List S → Option S
  | [s] => (seqOf s).map fun ds => .d (.tup ds)
  | _ => none
@[simp] theorem oTuple_tup {ds : List D} : oTuple [.d (.tup ds)] = some (.d (.tup ds)) := rfl
@[simp] theorem oTuple_lst {ds : List D} : oTuple [.m (.lst ds)] = some (.d (.tup ds)) := rfl
@[simp] theorem oTuple_lk {ds : List D} : oTuple [.lk (.lst ds)] = some (.d (.tup ds)) := rfl
theorem ct_tuple : CallOk X (.type "tuple") oTuple := ⟨_, call_tuple_of, fun H vs ss s Q e rr f => by
  unfold oTuple at e
  split at e
  · rename_i s
    obtain ⟨v, rfl, h⟩ := rr1 rr
    cases q : seqOf s with
    | none => rw [q] at e; cases e
    | some ds =>
      rw [q] at e
      cases e
      obtain ⟨a, vs, rfl, rs, sq⟩ := rd_seq q h
      rcases sq with sq | sq
      · exact ⟨a, vs, rfl, .inl ⟨sq, fun l hl => f.tup rs hl⟩⟩
      · exact ⟨a, vs, rfl, .inr ⟨sq, f.imm (.tup sq rs)⟩⟩
  · cases e⟩
end

/-! ### sums and extremes of lists and tuples of ints -/
section
variable {prog : Program} {w : World} {A : Around} {E : Value → Shared → Prop} {s : Shared} {t : Addr} {its : List Value} {ns : List Int}
theorem iterTup {items : Array Value} {Q : Value → Shared → Prop} (ht : s.heap.IsTuple t items)
    (h : ∀ s2 : Shared, s2 = { s with heap := s.heap.push { cls := .type "tuple_iterator", data := .fields #[.ref t, .int 0 0] } } →
      (s2.heap.IsTupleIter s.heap.objs.size t 0 ∧ s2.heap.IsTuple t items) → (∀ b ∈ [s.heap.objs.size, t], b < s2.heap.objs.size) → t ≠ s.heap.objs.size → Q (.ref s.heap.objs.size) s2) : wpAny (model prog w) A (pyIter (.ref t)) Q E s := by
  have hlt : t < s.heap.objs.size := by obtain ⟨_, e, _⟩ := ht; exact Heap.lt_size e
  have ht2 : (s.heap.push { cls := .type "tuple_iterator", data := .fields #[.ref t, .int 0 0] }).IsTuple t items := by
    obtain ⟨o, e, r⟩ := ht
    exact ⟨o, Heap.get?_push_of_some _ e, r⟩
  refine wpAny_pyIter_tuple ht (h _ rfl ⟨⟨_, Heap.get?_push_size _ rfl, rfl, rfl⟩, ht2⟩ (fun b hb => ?_) (Nat.ne_of_lt hlt))
  show b < (s.heap.push _).objs.size
  rw [Heap.size_push]
  have hb : b = s.heap.objs.size ∨ b = t := by simpa using hb
  rcases hb with z | z
  · rw [z]; exact Nat.lt_succ_self _
  · rw [z]; exact Nat.lt_succ_of_lt hlt
theorem keptT {o1 : Obj} {h' : Heap} (hk : ∀ b o, b ∉ [s.heap.objs.size] → (s.heap.push o1).get? b = some o → h'.get? b = some o) : ∀ b o, s.heap.get? b = some o → h'.get? b = some o := fun b o e =>
  hk b o (fun hm => by
    have hm : b = s.heap.objs.size := by simpa using hm
    exact absurd (hm ▸ Heap.lt_size e) (Nat.lt_irrefl _)) (Heap.get?_push_of_some _ e)
theorem nums_at (hi : IntsAre its ns) {i : Nat} {v : Value} (h : its.toArray[i]? = some v) : ∃ t, v = .int (ns.getD i 0) t := by
  have r : Vals (ns.map V.int) its := vals_of_ints hi
  have h' : its[i]? = some v := by simpa using h
  obtain ⟨hl, _⟩ := List.getElem?_eq_some_iff.mp h'
  have hl2 : i < ns.length := by have := r.length; simp at this; omega
  obtain ⟨u, hu, ru⟩ := r.get (i := i) (x := .int ns[i]) (by rw [List.getElem?_map, List.getElem?_eq_getElem hl2]; rfl)
  rw [h'] at hu
  cases hu
  obtain ⟨t, e⟩ := ru
  exact ⟨t, by rw [e, List.getD_eq_getElem?_getD, List.getElem?_eq_getElem hl2]; rfl⟩
theorem preSum_take (f : Nat → Int) (ns : List Int) (h : ∀ i, i < ns.length → f i = ns.getD i 0) : ∀ k, k ≤ ns.length → preSum f k = (ns.take k).sum := by
  intro k
  induction k with
  | zero => intro _; rfl
  | succ k ih =>
    intro hk
    have hlt : k < ns.length := hk
    rw [sum_take (List.getElem?_eq_getElem hlt), ← ih (Nat.le_of_lt hlt)]
    show preSum f k + f k = _
    rw [h k hlt, List.getD_eq_getElem?_getD, List.getElem?_eq_getElem hlt]
    rfl
theorem sum_rawT {Q : Value → Shared → Prop} (hh : A.handled = none) (ht : s.heap.IsTuple t its.toArray) (hi : IntsAre its ns)
    (h : ∀ h' tk t', (∀ b o, s.heap.get? b = some o → h'.get? b = some o) → Q (.int ns.sum t') { s with heap := h', toks := tk }) : wpAny (model prog w) A (call (.builtin "sum") [.ref t]) Q E s := by
  have hlen : its.length = ns.length := by have := (vals_of_ints hi).length; simpa using this.symm
  refine call_sum_walkG (iterTup ht fun s2 e st hfp hne => ?_)
  subst e
  refine ⟨_, _, _, _, _, _, fun i => ns.getD i 0, rfl, Walks.tuple (A := A.in1) hh _ t hne its.toArray, st, hfp, fun _ _ hv => nums_at hi hv, fun h' tk t' hk => ?_⟩
  have e : preSum (fun i => ns.getD i 0) its.toArray.size = ns.sum := by
    rw [List.size_toArray, hlen, preSum_take _ ns (fun _ _ => rfl) _ (Nat.le_refl _), List.take_length]
  rw [e]
  exact h h' tk t' (keptT hk)
end
section
variable {X : Cx}
def intsOf : List D → Option (List Int)
  | [] => some []
  | .int i :: ds => (intsOf ds).map (i :: ·)
  | _ :: _ => none
@[simp] theorem intsOf_nil : intsOf [] = some [] := rfl
@[simp] theorem intsOf_cons {i : Int} {ds : List D} : intsOf (.int i :: ds) = (intsOf ds).map (i :: ·) := rfl
@[simp] theorem intsOf_map {l : List Int} : intsOf (l.map D.int) = some l := by
  induction l with
  | nil => rfl
  | cons a l ih => rw [List.map_cons, intsOf_cons, ih]; rfl
theorem intsOf_eq : ∀ {ds : List D} {ns : List Int}, intsOf ds = some ns → ds = ns.map D.int
  | [], ns, h => by cases h; rfl
  | .int i :: ds, ns, h => by
    rw [intsOf_cons] at h
    cases q : intsOf ds with
    | none => rw [q] at h; cases h
    | some l => rw [q] at h; cases h; rw [intsOf_eq q]; rfl
  | .non :: _, _, h => by cases h
  | .bl _ :: _, _, h => by cases h
  | .str _ :: _, _, h => by cases h
  | .tup _ :: _, _, h => by cases h
def intsOp (g : List Int → Option Int) : List S → Option S
  | [s] => ((seqOf s).bind intsOf).bind fun l => (g l).map fun i => .d (.int i)
  | _ => none
theorem intsOp_eq {g : List Int → Option Int} {ss : List S} {s : S} (h : intsOp g ss = some s) : ∃ x l i, ss = [x] ∧ seqOf x = some (l.map D.int) ∧ g l = some i ∧ s = .d (.int i) := by
  unfold intsOp at h
  split at h
  · rename_i x
    cases q : seqOf x with
    | none => rw [q] at h; cases h
    | some ds =>
      rw [q] at h
      have h : (intsOf ds).bind (fun l => (g l).map fun i => S.d (.int i)) = some s := h
      cases q2 : intsOf ds with
      | none => rw [q2] at h; cases h
      | some l =>
        rw [q2] at h
        have h : (g l).map (fun i => S.d (.int i)) = some s := h
        cases q3 : g l with
        | none => rw [q3] at h; cases h
        | some i =>
          rw [q3] at h
          cases h
          exact ⟨x, l, i, rfl, by rw [q, intsOf_eq q2], q3, rfl⟩
  · cases h
@[simp] theorem intsOp_tup {g : List Int → Option Int} {ds : List D} : intsOp g [.d (.tup ds)] = (intsOf ds).bind fun l => (g l).map fun i => .d (.int i) := rfl
@[simp] theorem intsOp_lst {g : List Int → Option Int} {ds : List D} : intsOp g [.m (.lst ds)] = (intsOf ds).bind fun l => (g l).map fun i => .d (.int i) := rfl
@[simp] theorem intsOp_lk {g : List Int → Option Int} {ds : List D} : intsOp g [.lk (.lst ds)] = (intsOf ds).bind fun l => (g l).map fun i => .d (.int i) := rfl
def oSum : List S → Option S := intsOp fun l => some l.sum
def rSumA (K : PySem.W.Frag) : List V → Hp → VK → Prop := fun vs H Q => ∃ (a : Addr) (ns : List Int), vs = [V.ref a] ∧ (SqL K H a (ns.map V.int) ∨ SqT K H a (ns.map V.int)) ∧ Q (.int ns.sum) H
theorem cr_sumA (hc : X.calm = true) : CallR X (.builtin "sum") (rSumA X.K) := by
  intro pins s σ H vs us Q I r h
  obtain ⟨a, ns, rfl, hs, q⟩ := h
  rcases hs with hs | hs
  · exact cr_sum hc pins s σ H _ us Q I r ⟨a, ns, rfl, hs, q⟩
  · obtain ⟨its, rv, ht, _⟩ := I.tuple hs
    rw [Vals.ref1 r]
    exact sum_rawT (I.ok.hd hc) (show s.heap.IsTuple a its.toArray from ht) rv.ints fun h' tk t' hk => ⟨.int _, H, I.kept hk, ⟨_, rfl⟩, q⟩
theorem cb_sum (hc : X.calm = true) : CallOk X (.builtin "sum") oSum := ⟨_, cr_sumA hc, fun H vs ss s Q e rr f => by
  obtain ⟨x, l, i, rfl, h1, h2, rfl⟩ := intsOp_eq e
  cases h2
  obtain ⟨v, rfl, h⟩ := rr1 rr
  obtain ⟨a, vs, rfl, rs, sq⟩ := rd_seq h1 h
  rw [RDs.of_ints rs] at sq
  exact ⟨a, l, rfl, sq, f.int⟩⟩
end
end QL
end

section
set_option Elab.async false
set_option linter.all false
set_option maxRecDepth 100000
set_option maxHeartbeats 4000000
namespace QL
open PySem PySem.Spec PyProof.Rows L2

/-! ### extremes -/
def maxL : List Int → Option Int
  | [] => none
  | x :: xs => some (xs.foldl max x)
def minL : List Int → Option Int
  | [] => none
  | x :: xs => some (xs.foldl min x)
theorem foldl_max : ∀ (xs : List Int) (x : Int), (xs.foldl max x = x ∨ xs.foldl max x ∈ xs) ∧ x ≤ xs.foldl max x ∧ ∀ y ∈ xs, y ≤ xs.foldl max x
  | [], x => ⟨.inl rfl, Int.le_refl _, fun _ h => nomatch h⟩
  | z :: xs, x => by
    obtain ⟨h1, h2, h3⟩ := foldl_max xs (max x z)
    rw [List.foldl_cons]
    refine ⟨?_, by omega, fun y hy => ?_⟩
    · rcases h1 with h1 | h1
      · rcases Int.le_total x z with q | q
        · exact .inr (by rw [h1, show max x z = z by omega]; exact List.mem_cons_self)
        · exact .inl (by rw [h1]; omega)
      · exact .inr (List.mem_cons_of_mem _ h1)
    · rcases List.mem_cons.mp hy with e | hy
      · subst e; omega
      · exact h3 y hy
theorem foldl_min : ∀ (xs : List Int) (x : Int), (xs.foldl min x = x ∨ xs.foldl min x ∈ xs) ∧ xs.foldl min x ≤ x ∧ ∀ y ∈ xs, xs.foldl min x ≤ y
  | [], x => ⟨.inl rfl, Int.le_refl _, fun _ h => nomatch h⟩
  | z :: xs, x => by
    obtain ⟨h1, h2, h3⟩ := foldl_min xs (min x z)
    rw [List.foldl_cons]
    refine ⟨?_, by omega, fun y hy => ?_⟩
    · rcases h1 with h1 | h1
      · rcases Int.le_total x z with q | q
        · exact .inl (by rw [h1]; omega)
        · exact .inr (by rw [h1, show min x z = z by omega]; exact List.mem_cons_self)
      · exact .inr (List.mem_cons_of_mem _ h1)
    · rcases List.mem_cons.mp hy with e | hy
      · subst e; omega
      · exact h3 y hy
theorem maxL_spec {l : List Int} {m : Int} (h : maxL l = some m) : m ∈ l ∧ ∀ y ∈ l, y ≤ m := by
  cases l with
  | nil => cases h
  | cons x xs =>
    cases h
    obtain ⟨h1, h2, h3⟩ := foldl_max xs x
    refine ⟨?_, fun y hy => ?_⟩
    · rcases h1 with h1 | h1
      · rw [h1]; exact List.mem_cons_self
      · exact List.mem_cons_of_mem _ h1
    · rcases List.mem_cons.mp hy with e | hy
      · rw [e]; exact h2
      · exact h3 y hy
theorem minL_spec {l : List Int} {m : Int} (h : minL l = some m) : m ∈ l ∧ ∀ y ∈ l, m ≤ y := by
  cases l with
  | nil => cases h
  | cons x xs =>
    cases h
    obtain ⟨h1, h2, h3⟩ := foldl_min xs x
    refine ⟨?_, fun y hy => ?_⟩
    · rcases h1 with h1 | h1
      · rw [h1]; exact List.mem_cons_self
      · exact List.mem_cons_of_mem _ h1
    · rcases List.mem_cons.mp hy with e | hy
      · rw [e]; exact h2
      · exact h3 y hy
theorem maxL_uniq {l : List Int} {m k : Int} (h : maxL l = some m) (h1 : k ∈ l) (h2 : ∀ y ∈ l, y ≤ k) : k = m := by
  obtain ⟨q1, q2⟩ := maxL_spec h
  have := h2 m q1
  have := q2 k h1
  omega
theorem minL_uniq {l : List Int} {m k : Int} (h : minL l = some m) (h1 : k ∈ l) (h2 : ∀ y ∈ l, k ≤ y) : k = m := by
  obtain ⟨q1, q2⟩ := minL_spec h
  have := h2 m q1
  have := q2 k h1
  omega
section
variable {prog : Program} {w : World} {A : Around} {E : Value → Shared → Prop} {s : Shared} {t : Addr} {its : List Value} {ns : List Int}
theorem max_rawT {Q : Value → Shared → Prop} (hh : A.handled = none) (ht : s.heap.IsTuple t its.toArray) (hi : IntsAre its ns) (hne : 0 < ns.length)
    (h : ∀ h' tk m t', (∀ b o, s.heap.get? b = some o → h'.get? b = some o) → m ∈ ns → (∀ a, a ∈ ns → a ≤ m) → Q (.int m t') { s with heap := h', toks := tk }) : wpAny (model prog w) A (call (.builtin "max") [.ref t]) Q E s := by
  have hlen : its.length = ns.length := by have := (vals_of_ints hi).length; simpa using this.symm
  refine call_max_walk (iterTup ht fun s2 e st hfp hne' => ?_)
  subst e
  refine ⟨_, _, _, _, _, _, _, rfl, Walks.tuple (A := A.in1) hh _ t hne' its.toArray, st, hfp, by rw [List.size_toArray, hlen]; exact hne, CmpOf.ints_gt (fun i => ns.getD i 0) (fun _ _ hv => nums_at hi hv), fun v h' tk hP hk => ?_⟩
  obtain ⟨t', rfl⟩ := nums_at hi hP
  obtain ⟨h1, h2⟩ := argBest_gt (fun i => ns.getD i 0) (its.toArray.size - 1)
  rw [List.size_toArray, hlen] at h1 h2 ⊢
  refine h h' tk _ t' (keptT hk) (PySem.getD_mem (by omega)) fun a ha => ?_
  obtain ⟨j, hj, rfl⟩ := mem_getD ha
  exact h2 j (by omega)
theorem min_rawT {Q : Value → Shared → Prop} (hh : A.handled = none) (ht : s.heap.IsTuple t its.toArray) (hi : IntsAre its ns) (hne : 0 < ns.length)
    (h : ∀ h' tk m t', (∀ b o, s.heap.get? b = some o → h'.get? b = some o) → m ∈ ns → (∀ a, a ∈ ns → m ≤ a) → Q (.int m t') { s with heap := h', toks := tk }) : wpAny (model prog w) A (call (.builtin "min") [.ref t]) Q E s := by
  have hlen : its.length = ns.length := by have := (vals_of_ints hi).length; simpa using this.symm
  refine call_min_walk (iterTup ht fun s2 e st hfp hne' => ?_)
  subst e
  refine ⟨_, _, _, _, _, _, _, rfl, Walks.tuple (A := A.in1) hh _ t hne' its.toArray, st, hfp, by rw [List.size_toArray, hlen]; exact hne, CmpOf.ints_lt (fun i => ns.getD i 0) (fun _ _ hv => nums_at hi hv), fun v h' tk hP hk => ?_⟩
  obtain ⟨t', rfl⟩ := nums_at hi hP
  obtain ⟨h1, h2⟩ := argBest_lt (fun i => ns.getD i 0) (its.toArray.size - 1)
  rw [List.size_toArray, hlen] at h1 h2 ⊢
  refine h h' tk _ t' (keptT hk) (PySem.getD_mem (by omega)) fun a ha => ?_
  obtain ⟨j, hj, rfl⟩ := mem_getD ha
  exact h2 j (by omega)
end
section
variable {X : Cx}
/-- of one list or tuple, or of two ints -/
def oMax : List S → Option S
  | [.d (.int i), .d (.int j)] => some (.d (.int (if j > i then j else i)))
  | ss => intsOp maxL ss
def oMin : List S → Option S
  | [.d (.int i), .d (.int j)] => some (.d (.int (if j < i then j else i)))
  | ss => intsOp minL ss
@[simp] theorem oMax_2 {i j : Int} : oMax [.d (.int i), .d (.int j)] = some (.d (.int (if j > i then j else i))) := rfl
@[simp] theorem oMin_2 {i j : Int} : oMin [.d (.int i), .d (.int j)] = some (.d (.int (if j < i then j else i))) := rfl
@[simp] theorem oMax_1 {s : S} : oMax [s] = intsOp maxL [s] := by
  cases s with
  | d x => cases x <;> rfl
  | m x => rfl
  | lk x => rfl
@[simp] theorem oMin_1 {s : S} : oMin [s] = intsOp minL [s] := by
  cases s with
  | d x => cases x <;> rfl
  | m x => rfl
  | lk x => rfl
def rMaxA (K : PySem.W.Frag) : List V → Hp → VK → Prop := fun vs H Q => (∃ i j, vs = [.int i, .int j] ∧ Q (.int (if j > i then j else i)) H) ∨
  ∃ (a : Addr) (ns : List Int) (m : Int), vs = [V.ref a] ∧ (SqL K H a (ns.map V.int) ∨ SqT K H a (ns.map V.int)) ∧ maxL ns = some m ∧ Q (.int m) H
def rMinA (K : PySem.W.Frag) : List V → Hp → VK → Prop := fun vs H Q => (∃ i j, vs = [.int i, .int j] ∧ Q (.int (if j < i then j else i)) H) ∨
  ∃ (a : Addr) (ns : List Int) (m : Int), vs = [V.ref a] ∧ (SqL K H a (ns.map V.int) ∨ SqT K H a (ns.map V.int)) ∧ minL ns = some m ∧ Q (.int m) H
theorem maxL_pos {ns : List Int} {m : Int} (h : maxL ns = some m) : 0 < ns.length := by cases ns with
  | nil => cases h
  | cons _ _ => exact Nat.succ_pos _
theorem minL_pos {ns : List Int} {m : Int} (h : minL ns = some m) : 0 < ns.length := by cases ns with
  | nil => cases h
  | cons _ _ => exact Nat.succ_pos _
theorem cr_maxA (hc : X.calm = true) : CallR X (.builtin "max") (rMaxA X.K) := by
  intro pins s σ H vs us Q I r h
  rcases h with h | ⟨a, ns, m, rfl, hs, hm, q⟩
  · exact call_max2 hc pins s σ H vs us Q I r h
  · rcases hs with hs | hs
    · exact cr_max hc pins s σ H _ us Q I r ⟨a, ns, rfl, hs, maxL_pos hm, fun k h1 h2 => by rw [maxL_uniq hm h1 h2]; exact q⟩
    · obtain ⟨its, rv, ht, _⟩ := I.tuple hs
      rw [Vals.ref1 r]
      exact max_rawT (I.ok.hd hc) (show s.heap.IsTuple a its.toArray from ht) rv.ints (maxL_pos hm) fun h' tk k t' hk h1 h2 => ⟨.int k, H, I.kept hk, ⟨_, rfl⟩, by rw [maxL_uniq hm h1 h2]; exact q⟩
theorem cr_minA (hc : X.calm = true) : CallR X (.builtin "min") (rMinA X.K) := by
  intro pins s σ H vs us Q I r h
  rcases h with h | ⟨a, ns, m, rfl, hs, hm, q⟩
  · exact call_min2 hc pins s σ H vs us Q I r h
  · rcases hs with hs | hs
    · exact cr_min hc pins s σ H _ us Q I r ⟨a, ns, rfl, hs, minL_pos hm, fun k h1 h2 => by rw [minL_uniq hm h1 h2]; exact q⟩
    · obtain ⟨its, rv, ht, _⟩ := I.tuple hs
      rw [Vals.ref1 r]
      exact min_rawT (I.ok.hd hc) (show s.heap.IsTuple a its.toArray from ht) rv.ints (minL_pos hm) fun h' tk k t' hk h1 h2 => ⟨.int k, H, I.kept hk, ⟨_, rfl⟩, by rw [minL_uniq hm h1 h2]; exact q⟩
theorem cb_max (hc : X.calm = true) : CallOk X (.builtin "max") oMax := ⟨_, cr_maxA hc, fun H vs ss s Q e rr f => by
  unfold oMax at e
  split at e
  · cases e
    obtain ⟨v, v', rfl, h1, h2⟩ := rr2 rr
    exact .inl ⟨_, _, by rw [rd_int h1, rd_int h2], f.int⟩
  · obtain ⟨x, l, i, rfl, h1, h2, rfl⟩ := intsOp_eq e
    obtain ⟨v, rfl, h⟩ := rr1 rr
    obtain ⟨a, vs, rfl, rs, sq⟩ := rd_seq h1 h
    rw [RDs.of_ints rs] at sq
    exact .inr ⟨a, l, i, rfl, sq, h2, f.int⟩⟩
theorem cb_min (hc : X.calm = true) : CallOk X (.builtin "min") oMin := ⟨_, cr_minA hc, fun H vs ss s Q e rr f => by
  unfold oMin at e
  split at e
  · cases e
    obtain ⟨v, v', rfl, h1, h2⟩ := rr2 rr
    exact .inl ⟨_, _, by rw [rd_int h1, rd_int h2], f.int⟩
  · obtain ⟨x, l, i, rfl, h1, h2, rfl⟩ := intsOp_eq e
    obtain ⟨v, rfl, h⟩ := rr1 rr
    obtain ⟨a, vs, rfl, rs, sq⟩ := rd_seq h1 h
    rw [RDs.of_ints rs] at sq
    exact .inr ⟨a, l, i, rfl, sq, h2, f.int⟩⟩

/-! ### all, any of lists of bools -/
def blsOf : List D → Option (List Bool)
  | [] => some []
  | .bl b :: ds => (blsOf ds).map (b :: ·)
  | _ :: _ => none
@[simp] theorem blsOf_nil : blsOf [] = some [] := rfl
@[simp] theorem blsOf_cons {i : Bool} {ds : List D} : blsOf (.bl i :: ds) = (blsOf ds).map (i :: ·) := rfl
@[simp] theorem blsOf_map {l : List Bool} : blsOf (l.map D.bl) = some l := by
  induction l with
  | nil => rfl
  | cons a l ih => rw [List.map_cons, blsOf_cons, ih]; rfl
theorem blsOf_rds {K : PySem.W.Frag} {H : Hp} : ∀ {ds : List D} {l : List Bool} {vs : List V}, blsOf ds = some l → RDs K H ds vs → vs = l.map V.bl
  | [], l, _, h, .nil => by cases h; rfl
  | .bl i :: ds, l, _, h, .cons r t => by
    rw [blsOf_cons] at h
    cases q : blsOf ds with
    | none => rw [q] at h; cases h
    | some l =>
      rw [q] at h
      cases h
      cases r
      rw [blsOf_rds q t]
      rfl
  | .non :: _, _, _, h, _ => by cases h
  | .int _ :: _, _, _, h, _ => by cases h
  | .str _ :: _, _, _, h, _ => by cases h
  | .tup _ :: _, _, _, h, _ => by cases h
def blsOp (g : List Bool → Bool) : List S → Option S
  | [.m (.lst ds)] => (blsOf ds).map fun l => .d (.bl (g l))
  | _ => none
@[simp] theorem blsOp_lst {g : List Bool → Bool} {ds : List D} : blsOp g [.m (.lst ds)] = (blsOf ds).map fun l => .d (.bl (g l)) := rfl
def oAll : List S → Option S := blsOp fun l => l.all id
def oAny : List S → Option S := blsOp fun l => l.any id
theorem blsOp_ok {g : List Bool → Bool} {K : PySem.W.Frag} : OpN K (fun vs H Q => ∃ (a : Addr) (bs : List Bool), vs = [V.ref a] ∧ SqL K H a (bs.map V.bl) ∧ Q (.bl (g bs)) H) (blsOp g) := fun H vs ss s Q e rr f => by
  unfold blsOp at e
  split at e
  · rename_i ds
    cases q : blsOf ds with
    | none => rw [q] at e; cases e
    | some l =>
      rw [q] at e
      cases e
      obtain ⟨v, rfl, h⟩ := rr1 rr
      obtain ⟨a, vs, rfl, hl, rs⟩ := rd_lst h
      rw [blsOf_rds q rs] at hl
      exact ⟨a, l, rfl, SqL.of hl, f.bl⟩
  · cases e
theorem cb_all (hc : X.calm = true) : CallOk X (.builtin "all") oAll := ⟨_, cr_all hc, blsOp_ok⟩
theorem cb_any (hc : X.calm = true) : CallOk X (.builtin "any") oAny := ⟨_, cr_any hc, blsOp_ok⟩

/-! ### in a list or tuple of flat things -/
def flV : D → Option V
  | .non => some .non
  | .bl b => some (.bl b)
  | .int i => some (.int i)
  | .str z => some (.str z)
  | .tup _ => none
@[simp] theorem flV_int {i : Int} : flV (.int i) = some (.int i) := rfl
@[simp] theorem flV_str {i : Str} : flV (.str i) = some (.str i) := rfl
@[simp] theorem flV_non : flV .non = some .non := rfl
@[simp] theorem flV_bl {b : Bool} : flV (.bl b) = some (.bl b) := rfl
theorem flV_rd {K : PySem.W.Frag} {H : Hp} {x : D} {v u : V} (h : flV x = some u) (r : RD K H x v) : v = u ∧ L2.flatV v = true := by
  cases r <;> cases h <;> exact ⟨rfl, rfl⟩
def flVs : List D → Option (List V)
  | [] => some []
  | x :: xs => match flV x, flVs xs with
    | some v, some vs => some (v :: vs)
    | _, _ => none
theorem flVs_rd {K : PySem.W.Frag} {H : Hp} : ∀ {ds : List D} {us vs : List V}, flVs ds = some us → RDs K H ds vs → vs = us ∧ vs.all L2.flatV = true
  | [], us, _, h, .nil => by cases h; exact ⟨rfl, rfl⟩
  | x :: ds, us, _, h, .cons r t => by
    unfold flVs at h
    split at h
    · rename_i h1 h2
      cases h
      obtain ⟨e1, f1⟩ := flV_rd h1 r
      obtain ⟨e2, f2⟩ := flVs_rd h2 t
      subst e1 e2
      exact ⟨rfl, by rw [List.all_cons, f1, f2]; rfl⟩
    · cases h
def inK (neg : Bool) (v : Option V) (vs : Option (List V)) : Option S := match v, vs with
  | some v, some vs => some (.d (.bl (if neg then !L2.inV v vs else L2.inV v vs)))
  | _, _ => none
@[simp] theorem inK_some {neg : Bool} {v : V} {vs : List V} : inK neg (some v) (some vs) = some (.d (.bl (if neg then !L2.inV v vs else L2.inV v vs))) := rfl
def oInB (neg : Bool) (x y : S) : Option S := match x with
  | .d x => inK neg (flV x) ((seqOf y).bind flVs)
  | _ => none
def oIn : S → S → Option S := oInB false
def oNin : S → S → Option S := oInB true
theorem op2_in {neg : Bool} {K : PySem.W.Frag} : Op2 K (rIn K neg) (oInB neg) := by
  intro H x y sx sy s Q e hx hy f
  unfold oInB at e
  split at e
  · rename_i x0
    unfold inK at e
    split at e
    · rename_i u us h1 h2
      cases e
      cases q : seqOf sy with
      | none => rw [q] at h2; cases h2
      | some ds =>
        rw [q] at h2
        have h2 : flVs ds = some us := h2
        obtain ⟨a, vs, rfl, rs, sq⟩ := rd_seq q hy
        obtain ⟨P, rx⟩ := hx
        obtain ⟨e1, f1⟩ := flV_rd h1 rx
        obtain ⟨e2, f2⟩ := flVs_rd h2 rs
        subst e1 e2
        exact ⟨a, vs, rfl, sq, f1, f2, f.bl⟩
    · cases e
  · cases e
theorem qc_in : CmpOk X .In oIn := ⟨_, op_in_seq, op2_in⟩
theorem qc_nin : CmpOk X .NotIn oNin := ⟨_, op_notIn_seq, op2_in⟩
end

/-! ### a slot's list is written -/
/-- the list of slot i, at a, holds ys now -/
theorem RE.put {K : PySem.W.Frag} {H : Hp} {σ : Sl} {env : En} {W : Ow} {i : Nat} {xs ys : List D} {a : Addr} {vs ws : List V} (r : RE K H σ env W) (hi : env[i]? = some (some (.m (.lst xs)))) (hσ : σ[i]? = some (some (.ref a))) (hW : W i a) (hH : H a = some (.lst vs)) (rs : RDs K H ys ws) :
    RE K (upd H a (.lst ws)) σ (env.set i (some (.m (.lst ys)))) W := by
  have pU : Pst H (upd H a (.lst ws)) := fun b zs h => by
    have nb : b ≠ a := fun z => by
      subst z
      rcases h with h | ⟨o, h⟩ <;> (rw [hH] at h; cases h)
    unfold Rd
    rw [upd_ne nb]
    exact h
  have t : Tr (fun (k : Nat) b => k = i ∧ W i b) H (fun (k : Nat) b => k = i ∧ W i b) (upd H a (.lst ws)) F0 :=
    ⟨fun b o e hn => by rw [upd_ne fun z => hn ⟨i, rfl, by rw [z]; exact hW⟩]; exact e, fun b e => by
      by_cases hb : b = a
      · subst hb; rw [upd_same]; simp
      · rw [upd_ne hb]; exact e, fun b _ hn => ⟨hn, fun z => z⟩⟩
  refine ⟨fun j s e => ?_, r.apart, fun j b z => ?_, by rw [List.length_set]; exact r.len⟩
  · by_cases hj : j = i
    · subst hj
      have hl : j < env.length := (List.getElem?_eq_some_iff.mp hi).1
      rw [List.getElem?_set_self hl] at e
      cases e
      exact ⟨_, hσ, a, ws, rfl, hW, upd_same, RDs.pst pU rs⟩
    · rw [List.getElem?_set_ne (Ne.symm hj)] at e
      obtain ⟨v, q1, q2⟩ := r.slots j s e
      exact ⟨v, q1, RS.keep (fun _ b z => r.mu i b z.2) t q2 fun b z ⟨k, _, y⟩ => hj (r.apart j i b z y)⟩
  · by_cases hb : b = a
    · subst hb; rw [upd_same]; trivial
    · rw [upd_ne hb]; exact r.mu j b z
theorem Tr.put {H : Hp} {W : Ow} {i : Nat} {a : Addr} {ws : List V} (hW : W i a) : Tr W H W (upd H a (.lst ws)) F0 :=
  ⟨fun b o e hn => by rw [upd_ne fun z => hn ⟨i, by rw [z]; exact hW⟩]; exact e, fun b e => by
      by_cases hb : b = a
      · subst hb; rw [upd_same]; simp
      · rw [upd_ne hb]; exact e, fun b _ hn => ⟨hn, fun z => z⟩⟩
/-- what a method makes of a list's items: its result, the items behind it -/
abbrev MtO := List D → List S → Option (D × List D)
def mtK2 (i : Nat) (z : Option (D × List D)) (e : En) : Option (Arg × En) := match z with
  | some p => some (.val (.d p.1), e.set i (some (.m (.lst p.2))))
  | none => none
@[simp] theorem mtK2_some {i : Nat} {x : D} {ys : List D} {e : En} : mtK2 i (some (x, ys)) e = some (.val (.d x), e.set i (some (.m (.lst ys)))) := rfl
def mtK (i : Nat) (o : MtO) (x : Option (Option S)) (ss : Option (List S)) (e : En) : Option (Arg × En) := match x, ss with
  | some (some (.m (.lst xs))), some ss => mtK2 i (o xs ss) e
  | _, _ => none
@[simp] theorem mtK_lst {i : Nat} {o : MtO} {xs : List D} {ss : List S} {e : En} : mtK i o (some (some (.m (.lst xs)))) (some ss) e = mtK2 i (o xs ss) e := rfl
def fMt1 (i : Nat) (o : MtO) (as : List Arg) (e : En) : Option (Arg × En) := mtK i o e[i]? (gets as e) e
def mtG (i : Nat) (o : MtO) (fs : Fn1 (List Arg)) (x : Option (Option S)) (e : En) : Option (Arg × En) := match x with
  | some (some (.m (.lst _))) => bnd (fs e) (fMt1 i o)
  | _ => none
@[simp] theorem mtG_lst {i : Nat} {o : MtO} {fs : Fn1 (List Arg)} {xs : List D} {e : En} : mtG i o fs (some (some (.m (.lst xs)))) e = bnd (fs e) (fMt1 i o) := rfl
def fMt (i : Nat) (o : MtO) (fs : Fn1 (List Arg)) : Fn1 Arg := fun e => mtG i o fs e[i]? e
/-- the method's rule: from the list at a with the values vs -/
structure MtOk (X : Cx) (id : String) (o : MtO) : Prop where
  ex : ∃ r, L2.MtR X id r ∧ ∀ H a vs us xs ss x ys Q, o xs ss = some (x, ys) → H a = some (.lst vs) → RDs X.K H xs vs → RR X.K H ss us → (∀ v ws, RD X.K (upd H a (.lst ws)) x v → RDs X.K H ys ws → Q v (upd H a (.lst ws))) → r (.ref a) us H Q
section
variable {X : Cx} {e : Expr} {es : List Expr} {fs : Fn1 (List Arg)} {o : MtO} {name : Str} {id : String}
theorem mt_read {K : PySem.W.Frag} {i : Nat} {r : V → List V → Hp → VK → Prop} {σ : Sl} {H : Hp} {Q : VK}
    (hr : ∀ H a vs us xs ss x ys Q, o xs ss = some (x, ys) → H a = some (.lst vs) → RDs K H xs vs → RR K H ss us → (∀ v ws, RD K (upd H a (.lst ws)) x v → RDs K H ys ws → Q v (upd H a (.lst ws))) → r (.ref a) us H Q)
    (h : tE K (fMt i o fs) σ H Q) : tVar i σ H fun x H1 => tyV K "list" x H1 ∧ tA K fs σ H1 fun xs H2 => r x xs H2 Q := by
  obtain ⟨env, W, z, env3, re, e, k⟩ := h
  unfold fMt mtG at e
  split at e
  · rename_i xs0 hx0
    obtain ⟨as, env2, ea, e⟩ := bnd_eq e
    obtain ⟨v, s1, a, vs0, rfl, pa, hH0, _⟩ := re.slots i _ hx0
    refine ⟨.ref a, s1, .inl ⟨rfl, vs0, SqL.of hH0⟩, env, W, as, env2, re, ea, fun us H2 W2 Fs r2 ras t2 => ?_⟩
    unfold fMt1 mtK at e
    split at e
    · rename_i xs ss hx hss
      unfold mtK2 at e
      split at e
      · rename_i p hp
        cases e
        obtain ⟨v', q1, a', vs, rfl, pa', hH, rs⟩ := r2.slots i _ hx
        rw [s1] at q1
        cases q1
        refine hr H2 a vs us xs ss p.1 p.2 Q hp hH rs (ras.read r2 hss) fun v ws rv rws => ?_
        have re3 := r2.put hx s1 pa' hH rws
        exact k v _ W2 F0 re3 rv Tm.zero ((t2.trans0 (Tr.put pa')).less fun _ z => z)
      · cases e
    · cases e
  · cases e
variable {i : Nat} {x : Str} {apos cpos p : Pos}
theorem qx_mt (c : MtOk X id o) (pa : PlainAttrs "list") (slot : Slot "list" name id) (hty : typeOf (.builtin id) = pure (.type "method_descriptor")) (ha : PXA X (e :: es) fs) (hN : X.N[i]? = some x := by rfl) (hv : Vis X.env.scope x := by first | exact Or.inl rfl | exact Or.inr (Or.inl rfl) | exact Or.inr (Or.inr rfl))
    (hd : (x == ("__debug__" : Str)) = false := by decide) (hcd : (x == ("__classdict__" : Str)) = false := by decide)
    (hbase : attributeBase (.Name x p) name X.env (eval (.Name x p) X.env) = eval (.Name x p) X.env := by rfl)
    (hfew : ((backTo cpos (starEach (e :: es) X.env)).all (fun x => !x.1) && (backToKw cpos (keywordEach [] X.env)).all (fun x => x.1.isSome)
      && decide ((e :: es).length + ([] : List Keyword).length + (if ([] : List Keyword).isEmpty then 0 else 1) < 30)) = true := by rfl)
    (hline : (apos.endLine == cpos.line) = true := by rfl) (hs : starEach (e :: es) X.env = (false, eval e X.env) :: starEach es X.env := by rfl) (hplain : (backTo cpos (starEach es X.env)).any (·.1) = false := by rfl) :
    PX X (.Call (.Attribute (.Name x p) name apos) (e :: es) [] cpos) (fMt i o fs) :=
  let ⟨_, h1, h2⟩ := c.ex
  PE.imp (pe_bm pa slot hty h1 (pe_var hN hv hd hcd) ha hbase hfew hline hs hplain) fun σ H Q h => mt_read h2 h
theorem qx_mt0 (c : MtOk X id o) (pa : PlainAttrs "list") (slot : Slot "list" name id) (hty : typeOf (.builtin id) = pure (.type "method_descriptor")) (hN : X.N[i]? = some x := by rfl) (hv : Vis X.env.scope x := by first | exact Or.inl rfl | exact Or.inr (Or.inl rfl) | exact Or.inr (Or.inr rfl))
    (hd : (x == ("__debug__" : Str)) = false := by decide) (hcd : (x == ("__classdict__" : Str)) = false := by decide)
    (hbase : attributeBase (.Name x p) name X.env (eval (.Name x p) X.env) = eval (.Name x p) X.env := by rfl) (hline : (apos.endLine == cpos.line) = true := by rfl) :
    PX X (.Call (.Attribute (.Name x p) name apos) [] [] cpos) (fMt i o fNil) :=
  let ⟨_, h1, h2⟩ := c.ex
  PE.imp (pe_bm0 pa slot hty h1 (pe_var hN hv hd hcd) hbase hline) fun σ H Q h => by
    obtain ⟨v, q1, q2, env, W, as, env', re, e, k⟩ := mt_read h2 h
    cases e
    exact ⟨v, q1, q2, k [] H W [] re .nil (Tr.refl.less fun b z => z)⟩
def oAppend : MtO := fun xs ss => match ss with
  | [.d y] => if xs.length < sizeLine then some (.non, xs ++ [y]) else none
  | _ => none
@[simp] theorem oAppend_d {xs : List D} {y : D} : oAppend xs [.d y] = if xs.length < sizeLine then some (.non, xs ++ [y]) else none := rfl
theorem cm_append : MtOk X "list.append" oAppend := ⟨_, mt_append, fun H a vs us xs ss x ys Q e hH rs rr k => by
  unfold oAppend at e
  split at e
  · split at e
    · rename_i hz
      cases e
      obtain ⟨v, rfl, P, h⟩ := rr1 rr
      exact ⟨a, vs, v, rfl, rfl, hH, by rw [← rs.length]; exact hz, k _ _ .non (rs.append (.cons h .nil))⟩
    · cases e
  · cases e⟩
end
end QL
end

section
set_option Elab.async false
set_option linter.all false
set_option maxRecDepth 100000
set_option maxHeartbeats 4000000
namespace QL
open PySem PySem.Spec PyProof.Rows L2

/-! ### enumerate of a tuple -/
section
open AutoSeq1 (wpAny_loadPart')
theorem meets_enumB {v : Value} {o1 : Obj} {G1 : Heap → Prop} (B : Begins v o1 G1) :
    Meets (Builtin.«enumerate.__new__» ⟨[.type "enumerate", v], []⟩) (fun _ R s => G1 s.heap ∧
      R (.ok (.ret (.ref (s.heap.push o1).objs.size))) { s with heap := (s.heap.push o1).push { cls := .type "enumerate", data := .fields #[.none, .bool false, .ref s.heap.objs.size, rawInt 0, .none, .none] } }) :=
  .of_wp fun prog w A R s h => by
    obtain ⟨hp, g, d, tk, os⟩ := s
    obtain ⟨h1, h⟩ := h
    have hsub := sub_enumerate
    have q1 : ∀ {A' : Around} {E Q : Value → Shared → Prop}, Q (.ref hp.objs.size) ⟨(hp.push o1), g, d, tk, os⟩ → wpAny (model prog w) A' (pyIter v) Q E ⟨hp, g, d, tk, os⟩ :=
      fun q => B.iter prog w _ _ ⟨hp, g, d, tk, os⟩ _ h1 q
    wp_walk
    refine wpAny_stack_any fun st => wpAny_pure ?_
    split
    · rename_i c _ _ _ _ _
      cases (c == Value.type "enumerate")
      all_goals
        wp_walk using q1
        exact ⟨_, rfl, h⟩
    · wp_walk using q1
      exact ⟨_, rfl, h⟩
end
section
variable {prog : Program} {w : World} {A : Around} {E : Value → Shared → Prop} {s : Shared}
theorem call_enumT {t : Addr} {items : Array Value} {Q : Value → Shared → Prop} (ht : s.heap.IsTuple t items)
    (h : ∀ h', IsEnum h' (s.heap.objs.size + 1) s.heap.objs.size 0 .none → h'.IsTupleIter s.heap.objs.size t 0 → h'.objs.size = s.heap.objs.size + 2 →
      (∀ b o, s.heap.get? b = some o → h'.get? b = some o) → Q (.ref (s.heap.objs.size + 1)) { s with heap := h' }) : wpAny (model prog w) A (call (.type "enumerate") [.ref t]) Q E s := by
  refine callType_new F.called_enumerate (by decide) (F.typeCall_enumerate_1 _) (F.newCall_enumerate_1 _) (fun obj => F.args_object_init_2 obj _) F.entry_enumerate_new
    (meets_enumB (begins_tuple t items)) ⟨ht, ?_⟩
  generalize e1 : ({ cls := .type "tuple_iterator", data := .fields #[.ref t, .int 0 0] } : Obj) = o1
  have f1 : o1.isFreed = false := by rw [← e1]; rfl
  generalize e2 : ({ cls := .type "enumerate", data := .fields #[.none, .bool false, .ref s.heap.objs.size, rawInt 0, .none, .none] } : Obj) = o2
  have hz : (s.heap.push o1).objs.size = s.heap.objs.size + 1 := Heap.size_push ..
  have he : ((s.heap.push o1).push o2).get? (s.heap.objs.size + 1) = some o2 := by
    have := Heap.get?_push_size (s.heap.push o1) (o := o2) (by rw [← e2]; rfl)
    rw [hz] at this
    exact this
  have hi : ((s.heap.push o1).push o2).get? s.heap.objs.size = some o1 := Heap.get?_push_of_some _ (Heap.get?_push_size _ f1)
  show _ ∧ _
  rw [hz]
  rw [← e2] at he
  rw [← e1] at hi
  subst e1 e2
  exact ⟨⟨_, he, rfl⟩, h _ he ⟨_, hi, rfl, rfl⟩ (by rw [Heap.size_push, hz]) fun b o x => Heap.get?_push_of_some _ (Heap.get?_push_of_some _ x)⟩
end
def IteT (K : PySem.W.Frag) (a : Addr) : It :=
  ⟨fun i H => ∃ (xs : List V) (x : V), SqT K H a xs ∧ xs[i]? = some x, fun i H v H' => ∃ T x, v = .ref T ∧ H T = none ∧ H' = upd H T (.tup [.int (i : Nat), x]) ∧ ∀ xs, SqT K H a xs → xs[i]? = some x, fun i H => ∃ xs : List V, SqT K H a xs ∧ xs.length ≤ i⟩
theorem turn_enumT {P : Program} {w : World} {K : PySem.W.Frag} {elts : List Expr} {kk : Nat} {tpos : Pos} (a e it : Addr) :
    Turn P w K (.Tuple elts kk tpos) (IteT K a) [e, it] e (fun i h => (∃ old, IsEnum h e it ((i : Nat) : Int) old) ∧ h.IsTupleIter it a i ∧ e ≠ it ∧ a ≠ it ∧ e ≠ a) where
  mem := by simp
  obj := fun i h st b hb => by
    obtain ⟨⟨old, he⟩, ⟨o, ho, hc, hd⟩, _⟩ := st
    rcases (by simpa using hb : b = e ∨ b = it) with z | z
    · subst z
      exact ⟨_, he, fun v q => nomatch q⟩
    · subst z
      exact ⟨o, ho, fun v q => by rw [hd] at q; cases q⟩
  keep := fun i h h' st k => let ⟨⟨old, he⟩, hi, hne⟩ := st; ⟨⟨old, k e (by simp) _ he⟩, hi.at fun o q => k it (by simp) o q, hne⟩
  item := by
    intro X hP hw hK hc i pins s σ H E I hf st hg
    subst hP hw hK
    obtain ⟨⟨old, he⟩, hit, hne, hai, hea⟩ := st
    obtain ⟨xs, x, hq, hx⟩ := hg
    obtain ⟨its, rv, tp, hz⟩ := I.tuple hq
    obtain ⟨u, hu, ru⟩ := rv.get hx
    have hel : e < s.heap.objs.size := Heap.lt_size he
    have hil : it < s.heap.objs.size := by obtain ⟨_, q, _⟩ := hit; exact Heap.lt_size q
    have tpl : s.heap.IsTuple a its.toArray := tp
    have hlt : i < its.toArray.size := by
      have := (List.getElem?_eq_some_iff.mp hu).1
      simpa using this
    refine wpAny_pyNext_enum_itemD (Draws.tuple (A := X.A.in1) (I.ok.hd hc) it a hai its.toArray) he ⟨hit, tpl⟩ hlt hne (by simp [hne, hea]) fun y h' tk hy ho hst' hT hsz hk => ?_
    have ey : y = u := by
      have hu' : its.toArray[i]? = some u := by simpa using hu
      rw [hu'] at hy
      exact (Option.some.inj hy).symm
    subst ey
    refine ⟨_, rfl, wpAny_letOwnedTupleGo_enum (s := { s with heap := h', toks := tk + 1 }) ho fun h2 he' sb => ?_⟩
    have hT2 : h2.get? s.heap.objs.size = some { cls := .type "tuple", data := .seq #[.int i tk, y] } := (sb.2 _ (Nat.ne_of_gt hel)).trans hT
    have new : ObjOk X.prog X.w (upd H s.heap.objs.size (.tup [.int (i : Nat), x])) h2 s.heap.objs.size (.tup [.int (i : Nat), x]) :=
      ⟨(by show 2 ≤ sizeLine; decide), [.int i tk, y], .cons ⟨_, rfl⟩ (.cons ru .nil), ⟨_, hT2, rfl, _, rfl⟩⟩
    have I1 : Inv X pins σ (upd H s.heap.objs.size (.tup [.int (i : Nat), x])) { s with heap := h2, toks := tk + 1 } :=
      I.turnedNew (ch := [e, it]) (fun b ob hb q => (sb.2 b (fun z => hb (by simp [z]))).trans (hk b ob (fun z => hb (by simp [z])) (fun z => hb (by simp [z])) q)) hf (Nat.le_refl _) new
    refine ⟨.ref s.heap.objs.size, _, I1, rfl, ⟨_, x, rfl, I.hok.fresh (Nat.le_refl _), rfl, fun ys hy => by rw [I.tuple_inj hy hq]; exact hx⟩, ⟨⟨y, ?_⟩, hst'.1.at fun o q => (sb.2 it (Ne.symm hne)).trans q, hne, hai, hea⟩, fun b hb => ?_⟩
    · rw [show ((i + 1 : Nat) : Int) = (i : Int) + 1 by omega]
      exact he'
    · have hb' : b < s.heap.objs.size := by
        rcases (by simpa using hb : b = e ∨ b = it) with z | z
        · rw [z]; exact hel
        · rw [z]; exact hil
      rw [upd_ne (Nat.ne_of_lt hb')]
      exact (hf b hb).1
  done := by
    intro X hP hw hK hc i pins s σ H E I hf st hg
    subst hP hw hK
    obtain ⟨⟨old, he⟩, hit, hne, hai, hea⟩ := st
    obtain ⟨xs, hq, hx⟩ := hg
    obtain ⟨its, rv, tp, hz⟩ := I.tuple hq
    obtain ⟨f0, f1, f2, f3, f4, f5⟩ := hf it (by simp)
    have hl := rv.length
    have tpl : s.heap.IsTuple a its.toArray := tp
    exact wpAny_pyNext_enum_endD (St := fun j h => (j = its.toArray.size ∧ h.IsTupleIter it a i ∧ h.IsTuple a its.toArray)) (n := its.toArray.size) (P := fun _ _ => True) (fp := [it, a])
      { live := fun _ _ st => let ⟨o, ho, _⟩ := st.2.1; ⟨o, ho⟩
        frame := fun _ _ _ st hk => ⟨st.1, st.2.1.at fun o e => hk it (by simp) o e, st.2.2.at fun o e => hk a (by simp) o e⟩
        item := fun j s Q E hi st _ => absurd hi (by rw [st.1]; exact Nat.lt_irrefl _)
        done := fun s Q E st hE => wpAny_nextOf_tuple_end (I.ok.hd hc) st.2.1 st.2.2 (by simp; omega) hE } he ⟨rfl, hit, tpl⟩ fun h' eb => ⟨rfl, I.turned (t' := s.toks) (fun b o hb q => eb b o hb q) f0 f1 f3 f4 f5⟩
  self := fun A i s Q E st h => let ⟨⟨_, he⟩, _⟩ := st; wpAny_pyIter_enum he h
def iEnumA (K : PySem.W.Frag) (ta : TA) : TI := fun σ H R => ta σ H fun vs H1 => ∃ a, vs = [.ref a] ∧ (((∃ xs, SqL K H1 a xs) ∧ R (Ite K a) H1) ∨ ((∃ xs, SqT K H1 a xs) ∧ R (IteT K a) H1))
section
variable {X : Cx} {e : Expr} {ta : TA} {p pos tpos : Pos} {elts : List Expr} {kk : Nat}
theorem pi_enumA (hg : Gl X "enumerate") (hm : X.mg "enumerate" = none) (ha : PA X [e] ta) (hs : starEach [e] X.env = [(false, eval e X.env)] := by rfl) :
    PI X (.Tuple elts kk tpos) (.Call (.Name "enumerate" p) [e] [] pos) (iEnumA X.K ta) := by
  refine ⟨fun pins s σ H R I h' => ?_⟩
  refine Call_ (ld_blt I hg hm boot_enumerate (PyProof.Rows.callWith_type1 (thn (ha.run pos pins s σ H _ I h') fun us s1 ⟨vs, H1, I1, r1, q1⟩ => ?_) hs rfl))
  obtain ⟨a, ex, q1⟩ := q1
  subst ex
  rw [Vals.ref1 r1]
  rcases q1 with ⟨⟨xs, hq⟩, q⟩ | ⟨⟨xs, hq⟩, q⟩
  · obtain ⟨its, rv, p', hz⟩ := I1.list hq
    refine call_enumerate_list p'.isList fun h' he hit hsz hk => wpAny_pyIter_enum he ?_
    refine ⟨s1.heap.objs.size + 1, [s1.heap.objs.size + 1, s1.heap.objs.size], _, _, H1, rfl, I1.kept (t' := s1.toks) hk, turn_enum a (s1.heap.objs.size + 1) s1.heap.objs.size, ⟨⟨.none, he⟩, hit, Nat.succ_ne_self _⟩, fun b hb => ?_, q⟩
    have hle : s1.heap.objs.size ≤ b := by
      rcases (by simpa using hb : b = s1.heap.objs.size + 1 ∨ b = s1.heap.objs.size) with z | z
      · rw [z]; exact Nat.le_succ _
      · rw [z]; exact Nat.le_refl _
    exact I1.fpOk hle (I1.hok.fresh hle)
  · obtain ⟨its, rv, tp, hz⟩ := I1.tuple hq
    have hal : a < s1.heap.objs.size := by obtain ⟨o, e, _⟩ := tp; exact Heap.lt_size e
    refine call_enumT (show s1.heap.IsTuple a its.toArray from tp) fun h' he hit hsz hk => wpAny_pyIter_enum he ?_
    refine ⟨s1.heap.objs.size + 1, [s1.heap.objs.size + 1, s1.heap.objs.size], _, _, H1, rfl, I1.kept (t' := s1.toks) hk, turn_enumT a (s1.heap.objs.size + 1) s1.heap.objs.size, ⟨⟨.none, he⟩, hit, Nat.succ_ne_self _, Nat.ne_of_lt hal, Nat.ne_of_gt (Nat.lt_succ_of_lt hal)⟩, fun b hb => ?_, q⟩
    have hle : s1.heap.objs.size ≤ b := by
      rcases (by simpa using hb : b = s1.heap.objs.size + 1 ∨ b = s1.heap.objs.size) with z | z
      · rw [z]; exact Nat.le_succ _
      · rw [z]; exact Nat.le_refl _
    exact I1.fpOk hle (I1.hok.fresh hle)
/-- number and item, in pairs -/
def pairsE : Nat → List D → List D
  | _, [] => []
  | k, x :: xs => .tup [.int k, x] :: pairsE (k + 1) xs
@[simp] theorem pairsE_nil {k : Nat} : pairsE k [] = [] := rfl
theorem pairsE_cons {k : Nat} {x : D} {xs : List D} : pairsE k (x :: xs) = .tup [.int k, x] :: pairsE (k + 1) xs := rfl
theorem pairsE_length : ∀ {k : Nat} {xs : List D}, (pairsE k xs).length = xs.length
  | _, [] => rfl
  | k, x :: xs => by rw [pairsE_cons, List.length_cons, List.length_cons, pairsE_length]
theorem pairsE_at : ∀ {xs : List D} {k i : Nat} {x : D}, xs[i]? = some x → (pairsE k xs)[i]? = some (.tup [.int (k + i : Nat), x])
  | [], _, i, _, h => by simp at h
  | y :: ys, k, 0, x, h => by
    simp at h
    subst h
    rfl
  | y :: ys, k, i + 1, x, h => by
    rw [pairsE_cons, List.getElem?_cons_succ, pairsE_at (k := k + 1) (by simpa using h)]
    rw [show k + 1 + i = k + (i + 1) by omega]
def itEn1 (as : List Arg) (e : En) : Option (List D × En) := match as with
  | [a] => itK ((itemsA a e).map (pairsE 0)) e
  | _ => none
@[simp] theorem itEn1_one {a : Arg} {e : En} : itEn1 [a] e = itK ((itemsA a e).map (pairsE 0)) e := rfl
def itEn (fs : Fn1 (List Arg)) : Fn1 (List D) := fun e => bnd (fs e) itEn1
theorem pair_rd {K : PySem.W.Frag} {H : Hp} {T : Addr} {i : Nat} {v : V} {x : D} (n : H T = none) (r : RD K H x v) : RD K (upd H T (.tup [.int (i : Nat), v])) (.tup [.int (i : Nat), x]) (.ref T) :=
  .tup (SqT.of upd_same) (.cons (.int _) (.cons (RD.pst (Same.pst (same_new n)) r) .nil))
theorem walkD_en {K : PySem.W.Frag} {a : Addr} {vs : List V} {xs : List D} {H0 : Hp} {σ : Sl} {env : En} {W0 : Ow} (r : RE K H0 σ env W0) (h : ∀ H, Gd H0 W0 H → SqL K H a vs) (rs : RDs K H0 xs vs) : WalkD K (Ite K a) (pairsE 0 xs) H0 W0 := by
  refine ⟨_, (by rw [pairsE_length, rs.length]; exact walk_enum.mono h (fun i H x H' _ _ y => y) : Walk (Ite K a) (pairsE 0 xs).length (Gd H0 W0) _), fun i H x H' hi g y => ?_⟩
  obtain ⟨T, x1, x2, rfl, nT, rfl, e1, e2⟩ := y
  cases e1
  obtain ⟨d, h1, h2⟩ := rs.getV e2
  exact ⟨same_new nT, _, pairsE_at h1, by rw [Nat.zero_add]; exact pair_rd nT (RD.pst (Gd.pst r g) h2)⟩
theorem walkD_enT {K : PySem.W.Frag} {a : Addr} {vs : List V} {xs : List D} {H0 : Hp} {σ : Sl} {env : En} {W0 : Ow} (r : RE K H0 σ env W0) (h : SqT K H0 a vs) (rs : RDs K H0 xs vs) : WalkD K (IteT K a) (pairsE 0 xs) H0 W0 := by
  have hl : (pairsE 0 xs).length = vs.length := by rw [pairsE_length, rs.length]
  refine ⟨fun i H v H' => ∃ T x, v = .ref T ∧ H T = none ∧ H' = upd H T (.tup [.int (i : Nat), x]) ∧ vs[i]? = some x, ⟨fun i H hi g => ?_, fun H g => ⟨vs, (Gd.pst r g).seq h, by omega⟩, fun i H x H' hi g y => ?_⟩, fun i H x H' hi g y => ?_⟩
  · have hi' : i < vs.length := by omega
    exact ⟨vs, vs[i], (Gd.pst r g).seq h, List.getElem?_eq_getElem hi'⟩
  · obtain ⟨T, x1, e1, nT, e2, f⟩ := y
    exact ⟨T, x1, e1, nT, e2, f vs ((Gd.pst r g).seq h)⟩
  · obtain ⟨T, x1, rfl, nT, rfl, e2⟩ := y
    obtain ⟨d, h1, h2⟩ := rs.getV e2
    exact ⟨same_new nT, _, pairsE_at h1, by rw [Nat.zero_add]; exact pair_rd nT (RD.pst (Gd.pst r g) h2)⟩
theorem qi_enum {fa : Fn1 Arg} (hg : Gl X "enumerate") (hm : X.mg "enumerate" = none) (ha : PXA X [e] (fCons fa fNil)) (hs : starEach [e] X.env = [(false, eval e X.env)] := by rfl) :
    PXI X (.Tuple elts kk tpos) (.Call (.Name "enumerate" p) [e] [] pos) (itEn (fCons fa fNil)) := PI.imp (pi_enumA hg hm ha hs) fun σ H R h => by
  obtain ⟨env, W, xs, env', re, e, k⟩ := h
  obtain ⟨as, env1, ea, e⟩ := bnd_eq e
  refine ⟨env, W, as, env1, re, ea, fun vs H1 W1 Fs r1 ras t => ?_⟩
  obtain ⟨a, e1, ea1, ea⟩ := bnd_eq ea
  obtain ⟨as', e2, ea2, ea⟩ := bnd_eq ea
  cases ea2
  cases ea
  cases ras with
  | cons ra tm d ras =>
    cases ras
    rw [itEn1_one] at e
    cases q : itemsA a env1 with
    | none => rw [q] at e; cases e
    | some ds =>
      rw [q] at e
      cases e
      obtain ⟨p, ws, ev, rs, q2⟩ := items_read r1 ra tm q
      refine ⟨p, by rw [ev], ?_⟩
      have t0 := t.less (G := F0) fun _ z => z.elim
      rcases q2 with q2 | q2
      · exact .inl ⟨⟨ws, q2 H1 fun _ _ e _ => e⟩, k _ H1 W1 r1 t0 (walkD_en r1 q2 rs)⟩
      · exact .inr ⟨⟨ws, q2⟩, k _ H1 W1 r1 t0 (walkD_enT r1 q2 rs)⟩
end

/-! ### range downwards -/
def dwnL (hi : Int) (n : Nat) : List D := (List.range n).map fun (k : Nat) => D.int (hi + (k : Int) * (-1))
theorem dwnL_at {lo : Int} {n i : Nat} (h : i < n) : (dwnL lo n)[i]? = some (D.int (lo + (i : Int) * (-1))) := by
  unfold dwnL
  rw [List.getElem?_map, List.getElem?_range h]
  rfl
theorem dwnL_length {lo : Int} {n : Nat} : (dwnL lo n).length = n := by unfold dwnL; simp
def dwnK : Option (List S) → Option (List D)
  | some [.d (.int i), .d (.int j), .d (.int c)] => if smallI i = true ∧ smallI j = true ∧ c = -1 then some (dwnL i (i - j).toNat) else none
  | _ => none
@[simp] theorem dwnK_3 {i j c : Int} : dwnK (some [.d (.int i), .d (.int j), .d (.int c)]) = if smallI i = true ∧ smallI j = true ∧ c = -1 then some (dwnL i (i - j).toNat) else none := rfl
def itDwn1 (as : List Arg) (e : En) : Option (List D × En) := itK (dwnK (gets as e)) e
def itDwn (fs : Fn1 (List Arg)) : Fn1 (List D) := fun e => bnd (fs e) itDwn1
theorem walkD_dwn {K : PySem.W.Frag} {lo : Int} {n : Nat} {H0 : Hp} {W0 : Ow} : WalkD K (Itc lo (-1) n) (dwnL lo n) H0 W0 := by
  refine ⟨_, (by rw [dwnL_length]; exact walk_rangeC.mono (fun _ _ => trivial) (fun i H x H' _ _ y => y) : Walk (Itc lo (-1) n) (dwnL lo n).length (Gd H0 W0) (YFn fun i => .int (lo + (i : Nat) * (-1)))), fun i H x H' hi g y => ?_⟩
  obtain ⟨e, hx⟩ := y
  subst e hx
  rw [dwnL_length] at hi
  exact ⟨Same.refl _, _, dwnL_at hi, .int _⟩
/-- three arguments, read -/
theorem rr3 {K : PySem.W.Frag} {H : Hp} {s s' s'' : S} {vs : List V} (h : RR K H [s, s', s''] vs) : ∃ v v' v'', vs = [v, v', v''] ∧ Rd1 K H s v ∧ Rd1 K H s' v' ∧ Rd1 K H s'' v'' := by
  cases h with
  | cons h t => cases t with
    | cons h' t' => cases t' with
      | cons h'' t'' => cases t''; exact ⟨_, _, _, rfl, h, h', h''⟩
section
variable {X : Cx} {tg a b c : Expr} {fs : Fn1 (List Arg)} {p pos : Pos}
theorem qi_dwn (hg : Gl X "range") (hm : X.mg "range" = none) (ha : PXA X [a, b, c] fs)
    (hs : starEach [a, b, c] X.env = (false, eval a X.env) :: starEach [b, c] X.env := by rfl) (hpl : (backTo pos (starEach [b, c] X.env)).any (·.1) = false := by rfl) :
    PXI X tg (.Call (.Name "range" p) [a, b, c] [] pos) (itDwn fs) := PI.imp (pi_range3 hg hm ha hs hpl) fun σ H R h => by
  obtain ⟨env, W, xs, env', re, e, k⟩ := h
  obtain ⟨as, env1, ea, e⟩ := bnd_eq e
  unfold itDwn1 itK at e
  split at e
  · rename_i xs' hx
    cases e
    refine ⟨env, W, as, _, re, ea, fun vs H1 W1 Fs r1 ras t => ?_⟩
    unfold dwnK at hx
    split at hx
    · rename_i i j c heq
      split at hx
      · rename_i hsm
        cases hx
        obtain ⟨s1, s2, s3⟩ := hsm
        have h1 : -(2 ^ 62) ≤ i ∧ i < 2 ^ 62 := of_decide_eq_true s1
        have h2 : -(2 ^ 62) ≤ j ∧ j < 2 ^ 62 := of_decide_eq_true s2
        obtain ⟨v, v', v'', rfl, q1, q2, q3⟩ := rr3 (ras.read r1 heq)
        subst s3
        exact ⟨i, j, -1, (i - j).toNat, by rw [rd_int q1, rd_int q2, rd_int q3], RgC.neg h1.1 h1.2 h2.1 h2.2, k _ H1 W1 r1 (t.less fun _ z => z.elim) walkD_dwn⟩
      · cases hx
    · cases hx
  · cases e
end
end QL
end

section
set_option Elab.async false
set_option linter.all false
set_option maxRecDepth 100000
set_option maxHeartbeats 4000000
namespace QL
open PySem PySem.Spec PyProof.Rows L2

/-! ### reversed -/
section
variable {prog : Program} {w : World} {A : Around} {E : Value → Shared → Prop} {s : Shared}
theorem adjust_down (n : Nat) : Builtin.Slice.sliceAdjust none none (-1) (n : Int) = ((n : Int) - 1, -1) := rfl
theorem places_down (n : Nat) : Builtin.Slice.slicePlaces ((n : Int) - 1) (-1) (-1) = n := by
  unfold Builtin.Slice.slicePlaces
  rw [if_neg (by decide)]
  by_cases h : n = 0
  · subst h; rfl
  · rw [if_pos (by omega)]
    have e : (((n : Int) - 1) - -1 - 1) / (- -1) = (n : Int) - 1 := by
      rw [show (- -1 : Int) = 1 by decide, Int.ediv_one]
      omega
    rw [e]
    omega
theorem filterMap_some {α β : Type} (f : α → Option β) (g : α → β) : ∀ l : List α, (∀ k ∈ l, f k = some (g k)) → l.filterMap f = l.map g
  | [], _ => rfl
  | a :: l, h => by
    rw [List.filterMap_cons, h a List.mem_cons_self, List.map_cons, filterMap_some f g l fun k hk => h k (List.mem_cons_of_mem _ hk)]
theorem pick_down (xs : Array Value) : ((List.range xs.size).filterMap fun (k : Nat) => xs[(((xs.size : Int) - 1) + (k : Int) * (-1)).toNat]?).toArray = xs.toList.reverse.toArray := by
  congr 1
  rw [filterMap_some _ (fun k => xs.toList.reverse.getD k .none) _ fun k hk => ?_]
  · refine List.ext_getElem? fun i => ?_
    rw [List.getElem?_map]
    by_cases h : i < xs.size
    · rw [List.getElem?_range h]
      have : i < xs.toList.reverse.length := by simpa using h
      rw [List.getElem?_eq_getElem this]
      simp [List.getD_eq_getElem?_getD, List.getElem?_eq_getElem this]
    · rw [List.getElem?_eq_none (by simpa using h), List.getElem?_eq_none (by simpa using h)]
      rfl
  · have hk : k < xs.size := List.mem_range.mp hk
    have e1 : (((xs.size : Int) - 1) + (k : Int) * (-1)).toNat = xs.size - 1 - k := by omega
    rw [e1, List.getD_eq_getElem?_getD, List.getElem?_reverse (by simpa using hk)]
    have h2 : xs.size - 1 - k < xs.size := by omega
    rw [Array.getElem?_eq_getElem h2]
    simp [h2]
theorem applied_down {sl : Addr} {vl vu vs : Value} {n : Nat} {Q : Int × Int × Nat → Shared → Prop} (hs : s.heap.IsSliceOf sl vl vu vs) (pl : IsPart vl none) (pu : IsPart vu none) (ps : IsPart vs (some (-1)))
    (h : Q ((n : Int) - 1, -1, n) s) : wpAny (model prog w) A (Builtin.Slice.sliceApplied (.ref sl) (pure (n : Int))) Q E s := by
  obtain ⟨os, hos, hcs, hds⟩ := id hs
  unfold Builtin.Slice.sliceApplied Builtin.Slice.sliceFields
  refine wpAny_bind (wpAny_bind (wpAny_field hos hds (x := vl) rfl (wpAny_bind (wpAny_field hos hds (x := vu) rfl (wpAny_bind (wpAny_field hos hds (x := vs) rfl (wpAny_pure ?_)))))))
  refine wpAny_bind (HT.slicePart_ ps ?_)
  show wpAny _ _ (if ((-1 : Int) == 0) = true then _ else _) _ _ s
  rw [if_neg (by decide)]
  refine wpAny_bind (HT.slicePart_ pl (wpAny_bind (HT.slicePart_ pu (wpAny_bind (wpAny_pure ?_)))))
  show wpAny _ _ (match Builtin.Slice.sliceAdjust none none (-1) (n : Int) with | (lo, hi) => pure (lo, (-1 : Int), Builtin.Slice.slicePlaces lo hi (-1))) _ _ s
  rw [adjust_down]
  show wpAny _ _ (pure ((n : Int) - 1, (-1 : Int), Builtin.Slice.slicePlaces ((n : Int) - 1) (-1) (-1))) _ _ s
  rw [places_down]
  exact wpAny_pure h
theorem tuple_down {t sl : Addr} {items : Array Value} {vl vu vs : Value} {Q : Value → Shared → Prop} (ht : IsTup s.heap t items) (hs : s.heap.IsSliceOf sl vl vu vs) (pl : IsPart vl none) (pu : IsPart vu none) (ps : IsPart vs (some (-1)))
    (h : Q (.ref s.heap.objs.size) { s with heap := s.heap.push { cls := .type "tuple", data := .seq items.toList.reverse.toArray } })
    (hsz : items.size ≤ sizeLine) : wpAny (model prog w) A (getItem (.ref t) (.ref sl)) Q E s := by
  have hok : sizeOk (.seq items.toList.reverse.toArray) := by
    show items.toList.reverse.toArray.size ≤ sizeLine
    simpa using hsz
  obtain ⟨os, hos, hcs, hds⟩ := id hs
  have hT : s.TypeIs (.ref sl) "slice" := ⟨os, hos, hcs⟩
  unfold getItem
  try with_reducible refine wpAny_holding ?_
  first | refine wpAny_bind (wpAny_pure ?_) | skip
  refine wpAny_bind (wpAny_sequenceKey ht.typeIs (by decide) ?_)
  refine wpAny_bind (wpAny_callSpecial?_slot (name := Str.ofString "__getitem__") ht.typeIs PyProof.Rows.slot_tuple_getitem
    (wpAny_call_entry PyProof.Rows.slot_tuple_getitem ht.typeIs entry_tuple_getitem ?_ (args_tuple_getitem _ _)))
  show wpAny _ _ (Builtin.Tuple.tupleItemsOf (.ref t) >>= _) _ _ s
  refine wpAny_bind (tupleItemsOf_ ht ?_)
  refine wpAny_bind (wpAny_typeOf hT ?_)
  rw [if_pos (by decide)]
  refine wpAny_bind (applied_down hs pl pu ps ?_)
  have hno : ¬ (((items.size : Int) - 1 == 0 && (-1 : Int) == 1 && items.size == items.size) = true) := by
    intro q
    rw [Bool.and_eq_true, Bool.and_eq_true] at q
    exact absurd q.1.2 (by decide)
  show wpAny _ _ (if ((items.size : Int) - 1 == 0 && (-1 : Int) == 1 && items.size == items.size) = true then _ else _) _ _ s
  rw [if_neg hno, pick_down]
  first
    | exact wpAny_bind (m := Builtin.Tuple.tupleExact _) (wpAny_newObj_type (wpAny_pure ⟨_, rfl, wpAny_pure h⟩) hok)
    | exact wpAny_bind (m := Builtin.Tuple.tupleExact _) (wpAny_newObj_type (wpAny_bind (wpAny_pure (wpAny_pure ⟨_, rfl, wpAny_pure h⟩))) hok)
    | exact wpAny_bind (wpAny_bind (m := Builtin.Tuple.tupleExact _) (wpAny_newObj_type (wpAny_pure (wpAny_pure ⟨_, rfl, wpAny_pure h⟩)) hok))
    | exact wpAny_bind (wpAny_bind (m := Builtin.Tuple.tupleExact _) (wpAny_newObj_type (wpAny_pure ⟨_, rfl, wpAny_pure h⟩) hok))
end
def rRev (K : PySem.W.Frag) : V → Hp → VK → Prop := fun x H Q => ∃ a xs, x = .ref a ∧ ((SqL K H a xs ∧ ∀ p, H p = none → Q (.ref p) (upd H p (.lst xs.reverse))) ∨ (SqT K H a xs ∧ ∀ p, H p = none → Q (.ref p) (upd H p (.tup xs.reverse))))
section
variable {X : Cx} {e : Expr} {te : TE} {k : Nat} {p1 p2 p3 pos : Pos}
theorem pe_revA (he : PE X e te) : PE X (.Subscript e (.Slice none none (some (.UnaryOp .USub (.Constant (.int 1) k p1) p2)) p3) pos) (fun σ H Q => te σ H fun x H1 => rRev X.K x H1 Q) := by
  refine ⟨fun pins s σ H Q I h => ?_⟩
  refine Subscript_ (thn (he.run pins s σ H _ I h) fun v s1 ⟨x, H1, I1, r1, q1⟩ => ?_)
  obtain ⟨a, xs, ex, q1⟩ := q1
  subst ex
  cases r1
  have hst : PO X (some (.UnaryOp .USub (.Constant (.int 1) k p1) p2)) (tPart (tUn (rU fun i => .int (-i)) (tC (.int 1)))) := po_some (pe_un un_neg pe_int)
  refine wpAny_Slice (thn (po_none.run pins s1 σ H1 (fun o H2 => o = none ∧ H2 = H1) I1 ⟨rfl, rfl⟩) fun vl s2 ⟨l, H2, I2, pl, el, e2⟩ => ?_)
  subst el e2
  refine thn (po_none.run pins s2 σ H2 (fun o H3 => o = none ∧ H3 = H2) I2 ⟨rfl, rfl⟩) fun vu s3 ⟨u, H3, I3, pu, eu, e3⟩ => ?_
  subst eu e3
  refine thn (hst.run pins s3 σ H3 (fun o H4 => o = some (-1) ∧ H4 = H3) I3 ⟨1, rfl, -1, rfl, rfl, rfl⟩) fun vs s4 ⟨o, H4, I4, ps, eo, e4⟩ => ?_
  subst eo e4
  have I5 : Inv X pins σ H4 { s4 with heap := s4.heap.push { cls := .type "slice", data := .fields #[vl, vu, vs] } } := I4.kept (t' := s4.toks) fun b ob q => Heap.get?_push_of_some _ q
  show wpAny (model X.prog X.w) X.A (subscriptTail e (.Slice none none (some (.UnaryOp .USub (.Constant (.int 1) k p1) p2)) p3) (.ref a) (.ref s4.heap.objs.size)) (EP X pins σ Q) X.xe { s4 with heap := s4.heap.push { cls := .type "slice", data := .fields #[vl, vu, vs] } }
  rcases q1 with ⟨hx, q⟩ | ⟨hx, q⟩
  · obtain ⟨its, r, ht, hz⟩ := I5.list hx
    have hlen := r.length
    refine tail_any (ops := [.ref a, .ref s4.heap.objs.size]) ht.isList.typeIs (PySem.slot_list_getitem.lookup) ?_ (by with_unfolding_all rfl)
    refine wpAny_getItem_list_slice ht.isList (Heap.IsSliceOf.new _ vl vu vs) pl pu ps (by decide) ?_ (by rw [List.size_toArray]; omega)
    rw [PySem.W.krv_pick]
    exact ⟨.ref _, _, I5.laid (t' := s4.toks) (o := .lst xs.reverse) (fun b ob q => Heap.get?_push_of_some _ q) (Nat.le_refl _) ⟨by rw [List.length_reverse]; exact hz, _, 0, r.reverse, Heap.get?_push_size _ rfl⟩, rfl, q _ (I5.hok.fresh (Nat.le_refl _))⟩
  · obtain ⟨its, r, ht, hz⟩ := I5.tuple hx
    have hlen := r.length
    refine tail_any (ops := [.ref a, .ref s4.heap.objs.size]) ht.typeIs (PyProof.Rows.slot_tuple_getitem.lookup) ?_ (by with_unfolding_all rfl)
    refine tuple_down ht (Heap.IsSliceOf.new _ vl vu vs) pl pu ps ?_ (by rw [List.size_toArray]; omega)
    exact ⟨.ref _, _, I5.laid (t' := s4.toks) (o := .tup xs.reverse) (fun b ob q => Heap.get?_push_of_some _ q) (Nat.le_refl _) ⟨by rw [List.length_reverse]; exact hz, _, r.reverse, ⟨_, Heap.get?_push_size _ rfl, rfl, _, rfl⟩⟩, rfl, q _ (I5.hok.fresh (Nat.le_refl _))⟩
def oRev : S → Option S
  | .d (.tup ds) => some (.d (.tup ds.reverse))
  | .m (.lst ds) => some (.m (.lst ds.reverse))
  | .lk (.lst ds) => some (.m (.lst ds.reverse))
  | _ => none
@[simp] theorem oRev_tup {ds : List D} : oRev (.d (.tup ds)) = some (.d (.tup ds.reverse)) := rfl
@[simp] theorem oRev_lst {ds : List D} : oRev (.m (.lst ds)) = some (.m (.lst ds.reverse)) := rfl
@[simp] theorem oRev_lk {ds : List D} : oRev (.lk (.lst ds)) = some (.m (.lst ds.reverse)) := rfl
theorem qx_rev {fa : Fn1 Arg} (he : PX X e fa) : PX X (.Subscript e (.Slice none none (some (.UnaryOp .USub (.Constant (.int 1) k p1) p2)) p3) pos) (fUn oRev fa) := PE.imp (pe_revA he) fun σ H Q h => un_read (r := rRev X.K) (fun H x sx s Q e hx f => by
  unfold oRev at e
  split at e
  · cases e
    obtain ⟨a, vs, rfl, sq, rs⟩ := rd_tup hx
    exact ⟨a, vs, rfl, .inr ⟨sq, fun p hp => f.tup rs.reverse hp⟩⟩
  · cases e
    obtain ⟨a, vs, rfl, sq, rs⟩ := rd_lst hx
    exact ⟨a, vs, rfl, .inl ⟨SqL.of sq, fun p hp => f.lst rs.reverse hp⟩⟩
  · cases e
    obtain ⟨a, vs, rfl, sq, rs⟩ := rd_lk hx
    exact ⟨a, vs, rfl, .inl ⟨sq.sq, fun p hp => f.lst rs.reverse hp⟩⟩
  · cases e) h
end

/-! ### list.extend by a tuple -/
section
open AutoSeq1
theorem extend_tupG (l : Addr) (items : Array Value) (n : Nat) (b : Addr) (items2 : Array Value) (n2 : Nat) (dd : Option Addr) (sl : Array (Option Value)) (hs0 : ¬(!items.isEmpty && Builtin.List.listTooLong (items.size + items2.size)) = true) (hs1 : items.size ≤ sizeLine) (hs2 : items.size + items2.size ≤ sizeLine + 1) :
    Meets (Builtin.«list.extend» ⟨[.ref l, .ref b], []⟩) (fun _ R s => s.heap.get? l = some { cls := .type "list", dict := none, data := .seq items n, slots := #[] } ∧ s.heap.get? b = some { cls := .type "tuple", dict := dd, data := .seq items2 n2, slots := sl } ∧
      R (.ok (.ret Value.none)) { s with heap := s.heap.update l (Obj.mapSeq fun x => x ++ items2), toks := s.toks }) :=
  .of_wp fun prog w A R s h => by
    obtain ⟨hp, g, d, tk, os⟩ := s
    obtain ⟨hl, hb, h⟩ := h
    have f1 := idx_int
    have f2 := AutoSeq1.sub_tuple_tuple
    have f3 := AutoSeq1.sub_list_list
    have f4 := AutoSeq1.sub_tuple_list
    have f5 := AutoSeq1.sub_list_tuple
    have hz' : (items ++ items2).size ≤ sizeLine + 1 := by
      rw [Array.size_append]
      exact hs2
    wp_walk using (wpAny_updateSeq hl rfl (hz := hs1) (_hz' := hz')), wpAny_loadPart' hl, wpAny_loadPart' hb
    exact ⟨_, rfl, h⟩
end
def rExtT (K : PySem.W.Frag) : V → List V → Hp → VK → Prop := fun x vs H Q => ∃ l b xs zs, x = .ref l ∧ vs = [.ref b] ∧ H l = some (.lst xs) ∧ SqT K H b zs ∧ xs.length + zs.length ≤ sizeLine ∧ Q .non (upd H l (.lst (xs ++ zs)))
section
variable {X : Cx}
theorem mt_extT : L2.MtR X "list.extend" (rExtT X.K) := by
  intro pins s σ H x vs v us Q I rx rv h
  obtain ⟨l, b, xs, zs, rfl, rfl, hH, hB, hz, q⟩ := h
  cases rx
  rw [Vals.ref1 rv]
  obtain ⟨z, its, n, r, hl, e⟩ := I.lstM hH
  obtain ⟨its2, r2, ⟨⟨c2, dd, dt, sl⟩, e2, hc2, n2, hd2⟩, z2⟩ := I.tuple hB
  simp only at hc2 hd2
  subst hc2 hd2
  have hl2 := r2.length
  have hsz : its.toArray.size + its2.toArray.size ≤ sizeLine := by rw [List.size_toArray, List.size_toArray]; omega
  have hlong : ¬ (!its.toArray.isEmpty && Builtin.List.listTooLong (its.toArray.size + its2.toArray.size)) = true := by
    rw [notLongL hsz, Bool.and_false]
    decide
  refine call_meets F.slot_list_extend ⟨_, e, rfl⟩ F.entry_list_extend (F.args_list_extend_2 _ _)
    (extend_tupG l its.toArray n b its2.toArray n2 dd sl hlong (by rw [List.size_toArray]; omega) (by omega)) ⟨e, e2, ?_⟩
  refine ⟨.non, _, I.lset (its' := its ++ its2) hH e (by simp) (r.append r2) ?_, rfl, q⟩
  rw [List.length_append]
  omega
/-- by a tuple, or by a list of another place -/
def oExtT : MtO := fun xs ss => match ss with
  | [.d (.tup ys)] => if xs.length + ys.length ≤ sizeLine then some (.non, xs ++ ys) else none
  | _ => none
@[simp] theorem oExtT_tup {xs ys : List D} : oExtT xs [.d (.tup ys)] = if xs.length + ys.length ≤ sizeLine then some (.non, xs ++ ys) else none := rfl
theorem cm_extT : MtOk X "list.extend" oExtT := ⟨_, mt_extT, fun H a vs us xs ss x ys Q e hH rs rr k => by
  unfold oExtT at e
  split at e
  · split at e
    · rename_i hz
      cases e
      obtain ⟨v, rfl, h⟩ := rr1 rr
      obtain ⟨b, ws, rfl, sq, rs2⟩ := rd_tup h
      exact ⟨a, b, vs, ws, rfl, rfl, hH, sq, by rw [← rs.length, ← rs2.length]; exact hz, k _ _ .non (rs.append rs2)⟩
    · cases e
  · cases e⟩

/-! ### a, b = x, y -/
def parK (i j : Nat) (ss : Option (List S)) (e : En) : Option Res := match ss with
  | some [.d x, .d y] => some (.nx ((e.set i (some (.d x))).set j (some (.d y))))
  | _ => none
@[simp] theorem parK_d {i j : Nat} {x y : D} {e : En} : parK i j (some [.d x, .d y]) e = some (.nx ((e.set i (some (.d x))).set j (some (.d y)))) := rfl
def sPar1 (i j : Nat) (as : List Arg) (e : En) : Option Res := parK i j (gets as e) e
def sPar (i j : Nat) (fs : Fn1 (List Arg)) : FS := fun e => bndS (fs e) (sPar1 i j)
theorem qs_par {i j : Nat} {x y : Str} {a b : Expr} {fs : Fn1 (List Arg)} {px py pt pos : Pos} {kt k2 pt2} (hc : X.calm = true) (hN : X.N.Nodup) (ha : PXA X [a, b] fs) (hi : X.N[i]? = some x := by rfl) (hj : X.N[j]? = some y := by rfl) (hij : i ≠ j := by decide)
    (hx : X.env.scope.names.lookup x = some .local := by rfl) (hy : X.env.scope.names.lookup y = some .local := by rfl)
    (hw : swappedStores [.Tuple [.Name x px, .Name y py] kt pt] (.Tuple [a, b] k2 pt2) X.env = pure (some [x, y]) := by rfl)
    (hs : swapsWithSole [.Tuple [.Name x px, .Name y py] kt pt] (.Tuple [a, b] k2 pt2) pos.line X.env = pure false := by rfl) :
    PXS X (.Assign [.Tuple [.Name x px, .Name y py] kt pt] (.Tuple [a, b] k2 pt2) pos) [i, j] (sPar i j fs) := PS.imp (ps_par hc hN hi hj hij hx hy ha hw hs) fun D σ H h => by
  obtain ⟨env, W, r, re, e, p⟩ := h
  obtain ⟨as, env1, ea, e⟩ := bndS_eq e
  refine ⟨env, W, as, env1, re, ea, fun vs H1 W1 Fs r1 ras t => ?_⟩
  unfold sPar1 parK at e
  split at e
  · rename_i x y hg
    cases e
    obtain ⟨v, v', rfl, ⟨P1, q1⟩, ⟨P2, q2⟩⟩ := rr2 (ras.read r1 hg)
    refine ⟨v, v', rfl, p _ H1 W1 ((r1.setd q1).setd q2) (t.less fun _ z => z.elim) ?_⟩
    exact (eqs_set (i := i)).trans (eqs_set (i := j)) (by simp) (by simp)
  · cases e
end
end QL
end

section
set_option Elab.async false
set_option linter.all false
set_option maxRecDepth 100000
set_option maxHeartbeats 4000000
namespace QL
open PySem PySem.Spec PyProof.Rows L2

/-! ### the drawing state of a law: [numbers, place, rest, seed] -/
theorem RE.putG {K : PySem.W.Frag} {H : Hp} {σ : Sl} {env : En} {W : Ow} {i : Nat} {x y : M} {a : Addr} {vs ws : List V} {v : V} (r : RE K H σ env W) (hi : env[i]? = some (some (.m x))) (hσ : σ[i]? = some (some v)) (hW : W i a) (hH : H a = some (.lst vs))
    (new : RM K (upd H a (.lst ws)) y v (W i)) : RE K (upd H a (.lst ws)) σ (env.set i (some (.m y))) W := by
  have t : Tr (fun (k : Nat) b => k = i ∧ W i b) H (fun (k : Nat) b => k = i ∧ W i b) (upd H a (.lst ws)) F0 :=
    ⟨fun b o e hn => by rw [upd_ne fun z => hn ⟨i, rfl, by rw [z]; exact hW⟩]; exact e, fun b e => by
      by_cases hb : b = a
      · subst hb; rw [upd_same]; simp
      · rw [upd_ne hb]; exact e, fun b _ hn => ⟨hn, fun z => z⟩⟩
  refine ⟨fun j s e => ?_, r.apart, fun j b z => ?_, by rw [List.length_set]; exact r.len⟩
  · by_cases hj : j = i
    · subst hj
      have hl : j < env.length := (List.getElem?_eq_some_iff.mp hi).1
      rw [List.getElem?_set_self hl] at e
      cases e
      exact ⟨_, hσ, new⟩
    · rw [List.getElem?_set_ne (Ne.symm hj)] at e
      obtain ⟨v, q1, q2⟩ := r.slots j s e
      exact ⟨v, q1, RS.keep (fun _ b z => r.mu i b z.2) t q2 fun b z ⟨k, _, y⟩ => hj (r.apart j i b z y)⟩
  · by_cases hb : b = a
    · subst hb; rw [upd_same]; trivial
    · rw [upd_ne hb]; exact r.mu j b z
def mkStK (p c z : Int) : Option (List Int) → En → Option (Arg × En)
  | some ns, e => some (.val (.m (.st ns p c z)), e)
  | none, _ => none
@[simp] theorem mkStK_some {p c z : Int} {ns : List Int} {e : En} : mkStK p c z (some ns) e = some (.val (.m (.st ns p c z)), e) := rfl
def mkStR (x : List D) (r : Option (List S)) (e : En) : Option (Arg × En) := match r with
  | some [.d (.int p), .d (.int c), .d (.int z)] => mkStK p c z (intsOf x) e
  | _ => none
@[simp] theorem mkStR_some {x : List D} {p c z : Int} {e : En} : mkStR x (some [.d (.int p), .d (.int c), .d (.int z)]) e = mkStK p c z (intsOf x) e := rfl
def fMkSt1 (as : List Arg) (e : En) : Option (Arg × En) := match as with
  | .val (.m (.lst ds)) :: as => mkStR ds (gets as e) e
  | _ => none
@[simp] theorem fMkSt1_cons {ds : List D} {as : List Arg} {e : En} : fMkSt1 (.val (.m (.lst ds)) :: as) e = mkStR ds (gets as e) e := rfl
def fMkSt (fs : Fn1 (List Arg)) : Fn1 Arg := fun e => bnd (fs e) fMkSt1
section
variable {X : Cx} {es : List Expr} {fs : Fn1 (List Arg)} {pos : Pos}
theorem qx_mkst (h : PXA X es fs) : PX X (.List es pos) (fMkSt fs) := PE.imp (pe_lst h) fun σ H Q h => by
  obtain ⟨env, W, z, env', re, e, k⟩ := h
  obtain ⟨as, env1, ea, e⟩ := bnd_eq e
  refine ⟨env, W, as, env1, re, ea, fun vs H1 W1 Fs r1 ras t => ?_⟩
  unfold fMkSt1 at e
  split at e
  · rename_i ds as'
    unfold mkStR at e
    split at e
    · rename_i p c zz hg
      unfold mkStK at e
      split at e
      · rename_i ns hns
        cases e
        cases ras with
        | cons ra tm dj ras =>
          obtain ⟨v1, v2, v3, rfl, q1, q2, q3⟩ := rr3 (ras.read r1 hg)
          obtain ⟨a1, vs1, rfl, fa, h1, rs⟩ := ra
          rw [intsOf_eq hns] at rs
          rw [RDs.of_ints rs] at h1
          rw [rd_int q1, rd_int q2, rd_int q3]
          refine ⟨by show 4 ≤ sizeLine; decide, fun p0 hp0 => ?_⟩
          have sm : Same H1 (upd H1 p0 (.lst [.ref a1, .int p, .int c, .int zz])) := same_new hp0
          have na : a1 ≠ p0 := fun z => by rw [z, hp0] at h1; cases h1
          refine k _ _ W1 (fun b => b = p0 ∨ b = a1) (r1.same sm) ⟨p0, a1, rfl, .inl rfl, .inr rfl, upd_same, by rw [upd_ne na]; exact h1⟩ (fun b z => ?_) ⟨fun b o e n => ?_, fun b e => ?_, fun b e n => ?_⟩
          · rcases z with z | z
            · subst z
              exact ⟨r1.fresh hp0, by rw [upd_same]; trivial⟩
            · subst z
              exact ⟨(tm _ fa).1, by rw [upd_ne na, h1]; trivial⟩
          · exact sm _ _ (t.frame b o e n)
          · have := t.dom b e
            cases q : H1 b with
            | none => exact absurd q this
            | some o => rw [sm _ _ q]; simp
          · have o := t.out b e n
            refine ⟨o.1, fun z => ?_⟩
            rcases z with z | z
            · subst z
              exact t.dom _ e hp0
            · subst z
              exact o.2 (.inl fa)
      · cases e
    · cases e
  · cases e
/-- d[k] for k = 1, 2, 3 -/
def stAt (k : Nat) (p c z : Int) : Int := match k with
  | 1 => p
  | 2 => c
  | _ => z
def stGetK (k : Nat) (x : Option (Option S)) (e : En) : Option (Arg × En) := match x with
  | some (some (.m (.st _ p c z))) => some (.val (.d (.int (stAt k p c z))), e)
  | _ => none
@[simp] theorem stGetK_st {k : Nat} {ns : List Int} {p c z : Int} {e : En} : stGetK k (some (some (.m (.st ns p c z)))) e = some (.val (.d (.int (stAt k p c z))), e) := rfl
def fStGet (i k : Nat) : Fn1 Arg := fun e => stGetK k e[i]? e
theorem st_of {K : PySem.W.Frag} {H : Hp} {σ : Sl} {env : En} {W : Ow} {i : Nat} {ns : List Int} {p c z : Int} (r : RE K H σ env W) (h : env[i]? = some (some (.m (.st ns p c z)))) :
    ∃ a b, σ[i]? = some (some (.ref a)) ∧ W i a ∧ W i b ∧ H a = some (.lst [.ref b, .int p, .int c, .int z]) ∧ H b = some (.lst (ns.map V.int)) := by
  obtain ⟨v, h1, a, b, rfl, pa, pb, ha, hb⟩ := r.slots i _ h
  exact ⟨a, b, h1, pa, pb, ha, hb⟩
theorem qx_stget {i : Nat} {k : Int} {kk : Nat} {x : Str} {p p2 pos : Pos} (n : Nat) (hk : k = (n : Int) := by rfl) (hn : n = 1 ∨ n = 2 ∨ n = 3 := by decide) (hN : X.N[i]? = some x := by rfl) (hv : Vis X.env.scope x := by first | exact Or.inl rfl | exact Or.inr (Or.inl rfl) | exact Or.inr (Or.inr rfl))
    (hd : (x == ("__debug__" : Str)) = false := by decide) (hcd : (x == ("__classdict__" : Str)) = false := by decide) (hs : PlainIx (.Constant (.int k) kk p2) := by intro _ _; rfl) :
    PX X (.Subscript (.Name x p) (.Constant (.int k) kk p2) pos) (fStGet i n) := PE.imp (pe_ix ix_list (pe_var hN hv hd hcd) pe_int hs) fun σ H Q h => by
  obtain ⟨env, W, z, env', re, e, kq⟩ := h
  unfold fStGet stGetK at e
  split at e
  · rename_i ns p c zz hx
    cases e
    obtain ⟨a, b, h1, _, _, ha, _⟩ := st_of re hx
    refine ⟨.ref a, h1, a, _, k, .int (stAt n p c zz), rfl, rfl, SqL.of ha, ?_, kq _ H W F0 re (.int _) Tm.zero Tr.refl⟩
    subst hk
    rcases hn with rfl | rfl | rfl <;> rfl
  · cases e
/-- len(d[0]) -/
def stLenK (x : Option (Option S)) (e : En) : Option (Arg × En) := match x with
  | some (some (.m (.st ns _ _ _))) => some (.val (.d (.int ns.length)), e)
  | _ => none
@[simp] theorem stLenK_st {ns : List Int} {p c z : Int} {e : En} : stLenK (some (some (.m (.st ns p c z)))) e = some (.val (.d (.int ns.length)), e) := rfl
def fStLen (i : Nat) : Fn1 Arg := fun e => stLenK e[i]? e
theorem qx_stlen {i : Nat} {kk : Nat} {x : Str} {p p2 p3 p4 pos : Pos} (hg : Gl X "len") (hm : X.mg "len" = none) (hN : X.N[i]? = some x := by rfl) (hv : Vis X.env.scope x := by first | exact Or.inl rfl | exact Or.inr (Or.inl rfl) | exact Or.inr (Or.inr rfl))
    (hd : (x == ("__debug__" : Str)) = false := by decide) (hcd : (x == ("__classdict__" : Str)) = false := by decide) (hs : PlainIx (.Constant (.int 0) kk p2) := by intro _ _; rfl)
    (he : starEach [.Subscript (.Name x p) (.Constant (.int 0) kk p2) p3] X.env = (false, eval (.Subscript (.Name x p) (.Constant (.int 0) kk p2) p3) X.env) :: starEach [] X.env := by rfl) (hpl : (backTo pos (starEach [] X.env)).any (·.1) = false := by rfl) :
    PX X (.Call (.Name "len" p4) [.Subscript (.Name x p) (.Constant (.int 0) kk p2) p3] [] pos) (fStLen i) :=
  PE.imp (pe_callB call_len hg hm PySem.boot_len (pa_cons (pe_ix ix_list (pe_var hN hv hd hcd) pe_int hs) pa_nil he) (by decide) (by decide) he hpl) fun σ H Q h => by
  obtain ⟨env, W, z, env', re, e, kq⟩ := h
  unfold fStLen stLenK at e
  split at e
  · rename_i ns p c zz hx
    cases e
    obtain ⟨a, b, h1, _, _, ha, hb⟩ := st_of re hx
    refine ⟨.ref a, h1, a, _, 0, .ref b, rfl, rfl, SqL.of ha, rfl, _, ns.length, rfl, .inl ⟨_, SqL.of hb, by rw [List.length_map]⟩, kq _ H W F0 re (.int _) Tm.zero Tr.refl⟩
  · cases e
/-- d[0][d[1]] -/
def stIxR (x : Option Int) (e : En) : Option (Arg × En) := match x with
  | some i => some (.val (.d (.int i)), e)
  | none => none
@[simp] theorem stIxR_some {i : Int} {e : En} : stIxR (some i) e = some (.val (.d (.int i)), e) := rfl
def stIxK (x : Option (Option S)) (e : En) : Option (Arg × En) := match x with
  | some (some (.m (.st ns p _ _))) => stIxR (getI ns p) e
  | _ => none
@[simp] theorem stIxK_st {ns : List Int} {p c z : Int} {e : En} : stIxK (some (some (.m (.st ns p c z)))) e = stIxR (getI ns p) e := rfl
def fStIx (i : Nat) : Fn1 Arg := fun e => stIxK e[i]? e
theorem qx_stix {i : Nat} {kk kk2 : Nat} {x : Str} {p p2 p3 p4 p5 p6 pos : Pos} (hN : X.N[i]? = some x := by rfl) (hv : Vis X.env.scope x := by first | exact Or.inl rfl | exact Or.inr (Or.inl rfl) | exact Or.inr (Or.inr rfl))
    (hd : (x == ("__debug__" : Str)) = false := by decide) (hcd : (x == ("__classdict__" : Str)) = false := by decide) (hs : PlainIx (.Constant (.int 0) kk p2) := by intro _ _; rfl) (hs1 : PlainIx (.Constant (.int 1) kk2 p5) := by intro _ _; rfl)
    (hs2 : PlainIx (.Subscript (.Name x p4) (.Constant (.int 1) kk2 p5) p6) := by intro _ _; rfl) :
    PX X (.Subscript (.Subscript (.Name x p) (.Constant (.int 0) kk p2) p3) (.Subscript (.Name x p4) (.Constant (.int 1) kk2 p5) p6) pos) (fStIx i) :=
  PE.imp (pe_ix ix_list (pe_ix ix_list (pe_var hN hv hd hcd) pe_int hs) (pe_ix ix_list (pe_var hN hv hd hcd) pe_int hs1) hs2) fun σ H Q h => by
  obtain ⟨env, W, z, env', re, e, kq⟩ := h
  unfold fStIx stIxK stIxR at e
  split at e
  · rename_i ns p c zz hx
    split at e
    · rename_i y hy
      cases e
      obtain ⟨a, b, h1, _, _, ha, hb⟩ := st_of re hx
      obtain ⟨j, j1, j2⟩ := getI_at hy
      refine ⟨.ref a, h1, a, _, 0, .ref b, rfl, rfl, SqL.of ha, rfl, .ref a, h1, a, _, 1, .int p, rfl, rfl, SqL.of ha, rfl, b, _, p, .int y, rfl, rfl, SqL.of hb, ?_, kq _ H W F0 re (.int _) Tm.zero Tr.refl⟩
      unfold L2.atI
      rw [List.length_map, j1]
      show (ns.map V.int)[j]? = _
      rw [List.getElem?_map, j2]
      rfl
    · cases e
  · cases e
/-- d[k] = e -/
def stPut (k : Nat) (ns : List Int) (p c z v : Int) : M := match k with
  | 1 => .st ns v c z
  | 2 => .st ns p v z
  | _ => .st ns p c v
def stSetK (i k : Nat) (x : Option (Option S)) (v : Option S) (e : En) : Option Res := match x, v with
  | some (some (.m (.st ns p c z))), some (.d (.int v)) => some (.nx (e.set i (some (.m (stPut k ns p c z v)))))
  | _, _ => none
@[simp] theorem stSetK_st {i k : Nat} {ns : List Int} {p c z v : Int} {e : En} : stSetK i k (some (some (.m (.st ns p c z)))) (some (.d (.int v))) e = some (.nx (e.set i (some (.m (stPut k ns p c z v))))) := rfl
def sStSet1 (i k : Nat) (a : Arg) (e : En) : Option Res := stSetK i k e[i]? (a.get e) e
def sStSet (i k : Nat) (fa : Fn1 Arg) : FS := fun e => bndS (fa e) (sStSet1 i k)
theorem qs_stset {i : Nat} {k : Int} {kk : Nat} {x : Str} {ev : Expr} {fa : Fn1 Arg} {p p2 p3 pos : Pos} (n : Nat) (he : PX X ev fa) (hk : k = (n : Int) := by rfl) (hn : n = 1 ∨ n = 2 ∨ n = 3 := by decide) (hN : X.N[i]? = some x := by rfl) (hv : Vis X.env.scope x := by first | exact Or.inl rfl | exact Or.inr (Or.inl rfl) | exact Or.inr (Or.inr rfl))
    (hd : (x == ("__debug__" : Str)) = false := by decide) (hcd : (x == ("__classdict__" : Str)) = false := by decide)
    (hasg : ∀ v, assign (.Subscript (.Name x p) (.Constant (.int k) kk p2) p3) X.env v = (do
      let ov ← holding [v] (eval (.Name x p) X.env)
      let iv ← holding [v, ov] (eval (.Constant (.int k) kk p2) X.env)
      standAt p3
      holding [v, ov, iv] (setItem ov iv v)
      release [v, ov, iv] []) := by intro _; rfl)
    (hs : swapsWithSole [.Subscript (.Name x p) (.Constant (.int k) kk p2) p3] ev pos.line X.env = pure false := by rfl) (hw : swappedStores [.Subscript (.Name x p) (.Constant (.int k) kk p2) p3] ev X.env = pure none := by rfl)
    (h1 : (assignEach [.Subscript (.Name x p) (.Constant (.int k) kk p2) p3] X.env).map (·.2) = [assign (.Subscript (.Name x p) (.Constant (.int k) kk p2) p3) X.env] := by rfl) :
    PXS X (.Assign [.Subscript (.Name x p) (.Constant (.int k) kk p2) p3] ev pos) [] (sStSet i n fa) :=
  PS.imp (ps_asg he (pg_sub (pe_var hN hv hd hcd) pe_int set_list hasg) hs hw h1) fun D σ H h => by
  obtain ⟨env, W, r, re, e, pq⟩ := h
  obtain ⟨a, env1, ea, e⟩ := bndS_eq e
  refine ⟨env, W, a, env1, re, ea, fun v H1 W1 F r1 ra tm t => ?_⟩
  unfold sStSet1 stSetK at e
  split at e
  · rename_i ns p c z y hx hy
    cases e
    have ev : v = .int y := rd_int (ra.read r1 hy)
    obtain ⟨a, b, q1, wa, wb, ha, hb⟩ := st_of r1 hx
    subst hk ev
    have nab : b ≠ a := fun z => by
      rw [z, ha] at hb
      cases ns <;> cases hb
    have t1 : ∀ ws, Tr W H W1 (upd H1 a (.lst ws)) F0 := fun ws => (t.trans0 (Tr.put wa)).less fun _ z => z
    rcases hn with rfl | rfl | rfl
    · refine ⟨.ref a, q1, a, _, 1, 1, rfl, rfl, ha, rfl, pq σ _ W1 (r1.putG hx q1 wa ha ?_) (t1 _) Eqs.refl⟩
      exact ⟨a, b, rfl, wa, wb, upd_same, by rw [upd_ne nab]; exact hb⟩
    · refine ⟨.ref a, q1, a, _, 2, 2, rfl, rfl, ha, rfl, pq σ _ W1 (r1.putG hx q1 wa ha ?_) (t1 _) Eqs.refl⟩
      exact ⟨a, b, rfl, wa, wb, upd_same, by rw [upd_ne nab]; exact hb⟩
    · refine ⟨.ref a, q1, a, _, 3, 3, rfl, rfl, ha, rfl, pq σ _ W1 (r1.putG hx q1 wa ha ?_) (t1 _) Eqs.refl⟩
      exact ⟨a, b, rfl, wa, wb, upd_same, by rw [upd_ne nab]; exact hb⟩
  · cases e
end

/-! ### a def by its datum, the law's end -/
section
variable {P : Program} {w : World} {K : PySem.W.Frag} {mg : Str → Option Value} {base : Heap}
theorem fn_okD {x qual : Str} {params : Arguments} {bd : List Stmt} {sc : Scope} {f : Addr} {fd : FuncData} {N ps : List Str} {k : Nat} {A : List Nat} {body : FS} (F : FunD K x qual params bd sc [] [] f fd) (Sc : FnScope N ps sc)
    (hb : ∀ (cdv : Value) (Ar : Around) (outer : List Env) (s : Shared) (H : Hp) (E : XK), Room k (Ar.deeper (envOfC qual sc s.heap.objs.size f cdv)) →
      PXSs (cxOf CX0 P w K mg base N qual sc f cdv Ar outer s H E).nox bd A body) : FnOk P w K mg base CX0 (k + 1) f fd ps (spF K ps.length (mkFn ps.length N.length A body)) := by
  refine F.ok Sc (fun vs H Q E h => h.1) fun cdv Ar outer s H vs Q E hr h => ⟨_, (hb cdv Ar outer s H E hr).nox, ?_⟩
  obtain ⟨hl, ss, W, r, fin, re, e, kk⟩ := h
  have hss : ss.length = vs.length := by have := re.len; simpa using this
  have hpl : ps.length ≤ N.length := by have := congrArg List.length Sc.pre; rw [List.length_take] at this; omega
  have e' : (if ss.length = ps.length then fnEnd A ss (body (ss.map some ++ List.replicate (N.length - ps.length) none)) else none) = some (r, fin) := e
  rw [if_pos (by omega)] at e'
  have re0 : RE K H (L2.start N vs) (ss.map some ++ List.replicate (N.length - ps.length) none) W := by
    refine ⟨fun i s hs => ?_, re.apart, re.mu, ?_⟩
    · by_cases hi : i < ss.length
      · rw [List.getElem?_append_left (by simpa using hi)] at hs
        obtain ⟨v, h1, h2⟩ := re.slots i s hs
        refine ⟨v, ?_, h2⟩
        unfold L2.start
        rw [List.getElem?_append_left (by simpa [← hss] using hi)]
        exact h1
      · rw [List.getElem?_append_right (by simpa using hi), List.getElem?_replicate] at hs
        split at hs <;> cases hs
    · unfold L2.start
      simp only [List.length_append, List.length_map, List.length_replicate]
      omega
  have hσ : ∀ i, i < vs.length → (L2.start N vs)[i]? = some vs[i]? := fun i hi => by
    unfold L2.start
    rw [List.getElem?_append_left (by simpa using hi), List.getElem?_map, List.getElem?_eq_getElem hi]
    rfl
  have less : ∀ {W' : Ow} {H' : Hp} {F : Addr → Prop}, Tr W H W' H' F → Tr W H (fun i b => (∃ m, ss[i]? = some (S.m m)) ∧ W' i b) H' F := fun t =>
    ⟨t.frame, t.dom, fun b e n => ⟨fun ⟨i, z⟩ => (t.out b e n).1 ⟨i, z.2⟩, (t.out b e n).2⟩⟩
  cases q : body (ss.map some ++ List.replicate (N.length - ps.length) none) with
  | none => rw [q] at e'; cases e'
  | some rr =>
    rw [q] at e'
    refine ⟨_, W, rr, re0, q, ?_⟩
    cases rr with
    | bk e1 => cases e'
    | ct e1 => cases e'
    | nx e1 =>
      rw [fnEnd_nx] at e'
      cases hf : fins A 0 ss e1 with
      | none => rw [hf] at e'; cases e'
      | some fin' =>
        rw [hf] at e'
        cases e'
        intro σ' H' W' r' t' q'
        exact kk .non H' _ F0 (fin_re re hσ hf r' t' q') .non Tm.zero (less t')
    | rt s1 e1 =>
      rw [fnEnd_rt] at e'
      cases hf : fins A 0 ss e1 with
      | none => rw [hf] at e'; cases e'
      | some fin' =>
        rw [hf] at e'
        cases e'
        intro v σ' H' W' F r' rs tm t' q'
        exact kk v H' _ F (fin_re re hσ hf r' t' q') rs (fun b z => ⟨fun ⟨i, y⟩ => (tm b z).1 ⟨i, y.2⟩, (tm b z).2⟩) (less t')
theorem law_sp {fn : FnS} {n : Nat} (h : ∀ ns : List Int, ns.length ≤ n → ∃ fin, fn [.lk (.lst (ns.map D.int))] = some (.d (.bl true), fin)) (H : Hp) (a : Addr) (ns : List Int) (hl : ns.length ≤ n) (hO : Only H) (hS : SqL K H a (ns.map V.int)) :
    spF K 1 fn [.ref a] H (fun v _ => v = .bl true) fun _ _ _ => False := by
  obtain ⟨fin, e⟩ := h ns hl
  refine ⟨rfl, _, (fun _ _ => False), _, fin, ⟨fun i s hs => ?_, fun i j b z => z.elim, fun i b z => z.elim, rfl⟩, e, fun v H' W' F _ rs _ _ => rd_bl ⟨F, rs⟩⟩
  have hs' : [some (S.lk (.lst (ns.map D.int)))][i]? = some (some s) := hs
  cases i with
  | succ i => simp at hs'
  | zero =>
    have e : S.lk (.lst (ns.map D.int)) = s := by simpa using hs'
    subst e
    refine ⟨.ref a, rfl, a, _, rfl, ?_, RDs.ints ns⟩
    rcases hS with (hS | hS) | hS
    · rcases hO a with z | ⟨o, xs, z⟩
      · rw [hS] at z; cases z
      · rw [hS] at z; cases z
    · exact .inl hS
    · exact .inr hS
end
end QL
end

section
set_option Elab.async false
set_option linter.all false
set_option maxRecDepth 100000
namespace QL
open PySem PySem.Spec PyProof.Rows L2

/-- a def of the text, where it stands -/
structure Df (K : PySem.W.Frag) (mg : Str → Option Value) (x : Str) (st : Stmt) : Prop where
  ex : ∃ (f : Addr) (fd : FuncData), FunD K x x (defArgs st) (defBody st) (defScope st) [] [] f fd ∧ mg x = some (.ref f)
/-- a def that may be called: what it is worth -/
structure Cal (P : Program) (w : World) (K : PySem.W.Frag) (mg : Str → Option Value) (base : Heap) (x : Str) (k n : Nat) (fn : FnS) : Prop where
  ex : ∃ (f : Addr) (fd : FuncData) (ps : List Str), FnOk P w K mg base CX0 k f fd ps (spF K n fn) ∧ mg x = some (.ref f) ∧ PySem.W.keepIn K (.ref f) = true ∧ Binds K fd ps [] ∧ ∀ ss r, fn ss = some r → ss.length = n
section
variable {P : Program} {w : World} {K : PySem.W.Frag} {mg : Str → Option Value} {base : Heap}
theorem cal_ok {x : Str} {st : Stmt} {N ps : List Str} {k : Nat} {A : List Nat} {body : FS} (d : Df K mg x st) (Sc : FnScope N ps (defScope st))
    (hb : ∀ (f : Addr) (cdv : Value) (Ar : Around) (outer : List Env) (s : Shared) (H : Hp) (E : XK), Room k (Ar.deeper (envOfC x (defScope st) s.heap.objs.size f cdv)) →
      PXSs (cxOf CX0 P w K mg base N x (defScope st) f cdv Ar outer s H E).nox (defBody st) A body)
    (bd : ∀ (kV doc pm : Value) (an : Option Addr) (cdv ct : Value) (us : List Value), us.length = ps.length → bindArgs (PySem.W.fnOf x x (defArgs st) (defBody st) (defScope st) .none kV doc pm an cdv ct) ⟨us, []⟩ = pure (ps.zip us)) :
    Cal P w K mg base x (k + 1) ps.length (mkFn ps.length N.length A body) := by
  obtain ⟨f, fd, F, hm⟩ := d.ex
  exact ⟨f, fd, ps, fn_okD F Sc fun cdv Ar outer s H E hr => hb f cdv Ar outer s H E hr, hm, F.kp, F.bindsN bd, fun ss r h => mkFn_len h⟩
theorem Cal.mono {x : Str} {j k n : Nat} {fn : FnS} (c : Cal P w K mg base x j n fn) (h : j ≤ k) : Cal P w K mg base x k n fn := by
  obtain ⟨f, fd, ps, F, r⟩ := c.ex
  exact ⟨f, fd, ps, F.mono h, r⟩
end
section
variable {X : Cx} {k n : Nat} {fn : FnS} {x : Str} {p pos : Pos} {e : Expr} {es : List Expr} {fs : Fn1 (List Arg)}
theorem qx_cal (c : Cal X.prog X.w X.K X.mg X.base x k n fn) (hr : Room k X.A) (hg : Gl X x) (ha : PXA X (e :: es) fs) (hdb : (x == ("__debug__" : Str)) = false := by decide) (he : starEach (e :: es) X.env = (false, eval e X.env) :: starEach es X.env := by rfl)
    (hpl : (backTo pos (starEach es X.env)).any (·.1) = false := by rfl) : PX X (.Call (.Name x p) (e :: es) [] pos) (fCall fn fs) := by
  obtain ⟨f, fd, ps, F, hm, hk, hb, hn⟩ := c.ex
  exact qx_call F hn hr hg hm hk hb ha hdb he hpl
theorem qx_cal0 (c : Cal X.prog X.w X.K X.mg X.base x k n fn) (hr : Room k X.A) (hg : Gl X x) (hdb : (x == ("__debug__" : Str)) = false := by decide) : PX X (.Call (.Name x p) [] [] pos) (fCall fn fNil) := by
  obtain ⟨f, fd, ps, F, hm, hk, hb, hn⟩ := c.ex
  exact qx_call0 F hn hr hg hm hk hb hdb
theorem qx_globC {x : Str} {i : Int} (c : ∃ t, X.mg x = some (.int i t)) (hg : Gl X x) (hd : (x == ("__debug__" : Str)) = false := by decide) : PX X (.Name x pos) (fC (.int i)) := by
  obtain ⟨t, h⟩ := c
  exact qx_glob hg h ⟨t, rfl⟩ hd
end
def fuel0 : En → Nat := fun _ => 100000
end QL
end

section
set_option Elab.async false
set_option linter.all false
set_option maxRecDepth 100000
namespace QL
open PySem PySem.Spec PyProof.Rows L2
/-! ### evaluation: each combinator at an environment -/
@[simp] theorem fC_ap {x : D} {e : En} : fC x e = some (.val (.d x), e) := rfl
def varK (i : Nat) (z : Option (Option S)) (e : En) : Option (Arg × En) := match z with
  | some (some _) => some (.slot i, e)
  | _ => none
@[simp] theorem varK_some {i : Nat} {s : S} {e : En} : varK i (some (some s)) e = some (.slot i, e) := rfl
@[simp] theorem fVar_ap {i : Nat} {e : En} : fVar i e = varK i e[i]? e := rfl
@[simp] theorem fBin2_ap {o : S → S → Option S} {a b : Arg} {e : En} : fBin2 o a b e = ret (op2 o (a.get e) (b.get e)) e := rfl
@[simp] theorem fBin1_ap {o : S → S → Option S} {fb : Fn1 Arg} {a : Arg} {e : En} : fBin1 o fb a e = bnd (fb e) (fBin2 o a) := rfl
@[simp] theorem fBin_ap {o : S → S → Option S} {fa fb : Fn1 Arg} {e : En} : fBin o fa fb e = bnd (fa e) (fBin1 o fb) := rfl
@[simp] theorem fUn1_ap {o : S → Option S} {a : Arg} {e : En} : fUn1 o a e = ret (op1 o (a.get e)) e := rfl
@[simp] theorem fUn_ap {o : S → Option S} {fa : Fn1 Arg} {e : En} : fUn o fa e = bnd (fa e) (fUn1 o) := rfl
@[simp] theorem fChain2_ap {o o' : S → S → Option S} {fc : Fn1 Arg} {a b : Arg} {e : En} : fChain2 o o' fc a b e = chK (op2 o (a.get e) (b.get e)) o' fc b e := rfl
@[simp] theorem fChain1_ap {o o' : S → S → Option S} {fb fc : Fn1 Arg} {a : Arg} {e : En} : fChain1 o o' fb fc a e = bnd (fb e) (fChain2 o o' fc a) := rfl
@[simp] theorem fChain_ap {o o' : S → S → Option S} {fa fb fc : Fn1 Arg} {e : En} : fChain o o' fa fb fc e = bnd (fa e) (fChain1 o o' fb fc) := rfl
@[simp] theorem fTB1_ap {a : Arg} {e : En} : fTB1 a e = tstK (a.get e) e := rfl
@[simp] theorem fTB_ap {fa : Fn1 Arg} {e : En} : fTB fa e = bnd (fa e) fTB1 := rfl
@[simp] theorem fTru1_ap {a : Arg} {e : En} : fTru1 a e = truK (a.get e) e := rfl
@[simp] theorem fTru_ap {fa : Fn1 Arg} {e : En} : fTru fa e = bnd (fa e) fTru1 := rfl
@[simp] theorem fAndT1_ap {tb : Fn1 Bool} {b : Bool} {e : En} : fAndT1 tb b e = if b = true then tb e else some (false, e) := rfl
@[simp] theorem fAndT_ap {ta tb : Fn1 Bool} {e : En} : fAndT ta tb e = bnd (ta e) (fAndT1 tb) := rfl
@[simp] theorem fOrT1_ap {tb : Fn1 Bool} {b : Bool} {e : En} : fOrT1 tb b e = if b = true then some (true, e) else tb e := rfl
@[simp] theorem fOrT_ap {ta tb : Fn1 Bool} {e : En} : fOrT ta tb e = bnd (ta e) (fOrT1 tb) := rfl
@[simp] theorem fNotT1_ap {b : Bool} {e : En} : fNotT1 b e = some (!b, e) := rfl
@[simp] theorem fNotT_ap {ta : Fn1 Bool} {e : En} : fNotT ta e = bnd (ta e) fNotT1 := rfl
@[simp] theorem fIf1_ap {fa fb : Fn1 Arg} {b : Bool} {e : En} : fIf1 fa fb b e = if b = true then fa e else fb e := rfl
@[simp] theorem fIf_ap {tc : Fn1 Bool} {fa fb : Fn1 Arg} {e : En} : fIf tc fa fb e = bnd (tc e) (fIf1 fa fb) := rfl
@[simp] theorem fAnd1_ap {fb : Fn1 Arg} {a : Arg} {e : En} : fAnd1 fb a e = andK (a.get e) fb e := rfl
@[simp] theorem fAnd_ap {fa fb : Fn1 Arg} {e : En} : fAnd fa fb e = bnd (fa e) (fAnd1 fb) := rfl
@[simp] theorem fOr1_ap {fb : Fn1 Arg} {a : Arg} {e : En} : fOr1 fb a e = orK (a.get e) fb e := rfl
@[simp] theorem fOr_ap {fa fb : Fn1 Arg} {e : En} : fOr fa fb e = bnd (fa e) (fOr1 fb) := rfl
@[simp] theorem fNil_ap  {e : En} : fNil e = some ([], e) := rfl
@[simp] theorem fCons2_ap {a : Arg} {as : List Arg} {e : En} : fCons2 a as e = some (a :: as, e) := rfl
@[simp] theorem fCons1_ap {fs : Fn1 (List Arg)} {a : Arg} {e : En} : fCons1 fs a e = bnd (fs e) (fCons2 a) := rfl
@[simp] theorem fCons_ap {fa : Fn1 Arg} {fs : Fn1 (List Arg)} {e : En} : fCons fa fs e = bnd (fa e) (fCons1 fs) := rfl
@[simp] theorem fOp1_ap {o : List S → Option S} {as : List Arg} {e : En} : fOp1 o as e = ret (opN o (gets as e)) e := rfl
@[simp] theorem fOp_ap {o : List S → Option S} {fs : Fn1 (List Arg)} {e : En} : fOp o fs e = bnd (fs e) (fOp1 o) := rfl
@[simp] theorem sNext_ap  {e : En} : sNext e = some (.nx e) := rfl
@[simp] theorem sSeq_ap {f g : FS} {e : En} : sSeq f g e = sqK (f e) g := rfl
@[simp] theorem sBreak_ap  {e : En} : sBreak e = some (.bk e) := rfl
@[simp] theorem sCont_ap  {e : En} : sCont e = some (.ct e) := rfl
@[simp] theorem sNever_ap  {e : En} : sNever e = none := rfl
@[simp] theorem sSet_ap {i : Nat} {fa : Fn1 Arg} {e : En} : sSet i fa e = bndS (fa e) (valK i) := rfl
@[simp] theorem sAug1_ap {i : Nat} {o : S → S → Option S} {x : Option (Option S)} {b : Arg} {e : En} : sAug1 i o x b e = bndS (ret (op2 o x.join (b.get e)) e) (valK i) := rfl
@[simp] theorem sAug_ap {i : Nat} {o : S → S → Option S} {fb : Fn1 Arg} {e : En} : sAug i o fb e = augK i o fb e[i]? e := rfl
@[simp] theorem sExpr1_ap {u1 : Arg} {e : En} : sExpr1 u1 e = some (.nx e) := rfl
@[simp] theorem sExpr_ap {fa : Fn1 Arg} {e : En} : sExpr fa e = bndS (fa e) sExpr1 := rfl
@[simp] theorem sRet_ap {fa : Fn1 Arg} {e : En} : sRet fa e = bndS (fa e) rtK := rfl
@[simp] theorem sRetN_ap  {e : En} : sRetN e = some (.rt (.d .non) e) := rfl
@[simp] theorem sIf1_ap {f g : FS} {b : Bool} {e : En} : sIf1 f g b e = if b = true then f e else g e := rfl
@[simp] theorem sIf_ap {tc : Fn1 Bool} {f g : FS} {e : En} : sIf tc f g e = bndS (tc e) (sIf1 f g) := rfl
@[simp] theorem whileT_ap {g : En → Option Res} {f : FS} {b : Bool} {e : En} : whileT g f b e = if b = true then whileK g (f e) else some (.nx e) := rfl
@[simp] theorem sWhile_ap {fuel : En → Nat} {tc : Fn1 Bool} {f : FS} {e : En} : sWhile fuel tc f e = whileN tc f (fuel e) e := rfl
@[simp] theorem fCall1_ap {fn : FnS} {as : List Arg} {e : En} : fCall1 fn as e = callK fn as (gets as e) e := rfl
@[simp] theorem fCall_ap {fn : FnS} {fs : Fn1 (List Arg)} {e : En} : fCall fn fs e = bnd (fs e) (fCall1 fn) := rfl
@[simp] theorem sPat1_ap {b : D → En → Option En} {a : Arg} {e : En} : sPat1 b a e = patK b (a.get e) e := rfl
@[simp] theorem sPat_ap {b : D → En → Option En} {fa : Fn1 Arg} {e : En} : sPat b fa e = bndS (fa e) (sPat1 b) := rfl
@[simp] theorem itSeq1_ap {a : Arg} {e : En} : itSeq1 a e = itK (itemsA a e) e := rfl
@[simp] theorem itSeq_ap {fa : Fn1 Arg} {e : En} : itSeq fa e = bnd (fa e) itSeq1 := rfl
@[simp] theorem itRng1_ap {as : List Arg} {e : En} : itRng1 as e = itK (rngK (gets as e)) e := rfl
@[simp] theorem itRng_ap {fs : Fn1 (List Arg)} {e : En} : itRng fs e = bnd (fs e) itRng1 := rfl
@[simp] theorem sFor_ap {it : Fn1 (List D)} {b : D → En → Option En} {f : FS} {e : En} : sFor it b f e = bndS (it e) (forL b f) := rfl
@[simp] theorem lcE_ap {g : List D → En → Option (Arg × En)} {own : List Nat} {acc : List D} {e0 : En} {a : Arg} {e3 : En} : lcE g own acc e0 a e3 = lcV g acc (a.get e3) (unw e0 e3 own) := rfl
@[simp] theorem lcT_ap {g : List D → En → Option (Arg × En)} {own : List Nat} {elt : Fn1 Arg} {acc : List D} {e0 : En} {c : Bool} {e2 : En} : lcT g own elt acc e0 c e2 = if c = true then bnd (elt e2) (lcE g own acc e0) else g acc (unw e0 e2 own) := rfl
@[simp] theorem fLc1_ap {own : List Nat} {b : D → En → Option En} {tt : Fn1 Bool} {elt : Fn1 Arg} {xs : List D} {e : En} : fLc1 own b tt elt xs e = if xs.length ≤ sizeLine ∧ okOwn e own = true then lcL own b tt elt xs [] e else none := rfl
@[simp] theorem fLc_ap {own : List Nat} {it : Fn1 (List D)} {b : D → En → Option En} {tt : Fn1 Bool} {elt : Fn1 Arg} {e : En} : fLc own it b tt elt e = bnd (it e) (fLc1 own b tt elt) := rfl
@[simp] theorem fYes_ap  {e : En} : fYes e = some (true, e) := rfl
@[simp] theorem fNo_ap  {e : En} : fNo e = some (none, e) := rfl
@[simp] theorem fPart1_ap {a : Arg} {e : En} : fPart1 a e = partK (a.get e) e := rfl
@[simp] theorem fPart_ap {fa : Fn1 Arg} {e : En} : fPart fa e = bnd (fa e) fPart1 := rfl
@[simp] theorem fSl3_ap {a : Arg} {lo hi : Option Int} {e : En} : fSl3 a lo hi e = ret (op1 (oSl lo hi) (a.get e)) e := rfl
@[simp] theorem fSl2_ap {fhi : Fn1 (Option Int)} {a : Arg} {lo : Option Int} {e : En} : fSl2 fhi a lo e = bnd (fhi e) (fSl3 a lo) := rfl
@[simp] theorem fSl1_ap {flo fhi : Fn1 (Option Int)} {a : Arg} {e : En} : fSl1 flo fhi a e = bnd (flo e) (fSl2 fhi a) := rfl
@[simp] theorem fSl_ap {fa : Fn1 Arg} {flo fhi : Fn1 (Option Int)} {e : En} : fSl fa flo fhi e = bnd (fa e) (fSl1 flo fhi) := rfl
@[simp] theorem fMt1_ap {i : Nat} {o : MtO} {as : List Arg} {e : En} : fMt1 i o as e = mtK i o e[i]? (gets as e) e := rfl
@[simp] theorem fMt_ap {i : Nat} {o : MtO} {fs : Fn1 (List Arg)} {e : En} : fMt i o fs e = mtG i o fs e[i]? e := rfl
@[simp] theorem itEn_ap {fs : Fn1 (List Arg)} {e : En} : itEn fs e = bnd (fs e) itEn1 := rfl
@[simp] theorem itDwn1_ap {as : List Arg} {e : En} : itDwn1 as e = itK (dwnK (gets as e)) e := rfl
@[simp] theorem itDwn_ap {fs : Fn1 (List Arg)} {e : En} : itDwn fs e = bnd (fs e) itDwn1 := rfl
@[simp] theorem sPar1_ap {i j : Nat} {as : List Arg} {e : En} : sPar1 i j as e = parK i j (gets as e) e := rfl
@[simp] theorem sPar_ap {i j : Nat} {fs : Fn1 (List Arg)} {e : En} : sPar i j fs e = bndS (fs e) (sPar1 i j) := rfl
@[simp] theorem fMkSt_ap {fs : Fn1 (List Arg)} {e : En} : fMkSt fs e = bnd (fs e) fMkSt1 := rfl
@[simp] theorem fStGet_ap {i k : Nat} {e : En} : fStGet i k e = stGetK k e[i]? e := rfl
@[simp] theorem fStLen_ap {i : Nat} {e : En} : fStLen i e = stLenK e[i]? e := rfl
@[simp] theorem fStIx_ap {i : Nat} {e : En} : fStIx i e = stIxK e[i]? e := rfl
@[simp] theorem sStSet1_ap {i k : Nat} {a : Arg} {e : En} : sStSet1 i k a e = stSetK i k e[i]? (a.get e) e := rfl
@[simp] theorem sStSet_ap {i k : Nat} {fa : Fn1 Arg} {e : En} : sStSet i k fa e = bndS (fa e) (sStSet1 i k) := rfl
@[simp] theorem stAt_1 {p c z : Int} : stAt 1 p c z = p := rfl
@[simp] theorem stAt_2 {p c z : Int} : stAt 2 p c z = c := rfl
@[simp] theorem stAt_3 {p c z : Int} : stAt 3 p c z = z := rfl
@[simp] theorem stPut_1 {ns : List Int} {p c z v : Int} : stPut 1 ns p c z v = .st ns v c z := rfl
@[simp] theorem stPut_2 {ns : List Int} {p c z v : Int} : stPut 2 ns p c z v = .st ns p v z := rfl
@[simp] theorem stPut_3 {ns : List Int} {p c z v : Int} : stPut 3 ns p c z v = .st ns p c v := rfl
@[simp] theorem isNon_non : isNon (.d .non) = true := rfl
@[simp] theorem isNon_int {i : Int} : isNon (.d (.int i)) = false := rfl
@[simp] theorem isNon_tup {i : List D} : isNon (.d (.tup i)) = false := rfl
@[simp] theorem isNon_str {i : Str} : isNon (.d (.str i)) = false := rfl
@[simp] theorem isNon_bl {i : Bool} : isNon (.d (.bl i)) = false := rfl
@[simp] theorem oTup_def {ss : List S} : oTup ss = (allD ss).bind fun ds => if ds.length ≤ sizeLine then some (.d (.tup ds)) else none := rfl
@[simp] theorem oLst_def {ss : List S} : oLst ss = (allD ss).bind fun ds => if ds.length ≤ sizeLine then some (.m (.lst ds)) else none := rfl
theorem sizeLine_eq : sizeLine = 16777216 := by decide +kernel
theorem sizeLine_ge {n : Nat} (h : n ≤ 1000000) : n ≤ sizeLine := by rw [sizeLine_eq]; omega
theorem sizeLine_gt {n : Nat} (h : n ≤ 1000000) : n < sizeLine := by rw [sizeLine_eq]; omega
@[simp] theorem fin1_m {A : List Nat} {i : Nat} {x : M} {e : En} : fin1 A i (.m x) e = if A.contains i = true then none else match e[i]? with
    | some (some (.m y)) => some (.m y)
    | _ => none := rfl
@[simp] theorem fins_m {A : List Nat} {i : Nat} {x : M} {ss : List S} {e : En} : fins A i (.m x :: ss) e = cons? (fin1 A i (.m x) e) (fins A (i + 1) ss e) := rfl
@[simp] theorem mulC64_two {i : Int} : mulC64 i 2 = true := by simp [mulC64]
@[simp] theorem mulC64_four {i : Int} : mulC64 i 4 = true := by simp [mulC64]
@[simp] theorem divC30_two {i : Int} : divC30 i 2 = true := by simp [divC30]
@[simp] theorem divC30_four {i : Int} : divC30 i 4 = true := by simp [divC30]
theorem log2_lt {n k : Nat} (h : n < 2 ^ k) (hk : 0 < k) : n.log2 < k := by
  by_cases z : n = 0
  · subst z; simpa using hk
  · exact (Nat.log2_lt z).mpr h
theorem mulC_of {i j : Int} (h1 : -(2 ^ 200) < i) (h2 : i < 2 ^ 200) (h3 : -(2 ^ 200) < j) (h4 : j < 2 ^ 200) : mulC i j = true := by
  have a : i.natAbs.log2 < 200 := log2_lt (by omega) (by omega)
  have b : j.natAbs.log2 < 200 := log2_lt (by omega) (by omega)
  exact decide_eq_true (by omega)
theorem divC_of {i j : Int} (h3 : 0 < j) (h4 : j < 2 ^ 200) : divC i j = true := by
  have b : j.natAbs.log2 < 200 := log2_lt (by omega) (by omega)
  exact decide_eq_true ⟨h3, by omega⟩
theorem smallI_of {i : Int} (h1 : -(2 ^ 62) ≤ i) (h2 : i < 2 ^ 62) : smallI i = true := decide_eq_true ⟨h1, h2⟩

/-! ### equality -/
mutual
def eqD : D → D → Bool
  | .non, .non => true
  | .bl a, .bl b => a == b
  | .bl a, .int j => (if a then 1 else 0) == j
  | .int i, .bl b => i == (if b then 1 else 0)
  | .int i, .int j => decide (i = j)
  | .str x, .str y => x == y
  | .tup xs, .tup ys => eqDs xs ys
  | _, _ => false
def eqDs : List D → List D → Bool
  | [], [] => true
  | x :: xs, y :: ys => eqD x y && eqDs xs ys
  | _, _ => false
end
mutual
theorem eqv_toPy : ∀ x y : D, PyData.eqv (toPy x) (toPy y) = eqD x y
  | .non, y => by cases y <;> simp [toPy, PyData.eqv, eqD]
  | .bl a, y => by cases y <;> simp [toPy, PyData.eqv, eqD]
  | .int i, y => by
    cases y with
    | int j => simp only [toPy, PyData.eqv, eqD]; rfl
    | _ => simp [toPy, PyData.eqv, eqD]
  | .str x, y => by cases y <;> simp [toPy, PyData.eqv, eqD]
  | .tup xs, y => by
    cases y with
    | tup ys => simpa [toPy, PyData.eqv, eqD] using eqv_toPys xs ys
    | _ => simp [toPy, PyData.eqv, eqD]
theorem eqv_toPys : ∀ x y : List D, PyData.eqvAll (toPys x) (toPys y) = eqDs x y
  | [], y => by cases y <;> simp [toPys, PyData.eqvAll, eqDs]
  | x :: xs, y => by
    cases y with
    | nil => simp [toPys, PyData.eqvAll, eqDs]
    | cons y ys => simp [toPys, PyData.eqvAll, eqDs, eqv_toPy x y, eqv_toPys xs ys]
end
mutual
/-- can be laid, and at most so deep -/
def shD : Nat → D → Bool
  | _, .non => true
  | _, .bl _ => true
  | _, .int _ => true
  | _, .str x => PyData.canLay0 (.str x)
  | 0, .tup _ => false
  | n + 1, .tup xs => shDs n xs
def shDs : Nat → List D → Bool
  | _, [] => true
  | n, x :: xs => shD n x && shDs n xs
end
mutual
theorem shD_ok : ∀ (n : Nat) (x : D), shD n x = true → (toPy x).canLay0 = true ∧ (toPy x).depth ≤ n
  | n, .non, _ => by simp [toPy, PyData.canLay0, PyData.depth]
  | n, .bl _, _ => by simp [toPy, PyData.canLay0, PyData.depth]
  | n, .int _, _ => by simp [toPy, PyData.canLay0, PyData.depth]
  | n, .str x, h => by
    refine ⟨?_, ?_⟩
    · simpa [shD, toPy] using h
    · simp [toPy, PyData.depth]
  | 0, .tup xs, h => by simp [shD] at h
  | n + 1, .tup xs, h => by
    have q := shDs_ok n xs (by simpa [shD] using h)
    refine ⟨?_, ?_⟩
    · simpa [toPy, PyData.canLay0] using q.1
    · simpa [toPy, PyData.depth] using q.2
theorem shDs_ok : ∀ (n : Nat) (x : List D), shDs n x = true → PyData.canLayAll0 (toPys x) = true ∧ PyData.depthAll (toPys x) ≤ n
  | n, [], _ => by simp [toPys, PyData.canLayAll0, PyData.depthAll]
  | n, x :: xs, h => by
    have h' : shD n x = true ∧ shDs n xs = true := by simpa [shDs] using h
    have a := shD_ok n x h'.1
    have b := shDs_ok n xs h'.2
    refine ⟨by simp [toPys, PyData.canLayAll0, a.1, b.1], ?_⟩
    have := Nat.max_le.mpr ⟨a.2, b.2⟩
    simpa [toPys, PyData.depthAll] using this
end
theorem shaped_of {x : D} (h : shD 8 x = true) : SeqAt.shaped (toPy x) = true := by
  have q := shD_ok 8 x h
  exact Bool.and_eq_true_iff.mpr ⟨q.1, decide_eq_true (by omega)⟩
theorem shaped_ofs {x : List D} (h : shDs 8 x = true) : SeqAt.shaped (.list (toPys x)) = true := by
  have q := shDs_ok 8 x h
  exact Bool.and_eq_true_iff.mpr ⟨by simpa [PyData.canLay0] using q.1, decide_eq_true (by simp [PyData.depth]; omega)⟩
@[simp] theorem oEq_d {x y : D} (hx : shD 8 x = true) (hy : shD 8 y = true) : oEq (.d x) (.d y) = some (.d (.bl (eqD x y))) := by
  simp [oEq, oEqB, pyOf, shaped_of hx, shaped_of hy, eqv_toPy]
@[simp] theorem oNe_d {x y : D} (hx : shD 8 x = true) (hy : shD 8 y = true) : oNe (.d x) (.d y) = some (.d (.bl (!eqD x y))) := by
  simp [oNe, oEqB, pyOf, shaped_of hx, shaped_of hy, eqv_toPy]
@[simp] theorem oEq_l {x y : List D} (hx : shDs 8 x = true) (hy : shDs 8 y = true) : oEq (.m (.lst x)) (.m (.lst y)) = some (.d (.bl (eqDs x y))) := by
  simp [oEq, oEqB, pyOf, shaped_ofs hx, shaped_ofs hy, PyData.eqv, eqv_toPys]
@[simp] theorem oNe_l {x y : List D} (hx : shDs 8 x = true) (hy : shDs 8 y = true) : oNe (.m (.lst x)) (.m (.lst y)) = some (.d (.bl (!eqDs x y))) := by
  simp [oNe, oEqB, pyOf, shaped_ofs hx, shaped_ofs hy, PyData.eqv, eqv_toPys]
@[simp] theorem shD_non {n : Nat} : shD n .non = true := by cases n <;> rfl
@[simp] theorem shD_bl {n : Nat} {i : Bool} : shD n (.bl i) = true := by cases n <;> rfl
@[simp] theorem shD_int {n : Nat} {i : Int} : shD n (.int i) = true := by cases n <;> rfl
@[simp] theorem shD_str {n : Nat} {i : Str} : shD n (.str i) = PyData.canLay0 (.str i) := by cases n <;> rfl
@[simp] theorem shD_tup {n : Nat} {xs : List D} : shD (n + 1) (.tup xs) = shDs n xs := rfl
@[simp] theorem shDs_nil {n : Nat} : shDs n [] = true := by cases n <;> rfl
@[simp] theorem shDs_cons {n : Nat} {x : D} {xs : List D} : shDs n (x :: xs) = (shD n x && shDs n xs) := by cases n <;> rfl
@[simp] theorem shDs_ints {n : Nat} {l : List Int} : shDs n (l.map D.int) = true := by
  induction l with
  | nil => simp
  | cons a l ih => simp [ih]
@[simp] theorem shDs_append {n : Nat} {a b : List D} : shDs n (a ++ b) = (shDs n a && shDs n b) := by
  induction a with
  | nil => simp
  | cons x a ih => simp [ih, Bool.and_assoc]
@[simp] theorem eqD_int {i j : Int} : eqD (.int i) (.int j) = decide (i = j) := rfl
@[simp] theorem eqD_bl {i j : Bool} : eqD (.bl i) (.bl j) = (i == j) := rfl
@[simp] theorem eqD_str {i j : Str} : eqD (.str i) (.str j) = (i == j) := rfl
@[simp] theorem eqD_non : eqD .non .non = true := rfl
@[simp] theorem eqD_tup {i j : List D} : eqD (.tup i) (.tup j) = eqDs i j := rfl
@[simp] theorem eqD_int_bl {i : Int} {b : Bool} : eqD (.int i) (.bl b) = (i == (if b then 1 else 0)) := rfl
@[simp] theorem eqD_bl_int {i : Int} {b : Bool} : eqD (.bl b) (.int i) = ((if b then 1 else 0) == i) := rfl
@[simp] theorem eqD_tup_int {i : List D} {j : Int} : eqD (.tup i) (.int j) = false := rfl
@[simp] theorem eqD_tup_non {i : List D} : eqD (.tup i) .non = false := rfl
@[simp] theorem eqD_non_tup {i : List D} : eqD .non (.tup i) = false := rfl
@[simp] theorem eqD_int_non {i : Int} : eqD (.int i) .non = false := rfl
@[simp] theorem eqD_non_int {i : Int} : eqD .non (.int i) = false := rfl
@[simp] theorem eqDs_nil : eqDs [] [] = true := rfl
@[simp] theorem eqDs_cons {x y : D} {xs ys : List D} : eqDs (x :: xs) (y :: ys) = (eqD x y && eqDs xs ys) := rfl
@[simp] theorem eqDs_cons_nil {x : D} {xs : List D} : eqDs (x :: xs) [] = false := rfl
@[simp] theorem eqDs_nil_cons {x : D} {xs : List D} : eqDs [] (x :: xs) = false := rfl
@[simp] theorem eqDs_ints {l m : List Int} : eqDs (l.map D.int) (m.map D.int) = decide (l = m) := by
  induction l generalizing m with
  | nil => cases m <;> simp
  | cons a l ih => cases m <;> simp [ih]
mutual
theorem eqD_self : ∀ x : D, eqD x x = true
  | .non => rfl
  | .bl a => by simp
  | .int a => by simp
  | .str a => by simp
  | .tup xs => by simpa using eqDs_self xs
theorem eqDs_self : ∀ x : List D, eqDs x x = true
  | [] => rfl
  | x :: xs => by simp [eqD_self x, eqDs_self xs]
end
@[simp] theorem getI_nat {α : Type} {xs : List α} {i : Nat} : getI xs (i : Int) = xs[i]? := by simp [getI]
theorem getI_last {α : Type} {xs : List α} {x : α} : getI (xs ++ [x]) (-1) = some x := by
  unfold getI
  rw [if_neg (by omega), if_pos (by simp; omega)]
  have : ((-1 : Int) + ((xs ++ [x]).length : Int)).toNat = xs.length := by simp; omega
  rw [this]
  simp
end QL
end

section
set_option Elab.async false
set_option linter.all false
set_option maxRecDepth 100000
namespace QL
open PySem PySem.Spec PyProof.Rows L2
/-! ### loops by what is kept -/
theorem for_inv {b : D → En → Option En} {f : FS} (P : Nat → En → Prop) : ∀ (xs : List D) (k0 : Nat) (e : En), P k0 e →
    (∀ k x e, xs[k]? = some x → P (k0 + k) e → ∃ e1 e2, b x e = some e1 ∧ f e1 = some (.nx e2) ∧ P (k0 + k + 1) e2) → ∃ e', forL b f xs e = some (.nx e') ∧ P (k0 + xs.length) e'
  | [], k0, e, h0, _ => ⟨e, rfl, h0⟩
  | x :: xs, k0, e, h0, st => by
    obtain ⟨e1, e2, h1, h2, h3⟩ := st 0 x e rfl h0
    obtain ⟨e', h4, h5⟩ := for_inv P xs (k0 + 1) e2 h3 fun k y e hk hp => by
      have := st (k + 1) y e (by simpa using hk) (by rwa [show k0 + (k + 1) = k0 + 1 + k by omega])
      rwa [show k0 + (k + 1) + 1 = k0 + 1 + k + 1 by omega] at this
    refine ⟨e', ?_, by rwa [show k0 + (x :: xs).length = k0 + 1 + xs.length by simp; omega]⟩
    rw [forL_cons, h1, forK_some, h2, whileK_nx, h4]
theorem rngL_len {lo : Int} {n : Nat} : (rngL lo n).length = n := by simp [rngL]
theorem rngL_get {lo : Int} {n k : Nat} {x : D} (h : (rngL lo n)[k]? = some x) : k < n ∧ x = .int (lo + k) := by
  unfold rngL at h
  rw [List.getElem?_map] at h
  by_cases hk : k < n
  · rw [List.getElem?_range hk] at h
    exact ⟨hk, by cases h; rfl⟩
  · rw [List.getElem?_eq_none (by simp; omega)] at h
    cases h
theorem rngL_zero {n : Nat} : rngL 0 n = (List.range n).map fun (k : Nat) => D.int (k : Int) := by
  unfold rngL
  simp
theorem dwnL_len {lo : Int} {n : Nat} : (dwnL lo n).length = n := by simp [dwnL]
theorem dwnL_get {lo : Int} {n k : Nat} {x : D} (h : (dwnL lo n)[k]? = some x) : k < n ∧ x = .int (lo - k) := by
  unfold dwnL at h
  rw [List.getElem?_map] at h
  by_cases hk : k < n
  · rw [List.getElem?_range hk] at h
    refine ⟨hk, ?_⟩
    cases h
    show D.int (lo + (k : Int) * (-1)) = _
    congr 1
    omega
  · rw [List.getElem?_eq_none (by simp; omega)] at h
    cases h
theorem for_list {b : D → En → Option En} {f : FS} {xs : List D} {e : En} (P : Nat → En → Prop) (h0 : P 0 e)
    (st : ∀ k x e, xs[k]? = some x → P k e → ∃ e1 e2, b x e = some e1 ∧ f e1 = some (.nx e2) ∧ P (k + 1) e2) : ∃ e', forL b f xs e = some (.nx e') ∧ P xs.length e' := by
  have := for_inv P xs 0 e h0 fun k x e hk hp => by simpa using st k x e hk (by simpa using hp)
  simpa using this
theorem for_rng {b : D → En → Option En} {f : FS} {lo : Int} {n : Nat} {e : En} (P : Nat → En → Prop) (h0 : P 0 e)
    (st : ∀ (k : Nat) e, k < n → P k e → ∃ e1 e2, b (.int (lo + k)) e = some e1 ∧ f e1 = some (.nx e2) ∧ P (k + 1) e2) : ∃ e', forL b f (rngL lo n) e = some (.nx e') ∧ P n e' := by
  have := for_list (b := b) (f := f) (xs := rngL lo n) P h0 fun k x e hk hp => by
    obtain ⟨h1, rfl⟩ := rngL_get hk
    exact st k e h1 hp
  rwa [rngL_len] at this
theorem for_dwn {b : D → En → Option En} {f : FS} {lo : Int} {n : Nat} {e : En} (P : Nat → En → Prop) (h0 : P 0 e)
    (st : ∀ (k : Nat) e, k < n → P k e → ∃ e1 e2, b (.int (lo - k)) e = some e1 ∧ f e1 = some (.nx e2) ∧ P (k + 1) e2) : ∃ e', forL b f (dwnL lo n) e = some (.nx e') ∧ P n e' := by
  have := for_list (b := b) (f := f) (xs := dwnL lo n) P h0 fun k x e hk hp => by
    obtain ⟨h1, rfl⟩ := dwnL_get hk
    exact st k e h1 hp
  rwa [dwnL_len] at this
theorem while_dec {tc : Fn1 Bool} {f : FS} (P : Nat → En → Prop) (Q : En → Prop)
    (h : ∀ m e, P m e → (∃ e', tc e = some (false, e') ∧ Q e') ∨ ∃ e' e'' m', tc e = some (true, e') ∧ f e' = some (.nx e'') ∧ m' < m ∧ P m' e'') :
    ∀ fuel m e, m < fuel → P m e → ∃ e', whileN tc f fuel e = some (.nx e') ∧ Q e'
  | 0, m, e, hf, _ => absurd hf (by omega)
  | n + 1, m, e, hf, hp => by
    rcases h m e hp with ⟨e', h1, h2⟩ | ⟨e', e'', m', h1, h2, h3, h4⟩
    · exact ⟨e', by show bndS (tc e) _ = _; rw [h1]; rfl, h2⟩
    · obtain ⟨z, h5, h6⟩ := while_dec P Q h n m' e'' (by omega) h4
      refine ⟨z, ?_, h6⟩
      show bndS (tc e) _ = _
      rw [h1, bndS_some, whileT_ap, if_pos rfl, h2, whileK_nx, h5]
theorem while0 {tc : Fn1 Bool} {f : FS} {e : En} (P : Nat → En → Prop) (Q : En → Prop) (m : Nat) (hm : m < 100000) (h0 : P m e)
    (h : ∀ m e, P m e → (∃ e', tc e = some (false, e') ∧ Q e') ∨ ∃ e' e'' m', tc e = some (true, e') ∧ f e' = some (.nx e'') ∧ m' < m ∧ P m' e'') :
    ∃ e', whileN tc f (fuel0 e) e = some (.nx e') ∧ Q e' := while_dec P Q h 100000 m e hm h0

/-! ### comprehensions by one item -/
def one3 (own : List Nat) (e0 e : En) (z : Option S) : Option (Option D × En) := match z with
  | some (.d y) => some (some y, unw e0 e own)
  | _ => none
@[simp] theorem one3_d {own : List Nat} {e0 e : En} {y : D} : one3 own e0 e (some (.d y)) = some (some y, unw e0 e own) := rfl
def bnd' {α β : Type} (x : Option (α × En)) (k : α → En → Option β) : Option β := match x with
  | some p => k p.1 p.2
  | none => none
@[simp] theorem bnd'_some {α β : Type} {a : α} {e : En} {k : α → En → Option β} : bnd' (some (a, e)) k = k a e := rfl
def one2 (own : List Nat) (elt : Fn1 Arg) (e0 : En) (c : Bool) (e : En) : Option (Option D × En) := if c = true then bnd' (elt e) fun a e3 => one3 own e0 e3 (a.get e3) else some (none, unw e0 e own)
@[simp] theorem one2_t {own : List Nat} {elt : Fn1 Arg} {e0 e : En} : one2 own elt e0 true e = bnd' (elt e) fun a e3 => one3 own e0 e3 (a.get e3) := rfl
@[simp] theorem one2_f {own : List Nat} {elt : Fn1 Arg} {e0 e : En} : one2 own elt e0 false e = some (none, unw e0 e own) := rfl
def one1 (own : List Nat) (tt : Fn1 Bool) (elt : Fn1 Arg) (e0 : En) (z : Option En) : Option (Option D × En) := match z with
  | some e1 => bnd' (tt e1) (one2 own elt e0)
  | none => none
@[simp] theorem one1_some {own : List Nat} {tt : Fn1 Bool} {elt : Fn1 Arg} {e0 e1 : En} : one1 own tt elt e0 (some e1) = bnd' (tt e1) (one2 own elt e0) := rfl
def lcOne (own : List Nat) (b : D → En → Option En) (tt : Fn1 Bool) (elt : Fn1 Arg) (e : En) (x : D) : Option (Option D × En) := one1 own tt elt e (b x (wipeE e own))
theorem lc_step {own : List Nat} {b : D → En → Option En} {tt : Fn1 Bool} {elt : Fn1 Arg} {x : D} {xs acc : List D} {e e' : En} {r : Option D} (h : lcOne own b tt elt e x = some (r, e')) :
    lcL own b tt elt (x :: xs) acc e = lcL own b tt elt xs (acc ++ r.toList) e' := by
  unfold lcOne at h
  rw [lcL_cons]
  cases hb : b x (wipeE e own) with
  | none => rw [hb] at h; cases h
  | some e1 =>
    rw [hb] at h
    rw [one1_some] at h
    rw [lcB_some]
    cases ht : tt e1 with
    | none => rw [ht] at h; cases h
    | some p =>
      obtain ⟨c, e2⟩ := p
      rw [ht, bnd'_some] at h
      rw [bnd_some]
      cases c with
      | false => cases h; simp
      | true =>
        rw [one2_t] at h
        rw [lcT_ap, if_pos rfl]
        cases he : elt e2 with
        | none => rw [he] at h; cases h
        | some p =>
          obtain ⟨a, e3⟩ := p
          rw [he, bnd'_some] at h
          rw [bnd_some, lcE_ap]
          cases hg : a.get e3 with
          | none => rw [hg] at h; cases h
          | some s =>
            cases s with
            | d y => rw [hg] at h; cases h; rfl
            | _ => rw [hg] at h; cases h
theorem lc_inv {own : List Nat} {b : D → En → Option En} {tt : Fn1 Bool} {elt : Fn1 Arg} (P : Nat → List D → En → Prop) : ∀ (xs : List D) (k0 : Nat) (acc : List D) (e : En), P k0 acc e →
    (∀ k x acc e, xs[k]? = some x → P (k0 + k) acc e → ∃ r e', lcOne own b tt elt e x = some (r, e') ∧ P (k0 + k + 1) (acc ++ r.toList) e') →
    ∃ acc' e', lcL own b tt elt xs acc e = some (.val (.m (.lst acc')), e') ∧ P (k0 + xs.length) acc' e'
  | [], k0, acc, e, h0, _ => ⟨acc, e, rfl, h0⟩
  | x :: xs, k0, acc, e, h0, st => by
    obtain ⟨r, e2, h1, h3⟩ := st 0 x acc e rfl h0
    obtain ⟨acc', e', h4, h5⟩ := lc_inv P xs (k0 + 1) _ e2 h3 fun k y a e hk hp => by
      have := st (k + 1) y a e (by simpa using hk) (by rwa [show k0 + (k + 1) = k0 + 1 + k by omega])
      rwa [show k0 + (k + 1) + 1 = k0 + 1 + k + 1 by omega] at this
    refine ⟨acc', e', ?_, by rwa [show k0 + (x :: xs).length = k0 + 1 + xs.length by simp; omega]⟩
    rw [lc_step h1, h4]
/-- the store stays -/
theorem lc_pure {own : List Nat} {b : D → En → Option En} {tt : Fn1 Bool} {elt : Fn1 Arg} {e : En} (r : D → Option D) : ∀ {xs : List D} {acc : List D},
    (∀ x ∈ xs, lcOne own b tt elt e x = some (r x, e)) → lcL own b tt elt xs acc e = some (.val (.m (.lst (acc ++ xs.filterMap r))), e)
  | [], acc, _ => by simp
  | x :: xs, acc, h => by
    rw [lc_step (h x (by simp)), lc_pure r fun y hy => h y (by simp [hy])]
    cases hr : r x <;> simp [hr]
theorem lc_map {own : List Nat} {b : D → En → Option En} {tt : Fn1 Bool} {elt : Fn1 Arg} {e : En} (r : D → D) {xs : List D}
    (h : ∀ x ∈ xs, lcOne own b tt elt e x = some (some (r x), e)) : lcL own b tt elt xs [] e = some (.val (.m (.lst (xs.map r))), e) := by
  rw [lc_pure (fun x => some (r x)) h, List.nil_append, List.filterMap_eq_map']
theorem lc_filter {own : List Nat} {b : D → En → Option En} {tt : Fn1 Bool} {elt : Fn1 Arg} {e : En} (p : D → Bool) {xs : List D}
    (h : ∀ x ∈ xs, lcOne own b tt elt e x = some (if p x = true then some x else none, e)) : lcL own b tt elt xs [] e = some (.val (.m (.lst (xs.filter p))), e) := by
  rw [lc_pure (fun x => if p x = true then some x else none) h, List.nil_append]
  congr 4
  induction xs with
  | nil => rfl
  | cons a l ih =>
    have := ih fun x hx => h x (by simp [hx])
    cases hp : p a <;> simp [hp, List.filterMap_cons, List.filter_cons] <;> simpa using this
/-! ### items at small places, slices -/
section
variable {α : Type} {a b c d f : α} {l : List α}
@[simp] theorem getI_0 : getI (a :: l) 0 = some a := rfl
@[simp] theorem getI_1 : getI (a :: b :: l) 1 = some b := rfl
@[simp] theorem getI_2 : getI (a :: b :: c :: l) 2 = some c := rfl
@[simp] theorem getI_3 : getI (a :: b :: c :: d :: l) 3 = some d := rfl
@[simp] theorem getI_4 : getI (a :: b :: c :: d :: f :: l) 4 = some f := rfl
@[simp] theorem getI_m1 : getI [a] (-1) = some a := rfl
@[simp] theorem getI_m12 : getI [a, b] (-1) = some b := rfl
@[simp] theorem getI_m13 : getI [a, b, c] (-1) = some c := rfl
end
theorem cutD_from {l : List D} {k : Nat} (h : k ≤ l.length) : QL.cutD l (some (k : Int)) none = l.drop k := by
  unfold QL.cutD
  rw [HT.sIx_nat, HT.sIx_none, Nat.min_eq_left h]
  exact List.take_of_length_le (by simp)
theorem cutD_to {l : List D} {k : Nat} (h : k ≤ l.length) : QL.cutD l none (some (k : Int)) = l.take k := by
  unfold QL.cutD
  rw [HT.sIx_nat, HT.sIx_none, Nat.min_eq_left h]
  simp
@[simp] theorem cutD_2 {a b : D} {l : List D} : QL.cutD (a :: b :: l) none (some 2) = [a, b] := by
  have := cutD_to (l := a :: b :: l) (k := 2) (by simp)
  simpa using this
end QL
end

section
set_option Elab.async false
set_option linter.all false
set_option maxRecDepth 100000
namespace QL
open PySem PySem.Spec PyProof.Rows L2

/-! ### tuples that the module's names stand for -/
theorem flV_mk {K : PySem.W.Frag} {H : Hp} {x : D} {v : V} (h : flV x = some v) : RD K H x v := by
  cases x with
  | non => cases h; exact .non
  | bl b => cases h; exact .bl b
  | int i => cases h; exact .int i
  | str z => cases h; exact .str z
  | tup xs => cases h
theorem flVs_mk {K : PySem.W.Frag} {H : Hp} : ∀ {ds : List D} {vs : List V}, flVs ds = some vs → RDs K H ds vs
  | [], vs, h => by cases h; exact .nil
  | x :: xs, vs, h => by
    unfold flVs at h
    split at h
    · rename_i h1 h2
      cases h
      exact .cons (flV_mk h1) (flVs_mk h2)
    · cases h
/-- the module's name x stands for a tuple of the values vs -/
def GTup (K : PySem.W.Frag) (mg : Str → Option Value) (x : Str) (vs : List V) : Prop := ∃ a, mg x = some (.ref a) ∧ ∀ H, SqT K H a vs
theorem qx_globT {X : Cx} {pos : Pos} {x : Str} {vs : List V} {ds : List D} (c : GTup X.K X.mg x vs) (hf : flVs ds = some vs) (hg : Gl X x) (hd : (x == ("__debug__" : Str)) = false := by decide) : PX X (.Name x pos) (fC (.tup ds)) := by
  obtain ⟨a, h1, h2⟩ := c
  exact PE.imp (pe_glob (v := .ref a) hg h1 rfl hd) fun σ H Q h => tE_C (fun H => .tup (h2 H) (flVs_mk hf)) h
/-! ### a hook with a word of one's own -/
abbrev AlE : Type := He.AlD × Bool
def obsE (fa : List He.Fa) (fn : List He.DefD) (ex : PySem.W.Frag → Bool) (K : PySem.W.Frag) : AlE := (He.obsD fa fn K, ex K)
def valE (fn : List He.DefD) : AlE := (He.valD fn, true)
def SaysE (fa : List He.Fa) (fn : List He.DefD) (ex : PySem.W.Frag → Bool) (K : PySem.W.Frag) : Prop := obsE fa fn ex K = valE fn
def obsEG (n : Nat) (fa : List He.Fa) (fn : List He.DefD) (ex : PySem.W.Frag → Bool) (g : Addr → Option Obj) : AlE := obsE fa fn ex (He.frG g (He.asD g n))
def hookE (n : Nat) (fa : List He.Fa) (fn : List He.DefD) (ex : PySem.W.Frag → Bool) : PySem.W.Hook where
  α := AlE
  obs := fun s => obsEG n fa fn ex s.heap.get?
  val := fun _ => valE fn
  says := fun _ h => ∃ K : PySem.W.Frag, K.In h ∧ SaysE fa fn ex K
  of := fun _ _ e => ⟨_, He.frG_in, e⟩
  keeps := fun _ _ _ ⟨K, hK, c⟩ k => ⟨K, PySem.W.Frag.In.keeps hK k, c⟩
theorem obsEG_eq {n : Nat} {fa : List He.Fa} {fn : List He.DefD} {ex : PySem.W.Frag → Bool} {g : Addr → Option Obj} {s : Shared} (h : ∀ a, g a = s.heap.get? a) : obsEG n fa fn ex g = (hookE n fa fn ex).obs s := by
  have e : g = s.heap.get? := funext h
  rw [e] <;> rfl
section
variable {fa : List He.Fa} {fn : List He.DefD} {ex : PySem.W.Frag → Bool} {K : PySem.W.Frag}
theorem SaysE.d (c : SaysE fa fn ex K) : He.SaysD fa fn K := congrArg (fun z : AlE => z.1) c
theorem SaysE.own (c : SaysE fa fn ex K) : ex K = true := congrArg (fun z : AlE => z.2) c
end
theorem gtup_ok {K : PySem.W.Frag} {h : Heap} {mg : Str → Option Value} {x : Str} {vs : List He.Dv} {ws : List V} (X : K.In h) (G : h.Ns mainGlobals mg) (c1 : (He.Fa.glo x).ok K = true) (c2 : He.tupB K x vs = true) (e : vs.map (He.Dv.v K) = ws) : GTup K mg x ws :=
  ⟨_, He.glo_ok X G c1, fun H => e ▸ He.tupB_ok c2 H⟩
/-! ### in, for data of any depth -/
theorem rm65 {k : Nat} {A : Around} (r : Room k A) : A.units + 65 < cLine := by have := r.un; omega
def rInDT (neg : Bool) (K : PySem.W.Frag) : R2 := fun x y H Q => ∃ d ds, Dp K H x d ∧ (Dp K H y (.tuple ds) ∨ Dp K H y (.list ds)) ∧ SeqAt.shaped d = true ∧ SeqAt.shaped (.list ds) = true ∧ Q (.bl (if neg then !(ds.any fun z => PyData.eqv z d) else ds.any fun z => PyData.eqv z d)) H
theorem op_inDT {X : Cx} (hu : X.A.units + 65 < cLine) : OpR X (compareOp .In) (rInDT false X.K) := by
  intro pins s σ H x y v u Q I rx ry h
  obtain ⟨d, ds, hd, he, sd, se, q⟩ := h
  obtain ⟨as, r1⟩ := Dp.reads I d x v hd rx
  rcases he with he | he
  · obtain ⟨bs, r2⟩ := Dp.reads I (.tuple ds) y u he ry
    exact SeqAt.in_tuple_reads r2 r1 (SeqAt.canLay_of_shaped se) (SeqAt.canLay_of_shaped sd) (room_in_shaped sd hu) ⟨.bl _, H, I, rfl, q⟩
  · obtain ⟨bs, r2⟩ := Dp.reads I (.list ds) y u he ry
    exact SeqAt.in_list_reads r2 r1 (SeqAt.canLay_of_shaped se) (SeqAt.canLay_of_shaped sd) (room_in_shaped sd hu) ⟨.bl _, H, I, rfl, q⟩
theorem op_ninDT {X : Cx} (hu : X.A.units + 65 < cLine) : OpR X (compareOp .NotIn) (rInDT true X.K) := by
  intro pins s σ H x y v u Q I rx ry h
  obtain ⟨d, ds, hd, he, sd, se, q⟩ := h
  obtain ⟨as, r1⟩ := Dp.reads I d x v hd rx
  rcases he with he | he
  · obtain ⟨bs, r2⟩ := Dp.reads I (.tuple ds) y u he ry
    exact SeqAt.notIn_tuple_reads r2 r1 (SeqAt.canLay_of_shaped se) (SeqAt.canLay_of_shaped sd) (room_in_shaped sd hu) ⟨.bl _, H, I, rfl, q⟩
  · obtain ⟨bs, r2⟩ := Dp.reads I (.list ds) y u he ry
    exact SeqAt.notIn_list_reads r2 r1 (SeqAt.canLay_of_shaped se) (SeqAt.canLay_of_shaped sd) (room_in_shaped sd hu) ⟨.bl _, H, I, rfl, q⟩
def lsOf : PyData → Option (List PyData)
  | .tuple ds => some ds
  | .list ds => some ds
  | _ => none
theorem lsOf_eq {d : PyData} {ds : List PyData} (h : lsOf d = some ds) : d = .tuple ds ∨ d = .list ds := by
  cases d <;> simp [lsOf] at h
  · exact .inr (by rw [h])
  · exact .inl (by rw [h])
def inT (neg : Bool) (x : Option PyData) (y : Option (List PyData)) : Option S := match x, y with
  | some d, some ds => if SeqAt.shaped d = true ∧ SeqAt.shaped (.list ds) = true then some (.d (.bl (if neg then !(ds.any fun z => PyData.eqv z d) else ds.any fun z => PyData.eqv z d))) else none
  | _, _ => none
def oInTB (neg : Bool) (x y : S) : Option S := inT neg (pyOf x) ((pyOf y).bind lsOf)
def oInT : S → S → Option S := oInTB false
def oNinT : S → S → Option S := oInTB true
theorem op2_inT {neg : Bool} {K : PySem.W.Frag} : Op2 K (rInDT neg K) (oInTB neg) := by
  intro H x y sx sy s Q e hx hy f
  unfold oInTB inT at e
  split at e
  · rename_i d ds h1 h2
    split at e
    · rename_i h3
      cases e
      cases q : pyOf sy with
      | none => rw [q] at h2; cases h2
      | some dy =>
        rw [q] at h2
        have h2 : lsOf dy = some ds := h2
        have r := rd_py q hy
        refine ⟨d, ds, rd_py h1 hx, ?_, h3.1, h3.2, f.bl⟩
        rcases lsOf_eq h2 with rfl | rfl
        · exact .inl r
        · exact .inr r
    · cases e
  · cases e
theorem qc_inT {X : Cx} {k : Nat} (r : Room k X.A) : CmpOk X .In oInT := ⟨_, op_inDT (rm65 r), op2_inT⟩
theorem qc_ninT {X : Cx} {k : Nat} (r : Room k X.A) : CmpOk X .NotIn oNinT := ⟨_, op_ninDT (rm65 r), op2_inT⟩
theorem any_py {x : D} : ∀ ds : List D, ((toPys ds).any fun z => PyData.eqv z (toPy x)) = ds.any fun z => eqD z x
  | [] => rfl
  | y :: ds => by rw [toPys, List.any_cons, List.any_cons, any_py ds, eqv_toPy]
@[simp] theorem oInT_tup {x : D} {ds : List D} (hx : shD 8 x = true) (hs : shDs 8 ds = true) : oInT (.d x) (.d (.tup ds)) = some (.d (.bl (ds.any fun z => eqD z x))) := by
  simp [oInT, oInTB, lsOf, pyOf, toPy, inT, shaped_of hx, shaped_ofs hs, any_py]
@[simp] theorem oNinT_tup {x : D} {ds : List D} (hx : shD 8 x = true) (hs : shDs 8 ds = true) : oNinT (.d x) (.d (.tup ds)) = some (.d (.bl (!(ds.any fun z => eqD z x)))) := by
  simp [oNinT, oInTB, lsOf, pyOf, toPy, inT, shaped_of hx, shaped_ofs hs, any_py]
@[simp] theorem oInT_lst {x : D} {ds : List D} (hx : shD 8 x = true) (hs : shDs 8 ds = true) : oInT (.d x) (.m (.lst ds)) = some (.d (.bl (ds.any fun z => eqD z x))) := by
  simp [oInT, oInTB, lsOf, pyOf, inT, shaped_of hx, shaped_ofs hs, any_py]
@[simp] theorem oNinT_lst {x : D} {ds : List D} (hx : shD 8 x = true) (hs : shDs 8 ds = true) : oNinT (.d x) (.m (.lst ds)) = some (.d (.bl (!(ds.any fun z => eqD z x)))) := by
  simp [oNinT, oInTB, lsOf, pyOf, inT, shaped_of hx, shaped_ofs hs, any_py]
end QL
end

section
set_option Elab.async false
set_option linter.all false
set_option maxRecDepth 100000
namespace QL
open PySem PySem.Spec PyProof.Rows L2
/-! ### a slot's own list, locked while an expression runs -/
def lk1 (s t : Option S) : Prop := ∀ x, t = some (.lk x) → s = some (.lk x)
def lkS : En → En → Prop
  | s :: es, t :: ts => lk1 s t ∧ lkS es ts
  | _, [] => True
  | [], _ :: _ => False
@[simp] theorem lk1_same {s : Option S} : lk1 s s = True := eq_true fun _ h => h
@[simp] theorem lk1_d {s : Option S} {x : D} : lk1 s (some (.d x)) = True := eq_true fun _ h => by cases h
@[simp] theorem lk1_m {s : Option S} {x : M} : lk1 s (some (.m x)) = True := eq_true fun _ h => by cases h
@[simp] theorem lk1_none {s : Option S} : lk1 s none = True := eq_true fun _ h => by cases h
@[simp] theorem lkS_cons {s t : Option S} {es ts : En} : lkS (s :: es) (t :: ts) = (lk1 s t ∧ lkS es ts) := rfl
@[simp] theorem lkS_nil {es : En} : lkS es [] = True := by cases es <;> rfl
theorem lkS_get : ∀ {es ts : En} {i : Nat} {x : M}, lkS es ts → ts[i]? = some (some (.lk x)) → es[i]? = some (some (.lk x))
  | s :: es, t :: ts, 0, x, h, e => by
    simp at e
    have := h.1 x e
    simp [this]
  | s :: es, t :: ts, i + 1, x, h, e => by
    have := lkS_get (es := es) (ts := ts) (i := i) (x := x) h.2 (by simpa using e)
    simpa using this
  | es, [], i, x, h, e => by simp at e
  | [], t :: ts, i, x, h, e => h.elim
def notLk : Arg → Bool
  | .val (.lk _) => false
  | _ => true
@[simp] theorem notLk_slot {i : Nat} : notLk (.slot i) = true := rfl
@[simp] theorem notLk_d {x : D} : notLk (.val (.d x)) = true := rfl
@[simp] theorem notLk_m {x : M} : notLk (.val (.m x)) = true := rfl
/-- what may be locked: a list, a dict, an instance -/
def lkb : M → Bool
  | .lst _ => true
  | .dk _ => true
  | .ins _ _ => true
  | .dt _ => true
  | _ => false
@[simp] theorem lkb_lst {xs : List D} : lkb (.lst xs) = true := rfl
@[simp] theorem lkb_dk {kvs : List (Key × D)} : lkb (.dk kvs) = true := rfl
@[simp] theorem lkb_dt {kvs : List (D × D)} : lkb (.dt kvs) = true := rfl
@[simp] theorem lkb_ins {c : Str} {fs : List (Str × F)} : lkb (.ins c fs) = true := rfl
/-! many cells locked -/
def Lk (H H1 : Hp) (L : List (Addr × HO)) : Prop := (∀ b, (∀ p ∈ L, b ≠ p.1) → H1 b = H b) ∧ ∀ p ∈ L, ∃ o, H1 p.1 = some (.frz o p.2)
def Ulk (H H1 : Hp) (L : List (Addr × HO)) : Prop := (∀ b, (∀ p ∈ L, b ≠ p.1) → H1 b = H b) ∧ ∀ p ∈ L, H1 p.1 = some p.2
def Cells (H : Hp) (L : List (Addr × HO)) : Prop := (∀ p ∈ L, H p.1 = some p.2 ∧ Mut (some p.2)) ∧ (L.map (·.1)).Nodup
theorem Inv_locks {X : Cx} {pins : List (Addr × Obj)} {σ : L2.St} {s : Shared} : ∀ (L : List (Addr × HO)) {H : Hp}, Inv X pins σ H s → Cells H L → ∃ H1, Lk H H1 L ∧ Inv X pins σ H1 s
  | [], H, I, _ => ⟨H, ⟨fun _ _ => rfl, fun p z => by cases z⟩, I⟩
  | (d, u) :: L, H, I, ⟨c, nd⟩ => by
    obtain ⟨hd, mu⟩ := c (d, u) (by simp)
    obtain ⟨od, I1⟩ := I.lock hd mu
    simp only [List.map_cons, List.nodup_cons] at nd
    have ne : ∀ p ∈ L, p.1 ≠ d := fun p hp z => nd.1 (List.mem_map.mpr ⟨p, hp, z⟩)
    obtain ⟨H1, ⟨l1, l2⟩, I2⟩ := Inv_locks L I1 ⟨fun p hp => by rw [upd_ne (ne p hp)]; exact c p (by simp [hp]), nd.2⟩
    refine ⟨H1, ⟨fun b hb => ?_, fun p hp => ?_⟩, I2⟩
    · rw [l1 b fun p hp => hb p (by simp [hp]), upd_ne (hb (d, u) (by simp))]
    · rcases List.mem_cons.mp hp with z | z
      · subst z
        exact ⟨od, by rw [l1 d fun p hp z => ne p hp z.symm, upd_same]⟩
      · exact l2 p z
theorem Inv_unlocks {X : Cx} {pins : List (Addr × Obj)} {σ : L2.St} {s : Shared} : ∀ (L : List (Addr × HO)) {H : Hp}, Inv X pins σ H s → (∀ p ∈ L, ∃ o, H p.1 = some (.frz o p.2)) → (∀ p ∈ L, ∀ o' u', X.H_0 p.1 ≠ some (.frz o' u')) → (L.map (·.1)).Nodup → ∃ H1, Ulk H H1 L ∧ Inv X pins σ H1 s
  | [], H, I, _, _, _ => ⟨H, ⟨fun _ _ => rfl, fun p z => by cases z⟩, I⟩
  | (d, u) :: L, H, I, c, n, nd => by
    obtain ⟨o, hd⟩ := c (d, u) (by simp)
    have I1 := I.unlock hd (n (d, u) (by simp))
    simp only [List.map_cons, List.nodup_cons] at nd
    have ne : ∀ p ∈ L, p.1 ≠ d := fun p hp z => nd.1 (List.mem_map.mpr ⟨p, hp, z⟩)
    obtain ⟨H1, ⟨l1, l2⟩, I2⟩ := Inv_unlocks L I1 (fun p hp => by rw [upd_ne (ne p hp)]; exact c p (by simp [hp])) (fun p hp => n p (by simp [hp])) nd.2
    refine ⟨H1, ⟨fun b hb => ?_, fun p hp => ?_⟩, I2⟩
    · rw [l1 b fun p hp => hb p (by simp [hp]), upd_ne (hb (d, u) (by simp))]
    · rcases List.mem_cons.mp hp with z | z
      · subst z
        show H1 d = _
        rw [l1 d fun p hp z => ne p hp z.symm, upd_same]
      · exact l2 p z
def tLocksE (t : TE) : TE := fun σ H Q => ∃ L, Cells H L ∧ ∀ H1, Lk H H1 L → t σ H1 fun v H' => (∀ p ∈ L, H' p.1 = H1 p.1) ∧ ∀ H2, Ulk H' H2 L → Q v H2
theorem pe_locks {X : Cx} {e : Expr} {t : TE} (h : PE X e t) : PE X e (tLocksE t) := by
  refine ⟨fun pins s σ H Q I hw => ?_⟩
  obtain ⟨L, c, hw⟩ := hw
  obtain ⟨H1, l1, I1⟩ := Inv_locks L I c
  refine thn (h.run pins s σ _ _ I1 (hw H1 l1)) fun v s1 ⟨x, H', I2, r, e2, q⟩ => ?_
  obtain ⟨H2, u2, I3⟩ := Inv_unlocks L I2 (fun p hp => by rw [e2 p hp]; exact l1.2 p hp) (fun p hp => I.nofrz (c.1 p hp).1 (c.1 p hp).2) c.2
  exact ⟨x, H2, I3, r, q H2 u2⟩
/-! the cells of a thing -/
theorem RF.cells {K : PySem.W.Frag} {H : Hp} {x : F} {v : V} {bs : List Addr} (h : RF K H x v bs) : ∃ L : List (Addr × HO), L.map (·.1) = bs ∧ (∀ p ∈ L, H p.1 = some p.2 ∧ Mut (some p.2) ∧ ∀ C dx f, p.2 ≠ .ins C dx f) ∧
    (∀ H1, Pst H H1 → (∀ p ∈ L, ∃ o, H1 p.1 = some (.frz o p.2)) → RFL K H1 x v) ∧ ∀ H1, Pst H H1 → (∀ p ∈ L, H1 p.1 = some p.2) → RF K H1 x v bs := by
  cases x with
  | d x =>
    obtain ⟨r, rfl⟩ := h
    exact ⟨[], rfl, (fun p z => by cases z), fun H1 p _ => RD.pst p r, fun H1 p _ => ⟨RD.pst p r, rfl⟩⟩
  | l xs =>
    obtain ⟨b, vs, e, rfl, hb, r⟩ := h
    refine ⟨[(b, .lst vs)], rfl, fun p z => ?_, fun H1 p z => ?_, fun H1 p z => ⟨b, vs, e, rfl, z (b, .lst vs) (by simp), RDs.pst p r⟩⟩
    · rw [List.mem_singleton.mp z]; exact ⟨hb, trivial, fun _ _ _ z => by cases z⟩
    · obtain ⟨o, ho⟩ := z (b, .lst vs) (by simp)
      exact ⟨b, vs, o, e, ho, RDs.pst p r⟩
  | k kvs =>
    obtain ⟨b, ws, e, rfl, hb, r⟩ := h
    refine ⟨[(b, .dK ws)], rfl, fun p z => ?_, fun H1 p z => ?_, fun H1 p z => ⟨b, ws, e, rfl, z (b, .dK ws) (by simp), r.pst p⟩⟩
    · rw [List.mem_singleton.mp z]; exact ⟨hb, trivial, fun _ _ _ z => by cases z⟩
    · obtain ⟨o, ho⟩ := z (b, .dK ws) (by simp)
      exact ⟨b, ws, o, e, ho, r.pst p⟩
  | t kvs =>
    obtain ⟨b, ws, e, rfl, hb, r⟩ := h
    refine ⟨[(b, DE b ws)], rfl, fun p z => ?_, fun H1 p z => ?_, fun H1 p z => ⟨b, ws, e, rfl, z (b, DE b ws) (by simp), r.pst p⟩⟩
    · rw [List.mem_singleton.mp z]; exact ⟨hb, trivial, fun _ _ _ z => by cases z⟩
    · obtain ⟨o, ho⟩ := z (b, DE b ws) (by simp)
      exact ⟨b, ws, o, e, ho, r.pst p⟩
theorem RFs.cells {K : PySem.W.Frag} {H : Hp} : ∀ {fs : List (Str × F)} {fvs : List (Str × V)} {bs : List Addr}, RFs K H fs fvs bs → ∃ L : List (Addr × HO), L.map (·.1) = bs ∧ (∀ p ∈ L, H p.1 = some p.2 ∧ Mut (some p.2) ∧ ∀ C dx f, p.2 ≠ .ins C dx f) ∧
    (∀ H1, Pst H H1 → (∀ p ∈ L, ∃ o, H1 p.1 = some (.frz o p.2)) → RFLs K H1 fs fvs) ∧ ∀ H1, Pst H H1 → (∀ p ∈ L, H1 p.1 = some p.2) → RFs K H1 fs fvs bs
  | [], [], bs, h => by
    have h' : bs = [] := h
    subst h'
    exact ⟨[], rfl, (fun p z => by cases z), fun H1 p _ => trivial, fun H1 p _ => rfl⟩
  | (x, f) :: fs, (y, v) :: vs, bs, h => by
    obtain ⟨e, b1, b2, rfl, r1, r2⟩ := h
    obtain ⟨L1, q1, q2, q3, q4⟩ := r1.cells
    obtain ⟨L2, u1, u2, u3, u4⟩ := RFs.cells r2
    refine ⟨L1 ++ L2, by rw [List.map_append, q1, u1], fun p z => ?_, fun H1 p z => ⟨e, q3 H1 p fun p hp => z p (by simp [hp]), u3 H1 p fun p hp => z p (by simp [hp])⟩, fun H1 p z => ⟨e, b1, b2, rfl, q4 H1 p fun p hp => z p (by simp [hp]), u4 H1 p fun p hp => z p (by simp [hp])⟩⟩
    rcases List.mem_append.mp z with z | z
    · exact q2 p z
    · exact u2 p z
  | [], _ :: _, _, h => h.elim
  | _ :: _, [], _, h => h.elim
theorem lock_of {K : PySem.W.Frag} {H : Hp} {x : M} {v : V} {P : Addr → Prop} (l : lkb x = true) (h : RM K H x v P) : ∃ L : List (Addr × HO), Cells H L ∧ (∀ p ∈ L, P p.1) ∧ L ≠ [] ∧
    (∀ H1, Pst H H1 → (∀ p ∈ L, ∃ o, H1 p.1 = some (.frz o p.2)) → RL K H1 x v) ∧ ∀ H1 P1, Pst H H1 → (∀ p ∈ L, H1 p.1 = some p.2) → (∀ p ∈ L, P1 p.1) → RM K H1 x v P1 := by
  cases x with
  | lst xs =>
    obtain ⟨a, vs, rfl, pa, ha, r⟩ := h
    refine ⟨[(a, .lst vs)], ⟨fun p z => ?_, by simp⟩, fun p z => ?_, by simp, fun H1 p e => ?_, fun H1 P1 p e w => ⟨a, vs, rfl, w (a, .lst vs) (by simp), e (a, .lst vs) (by simp), RDs.pst p r⟩⟩
    · rw [List.mem_singleton.mp z]; exact ⟨ha, trivial⟩
    · rw [List.mem_singleton.mp z]; exact pa
    · obtain ⟨o, ho⟩ := e (a, .lst vs) (by simp)
      exact ⟨a, vs, rfl, .inl ⟨o, ho⟩, RDs.pst p r⟩
  | dk kvs =>
    obtain ⟨a, ws, rfl, pa, ha, r⟩ := h
    refine ⟨[(a, .dK ws)], ⟨fun p z => ?_, by simp⟩, fun p z => ?_, by simp, fun H1 p e => ?_, fun H1 P1 p e w => ⟨a, ws, rfl, w (a, .dK ws) (by simp), e (a, .dK ws) (by simp), r.pst p⟩⟩
    · rw [List.mem_singleton.mp z]; exact ⟨ha, trivial⟩
    · rw [List.mem_singleton.mp z]; exact pa
    · obtain ⟨o, ho⟩ := e (a, .dK ws) (by simp)
      exact ⟨a, ws, o, rfl, ho, r.pst p⟩
  | st ns p c z => cases l
  | row fs => cases l
  | dt kvs =>
    obtain ⟨a, ws, rfl, pa, ha, r⟩ := h
    refine ⟨[(a, DE a ws)], ⟨fun p z => ?_, by simp⟩, fun p z => ?_, by simp, fun H1 p e => ?_, fun H1 P1 p e w => ⟨a, ws, rfl, w (a, DE a ws) (by simp), e (a, DE a ws) (by simp), r.pst p⟩⟩
    · rw [List.mem_singleton.mp z]; exact ⟨ha, trivial⟩
    · rw [List.mem_singleton.mp z]; exact pa
    · obtain ⟨o, ho⟩ := e (a, DE a ws) (by simp)
      exact ⟨a, ws, o, rfl, ho, r.pst p⟩
  | ins c fs =>
    obtain ⟨a, dx, fvs, bs, rfl, pa, ha, r, pb, nd⟩ := h
    obtain ⟨L, q1, q2, q3, q4⟩ := r.cells
    have na : a ∉ bs := fun z => by
      rw [← q1] at z
      obtain ⟨p, hp, e⟩ := List.mem_map.mp z
      obtain ⟨c1, c2, c3⟩ := q2 p hp
      rw [e, ha] at c1
      exact c3 _ _ _ (Option.some.inj c1).symm
    refine ⟨(a, .ins (He.ga K c) dx fvs) :: L, ⟨fun p z => ?_, by rw [List.map_cons, q1]; exact List.nodup_cons.mpr ⟨na, nd⟩⟩, fun p z => ?_, by simp, fun H1 p e => ?_, fun H1 P1 p e w => ⟨a, dx, fvs, bs, rfl, w (a, .ins (He.ga K c) dx fvs) (by simp), e (a, .ins (He.ga K c) dx fvs) (by simp), q4 H1 p fun p hp => e p (by simp [hp]), fun b hb => ?_, nd⟩⟩
    · rcases List.mem_cons.mp z with z | z
      · rw [z]; exact ⟨ha, trivial⟩
      · exact ⟨(q2 p z).1, (q2 p z).2.1⟩
    · rcases List.mem_cons.mp z with z | z
      · rw [z]; exact pa
      · exact pb _ (by rw [← q1]; exact List.mem_map.mpr ⟨p, z, rfl⟩)
    · obtain ⟨o, ho⟩ := e (a, .ins (He.ga K c) dx fvs) (by simp)
      exact ⟨a, dx, fvs, o, rfl, ho, q3 H1 p fun p hp => e p (by simp [hp])⟩
    · rw [← q1] at hb
      obtain ⟨p, hp, rfl⟩ := List.mem_map.mp hb
      exact w p (by simp [hp])
open Classical in
noncomputable def lockR (j : Nat) (xs : M) (e a : Option (Option S)) (es : En) (r : Arg) (e1 : En) : Option (Arg × En) :=
  if a = some (some (.lk xs)) ∧ lkS es (e1.set j (some (.m xs))) ∧ notLk r = true then some (r, e1.set j (some (.m xs))) else none
noncomputable def lockK (j : Nat) (xs : M) (es : En) (z : Option (Arg × En)) : Option (Arg × En) := match z with
  | some p => lockR j xs none p.2[j]? es p.1 p.2
  | none => none
@[simp] theorem lockK_some {j : Nat} {xs : M} {es : En} {r : Arg} {e1 : En} : lockK j xs es (some (r, e1)) = lockR j xs none e1[j]? es r e1 := rfl
@[simp] theorem lockR_ok {j : Nat} {xs : M} {es e1 : En} {r : Arg} (h1 : lkS es (e1.set j (some (.m xs)))) (h2 : notLk r = true) : lockR j xs none (some (some (.lk xs))) es r e1 = some (r, e1.set j (some (.m xs))) := by
  unfold lockR
  rw [if_pos ⟨rfl, h1, h2⟩]
noncomputable def lockG (j : Nat) (f : Fn1 Arg) (x : Option (Option S)) (e : En) : Option (Arg × En) := match x with
  | some (some (.m xs)) => if lkb xs = true then lockK j xs e (f (e.set j (some (.lk xs)))) else none
  | _ => none
@[simp] theorem lockG_m {j : Nat} {f : Fn1 Arg} {xs : M} {e : En} : lockG j f (some (some (.m xs))) e = if lkb xs = true then lockK j xs e (f (e.set j (some (.lk xs)))) else none := rfl
noncomputable def fLock (j : Nat) (f : Fn1 Arg) : Fn1 Arg := fun e => lockG j f e[j]? e
@[simp] theorem fLock_ap {j : Nat} {f : Fn1 Arg} {e : En} : fLock j f e = lockG j f e[j]? e := rfl
theorem qx_lock {X : Cx} {e : Expr} {f : Fn1 Arg} (j : Nat) (h : PX X e f) : PX X e (fLock j f) := PE.imp (pe_locks h) fun σ H Q hq => by
  obtain ⟨env, W, a, env2, re, ef, k⟩ := hq
  unfold fLock lockG at ef
  split at ef
  · rename_i xs hx
    split at ef
    case isFalse => cases ef
    rename_i hlk
    unfold lockK at ef
    split at ef
    · rename_i p hp
      obtain ⟨a1, env1⟩ := p
      unfold lockR at ef
      split at ef
      · rename_i cnd
        obtain ⟨c1, c2, c3⟩ := cnd
        cases ef
        obtain ⟨v0, hσ, rm⟩ := re.slots j _ hx
        obtain ⟨L, cs, wL, _, toL, toM⟩ := lock_of hlk rm
        refine ⟨L, cs, fun H1 lk => ?_⟩
        have nd : ∀ i, ∀ p ∈ L, W i p.1 → i = j := fun i p hp w => re.apart i j p.1 w (wL p hp)
        have lj : j < env.length := by
          by_cases z : j < env.length
          · exact z
          · rw [List.getElem?_eq_none (by omega)] at hx; cases hx
        have off : ∀ {H' : Hp} {b : Addr} {o : HO}, (∀ p ∈ L, ∃ u, H' p.1 = some u ∧ (Mut (some u) ∨ ∃ o x, u = .frz o x ∧ Mut (some x))) → H' b = some o → ¬ Mut (some o) → (∀ o' x, o = .frz o' x → ¬ Mut (some x)) → ∀ p ∈ L, b ≠ p.1 := fun {H' b o} c hb n1 n2 p hp z => by
          obtain ⟨u, q1, q2⟩ := c p hp
          rw [z, q1] at hb
          cases hb
          rcases q2 with q2 | ⟨o', x, rfl, q2⟩
          · exact n1 q2
          · exact n2 o' x rfl q2
        have inL : ∀ {b : Addr}, (¬ ∀ p ∈ L, b ≠ p.1) → ∃ p ∈ L, b = p.1 := fun {b} n => by
          apply Classical.byContradiction
          intro m
          exact n fun p hp z => m ⟨p, hp, z⟩
        have cH : ∀ p ∈ L, ∃ u, H p.1 = some u ∧ (Mut (some u) ∨ ∃ o x, u = .frz o x ∧ Mut (some x)) := fun p hp => ⟨_, (cs.1 p hp).1, .inl (cs.1 p hp).2⟩
        have pst2 : ∀ {Ha Hb : Hp}, (∀ p ∈ L, ∃ u, Ha p.1 = some u ∧ (Mut (some u) ∨ ∃ o x, u = .frz o x ∧ Mut (some x))) → (∀ b, (∀ p ∈ L, b ≠ p.1) → Hb b = Ha b) → Pst Ha Hb := fun {Ha Hb} c e b zs hb => by
          rcases hb with hb | ⟨o, hb⟩
          · exact .inl (by rw [e b (off c hb (fun z => z) (fun _ _ z => by cases z))]; exact hb)
          · exact .inr ⟨o, by rw [e b (off c hb (fun z => z) (fun _ _ z => by cases z; exact fun z => z))]; exact hb⟩
        have p1 : Pst H H1 := pst2 cH lk.1
        have re1 : RE X.K H1 σ (env.set j (some (.lk xs))) fun i b => W i b ∧ i ≠ j := by
          refine ⟨fun i s hs => ?_, fun i i' b h1 h2 => re.apart i i' b h1.1 h2.1, fun i b h1 => ?_, by rw [List.length_set]; exact re.len⟩
          · by_cases hij : i = j
            · subst hij
              rw [List.getElem?_set_self lj] at hs
              cases hs
              exact ⟨v0, hσ, toL _ p1 lk.2⟩
            · rw [List.getElem?_set_ne (fun z => hij z.symm)] at hs
              obtain ⟨v, q1, q2⟩ := re.slots i s hs
              refine ⟨v, q1, ?_⟩
              have ne : ∀ b, W i b → ∀ p ∈ L, b ≠ p.1 := fun b w p hp z => hij (nd i p hp (z ▸ w))
              cases s with
              | d x => exact RD.pst p1 q2
              | m x => exact (RM.move p1 (RM.imp q2 (P' := fun b => W i b ∧ i ≠ j) fun b w => ⟨w, hij⟩) fun b o w hb => by rw [lk.1 b (ne b w.1)]; exact hb)
              | lk x =>
                refine RL.move p1 q2 fun b o u' hb => ?_
                have nb : ∀ p ∈ L, b ≠ p.1 := fun p hp z => by
                  rw [z, (cs.1 p hp).1] at hb
                  have m := (cs.1 p hp).2
                  rw [Option.some.inj hb] at m
                  exact m
                rw [lk.1 b nb]
                exact hb
          · have nb : ∀ p ∈ L, b ≠ p.1 := fun p hp z => h1.2 (nd i p hp (z ▸ h1.1))
            rw [lk.1 b nb]
            exact re.mu i b h1.1
        refine ⟨_, _, a1, env1, re1, hp, fun v H' W' F r' ra tm t => ?_⟩
        have no1 : ∀ p ∈ L, ¬ Own (fun i b => W i b ∧ i ≠ j) p.1 := fun p hp ⟨i, w, n⟩ => n (nd i p hp w)
        have hd' : ∀ p ∈ L, H' p.1 = H1 p.1 := fun p hp => by
          obtain ⟨o, ho⟩ := lk.2 p hp
          rw [ho]
          exact t.frame p.1 _ ho (no1 p hp)
        refine ⟨hd', fun H2 ul => ?_⟩
        have cH' : ∀ p ∈ L, ∃ u, H' p.1 = some u ∧ (Mut (some u) ∨ ∃ o x, u = .frz o x ∧ Mut (some x)) := fun p hp => by
          obtain ⟨o, ho⟩ := lk.2 p hp
          exact ⟨_, (hd' p hp).trans ho, .inr ⟨o, _, rfl, (cs.1 p hp).2⟩⟩
        have ndW : ∀ i b, W' i b → ∀ p ∈ L, b ≠ p.1 := fun i b w p hp z => by
          have := r'.mu i b w
          obtain ⟨o, ho⟩ := lk.2 p hp
          rw [z, hd' p hp, ho] at this
          exact this
        have ndF : ∀ b, F b → ∀ p ∈ L, b ≠ p.1 := fun b w p hp z => by
          have := (tm b w).2
          obtain ⟨o, ho⟩ := lk.2 p hp
          rw [z, hd' p hp, ho] at this
          exact this
        have p2 : Pst H' H2 := pst2 cH' ul.1
        have p3 : Pst H H2 := fun b zs hb => p2 b zs (re1.pst t b zs (p1 b zs hb))
        have keep : ∀ {s : S} {v : V} {P : Addr → Prop}, RS X.K H' s v P → (∀ b, P b → ∀ p ∈ L, b ≠ p.1) → (∀ x, s ≠ .lk x) → RS X.K H2 s v P := fun {s v P} q2 ne nl => by
          cases s with
          | d x => exact RD.pst p2 q2
          | m x => exact RM.move p2 q2 fun b o w hb => by rw [ul.1 b (ne b w)]; exact hb
          | lk x => exact absurd rfl (nl x)
        have lj1 : j < env1.length := by rw [r'.len, ← re1.len, List.length_set]; exact lj
        refine k v _ (fun i b => W' i b ∨ (i = j ∧ ∃ p ∈ L, b = p.1)) F ⟨fun i s hs => ?_, fun i i' b h1 h2 => ?_, fun i b h1 => ?_, by rw [List.length_set]; exact r'.len⟩ ?_ (fun b hb => ⟨fun ⟨i, w⟩ => ?_, by rw [ul.1 b (ndF b hb)]; exact (tm b hb).2⟩) ⟨fun b o hb nb => ?_, fun b hb => ?_, fun b hb nb => ?_⟩
        · by_cases hij : i = j
          · subst hij
            rw [List.getElem?_set_self lj1] at hs
            cases hs
            exact ⟨v0, hσ, toM _ _ p3 ul.2 fun p hp => .inr ⟨rfl, p, hp, rfl⟩⟩
          · have hs' := hs
            rw [List.getElem?_set_ne (fun z => hij z.symm)] at hs
            obtain ⟨v', q1, q2⟩ := r'.slots i s hs
            cases s with
            | lk x =>
              have h5 := lkS_get c2 hs'
              obtain ⟨v2, q3, q4⟩ := re.slots i _ h5
              refine ⟨v2, q3, ?_⟩
              exact RL.move p3 q4 fun b o u' hb => by
                have nb : ∀ p ∈ L, b ≠ p.1 := fun p hp z => by
                  rw [z, (cs.1 p hp).1] at hb
                  have m := (cs.1 p hp).2
                  rw [Option.some.inj hb] at m
                  exact m
                rw [ul.1 b nb]
                refine t.frame b _ (by rw [lk.1 b nb]; exact hb) fun ⟨i', w, _⟩ => ?_
                have := re.mu i' b w
                rw [hb] at this
                exact this
            | d x => exact ⟨v', q1, RS.imp (keep q2 (fun b w => ndW i b w) (fun x => by simp)) fun b w => .inl w⟩
            | m x => exact ⟨v', q1, RS.imp (keep q2 (fun b w => ndW i b w) (fun x => by simp)) fun b w => .inl w⟩
        · rcases h1 with h1 | ⟨rfl, p, hp, rfl⟩ <;> rcases h2 with h2 | ⟨rfl, p2, hp2, e2⟩
          · exact r'.apart i i' b h1 h2
          · exact absurd e2 (ndW i b h1 p2 hp2)
          · exact absurd rfl (ndW i' _ h2 p hp)
          · rfl
        · rcases h1 with h1 | ⟨_, p, hp, rfl⟩
          · rw [ul.1 b (ndW i b h1)]; exact r'.mu i b h1
          · rw [ul.2 p hp]; exact (cs.1 p hp).2
        · cases a1 with
          | slot i => exact ra
          | val s =>
            refine keep (show RS X.K H' s v F from ra) ndF fun x z => ?_
            subst z
            cases c3
        · rcases w with w | ⟨_, p, hp, w⟩
          · exact (tm b hb).1 ⟨i, w⟩
          · exact ndF b hb p hp w
        · have bd : ∀ p ∈ L, b ≠ p.1 := fun p hp z => nb ⟨j, z ▸ wL p hp⟩
          rw [ul.1 b bd]
          exact t.frame b o (by rw [lk.1 b bd]; exact hb) fun ⟨i, w, _⟩ => nb ⟨i, w⟩
        · by_cases bd : ∀ p ∈ L, b ≠ p.1
          · rw [ul.1 b bd]
            exact t.dom b (by rw [lk.1 b bd]; exact hb)
          · obtain ⟨p, hp, rfl⟩ := inL bd
            rw [ul.2 p hp]; simp
        · have bd : ∀ p ∈ L, b ≠ p.1 := fun p hp z => nb ⟨j, z ▸ wL p hp⟩
          have h5 := t.out b (by rw [lk.1 b bd]; exact hb) fun ⟨i, w, _⟩ => nb ⟨i, w⟩
          refine ⟨fun ⟨i, w⟩ => ?_, h5.2⟩
          rcases w with w | ⟨_, p, hp, w⟩
          · exact h5.1 ⟨i, w⟩
          · exact bd p hp w
      · cases ef
    · cases ef
  · cases ef
end QL
end

section
set_option Elab.async false
set_option linter.all false
set_option maxRecDepth 100000
namespace QL
open PySem PySem.Spec PyProof.Rows L2
/-! ### rows of a dict -/
def dVal (kvs : List (Key × D)) (k : Key) : Option D := (kvs.find? fun kv => decide (kv.1 = k)).map (·.2)
def dPut (kvs : List (Key × D)) (k : Key) (v : D) : List (Key × D) :=
  if (kvs.any fun kv => decide (kv.1 = k)) = true then kvs.map (fun kv => if kv.1 = k then (kv.1, v) else kv) else kvs ++ [(k, v)]
def dDrop (kvs : List (Key × D)) (k : Key) : List (Key × D) := kvs.filter fun kv => decide (kv.1 ≠ k)
section
variable {K : PySem.W.Frag} {H : Hp}
theorem RKs.nil : RKs K H [] [] := ⟨rfl, .nil⟩
theorem RKs.cons {k : Key} {x : D} {v : V} {kvs : List (Key × D)} {ws : List (Key × V)} (h : RD K H x v) (t : RKs K H kvs ws) : RKs K H ((k, x) :: kvs) ((k, v) :: ws) :=
  ⟨by simp [t.1], .cons h t.2⟩
theorem RKs.uncons {k : Key} {x : D} {kvs : List (Key × D)} {ws : List (Key × V)} (h : RKs K H ((k, x) :: kvs) ws) : ∃ v ws', ws = (k, v) :: ws' ∧ RD K H x v ∧ RKs K H kvs ws' := by
  obtain ⟨h1, h2⟩ := h
  cases ws with
  | nil => simp at h1
  | cons p ws =>
    obtain ⟨k', v⟩ := p
    simp at h1
    obtain ⟨rfl, h1⟩ := h1
    cases h2 with
    | cons r t => exact ⟨v, ws, rfl, r, h1, t⟩
theorem RKs.unnil {ws : List (Key × V)} (h : RKs K H [] ws) : ws = [] := by
  have := h.1
  simp at this
  exact this
theorem RKs.length : ∀ {kvs : List (Key × D)} {ws : List (Key × V)}, RKs K H kvs ws → ws.length = kvs.length := fun {kvs ws} h => by
  have := congrArg List.length h.1
  simpa using this
/-- what stands at a key -/
theorem RKs.val : ∀ {kvs : List (Key × D)} {ws : List (Key × V)} (k : Key), RKs K H kvs ws → (dVal kvs k = none ∧ valV ws k = none) ∨ ∃ x v, dVal kvs k = some x ∧ valV ws k = some v ∧ RD K H x v
  | [], ws, k, h => by
    rw [h.unnil]
    exact .inl ⟨rfl, rfl⟩
  | (k', x) :: kvs, ws, k, h => by
    obtain ⟨v, ws', rfl, r, t⟩ := h.uncons
    by_cases e : k' = k
    · exact .inr ⟨x, v, by simp [dVal, e], valV_pos e, r⟩
    · rw [valV_neg e]
      have e2 : dVal ((k', x) :: kvs) k = dVal kvs k := by simp [dVal, List.find?_cons, e]
      rw [e2]
      exact RKs.val k t
theorem RKs.any : ∀ {kvs : List (Key × D)} {ws : List (Key × V)} (k : Key), RKs K H kvs ws → (ws.any fun kv => decide (kv.1 = k)) = kvs.any fun kv => decide (kv.1 = k)
  | [], ws, k, h => by rw [h.unnil]; rfl
  | (k', x) :: kvs, ws, k, h => by
    obtain ⟨v, ws', rfl, r, t⟩ := h.uncons
    rw [List.any_cons, List.any_cons, RKs.any k t]
theorem RKs.repl {y : D} {u : V} (ry : RD K H y u) : ∀ {kvs : List (Key × D)} {ws : List (Key × V)} (k : Key), RKs K H kvs ws → RKs K H (kvs.map fun kv => if kv.1 = k then (kv.1, y) else kv) (ws.map fun kv => if kv.1 = k then (kv.1, u) else kv)
  | [], ws, k, h => by rw [h.unnil]; exact .nil
  | (k', x) :: kvs, ws, k, h => by
    obtain ⟨v, ws', rfl, r, t⟩ := h.uncons
    have ih := RKs.repl ry k t
    by_cases e : k' = k
    · simp only [List.map_cons, e, if_true]
      exact .cons ry ih
    · simp only [List.map_cons, if_neg e]
      exact .cons r ih
theorem RKs.snoc {y : D} {u : V} (ry : RD K H y u) (k : Key) : ∀ {kvs : List (Key × D)} {ws : List (Key × V)}, RKs K H kvs ws → RKs K H (kvs ++ [(k, y)]) (ws ++ [(k, u)])
  | [], ws, h => by rw [h.unnil]; exact .cons ry .nil
  | (k', x) :: kvs, ws, h => by
    obtain ⟨v, ws', rfl, r, t⟩ := h.uncons
    exact .cons r (RKs.snoc ry k t)
theorem RKs.put {y : D} {u : V} (ry : RD K H y u) {kvs : List (Key × D)} {ws : List (Key × V)} (k : Key) (h : RKs K H kvs ws) : RKs K H (dPut kvs k y) (putK ws k u) := by
  unfold dPut putK
  rw [h.any k]
  split
  · exact h.repl ry k
  · exact h.snoc ry k
theorem RKs.drop : ∀ {kvs : List (Key × D)} {ws : List (Key × V)} (k : Key), RKs K H kvs ws → RKs K H (dDrop kvs k) (dropK ws k)
  | [], ws, k, h => by rw [h.unnil]; exact .nil
  | (k', x) :: kvs, ws, k, h => by
    obtain ⟨v, ws', rfl, r, t⟩ := h.uncons
    have ih := RKs.drop k t
    unfold dDrop dropK at *
    by_cases e : k' = k
    · simpa [List.filter_cons, e] using ih
    · simpa [List.filter_cons, e] using ih.cons r
end
/-! ### keys -/
def keyOf : S → Option Key
  | .d (.int i) => some (.inl i)
  | .d (.str z) => some (.inr z)
  | _ => none
@[simp] theorem keyOf_int {i : Int} : keyOf (.d (.int i)) = some (.inl i) := rfl
@[simp] theorem keyOf_str {i : Str} : keyOf (.d (.str i)) = some (.inr i) := rfl
theorem keyOf_rd {K : PySem.W.Frag} {H : Hp} {s : S} {v : V} {k : Key} (h : keyOf s = some k) (r : Rd1 K H s v) : v = kV k := by
  unfold keyOf at h
  split at h
  · cases h; exact rd_int r
  · cases h; exact rd_str r
  · cases h
def dictOf : S → Option (List (Key × D))
  | .m (.dk kvs) => some kvs
  | .lk (.dk kvs) => some kvs
  | _ => none
@[simp] theorem dictOf_m {kvs : List (Key × D)} : dictOf (.m (.dk kvs)) = some kvs := rfl
@[simp] theorem dictOf_lk {kvs : List (Key × D)} : dictOf (.lk (.dk kvs)) = some kvs := rfl
theorem dictOf_rd {K : PySem.W.Frag} {H : Hp} {s : S} {v : V} {kvs : List (Key × D)} (h : dictOf s = some kvs) (r : Rd1 K H s v) : ∃ a ws, v = .ref a ∧ Rd H a (.dK ws) ∧ RKs K H kvs ws := by
  unfold dictOf at h
  obtain ⟨P, r⟩ := r
  split at h
  · cases h
    obtain ⟨a, ws, e, _, ha, rk⟩ := r
    exact ⟨a, ws, e, .inl ha, rk⟩
  · cases h
    obtain ⟨a, ws, o, e, ha, rk⟩ := r
    exact ⟨a, ws, e, .inr ⟨o, ha⟩, rk⟩
  · cases h
/-! ### d[k], k in d -/
def dg2 (kvs : Option (List (Key × D))) (k : Option Key) : Option S := match kvs, k with
  | some kvs, some k => (dVal kvs k).map .d
  | _, _ => none
@[simp] theorem dg2_some {kvs : List (Key × D)} {k : Key} : dg2 (some kvs) (some k) = (dVal kvs k).map .d := rfl
def oDGet (x y : S) : Option S := dg2 (dictOf x) (keyOf y)
@[simp] theorem oDGet_def {x y : S} : oDGet x y = dg2 (dictOf x) (keyOf y) := rfl
def rDGet : R2 := fun x y H Q => ∃ a v, x = .ref a ∧ DGet H a y (some v) ∧ Q v H
theorem op2_dget {K : PySem.W.Frag} : Op2 K rDGet oDGet := by
  intro H x y sx sy s Q e hx hy f
  unfold oDGet dg2 at e
  split at e
  · rename_i kvs k h1 h2
    obtain ⟨a, ws, rfl, ha, rk⟩ := dictOf_rd h1 hx
    have ey := keyOf_rd h2 hy
    subst ey
    rcases rk.val k with ⟨q1, q2⟩ | ⟨d, v, q1, q2, r⟩
    · rw [q1] at e; cases e
    · rw [q1] at e
      cases e
      exact ⟨a, v, rfl, .inl ⟨ws, k, ha, rfl, q2.symm⟩, f.imm r⟩
  · cases e
theorem qx_dget {X : Cx} {o i : Expr} {pos : Pos} {fo fi : Fn1 Arg} (hu : X.A.units + 1 < cLine) (ho : PX X o fo) (hi : PX X i fi) (hs : NoSl i := by intro _ _; rfl) : PX X (.Subscript o i pos) (fBin oDGet fo fi) :=
  PE.imp (pe_dget hu ho hi hs) fun σ H Q h => bin_read op2_dget h
def di2 (neg : Bool) (kvs : Option (List (Key × D))) (k : Option Key) : Option S := match kvs, k with
  | some kvs, some k => some (.d (.bl (if neg then !(dVal kvs k).isSome else (dVal kvs k).isSome)))
  | _, _ => none
@[simp] theorem di2_some {neg : Bool} {kvs : List (Key × D)} {k : Key} : di2 neg (some kvs) (some k) = some (.d (.bl (if neg then !(dVal kvs k).isSome else (dVal kvs k).isSome))) := rfl
def oDIn (y x : S) : Option S := di2 false (dictOf x) (keyOf y)
def oDNin (y x : S) : Option S := di2 true (dictOf x) (keyOf y)
@[simp] theorem oDIn_def {x y : S} : oDIn y x = di2 false (dictOf x) (keyOf y) := rfl
@[simp] theorem oDNin_def {x y : S} : oDNin y x = di2 true (dictOf x) (keyOf y) := rfl
def rDIn (neg : Bool) : R2 := fun y x H Q => ∃ a o, x = .ref a ∧ DGet H a y o ∧ Q (.bl (if neg then !o.isSome else o.isSome)) H
theorem op2_din {neg : Bool} {K : PySem.W.Frag} : Op2 K (rDIn neg) (fun y x => di2 neg (dictOf x) (keyOf y)) := by
  intro H y x sy sx s Q e hy hx f
  simp only [di2] at e
  split at e
  · rename_i kvs k h1 h2
    cases e
    obtain ⟨a, ws, rfl, ha, rk⟩ := dictOf_rd h1 hx
    have ey := keyOf_rd h2 hy
    subst ey
    refine ⟨a, valV ws k, rfl, .inl ⟨ws, k, ha, rfl, rfl⟩, ?_⟩
    have e2 : (valV ws k).isSome = (dVal kvs k).isSome := by
      rcases rk.val k with ⟨q1, q2⟩ | ⟨d, v, q1, q2, r⟩ <;> rw [q1, q2] <;> rfl
    rw [e2]
    exact f.bl
  · cases e
theorem qx_din {X : Cx} {a b : Expr} {pos : Pos} {fa fb : Fn1 Arg} (hu : X.A.units + 1 < cLine) (ha : PX X a fa) (hb : PX X b fb) (hm : behindInMarks .In b = false := by rfl) : PX X (.Compare a [.In] [b] pos) (fBin oDIn fa fb) :=
  PE.imp (pe_cmp (pc_din hu ha hb) hm) fun σ H Q h => bin_read (r := rDIn false) (op2_din (neg := false)) h
theorem qx_dnin {X : Cx} {a b : Expr} {pos : Pos} {fa fb : Fn1 Arg} (hu : X.A.units + 1 < cLine) (ha : PX X a fa) (hb : PX X b fb) (hm : behindInMarks .NotIn b = false := by rfl) : PX X (.Compare a [.NotIn] [b] pos) (fBin oDNin fa fb) :=
  PE.imp (pe_cmp (pc_dnotin hu ha hb) hm) fun σ H Q h => bin_read (r := rDIn true) (op2_din (neg := true)) h
theorem qt_din {X : Cx} {a b : Expr} {pos : Pos} {fa fb : Fn1 Arg} (hu : X.A.units + 1 < cLine) (ha : PX X a fa) (hb : PX X b fb) (hm : behindInMarks .In b = false := by rfl) : PXT X (.Compare a [.In] [b] pos) (fTB (fBin oDIn fa fb)) :=
  PT.imp (pt_cmp (pc_din hu ha hb) hm) fun σ H Q h => bin_read (r := rDIn false) (op2_din (neg := false)) (tb_read h)
theorem qt_dnin {X : Cx} {a b : Expr} {pos : Pos} {fa fb : Fn1 Arg} (hu : X.A.units + 1 < cLine) (ha : PX X a fa) (hb : PX X b fb) (hm : behindInMarks .NotIn b = false := by rfl) : PXT X (.Compare a [.NotIn] [b] pos) (fTB (fBin oDNin fa fb)) :=
  PT.imp (pt_cmp (pc_dnotin hu ha hb) hm) fun σ H Q h => bin_read (r := rDIn true) (op2_din (neg := true)) (tb_read h)
/-! ### a new dict -/
theorem qx_dnew {X : Cx} {pos : Pos} : PX X (.Dict [] [] pos) (fun e => some (.val (.m (.dk [])), e)) := PE.imp pe_dnewK fun σ H Q h => by
  obtain ⟨env, W, a, env', re, e, k⟩ := h
  cases e
  intro p hp
  have sm : Same H (upd H p (.dK [])) := same_new hp
  refine k (.ref p) _ W (fun b => b = p) (re.same sm) ⟨p, [], rfl, rfl, upd_same, RKs.nil⟩ (fun b z => ?_) (Tr.same sm fun b z => by rw [z]; exact hp)
  subst z
  exact ⟨re.fresh hp, by rw [upd_same]; trivial⟩
def fDNew : Fn1 Arg := fun e => some (.val (.m (.dk [])), e)
@[simp] theorem fDNew_ap {e : En} : fDNew e = some (.val (.m (.dk [])), e) := rfl
/-! ### a slot's thing is written -/
theorem pst_write {H : Hp} {a : Addr} {o : HO} (hm : Mut (H a)) : Pst H (upd H a o) := fun b zs h => by
  have nb : b ≠ a := fun z => by
    subst z
    rcases h with h | ⟨o', h⟩ <;> rw [h] at hm <;> exact hm
  rcases h with h | ⟨o', h⟩
  · exact .inl (by rw [upd_ne nb]; exact h)
  · exact .inr ⟨o', by rw [upd_ne nb]; exact h⟩
theorem Tr.write {W : Ow} {H : Hp} {i : Nat} {a : Addr} {o : HO} (hw : W i a) : Tr W H W (upd H a o) F0 :=
  ⟨fun b x e n => by
    have nb : b ≠ a := fun z => n ⟨i, by rw [z]; exact hw⟩
    rw [upd_ne nb]; exact e, fun b e => by
    by_cases z : b = a
    · rw [z, upd_same]; simp
    · rw [upd_ne z]; exact e, fun b _ n => ⟨n, fun z => z⟩⟩
theorem RE.setM {K : PySem.W.Frag} {H : Hp} {σ : Sl} {env : En} {W : Ow} {i : Nat} {a : Addr} {o : HO} {x y : M} {v : V} (r : RE K H σ env W) (hi : env[i]? = some (some (.m x))) (hσ : σ[i]? = some (some v)) (hW : W i a) (hm : Mut (H a)) (ho : Mut (some o))
    (ry : RM K (upd H a o) y v (W i)) : RE K (upd H a o) σ (env.set i (some (.m y))) W := by
  have p := pst_write (o := o) hm
  have lj : i < env.length := by
    by_cases z : i < env.length
    · exact z
    · rw [List.getElem?_eq_none (by omega)] at hi; cases hi
  refine ⟨fun j s hs => ?_, r.apart, fun j b w => ?_, by rw [List.length_set]; exact r.len⟩
  · by_cases hij : j = i
    · subst hij
      rw [List.getElem?_set_self lj] at hs
      cases hs
      exact ⟨v, hσ, ry⟩
    · rw [List.getElem?_set_ne (fun z => hij z.symm)] at hs
      obtain ⟨v', q1, q2⟩ := r.slots j s hs
      refine ⟨v', q1, ?_⟩
      cases s with
      | d x => exact RD.pst p q2
      | m x =>
        exact RM.move p q2 fun b o' w hb => by
          have nb : b ≠ a := fun z => hij (r.apart j i b w (by rw [z]; exact hW))
          rw [upd_ne nb]; exact hb
      | lk x =>
        exact RL.move p q2 fun b o' u hb => by
          have nb : b ≠ a := fun z => by rw [z] at hb; rw [hb] at hm; exact hm
          rw [upd_ne nb]; exact hb
  · by_cases z : b = a
    · rw [z, upd_same]; exact ho
    · rw [upd_ne z]; exact r.mu j b w
/-! ### d[k] = v -/
def dpK (i : Nat) (x : Option (Option S)) (k : Option Key) (v : Option S) (e : En) : Option Res := match x, k, v with
  | some (some (.m (.dk kvs))), some k, some (.d y) => if kvs.length < sizeLine then some (.nx (e.set i (some (.m (.dk (dPut kvs k y)))))) else none
  | _, _, _ => none
@[simp] theorem dpK_dk {i : Nat} {kvs : List (Key × D)} {k : Key} {y : D} {e : En} : dpK i (some (some (.m (.dk kvs)))) (some k) (some (.d y)) e = if kvs.length < sizeLine then some (.nx (e.set i (some (.m (.dk (dPut kvs k y)))))) else none := rfl
def keyS (s : Option S) : Option Key := match s with
  | some s => keyOf s
  | none => none
@[simp] theorem keyS_some {s : S} : keyS (some s) = keyOf s := rfl
def sDPut2 (i : Nat) (v k : Arg) (e : En) : Option Res := dpK i e[i]? (keyS (k.get e)) (v.get e) e
def dG {α : Type} (x : Option (Option S)) (r : Option α) : Option α := match x with
  | some (some (.m (.dk _))) => r
  | _ => none
@[simp] theorem dG_dk {α : Type} {kvs : List (Key × D)} {r : Option α} : dG (some (some (.m (.dk kvs)))) r = r := rfl
theorem dG_eq {α : Type} {x : Option (Option S)} {r : Option α} {y : α} (h : dG x r = some y) : (∃ kvs, x = some (some (.m (.dk kvs)))) ∧ r = some y := by
  unfold dG at h
  split at h
  · exact ⟨⟨_, rfl⟩, h⟩
  · cases h
def sDPut1 (i : Nat) (fk : Fn1 Arg) (v : Arg) (e : En) : Option Res := dG e[i]? (bndS (fk e) (sDPut2 i v))
def sDPutQ (i : Nat) (fv fk : Fn1 Arg) : FS := fun e => bndS (fv e) (sDPut1 i fk)
@[simp] theorem sDPut2_ap {i : Nat} {v k : Arg} {e : En} : sDPut2 i v k e = dpK i e[i]? (keyS (k.get e)) (v.get e) e := rfl
@[simp] theorem sDPut1_ap {i : Nat} {fk : Fn1 Arg} {v : Arg} {e : En} : sDPut1 i fk v e = dG e[i]? (bndS (fk e) (sDPut2 i v)) := rfl
@[simp] theorem sDPutQ_ap {i : Nat} {fv fk : Fn1 Arg} {e : En} : sDPutQ i fv fk e = bndS (fv e) (sDPut1 i fk) := rfl
theorem dk_of {K : PySem.W.Frag} {H : Hp} {σ : Sl} {env : En} {W : Ow} {i : Nat} {kvs : List (Key × D)} (r : RE K H σ env W) (hi : env[i]? = some (some (.m (.dk kvs)))) : ∃ a ws, σ[i]? = some (some (.ref a)) ∧ W i a ∧ H a = some (.dK ws) ∧ RKs K H kvs ws := by
  obtain ⟨v, q1, a, ws, rfl, w, ha, rk⟩ := r.slots i _ hi
  exact ⟨a, ws, q1, w, ha, rk⟩
section
variable {X : Cx} {i : Nat} {x : Str} {p pos pos' apos cpos : Pos}
theorem qs_dput {ek ev : Expr} {fk fv : Fn1 Arg} (hu : X.A.units + 1 < cLine) (hv : PX X ev fv) (hk : PX X ek fk) (hN : X.N[i]? = some x := by rfl) (hvi : Vis X.env.scope x := by first | exact Or.inl rfl | exact Or.inr (Or.inl rfl) | exact Or.inr (Or.inr rfl))
    (hd : (x == ("__debug__" : Str)) = false := by decide) (hcd : (x == ("__classdict__" : Str)) = false := by decide) (hs : swapsWith ev (some (.Subscript (.Name x p) ek pos')) pos.line X.env = pure false := by rfl) :
    PXS X (.Assign [.Subscript (.Name x p) ek pos'] ev pos) [] (sDPutQ i fv fk) :=
  PS.imp (ps_dput hu (pe_var hN hvi hd hcd) hk hv hs) fun D σ H h => by
  obtain ⟨env, W, r, re, e, pq⟩ := h
  obtain ⟨a1, env1, ea1, e⟩ := bndS_eq e
  obtain ⟨⟨kvs0, hi0⟩, e⟩ := dG_eq e
  obtain ⟨a2, env2, ea2, e⟩ := bndS_eq e
  unfold sDPut2 dpK at e
  split at e
  · rename_i kvs k y hi hkey hval
    split at e
    · rename_i hl
      cases e
      refine ⟨env, W, a1, env1, re, ea1, fun v H1 W1 F1 r1 ra1 tm1 t1 => ?_⟩
      obtain ⟨a, ws0, hσ, _⟩ := dk_of r1 hi0
      refine ⟨.ref a, hσ, env1, W1, a2, env2, r1, ea2, fun z H2 W2 F2 r2 ra2 tm2 t2 => ?_⟩
      obtain ⟨a', ws, hσ', w, ha, rk⟩ := dk_of r2 hi
      rw [hσ] at hσ'
      cases hσ'
      obtain ⟨P1, rv⟩ := (ra1.keep r1.mu t2 tm1).read r2 hval
      cases q : a2.get env2 with
      | none => rw [q] at hkey; cases hkey
      | some sk =>
        rw [q] at hkey
        have ek : z = kV k := keyOf_rd hkey (ra2.read r2 q)
        subst ek
        have mu : Mut (H2 a) := by rw [ha]; trivial
        refine ⟨a, _, rfl, DPut.k ha (by rw [rk.length]; exact hl), pq σ _ W2 (r2.setM hi hσ w mu trivial ?_) (((t1.trans0 t2).trans0 (Tr.write w)).less fun _ z => z) Eqs.refl⟩
        exact ⟨a, _, rfl, w, upd_same, (rk.put rv k).pst (pst_write mu)⟩
    · cases e
  · cases e
/-! ### d.get(k, x) -/
def dgetR (kvs : Option (Option S)) (ks : Option (List S)) (e : En) : Option (Arg × En) := match kvs, ks with
  | some (some (.m (.dk kvs))), some [k, .d z] => match keyOf k with
    | some k => some (.val (.d ((dVal kvs k).getD z)), e)
    | none => none
  | _, _ => none
@[simp] theorem dgetR_int {kvs : List (Key × D)} {k : Int} {z : D} {e : En} : dgetR (some (some (.m (.dk kvs)))) (some [.d (.int k), .d z]) e = some (.val (.d ((dVal kvs (.inl k)).getD z)), e) := rfl
def fDGet2b (i : Nat) (k z : Arg) (e : En) : Option (Arg × En) := dgetR e[i]? (gets [k, z] e) e
def fDGet2a (i : Nat) (fz : Fn1 Arg) (k : Arg) (e : En) : Option (Arg × En) := bnd (fz e) (fDGet2b i k)
def fDGet2 (i : Nat) (fk fz : Fn1 Arg) : Fn1 Arg := fun e => dG e[i]? (bnd (fk e) (fDGet2a i fz))
@[simp] theorem fDGet2b_ap {i : Nat} {k z : Arg} {e : En} : fDGet2b i k z e = dgetR e[i]? (gets [k, z] e) e := rfl
@[simp] theorem fDGet2a_ap {i : Nat} {fz : Fn1 Arg} {k : Arg} {e : En} : fDGet2a i fz k e = bnd (fz e) (fDGet2b i k) := rfl
@[simp] theorem fDGet2_ap {i : Nat} {fk fz : Fn1 Arg} {e : En} : fDGet2 i fk fz e = dG e[i]? (bnd (fk e) (fDGet2a i fz)) := rfl
theorem qx_dget2 {ek ez : Expr} {fk fz : Fn1 Arg} (hu : X.A.units + 1 < cLine) (hk : PX X ek fk) (hz : PX X ez fz) (m : M2 X (.Name x p) "get" apos ek ez cpos) (hN : X.N[i]? = some x := by rfl) (hvi : Vis X.env.scope x := by first | exact Or.inl rfl | exact Or.inr (Or.inl rfl) | exact Or.inr (Or.inr rfl))
    (hd : (x == ("__debug__" : Str)) = false := by decide) (hcd : (x == ("__classdict__" : Str)) = false := by decide) : PX X (.Call (.Attribute (.Name x p) "get" apos) [ek, ez] [] cpos) (fDGet2 i fk fz) :=
  PE.imp (pe_dget2 hu (pe_var hN hvi hd hcd) hk hz m) fun σ H Q h => by
  obtain ⟨env, W, a0, env', re, e, kq⟩ := h
  obtain ⟨⟨kvs0, hi0⟩, e⟩ := dG_eq e
  obtain ⟨a1, env1, ea1, e⟩ := bnd_eq e
  obtain ⟨a2, env2, ea2, e⟩ := bnd_eq e
  obtain ⟨a, ws0, hσ, w0, ha0, rk0⟩ := dk_of re hi0
  refine ⟨.ref a, hσ, a, rfl, .inl ⟨ws0, .inl ha0⟩, env, W, a1, env1, re, ea1, fun y H1 W1 F1 r1 ra1 tm1 t1 => ⟨env1, W1, a2, env2, r1, ea2, fun z H2 W2 F2 r2 ra2 tm2 t2 => ?_⟩⟩
  unfold fDGet2b dgetR at e
  split at e
  · rename_i kvs k dz hi hks
    split at e
    · rename_i kk hkk
      cases e
      obtain ⟨a', ws, hσ', w, ha, rk⟩ := dk_of r2 hi
      rw [hσ] at hσ'
      cases hσ'
      simp only [gets_cons', gets_nil] at hks
      cases q1 : a1.get env' with
      | none => rw [q1] at hks; simp [cons?] at hks
      | some s1 =>
        cases q2 : a2.get env' with
        | none => rw [q1, q2] at hks; simp [cons?] at hks
        | some s2 =>
          rw [q1, q2] at hks
          simp only [cons?_some] at hks
          cases hks
          have ey : y = kV kk := keyOf_rd hkk ((ra1.keep r1.mu t2 tm1).read r2 q1)
          subst ey
          obtain ⟨P2, rz⟩ := ra2.read r2 q2
          have rz : RD X.K H2 dz z := rz
          refine ⟨valV ws kk, .inl ⟨ws, kk, .inl ha, rfl, rfl⟩, kq _ H2 W2 F0 r2 ?_ Tm.zero ((t1.trans0 t2).less fun _ z => z.elim)⟩
          show RD X.K H2 ((dVal kvs kk).getD dz) ((valV ws kk).getD z)
          rcases rk.val kk with ⟨c1, c2⟩ | ⟨d, v, c1, c2, c3⟩
          · rw [c1, c2]; exact rz
          · rw [c1, c2]; exact c3
    · cases e
  · cases e
end
end QL
end

section
set_option Elab.async false
set_option linter.all false
set_option maxRecDepth 100000
namespace QL
open PySem PySem.Spec PyProof.Rows L2
/-! ### sorting by a total order -/
section
variable {α : Type} (le : α → α → Bool)
def insS (x : α) : List α → List α
  | [] => [x]
  | y :: l => if le x y = true then x :: y :: l else y :: insS x l
def srt : List α → List α
  | [] => []
  | x :: l => insS le x (srt l)
structure Tot : Prop where
  tot : ∀ x y, le x y = true ∨ le y x = true
  tr : ∀ x y z, le x y = true → le y z = true → le x z = true
  anti : ∀ x y, le x y = true → le y x = true → x = y
variable {le}
theorem insS_perm (x : α) : ∀ l, (insS le x l).Perm (x :: l)
  | [] => List.Perm.refl _
  | y :: l => by
    unfold insS
    split
    · exact List.Perm.refl _
    · exact ((insS_perm x l).cons y).trans (List.Perm.swap x y l)
theorem srt_perm : ∀ l : List α, (srt le l).Perm l
  | [] => List.Perm.refl _
  | x :: l => (insS_perm x _).trans ((srt_perm l).cons x)
theorem insS_sorted (T : Tot le) (x : α) : ∀ l : List α, l.Pairwise (fun a b => le a b = true) → (insS le x l).Pairwise (fun a b => le a b = true)
  | [], _ => List.pairwise_singleton _ _
  | y :: l, h => by
    unfold insS
    have h1 := List.pairwise_cons.mp h
    split
    · rename_i q
      exact List.pairwise_cons.mpr ⟨fun z hz => by
        rcases List.mem_cons.mp hz with rfl | hz
        · exact q
        · exact T.tr _ _ _ q (h1.1 z hz), h⟩
    · rename_i q
      have q' : le y x = true := (T.tot x y).resolve_left q
      refine List.pairwise_cons.mpr ⟨fun z hz => ?_, insS_sorted T x l h1.2⟩
      rcases List.mem_cons.mp ((insS_perm x l).mem_iff.mp hz) with rfl | hz
      · exact q'
      · exact h1.1 z hz
theorem srt_sorted (T : Tot le) : ∀ l : List α, (srt le l).Pairwise (fun a b => le a b = true)
  | [] => List.Pairwise.nil
  | x :: l => insS_sorted T x _ (srt_sorted T l)
theorem sorted_uniq (T : Tot le) : ∀ {l m : List α}, l.Pairwise (fun a b => le a b = true) → m.Pairwise (fun a b => le a b = true) → l.Perm m → l = m
  | [], m, _, _, p => (List.nil_perm.mp p).symm
  | x :: l, [], _, _, p => absurd p.length_eq (by simp)
  | x :: l, y :: m, hl, hm, p => by
    have h1 := List.pairwise_cons.mp hl
    have h2 := List.pairwise_cons.mp hm
    have e : x = y := by
      rcases List.mem_cons.mp (p.mem_iff.mp (List.mem_cons_self (a := x))) with e | hx
      · exact e
      · rcases List.mem_cons.mp (p.mem_iff.mpr (List.mem_cons_self (a := y))) with e | hy
        · exact e.symm
        · exact T.anti _ _ (h1.1 y hy) (h2.1 x hx)
    subst e
    rw [sorted_uniq T h1.2 h2.2 p.cons_inv]
theorem srt_uniq (T : Tot le) {l m : List α} (h : m.Pairwise (fun a b => le a b = true)) (p : m.Perm l) : m = srt le l :=
  sorted_uniq T h (srt_sorted T l) (p.trans (srt_perm l).symm)
end
def leI (x y : Int) : Bool := decide (x ≤ y)
theorem tot_I : Tot leI := ⟨fun x y => by simp only [leI, decide_eq_true_eq]; omega, fun x y z => by simp only [leI, decide_eq_true_eq]; omega, fun x y => by simp only [leI, decide_eq_true_eq]; omega⟩
def leP (p q : Int × Int) : Bool := decide (p.1 < q.1 ∨ (p.1 = q.1 ∧ p.2 ≤ q.2))
theorem tot_P : Tot leP := ⟨fun x y => by simp only [leP, decide_eq_true_eq]; omega, fun x y z => by simp only [leP, decide_eq_true_eq]; omega, fun x y => by
  obtain ⟨a, b⟩ := x
  obtain ⟨c, d⟩ := y
  simp only [leP, decide_eq_true_eq, Prod.mk.injEq]
  omega⟩
def sortI : List Int → List Int := srt leI
theorem sortI_of {l m : List Int} (p : m.Perm l) (h : m.Pairwise (· ≤ ·)) : m = sortI l := srt_uniq tot_I (h.imp fun h => decide_eq_true h) p
theorem sortI_perm (l : List Int) : (sortI l).Perm l := srt_perm l
theorem sortI_sorted (l : List Int) : (sortI l).Pairwise (· ≤ ·) := (srt_sorted tot_I l).imp fun h => of_decide_eq_true h
/-! ### sorted(l), l a list of ints -/
def oSortI : List S → Option S
  | [s] => match s with
    | .m (.lst ds) => (intsOf ds).map fun ns => .m (.lst ((sortI ns).map D.int))
    | .lk (.lst ds) => (intsOf ds).map fun ns => .m (.lst ((sortI ns).map D.int))
    | _ => none
  | _ => none
@[simp] theorem oSortI_lst {ds : List D} : oSortI [.m (.lst ds)] = (intsOf ds).map fun ns => .m (.lst ((sortI ns).map D.int)) := rfl
@[simp] theorem oSortI_lk {ds : List D} : oSortI [.lk (.lst ds)] = (intsOf ds).map fun ns => .m (.lst ((sortI ns).map D.int)) := rfl
theorem cb_sortI {X : Cx} : CallOk X (.builtin "sorted") oSortI := ⟨_, cr_sortedI, fun H vs ss s Q e rr f => by
  unfold oSortI at e
  split at e
  · split at e
    · rename_i ds
      obtain ⟨v, rfl, hv⟩ := rr1 rr
      cases q : intsOf ds with
      | none => rw [q] at e; cases e
      | some ns =>
        rw [q] at e
        cases e
        obtain ⟨a, ws, rfl, h1, h2⟩ := rd_lst hv
        rw [intsOf_eq q] at h2
        rw [RDs.of_ints h2] at h1
        refine ⟨a, ns, rfl, SqL.of h1, fun ns' p pm so hp => ?_⟩
        rw [sortI_of pm so]
        exact f.lst (RDs.ints _) hp
    · rename_i ds
      obtain ⟨v, rfl, hv⟩ := rr1 rr
      cases q : intsOf ds with
      | none => rw [q] at e; cases e
      | some ns =>
        rw [q] at e
        cases e
        obtain ⟨a, ws, rfl, h1, h2⟩ := rd_lk hv
        rw [intsOf_eq q] at h2
        rw [RDs.of_ints h2] at h1
        refine ⟨a, ns, rfl, h1.sq, fun ns' p pm so hp => ?_⟩
        rw [sortI_of pm so]
        exact f.lst (RDs.ints _) hp
    · cases e
  · cases e⟩
end QL
end

section
set_option Elab.async false
set_option linter.all false
set_option maxRecDepth 100000
namespace QL
open PySem PySem.Spec PyProof.Rows L2
/-! ### a dict is walked -/
def kD : Key → D
  | .inl i => .int i
  | .inr z => .str z
theorem kD_rd {K : PySem.W.Frag} {H : Hp} (k : Key) : RD K H (kD k) (kV k) := by
  cases k with
  | inl i => exact .int i
  | inr z => exact .str z
def keysD (kvs : List (Key × D)) : List D := kvs.map fun kv => kD kv.1
def itemsD (kvs : List (Key × D)) : List D := kvs.map fun kv => .tup [kD kv.1, kv.2]
theorem RKs.at_ {K : PySem.W.Frag} {H : Hp} : ∀ {kvs : List (Key × D)} {ws : List (Key × V)} {i : Nat} {k : Key} {v : V}, RKs K H kvs ws → ws[i]? = some (k, v) → ∃ x, kvs[i]? = some (k, x) ∧ RD K H x v
  | [], ws, i, k, v, h, e => by rw [h.unnil] at e; simp at e
  | (k', x) :: kvs, ws, i, k, v, h, e => by
    obtain ⟨v', ws', rfl, r, t⟩ := h.uncons
    cases i with
    | zero => simp at e; obtain ⟨rfl, rfl⟩ := e; exact ⟨x, rfl, r⟩
    | succ i =>
      obtain ⟨y, h1, h2⟩ := RKs.at_ (i := i) t (by simpa using e)
      exact ⟨y, by simpa using h1, h2⟩
section
variable {K : PySem.W.Frag} {H0 : Hp} {σ : Sl} {env : En} {W0 : Ow} {d : Addr} {o : Obj} {kvs : List (Key × D)} {ws : List (Key × V)}
theorem walkD_keys (r : RE K H0 σ env W0) (h : H0 d = some (.frz o (.dK ws))) (rk : RKs K H0 kvs ws) : WalkD K (Itk d o ws) (keysD kvs) H0 W0 := by
  have hl : (keysD kvs).length = ws.length := by simp [keysD, rk.length]
  have fz : ∀ H, Gd H0 W0 H → H d = some (.frz o (.dK ws)) := fun H g => g d _ h (r.nomut h fun z => z)
  refine ⟨fun i H x H' => H' = H ∧ ∃ k v, ws[i]? = some (k, v) ∧ x = kV k, ⟨fun i H hi g => ⟨fz H g, by omega⟩, fun H g => ⟨fz H g, by omega⟩, fun i H x H' hi g y => y⟩, fun i H x H' hi g y => ?_⟩
  obtain ⟨rfl, k, v, e, rfl⟩ := y
  obtain ⟨x, h1, _⟩ := rk.at_ e
  refine ⟨Same.refl _, kD k, ?_, kD_rd k⟩
  unfold keysD
  rw [List.getElem?_map, h1]
  rfl
theorem walkD_items (r : RE K H0 σ env W0) (h : H0 d = some (.frz o (.dK ws))) (rk : RKs K H0 kvs ws) : WalkD K (Iti d o ws) (itemsD kvs) H0 W0 := by
  have hl : (itemsD kvs).length = ws.length := by simp [itemsD, rk.length]
  have fz : ∀ H, Gd H0 W0 H → H d = some (.frz o (.dK ws)) := fun H g => g d _ h (r.nomut h fun z => z)
  refine ⟨fun i H x H' => ∃ T k v, ws[i]? = some (k, v) ∧ x = .ref T ∧ H T = none ∧ H' = upd H T (.tup [kV k, v]), ⟨fun i H hi g => ⟨fz H g, by omega⟩, fun H g => ⟨fz H g, by omega⟩, fun i H x H' hi g y => y⟩, fun i H x H' hi g y => ?_⟩
  obtain ⟨T, k, v, e, rfl, nT, rfl⟩ := y
  obtain ⟨x, h1, h2⟩ := rk.at_ e
  have sm : Same H (upd H T (.tup [kV k, v])) := same_new nT
  refine ⟨sm, .tup [kD k, x], ?_, .tup (SqT.of upd_same) (.cons (kD_rd k) (.cons (RD.pst (Same.pst sm) (RD.pst (Gd.pst r g) h2)) .nil))⟩
  unfold itemsD
  rw [List.getElem?_map, h1]
  rfl
end
def dkL (g : List (Key × D) → List D) (x : Option (Option S)) (e : En) : Option (List D × En) := match x with
  | some (some (.lk (.dk kvs))) => some (g kvs, e)
  | _ => none
@[simp] theorem dkL_lk {g : List (Key × D) → List D} {kvs : List (Key × D)} {e : En} : dkL g (some (some (.lk (.dk kvs)))) e = some (g kvs, e) := rfl
def itDk (i : Nat) : Fn1 (List D) := fun e => dkL keysD e[i]? e
def itDi (i : Nat) : Fn1 (List D) := fun e => dkL itemsD e[i]? e
@[simp] theorem itDk_ap {i : Nat} {e : En} : itDk i e = dkL keysD e[i]? e := rfl
@[simp] theorem itDi_ap {i : Nat} {e : En} : itDi i e = dkL itemsD e[i]? e := rfl
section
variable {X : Cx} {tg : Expr} {i : Nat} {x : Str} {p apos cpos : Pos}
theorem qi_dk (hN : X.N[i]? = some x := by rfl) (hvi : Vis X.env.scope x := by first | exact Or.inl rfl | exact Or.inr (Or.inl rfl) | exact Or.inr (Or.inr rfl)) (hd : (x == ("__debug__" : Str)) = false := by decide) (hcd : (x == ("__classdict__" : Str)) = false := by decide) :
    PXI X tg (.Name x p) (itDk i) := PI.imp (pi_keys (pe_var hN hvi hd hcd)) fun σ H R h => by
  obtain ⟨env, W, xs, env', re, e, k⟩ := h
  unfold itDk dkL at e
  split at e
  · rename_i kvs hi
    cases e
    obtain ⟨v, q1, a, ws, o, rfl, ha, rk⟩ := re.slots i _ hi
    exact ⟨.ref a, q1, a, o, rfl, .inl ⟨ws, ha, k _ H W re Tr.refl (walkD_keys re ha rk)⟩⟩
  · cases e
theorem qi_di {elts : List Expr} {kk : Nat} {tpos : Pos} (hN : X.N[i]? = some x := by rfl) (hvi : Vis X.env.scope x := by first | exact Or.inl rfl | exact Or.inr (Or.inl rfl) | exact Or.inr (Or.inr rfl)) (hd : (x == ("__debug__" : Str)) = false := by decide) (hcd : (x == ("__classdict__" : Str)) = false := by decide)
    (hbase : attributeBase (.Name x p) "items" X.env (eval (.Name x p) X.env) = eval (.Name x p) X.env := by rfl) (hline : (apos.endLine == cpos.line) = true := by rfl) :
    PXI X (.Tuple elts kk tpos) (.Call (.Attribute (.Name x p) "items" apos) [] [] cpos) (itDi i) := PI.imp (pi_items (pe_var hN hvi hd hcd) hbase hline) fun σ H R h => by
  obtain ⟨env, W, xs, env', re, e, k⟩ := h
  unfold itDi dkL at e
  split at e
  · rename_i kvs hi
    cases e
    obtain ⟨v, q1, a, ws, o, rfl, ha, rk⟩ := re.slots i _ hi
    exact ⟨.ref a, q1, a, o, ws, rfl, ha, k _ H W re Tr.refl (walkD_items re ha rk)⟩
  · cases e
end
/-! ### sorted(d) of a dict with int keys -/
def keysI : List (Key × D) → Option (List Int)
  | [] => some []
  | (.inl i, _) :: l => (keysI l).map (i :: ·)
  | _ => none
@[simp] theorem keysI_nil : keysI [] = some [] := rfl
@[simp] theorem keysI_cons {i : Int} {x : D} {l : List (Key × D)} : keysI ((.inl i, x) :: l) = (keysI l).map (i :: ·) := rfl
theorem keysI_eq : ∀ {kvs : List (Key × D)} {ns : List Int}, keysI kvs = some ns → kvs.map (·.1) = ns.map Sum.inl
  | [], ns, h => by cases h; rfl
  | (.inl i, x) :: l, ns, h => by
    rw [keysI_cons] at h
    cases q : keysI l with
    | none => rw [q] at h; cases h
    | some ms =>
      rw [q] at h
      cases h
      simp [keysI_eq q]
  | (.inr z, x) :: l, ns, h => by cases h
def oSortD : List S → Option S
  | [s] => (dictOf s).bind fun kvs => (keysI kvs).bind fun ns => if ns.length < 64 then some (.m (.lst ((sortI ns).map D.int))) else none
  | _ => none
@[simp] theorem oSortD_one {s : S} : oSortD [s] = (dictOf s).bind fun kvs => (keysI kvs).bind fun ns => if ns.length < 64 then some (.m (.lst ((sortI ns).map D.int))) else none := rfl
theorem cb_sortD {X : Cx} (hc : X.calm = true) : CallOk X (.builtin "sorted") oSortD := ⟨_, call_sortedDI hc, fun H vs ss s Q e rr f => by
  unfold oSortD at e
  split at e
  · rename_i s1
    obtain ⟨v, rfl, hv⟩ := rr1 rr
    cases q1 : dictOf s1 with
    | none => rw [q1] at e; cases e
    | some kvs =>
      rw [q1] at e
      have e : ((keysI kvs).bind fun ns => if ns.length < 64 then some (S.m (.lst ((sortI ns).map D.int))) else none) = some s := e
      cases q2 : keysI kvs with
      | none => rw [q2] at e; cases e
      | some ns =>
        rw [q2] at e
        have e : (if ns.length < 64 then some (S.m (.lst ((sortI ns).map D.int))) else none) = some s := e
        split at e
        · rename_i h64
          cases e
          obtain ⟨a, ws, rfl, ha, rk⟩ := dictOf_rd q1 hv
          refine ⟨a, ws, ns, rfl, ha, by rw [rk.1, keysI_eq q2], h64, fun ys p pm so hp => ?_⟩
          rw [sortI_of pm so]
          exact f.lst (RDs.ints _) hp
        · cases e
  · cases e⟩
end QL
end

section
set_option Elab.async false
set_option linter.all false
set_option maxRecDepth 100000
namespace QL
open PySem PySem.Spec PyProof.Rows L2
/-! ### chains of comparisons as tests, of any length -/
def lnkK (z : Option S) (g : Fn1 Bool) (e : En) : Option (Bool × En) := match z with
  | some (.d (.bl true)) => g e
  | some (.d (.bl false)) => some (false, e)
  | _ => none
@[simp] theorem lnkK_bl {b : Bool} {g : Fn1 Bool} {e : En} : lnkK (some (.d (.bl b))) g e = if b = true then g e else some (false, e) := by cases b <;> rfl
theorem lnkK_eq {z : Option S} {g : Fn1 Bool} {e : En} {r : Bool × En} (h : lnkK z g e = some r) : (z = some (.d (.bl true)) ∧ g e = some r) ∨ (z = some (.d (.bl false)) ∧ r = (false, e)) := by
  unfold lnkK at h
  split at h
  · exact .inl ⟨rfl, h⟩
  · cases h
    exact .inr ⟨rfl, rfl⟩
  · cases h
def fChE1 (o : S → S → Option S) (a b : Arg) (e : En) : Option (Bool × En) := tstK (op2 o (a.get e) (b.get e)) e
def fChE (o : S → S → Option S) (fc : Fn1 Arg) (a : Arg) (e : En) : Option (Bool × En) := bnd (fc e) (fChE1 o a)
def fChC1 (o : S → S → Option S) (g : Arg → Fn1 Bool) (a b : Arg) (e : En) : Option (Bool × En) := lnkK (op2 o (a.get e) (b.get e)) (g b) e
def fChC (o : S → S → Option S) (fb : Fn1 Arg) (g : Arg → Fn1 Bool) (a : Arg) (e : En) : Option (Bool × En) := bnd (fb e) (fChC1 o g a)
def fChT (fa : Fn1 Arg) (g : Arg → Fn1 Bool) : Fn1 Bool := fun e => bnd (fa e) g
@[simp] theorem fChE1_ap {o : S → S → Option S} {a b : Arg} {e : En} : fChE1 o a b e = tstK (op2 o (a.get e) (b.get e)) e := rfl
@[simp] theorem fChE_ap {o : S → S → Option S} {fc : Fn1 Arg} {a : Arg} {e : En} : fChE o fc a e = bnd (fc e) (fChE1 o a) := rfl
@[simp] theorem fChC1_ap {o : S → S → Option S} {g : Arg → Fn1 Bool} {a b : Arg} {e : En} : fChC1 o g a b e = lnkK (op2 o (a.get e) (b.get e)) (g b) e := rfl
@[simp] theorem fChC_ap {o : S → S → Option S} {fb : Fn1 Arg} {g : Arg → Fn1 Bool} {a : Arg} {e : En} : fChC o fb g a e = bnd (fb e) (fChC1 o g a) := rfl
@[simp] theorem fChT_ap {fa : Fn1 Arg} {g : Arg → Fn1 Bool} {e : En} : fChT fa g e = bnd (fa e) g := rfl
section
variable {X : Cx} {pos : Pos}
def ChL (X : Cx) (pos : Pos) (ops : List CmpOp) (cs : List Expr) (g : Arg → Fn1 Bool) : Prop :=
  ∀ (pins : List (Addr × Obj)) (s : Shared) (σ : Sl) (H : Hp) (v : Value) (x : V) (Q : Bool → Hp → Prop) (env : En) (W : Ow) (a : Arg) (F : Addr → Prop) (b : Bool) (env' : En),
    Inv X pins σ H s → RelV x v → RE X.K H σ env W → RA X.K H σ a x F → Tm W H F → g a env = some (b, env') →
    (∀ H' W', RE X.K H' σ env' W' → Tr W H W' H' F0 → Q b H') →
    wpAny (model X.prog X.w) X.A (testChain pos v ops (evalEach cs X.env)) (TP X pins σ Q) X.xe s
theorem chl_last {op : CmpOp} {o : S → S → Option S} {c : Expr} {fc : Fn1 Arg} (h : CmpOk X op o) (hc : PX X c fc) : ChL X pos [op] [c] (fChE o fc) := by
  intro pins s σ H v x Q env W a F b env' I rx re ra tm e k
  obtain ⟨b1, env1, eb, e⟩ := bnd_eq e
  unfold fChE1 tstK at e
  split at e
  · rename_i bb hbb
    cases e
    obtain ⟨sx, sy, e1, e2, eo⟩ := op2_eq hbb
    obtain ⟨r, ho, hr⟩ := h.ex
    refine test_last (thn (hc.run pins s σ H (fun y H1 => r x y H1 fun z H2 => ∃ k, z = .bl k ∧ Q k H2) I ⟨env, W, b1, _, re, eb, fun y H1 W1 F1 r1 rb tm1 t1 => ?_⟩)
      fun w s1 ⟨y, H1, I1, r1, q1⟩ => thn (ho pins s1 σ H1 x y v w _ I1 rx r1 q1) fun d s2 ⟨z, H2, I2, r2, kk, ez, q2⟩ => ?_)
    · exact hr H1 x y sx sy _ _ eo ((ra.keep re.mu t1 tm).read r1 e1) (rb.read r1 e2) fun z H2 F2 sm hF rs => ⟨_, rd_bl ⟨F2, rs⟩, k H2 W1 (r1.same sm) ((t1.less (G := F0) fun _ z => z.elim).trans0 (Tr.same (F := F0) sm fun _ z => z.elim))⟩
    · subst ez
      cases r2
      exact wpAny_truthy_bool ⟨H2, I2, q2⟩
  · cases e
theorem chl_cons {op op' : CmpOp} {ops : List CmpOp} {o : S → S → Option S} {c c' : Expr} {cs : List Expr} {fc : Fn1 Arg} {g : Arg → Fn1 Bool} (h : CmpOk X op o) (hc : PX X c fc) (hg : ChL X pos (op' :: ops) (c' :: cs) g) : ChL X pos (op :: op' :: ops) (c :: c' :: cs) (fChC o fc g) := by
  intro pins s σ H v x Q env W a F b env' I rx re ra tm e k
  obtain ⟨b1, env1, eb, e⟩ := bnd_eq e
  obtain ⟨r, ho, hr⟩ := h.ex
  have cut : ∃ bb sx sy, a.get env1 = some sx ∧ b1.get env1 = some sy ∧ o sx sy = some (.d (.bl bb)) ∧ (if bb = true then g b1 env1 = some (b, env') else (b, env') = (false, env1)) := by
    rcases lnkK_eq e with ⟨ez, e⟩ | ⟨ez, er⟩
    · obtain ⟨sx, sy, e1, e2, eo⟩ := op2_eq ez
      exact ⟨true, sx, sy, e1, e2, eo, by rw [if_pos rfl]; exact e⟩
    · obtain ⟨sx, sy, e1, e2, eo⟩ := op2_eq ez
      exact ⟨false, sx, sy, e1, e2, eo, by rw [if_neg (by decide)]; exact er⟩
  obtain ⟨bb, sx, sy, e1, e2, eo, fin⟩ := cut
  refine test_link (thn (hc.run pins s σ H (fun y H1 => ∃ W1 F1, RE X.K H1 σ env1 W1 ∧ RA X.K H1 σ b1 y F1 ∧ Tm W1 H1 F1 ∧ Tr W H W1 H1 F1 ∧ r x y H1 fun z H2 => z = .bl bb ∧ Same H1 H2) I ⟨env, W, b1, env1, re, eb, fun y H1 W1 F1 r1 rb tm1 t1 => ?_⟩)
      fun w s1 ⟨y, H1, I1, r1, W1, F1, re1, rb, tm1, t1, q1⟩ => thn (ho pins s1 σ H1 x y v w _ I1 rx r1 q1) fun d s2 ⟨z, H2, I2, r2, ez, sm⟩ => ?_)
  · refine ⟨W1, F1, r1, rb, tm1, t1, ?_⟩
    exact hr H1 x y sx sy _ _ eo ((ra.keep re.mu t1 tm).read r1 e1) (rb.read r1 e2) fun z H2 F2 sm hF rs => ⟨rd_bl ⟨F2, rs⟩, sm⟩
  · subst ez
    cases r2
    refine wpAny_truthy_bool ?_
    have re2 := re1.same sm
    cases bb with
    | false =>
      rw [if_neg (by decide)] at fin
      cases fin
      exact ite_ff ⟨H2, I2, k H2 W1 re2 ((t1.less (G := F0) fun _ z => z.elim).trans0 (Tr.same (F := F0) sm fun _ z => z.elim))⟩
    | true =>
      rw [if_pos rfl] at fin
      refine ite_tt (hg pins s2 σ H2 w y Q env1 W1 b1 F1 b env' I2 r1 re2 (rb.same sm) (tm1.same sm) fin fun H3 W3 r3 t3 => k H3 W3 r3 ?_)
      exact ((t1.less (G := F0) fun _ z => z.elim).trans0 (Tr.same (F := F0) sm fun _ z => z.elim)).trans0 t3
theorem qt_chN {a : Expr} {fa : Fn1 Arg} {op₁ op₂ : CmpOp} {ops : List CmpOp} {c₁ c₂ : Expr} {cs : List Expr} {g : Arg → Fn1 Bool} (ha : PX X a fa) (hg : ChL X pos (op₁ :: op₂ :: ops) (c₁ :: c₂ :: cs) g)
    (hm : lastMarks (op₁ :: op₂ :: ops) (c₁ :: c₂ :: cs) = false := by with_unfolding_all rfl) : PXT X (.Compare a (op₁ :: op₂ :: ops) (c₁ :: c₂ :: cs) pos) (fChT fa g) := by
  refine ⟨fun pins s σ H Q I h => ?_⟩
  obtain ⟨env, W, b, env', re, e, k⟩ := h
  obtain ⟨a1, env1, ea, e⟩ := bnd_eq e
  refine isTrue_chain (thn (ha.run pins s σ H (fun x H1 => ∃ W1 F1, RE X.K H1 σ env1 W1 ∧ RA X.K H1 σ a1 x F1 ∧ Tm W1 H1 F1 ∧ Tr W H W1 H1 F1) I ⟨env, W, a1, env1, re, ea, fun x H1 W1 F1 r1 ra tm1 t1 => ⟨W1, F1, r1, ra, tm1, t1⟩⟩)
    fun v s1 ⟨x, H1, I1, r1, W1, F1, re1, ra, tm1, t1⟩ => ?_) hm
  exact hg pins s1 σ H1 v x Q env1 W1 a1 F1 b env' I1 r1 re1 ra tm1 e fun H2 W2 r2 t2 => k H2 W2 r2 ((t1.less (G := F0) fun _ z => z.elim).trans0 t2)
end
/-! ### list items stored -/
def putL (xs : List D) (i : Int) (x : D) : Option (List D) := (L2.ixN xs.length i).map fun j => xs.set j x
@[simp] theorem putL_nat {xs : List D} {k : Nat} {x : D} : putL xs (k : Int) x = if k < xs.length then some (xs.set k x) else none := by
  unfold putL L2.ixN
  rw [if_pos (by omega)]
  by_cases h : k < xs.length
  · rw [if_pos (by omega), if_pos h]; simp
  · rw [if_neg (by omega), if_neg h]; rfl
def lG {α : Type} (z : Option (Option S)) (r : Option α) : Option α := match z with
  | some (some (.m (.lst _))) => r
  | _ => none
@[simp] theorem lG_lst {α : Type} {xs : List D} {r : Option α} : lG (some (some (.m (.lst xs)))) r = r := rfl
theorem lG_eq {α : Type} {x : Option (Option S)} {r : Option α} {y : α} (h : lG x r = some y) : (∃ xs, x = some (some (.m (.lst xs)))) ∧ r = some y := by
  unfold lG at h
  split at h
  · exact ⟨⟨_, rfl⟩, h⟩
  · cases h
def bsR (i : Nat) (ys : Option (List D)) (e : En) : Option En := match ys with
  | some ys => some (e.set i (some (.m (.lst ys))))
  | none => none
@[simp] theorem bsR_some {i : Nat} {ys : List D} {e : En} : bsR i (some ys) e = some (e.set i (some (.m (.lst ys)))) := rfl
def bsK (i : Nat) (x : D) (z : Option (Option S)) (k : Option S) (e : En) : Option En := match z, k with
  | some (some (.m (.lst xs))), some (.d (.int n)) => bsR i (putL xs n x) e
  | _, _ => none
@[simp] theorem bsK_int {i : Nat} {x : D} {xs : List D} {n : Int} {e : En} : bsK i x (some (some (.m (.lst xs)))) (some (.d (.int n))) e = bsR i (putL xs n x) e := rfl
def bSub2 (i : Nat) (x : D) (k : Arg) (e : En) : Option En := bsK i x e[i]? (k.get e) e
def bndE (z : Option (Arg × En)) (k : Arg → En → Option En) : Option En := match z with
  | some p => k p.1 p.2
  | none => none
@[simp] theorem bndE_some {a : Arg} {e : En} {k : Arg → En → Option En} : bndE (some (a, e)) k = k a e := rfl
def bSub (i : Nat) (fk : Fn1 Arg) (x : D) (e : En) : Option En := lG e[i]? (bndE (fk e) (bSub2 i x))
@[simp] theorem bSub2_ap {i : Nat} {x : D} {k : Arg} {e : En} : bSub2 i x k e = bsK i x e[i]? (k.get e) e := rfl
@[simp] theorem bSub_ap {i : Nat} {fk : Fn1 Arg} {x : D} {e : En} : bSub i fk x e = lG e[i]? (bndE (fk e) (bSub2 i x)) := rfl
def tPM (K : PySem.W.Frag) (A : List Nat) (b : D → En → Option En) : TG := fun v σ H Q => ∃ x env W env', RE K H σ env W ∧ RD K H x v ∧ b x env = some env' ∧ ∀ σ' H' W', RE K H' σ' env' W' → Tr W H W' H' F0 → Eqs A σ σ' → Q σ' H'
def tPMs (K : PySem.W.Frag) (A : List Nat) (b : List D → En → Option En) : TGs := fun vs σ H Q => ∃ xs env W env', RE K H σ env W ∧ RDs K H xs vs ∧ b xs env = some env' ∧ ∀ σ' H' W', RE K H' σ' env' W' → Tr W H W' H' F0 → Eqs A σ σ' → Q σ' H'
abbrev PXM (X : Cx) (tg : Expr) (A : List Nat) (b : D → En → Option En) : Prop := PG X tg (tPM X.K A b)
abbrev PXMs (X : Cx) (tg : List Expr) (A : List Nat) (b : List D → En → Option En) : Prop := PGs X tg (tPMs X.K A b)
section
variable {X : Cx} {pos : Pos}
theorem qm_of {tg : Expr} {A : List Nat} {b : D → En → Option En} (h : PXG X tg A b) : PXM X tg A b := PG.imp h fun v σ H Q h => by
  obtain ⟨x, env, W, env', re, rd, e, k⟩ := h
  exact ⟨x, env, W, env', re, rd, e, fun σ' r q => k σ' H W r Tr.refl q⟩
theorem qm_nil : PXMs X [] [] bNil := PGs.imp pgs_nil fun v σ H Q h => by
  obtain ⟨xs, env, W, env', r, rd, e, k⟩ := h
  unfold bNil at e
  split at e
  · cases e
    cases rd
    exact ⟨rfl, k σ H W r Tr.refl Eqs.refl⟩
  · cases e
theorem qm_cons {e : Expr} {es : List Expr} {A B : List Nat} {b : D → En → Option En} {bs : List D → En → Option En} (h1 : PXM X e A b) (h2 : PXMs X es B bs)
    (hs : (assignEach (e :: es) X.env).map (·.2) = assign e X.env :: (assignEach es X.env).map (·.2) := by rfl) : PXMs X (e :: es) (A ++ B) (bCons b bs) := PGs.imp (pgs_cons h1 h2 hs) fun v σ H Q h => by
  obtain ⟨xs, env, W, env', r, rd, e, k⟩ := h
  unfold bCons at e
  split at e
  · rename_i x xs
    cases rd with
    | cons rx rxs =>
      cases q : b x env with
      | none => rw [q] at e; cases e
      | some e1 =>
        rw [q] at e
        refine ⟨_, _, rfl, x, env, W, e1, r, rx, q, fun σ1 H1 W1 r1 t1 q1 => ⟨xs, e1, W1, env', r1, RDs.pst (r.pst t1) rxs, e, fun σ2 H2 W2 r2 t2 q2 => k σ2 H2 W2 r2 (t1.trans0 t2) (q1.trans q2 (fun j z => List.mem_append_left _ z) (fun j z => List.mem_append_right _ z))⟩⟩
  · cases e
theorem qm_tup {es : List Expr} {k : Nat} {A : List Nat} {bs : List D → En → Option En} {n : Nat} (hc : X.calm = true) (h : PXMs X es A bs)
    (hn : (assignEach es X.env).length = n := by rfl) (hst : (assignEach es X.env).findIdx? (·.1) = none := by rfl) : PXM X (.Tuple es k pos) A (bTup n bs) := PG.imp (pg_tup hc h hn hst) fun v σ H Q h => by
  obtain ⟨x, env, W, env', r, rd, e, k⟩ := h
  unfold bTup at e
  split at e
  · rename_i xs
    split at e
    · rename_i hl
      cases rd with
      | tup h1 h2 => exact ⟨_, _, rfl, h1, by rw [← h2.length]; exact hl, xs, env, W, env', r, h2, e, k⟩
    · cases e
  · cases e
theorem lst_of {K : PySem.W.Frag} {H : Hp} {σ : Sl} {env : En} {W : Ow} {i : Nat} {xs : List D} (r : RE K H σ env W) (hi : env[i]? = some (some (.m (.lst xs)))) : ∃ a vs, σ[i]? = some (some (.ref a)) ∧ W i a ∧ H a = some (.lst vs) ∧ RDs K H xs vs := by
  obtain ⟨v, q1, a, ws, rfl, w, ha, rk⟩ := r.slots i _ hi
  exact ⟨a, ws, q1, w, ha, rk⟩
theorem putL_rd {K : PySem.W.Frag} {H : Hp} {xs ys : List D} {vs : List V} {n : Int} {x : D} {v : V} (e : putL xs n x = some ys) (rs : RDs K H xs vs) (r : RD K H x v) : ∃ j, L2.ixN vs.length n = some j ∧ RDs K H ys (vs.set j v) := by
  unfold putL at e
  rw [rs.length] at e
  cases q : L2.ixN vs.length n with
  | none => rw [q] at e; cases e
  | some j =>
    rw [q] at e
    cases e
    exact ⟨j, rfl, rs.set r j⟩
theorem qm_sub {i : Nat} {x : Str} {p : Pos} {ek : Expr} {fk : Fn1 Arg} (hk : PX X ek fk) (hN : X.N[i]? = some x := by rfl) (hvi : Vis X.env.scope x := by first | exact Or.inl rfl | exact Or.inr (Or.inl rfl) | exact Or.inr (Or.inr rfl))
    (hd : (x == ("__debug__" : Str)) = false := by decide) (hcd : (x == ("__classdict__" : Str)) = false := by decide)
    (ha : ∀ v, assign (.Subscript (.Name x p) ek pos) X.env v = (do
      let ov ← holding [v] (eval (.Name x p) X.env)
      let iv ← holding [v, ov] (eval ek X.env)
      standAt pos
      holding [v, ov, iv] (setItem ov iv v)
      release [v, ov, iv] []) := by intro _; rfl) : PXM X (.Subscript (.Name x p) ek pos) [] (bSub i fk) := PG.imp (pg_sub (pe_var hN hvi hd hcd) hk set_list ha) fun v σ H Q h => by
  obtain ⟨x, env, W, env', re, rd, e, k⟩ := h
  obtain ⟨⟨xs0, hi0⟩, e⟩ := lG_eq e
  obtain ⟨a, vs0, hσ, _⟩ := lst_of re hi0
  cases q : fk env with
  | none => rw [q] at e; cases e
  | some pk =>
    obtain ⟨k1, env1⟩ := pk
    rw [q] at e
    have e : bSub2 i x k1 env1 = some env' := e
    unfold bSub2 bsK at e
    split at e
    · rename_i xs n hi hk
      cases q2 : putL xs n x with
      | none => rw [q2] at e; cases e
      | some ys =>
        rw [q2] at e
        cases e
        refine ⟨.ref a, hσ, env, W, k1, env1, re, q, fun y H2 W2 F2 r2 ra tm t => ?_⟩
        obtain ⟨a', vs, hσ', w, hH, rs⟩ := lst_of r2 hi
        rw [hσ] at hσ'
        cases hσ'
        have ey : y = .int n := rd_int (ra.read r2 hk)
        subst ey
        obtain ⟨j, ej, rs2⟩ := putL_rd q2 rs (RD.pst (re.pst t) rd)
        refine ⟨a, vs, n, j, rfl, rfl, hH, ej, k σ _ W2 (r2.put hi hσ w hH rs2) ((t.less (G := F0) fun _ z => z.elim).trans0 (Tr.put w)) Eqs.refl⟩
    · cases e
def sPatM1 (b : D → En → Option En) (a : Arg) (e : En) : Option Res := patK b (a.get e) e
def sPatM (b : D → En → Option En) (fa : Fn1 Arg) : FS := fun e => bndS (fa e) (sPatM1 b)
@[simp] theorem sPatM1_ap {b : D → En → Option En} {a : Arg} {e : En} : sPatM1 b a e = patK b (a.get e) e := rfl
@[simp] theorem sPatM_ap {b : D → En → Option En} {fa : Fn1 Arg} {e : En} : sPatM b fa e = bndS (fa e) (sPatM1 b) := rfl
theorem qs_patM {tg e : Expr} {fa : Fn1 Arg} {A : List Nat} {b : D → En → Option En} (hg : PXM X tg A b) (he : PX X e fa) (hs : swapsWithSole [tg] e pos.line X.env = pure false := by rfl) (hw : swappedStores [tg] e X.env = pure none := by rfl)
    (h1 : (assignEach [tg] X.env).map (·.2) = [assign tg X.env] := by rfl) : PXS X (.Assign [tg] e pos) A (sPatM b fa) := PS.imp (ps_asg he hg hs hw h1) fun D σ H h => by
  obtain ⟨env, W, r, re, e, p⟩ := h
  obtain ⟨a, env1, ea, e⟩ := bndS_eq e
  refine ⟨env, W, a, env1, re, ea, fun v H1 W1 F r1 ra tm t => ?_⟩
  unfold sPatM1 patK at e
  split at e
  · rename_i x hx
    obtain ⟨P, rd⟩ := ra.read r1 hx
    cases q : b x env1 with
    | none => rw [q] at e; cases e
    | some e2 =>
      rw [q] at e
      cases e
      exact ⟨x, env1, W1, e2, r1, rd, q, fun σ' H' W' r' t' q' => p σ' H' W' r' ((t.less (G := F0) fun _ z => z.elim).trans0 t') q'⟩
  · cases e
/-! l[i] op= e -/
theorem get_list : PGet X (rIxL X.K) := by
  intro pins s σ H x y v u Q I rx ry h
  obtain ⟨p, xs, i, z, rfl, rfl, hq, he, q⟩ := h
  cases rx
  obtain ⟨t, rfl⟩ := ry
  obtain ⟨its, r, pl, hz⟩ := I.list hq
  obtain ⟨j, h1, h2, h3, h4, h5⟩ := atI_get he
  obtain ⟨w, ew, rw'⟩ := r.get h2
  have hl := r.length
  have hn := line63
  have fin : EP X pins σ Q w s := ⟨z, H, I, rw', q⟩
  by_cases h0 : 0 ≤ i
  · have hj : i.toNat = j := by
      rw [seqIndex_of h0 h5] at h1
      exact Option.some.inj h1
    exact wpAny_getItem_list pl.isList h0 (by omega) (by rw [hj]; simpa using ew) fin
  · have hj : (i + (its.toArray.size : Int)).toNat = j := by
      rw [seqIndex_neg (by omega) h4] at h1
      rw [List.size_toArray, ← hl]
      exact Option.some.inj h1
    exact wpAny_getItem_list_neg pl.isList (by omega) (by rw [List.size_toArray] <;> omega) (by omega) (by rw [hj]; simpa using ew) fin
end
def agE (i : Nat) (x : Option S) (k : Option S) (z : Option (Option S)) (e : En) : Option Res := match x, k, z with
  | some (.d w), some (.d (.int n)), some (some (.m (.lst xs))) => patK1 (bsR i (putL xs n w) e)
  | _, _, _ => none
@[simp] theorem agE_d {i : Nat} {w : D} {n : Int} {xs : List D} {e : En} : agE i (some (.d w)) (some (.d (.int n))) (some (some (.m (.lst xs)))) e = patK1 (bsR i (putL xs n w) e) := rfl
def sAgL2 (i : Nat) (o : S → S → Option S) (n : Int) (y : D) (b : Arg) (e : En) : Option Res := agE i (op2 o (some (.d y)) (b.get e)) (some (.d (.int n))) e[i]? e
def agY (i : Nat) (o : S → S → Option S) (fv : Fn1 Arg) (n : Int) (y : Option D) (e : En) : Option Res := match y with
  | some y => bndS (fv e) (sAgL2 i o n y)
  | none => none
@[simp] theorem agY_some {i : Nat} {o : S → S → Option S} {fv : Fn1 Arg} {n : Int} {y : D} {e : En} : agY i o fv n (some y) e = bndS (fv e) (sAgL2 i o n y) := rfl
def agX (i : Nat) (o : S → S → Option S) (fv : Fn1 Arg) (z : Option (Option S)) (k : Option S) (e : En) : Option Res := match z, k with
  | some (some (.m (.lst xs))), some (.d (.int n)) => agY i o fv n (getI xs n) e
  | _, _ => none
@[simp] theorem agX_int {i : Nat} {o : S → S → Option S} {fv : Fn1 Arg} {xs : List D} {n : Int} {e : En} : agX i o fv (some (some (.m (.lst xs)))) (some (.d (.int n))) e = agY i o fv n (getI xs n) e := rfl
def sAgL1 (i : Nat) (o : S → S → Option S) (fv : Fn1 Arg) (k : Arg) (e : En) : Option Res := agX i o fv e[i]? (k.get e) e
def sAgL (i : Nat) (o : S → S → Option S) (fk fv : Fn1 Arg) : FS := fun e => lG e[i]? (bndS (fk e) (sAgL1 i o fv))
@[simp] theorem sAgL2_ap {i : Nat} {o : S → S → Option S} {n : Int} {y : D} {b : Arg} {e : En} : sAgL2 i o n y b e = agE i (op2 o (some (.d y)) (b.get e)) (some (.d (.int n))) e[i]? e := rfl
@[simp] theorem sAgL1_ap {i : Nat} {o : S → S → Option S} {fv : Fn1 Arg} {k : Arg} {e : En} : sAgL1 i o fv k e = agX i o fv e[i]? (k.get e) e := rfl
@[simp] theorem sAgL_ap {i : Nat} {o : S → S → Option S} {fk fv : Fn1 Arg} {e : En} : sAgL i o fk fv e = lG e[i]? (bndS (fk e) (sAgL1 i o fv)) := rfl
section
variable {X : Cx} {pos : Pos}
theorem qs_augL {i : Nat} {x : Str} {p tpos : Pos} {op : Operator} {o : S → S → Option S} {ek ev : Expr} {fk fv : Fn1 Arg} (c : AugOk X op o) (hk : PX X ek fk) (hv : PX X ev fv) (hN : X.N[i]? = some x := by rfl) (hvi : Vis X.env.scope x := by first | exact Or.inl rfl | exact Or.inr (Or.inl rfl) | exact Or.inr (Or.inr rfl))
    (hd : (x == ("__debug__" : Str)) = false := by decide) (hcd : (x == ("__classdict__" : Str)) = false := by decide)
    (ha : ∀ ov iv new, augStore ek ov iv new = (do holding [new, ov, iv] (setItem ov iv new); release [new, ov, iv] []; pure .next) := by intros; rfl) :
    PXS X (.AugAssign (.Subscript (.Name x p) ek tpos) op ev pos) [] (sAgL i o fk fv) := by
  obtain ⟨r, h1, h2⟩ := c.ex
  refine PS.imp (ps_augS (tip := r) (pe_var hN hvi hd hcd) hk get_list hv (fun pins s σ H x y v u Q I rx ry q => h1 pins s σ H x y v u Q I rx ry q) set_list ha) fun D σ H h => ?_
  obtain ⟨env, W, rr, re, e, pq⟩ := h
  obtain ⟨⟨xs0, hi0⟩, e⟩ := lG_eq e
  obtain ⟨a, vs0, hσ, _⟩ := lst_of re hi0
  obtain ⟨k1, env1, ek1, e⟩ := bndS_eq e
  unfold sAgL1 agX at e
  split at e
  · rename_i xs n hi hk1
    unfold agY at e
    split at e
    · rename_i y hy
      obtain ⟨b1, env2, eb1, e⟩ := bndS_eq e
      unfold sAgL2 agE at e
      split at e
      · rename_i z1 z2 z3 w n' xs2 hop hn hi2
        cases hn
        cases q2 : putL xs2 n w with
        | none => rw [q2] at e; cases e
        | some ys =>
          rw [q2] at e
          cases e
          refine ⟨.ref a, hσ, env, W, k1, env1, re, ek1, fun yk H1 W1 F1 r1 ra1 tm1 t1 => ?_⟩
          obtain ⟨a', vs, hσ', w1, hH, rs⟩ := lst_of r1 hi
          rw [hσ] at hσ'
          cases hσ'
          have ey : yk = .int n := rd_int (ra1.read r1 hk1)
          subst ey
          obtain ⟨j, ej, hyj⟩ := getI_at hy
          obtain ⟨yv, hyv, ry⟩ := rs.get hyj
          refine ⟨a, vs, n, yv, rfl, rfl, SqL.of hH, ?_, env1, W1, b1, env2, r1, eb1, fun vv H2 W2 F2 r2 ra2 tm2 t2 => ?_⟩
          · unfold L2.atI
            rw [← rs.length, ej]
            exact hyv
          · obtain ⟨sx, sy, e1, e2, eo⟩ := op2_eq hop
            cases e1
            have ry2 : Rd1 X.K H2 (.d y) yv := ⟨F0, RD.pst (r1.pst t2) ry⟩
            refine h2 H2 yv vv _ _ _ _ eo ry2 (ra2.read r2 e2) fun z H3 F3 sm hF rz => ?_
            have r3 := r2.same sm
            obtain ⟨a3, vs3, hσ3, w3, hH3, rs3⟩ := lst_of r3 hi2
            rw [hσ] at hσ3
            cases hσ3
            obtain ⟨j3, ej3, rs4⟩ := putL_rd q2 rs3 rz
            exact ⟨a, vs3, n, j3, rfl, rfl, hH3, ej3, pq σ _ W2 (r3.put hi2 hσ w3 hH3 rs4) (((t1.less (G := F0) fun _ z => z.elim).trans0 ((t2.less (G := F0) fun _ z => z.elim).trans0 (Tr.same (F := F0) sm fun _ z => z.elim))).trans0 (Tr.put w3)) Eqs.refl⟩
      · cases e
    · cases e
  · cases e
end
end QL
end

section
set_option Elab.async false
set_option linter.all false
set_option maxRecDepth 100000
namespace QL
open PySem PySem.Spec PyProof.Rows L2
/-! ### a slot's own thing, locked while a statement runs -/
def lkA1 (A : List Nat) (k : Nat) (s t : Option S) : Prop := ∀ x, t = some (.lk x) → k ∉ A ∧ s = some (.lk x)
def lkA (A : List Nat) : Nat → En → En → Prop
  | k, s :: es, t :: ts => lkA1 A k s t ∧ lkA A (k + 1) es ts
  | _, _, [] => True
  | _, [], _ :: _ => False
@[simp] theorem lkA1_d {A : List Nat} {k : Nat} {s : Option S} {x : D} : lkA1 A k s (some (.d x)) = True := eq_true fun _ h => by cases h
@[simp] theorem lkA1_m {A : List Nat} {k : Nat} {s : Option S} {x : M} : lkA1 A k s (some (.m x)) = True := eq_true fun _ h => by cases h
@[simp] theorem lkA1_none {A : List Nat} {k : Nat} {s : Option S} : lkA1 A k s none = True := eq_true fun _ h => by cases h
@[simp] theorem lkA1_lk {A : List Nat} {k : Nat} {x : M} : lkA1 A k (some (.lk x)) (some (.lk x)) = (k ∉ A) := propext ⟨fun h => (h x rfl).1, fun h y e => ⟨h, e⟩⟩
@[simp] theorem lkA_cons {A : List Nat} {k : Nat} {s t : Option S} {es ts : En} : lkA A k (s :: es) (t :: ts) = (lkA1 A k s t ∧ lkA A (k + 1) es ts) := rfl
@[simp] theorem lkA_nil {A : List Nat} {k : Nat} {es : En} : lkA A k es [] = True := by cases es <;> rfl
theorem lkA_get {A : List Nat} : ∀ {es ts : En} {k i : Nat} {x : M}, lkA A k es ts → ts[i]? = some (some (.lk x)) → k + i ∉ A ∧ es[i]? = some (some (.lk x))
  | s :: es, t :: ts, k, 0, x, h, e => by
    simp at e
    have := h.1 x e
    simpa using this
  | s :: es, t :: ts, k, i + 1, x, h, e => by
    have := lkA_get (es := es) (ts := ts) (k := k + 1) (i := i) (x := x) h.2 (by simpa using e)
    rw [show k + 1 + i = k + (i + 1) by omega] at this
    simpa using this
  | es, [], k, i, x, h, e => by simp at e
  | [], t :: ts, k, i, x, h, e => h.elim
theorem lock_core {K : PySem.W.Frag} {H : Hp} {σ : Sl} {env : En} {W : Ow} {j : Nat} {xs : M} (re : RE K H σ env W) (hx : env[j]? = some (some (.m xs))) (hlk : lkb xs = true) :
    ∃ L, Cells H L ∧ ∀ H1, Lk H H1 L → ∃ W1, RE K H1 σ (env.set j (some (.lk xs))) W1 ∧
      ∀ (A : List Nat) (σ' : Sl) (H' : Hp) (W' : Ow) (F : Addr → Prop) (env1 : En), RE K H' σ' env1 W' → Tr W1 H1 W' H' F → Tm W' H' F → Eqs A σ σ' → j ∉ A → env1[j]? = some (some (.lk xs)) → lkA A 0 env (env1.set j (some (.m xs))) →
        (∀ p ∈ L, H' p.1 = H1 p.1) ∧ ∀ H2, Ulk H' H2 L → ∃ W2, RE K H2 σ' (env1.set j (some (.m xs))) W2 ∧ Tr W H W2 H2 F ∧ Tm W2 H2 F ∧ ∀ s v, RS K H' s v F → (∀ x, s ≠ .lk x) → RS K H2 s v F := by
  obtain ⟨v0, hσ, rm⟩ := re.slots j _ hx
  obtain ⟨L, cs, wL, _, toL, toM⟩ := lock_of hlk rm
  refine ⟨L, cs, fun H1 lk => ?_⟩
  have nd : ∀ i, ∀ p ∈ L, W i p.1 → i = j := fun i p hp w => re.apart i j p.1 w (wL p hp)
  have lj : j < env.length := by
    by_cases z : j < env.length
    · exact z
    · rw [List.getElem?_eq_none (by omega)] at hx; cases hx
  have off : ∀ {H' : Hp} {b : Addr} {o : HO}, (∀ p ∈ L, ∃ u, H' p.1 = some u ∧ (Mut (some u) ∨ ∃ o x, u = .frz o x ∧ Mut (some x))) → H' b = some o → ¬ Mut (some o) → (∀ o' x, o = .frz o' x → ¬ Mut (some x)) → ∀ p ∈ L, b ≠ p.1 := fun {H' b o} c hb n1 n2 p hp z => by
    obtain ⟨u, q1, q2⟩ := c p hp
    rw [z, q1] at hb
    cases hb
    rcases q2 with q2 | ⟨o', x, rfl, q2⟩
    · exact n1 q2
    · exact n2 o' x rfl q2
  have inL : ∀ {b : Addr}, (¬ ∀ p ∈ L, b ≠ p.1) → ∃ p ∈ L, b = p.1 := fun {b} n => by
    apply Classical.byContradiction
    intro m
    exact n fun p hp z => m ⟨p, hp, z⟩
  have cH : ∀ p ∈ L, ∃ u, H p.1 = some u ∧ (Mut (some u) ∨ ∃ o x, u = .frz o x ∧ Mut (some x)) := fun p hp => ⟨_, (cs.1 p hp).1, .inl (cs.1 p hp).2⟩
  have pst2 : ∀ {Ha Hb : Hp}, (∀ p ∈ L, ∃ u, Ha p.1 = some u ∧ (Mut (some u) ∨ ∃ o x, u = .frz o x ∧ Mut (some x))) → (∀ b, (∀ p ∈ L, b ≠ p.1) → Hb b = Ha b) → Pst Ha Hb := fun {Ha Hb} c e b zs hb => by
    rcases hb with hb | ⟨o, hb⟩
    · exact .inl (by rw [e b (off c hb (fun z => z) (fun _ _ z => by cases z))]; exact hb)
    · exact .inr ⟨o, by rw [e b (off c hb (fun z => z) (fun _ _ z => by cases z; exact fun z => z))]; exact hb⟩
  have p1 : Pst H H1 := pst2 cH lk.1
  have re1 : RE K H1 σ (env.set j (some (.lk xs))) fun i b => W i b ∧ i ≠ j := by
    refine ⟨fun i s hs => ?_, fun i i' b h1 h2 => re.apart i i' b h1.1 h2.1, fun i b h1 => ?_, by rw [List.length_set]; exact re.len⟩
    · by_cases hij : i = j
      · subst hij
        rw [List.getElem?_set_self lj] at hs
        cases hs
        exact ⟨v0, hσ, toL _ p1 lk.2⟩
      · rw [List.getElem?_set_ne (fun z => hij z.symm)] at hs
        obtain ⟨v, q1, q2⟩ := re.slots i s hs
        refine ⟨v, q1, ?_⟩
        have ne : ∀ b, W i b → ∀ p ∈ L, b ≠ p.1 := fun b w p hp z => hij (nd i p hp (z ▸ w))
        cases s with
        | d x => exact RD.pst p1 q2
        | m x => exact (RM.move p1 (RM.imp q2 (P' := fun b => W i b ∧ i ≠ j) fun b w => ⟨w, hij⟩) fun b o w hb => by rw [lk.1 b (ne b w.1)]; exact hb)
        | lk x =>
          refine RL.move p1 q2 fun b o u' hb => ?_
          have nb : ∀ p ∈ L, b ≠ p.1 := fun p hp z => by
            rw [z, (cs.1 p hp).1] at hb
            have m := (cs.1 p hp).2
            rw [Option.some.inj hb] at m
            exact m
          rw [lk.1 b nb]
          exact hb
    · have nb : ∀ p ∈ L, b ≠ p.1 := fun p hp z => h1.2 (nd i p hp (z ▸ h1.1))
      rw [lk.1 b nb]
      exact re.mu i b h1.1
  refine ⟨_, re1, fun A σ' H' W' F env1 r' t tm q hjA c1 c2 => ?_⟩
  have no1 : ∀ p ∈ L, ¬ Own (fun i b => W i b ∧ i ≠ j) p.1 := fun p hp ⟨i, w, n⟩ => n (nd i p hp w)
  have hd' : ∀ p ∈ L, H' p.1 = H1 p.1 := fun p hp => by
    obtain ⟨o, ho⟩ := lk.2 p hp
    rw [ho]
    exact t.frame p.1 _ ho (no1 p hp)
  refine ⟨hd', fun H2 ul => ?_⟩
  have cH' : ∀ p ∈ L, ∃ u, H' p.1 = some u ∧ (Mut (some u) ∨ ∃ o x, u = .frz o x ∧ Mut (some x)) := fun p hp => by
    obtain ⟨o, ho⟩ := lk.2 p hp
    exact ⟨_, (hd' p hp).trans ho, .inr ⟨o, _, rfl, (cs.1 p hp).2⟩⟩
  have ndW : ∀ i b, W' i b → ∀ p ∈ L, b ≠ p.1 := fun i b w p hp z => by
    have := r'.mu i b w
    obtain ⟨o, ho⟩ := lk.2 p hp
    rw [z, hd' p hp, ho] at this
    exact this
  have ndF : ∀ b, F b → ∀ p ∈ L, b ≠ p.1 := fun b w p hp z => by
    have := (tm b w).2
    obtain ⟨o, ho⟩ := lk.2 p hp
    rw [z, hd' p hp, ho] at this
    exact this
  have p2 : Pst H' H2 := pst2 cH' ul.1
  have p3 : Pst H H2 := fun b zs hb => p2 b zs (re1.pst t b zs (p1 b zs hb))
  have keep : ∀ {s : S} {v : V} {P : Addr → Prop}, RS K H' s v P → (∀ b, P b → ∀ p ∈ L, b ≠ p.1) → (∀ x, s ≠ .lk x) → RS K H2 s v P := fun {s v P} q2 ne nl => by
    cases s with
    | d x => exact RD.pst p2 q2
    | m x => exact RM.move p2 q2 fun b o w hb => by rw [ul.1 b (ne b w)]; exact hb
    | lk x => exact absurd rfl (nl x)
  have lj1 : j < env1.length := by
    by_cases z : j < env1.length
    · exact z
    · rw [List.getElem?_eq_none (by omega)] at c1; cases c1
  refine ⟨fun i b => W' i b ∨ (i = j ∧ ∃ p ∈ L, b = p.1), ⟨fun i s hs => ?_, fun i i' b h1 h2 => ?_, fun i b h1 => ?_, by rw [List.length_set]; exact r'.len⟩, ⟨fun b o hb nb => ?_, fun b hb => ?_, fun b hb nb => ?_⟩, (fun b hb => ⟨fun ⟨i, w⟩ => ?_, by rw [ul.1 b (ndF b hb)]; exact (tm b hb).2⟩), fun s v rs nl => keep rs ndF nl⟩
  · by_cases hij : i = j
    · subst hij
      rw [List.getElem?_set_self lj1] at hs
      cases hs
      exact ⟨v0, by rw [q.2 i hjA]; exact hσ, toM _ _ p3 ul.2 fun p hp => .inr ⟨rfl, p, hp, rfl⟩⟩
    · have hs' := hs
      rw [List.getElem?_set_ne (fun z => hij z.symm)] at hs
      obtain ⟨v', q1, q2⟩ := r'.slots i s hs
      cases s with
      | lk x =>
        obtain ⟨hA, h5⟩ := lkA_get c2 hs'
        rw [Nat.zero_add] at hA
        obtain ⟨v2, q3, q4⟩ := re.slots i _ h5
        refine ⟨v2, by rw [q.2 i hA]; exact q3, ?_⟩
        exact RL.move p3 q4 fun b o u' hb => by
          have nb : ∀ p ∈ L, b ≠ p.1 := fun p hp z => by
            rw [z, (cs.1 p hp).1] at hb
            have m := (cs.1 p hp).2
            rw [Option.some.inj hb] at m
            exact m
          rw [ul.1 b nb]
          refine t.frame b _ (by rw [lk.1 b nb]; exact hb) fun ⟨i', w, _⟩ => ?_
          have := re.mu i' b w
          rw [hb] at this
          exact this
      | d x => exact ⟨v', q1, RS.imp (keep q2 (fun b w => ndW i b w) (fun x => by simp)) fun b w => .inl w⟩
      | m x => exact ⟨v', q1, RS.imp (keep q2 (fun b w => ndW i b w) (fun x => by simp)) fun b w => .inl w⟩
  · rcases h1 with h1 | ⟨rfl, p, hp, rfl⟩ <;> rcases h2 with h2 | ⟨rfl, p2, hp2, e2⟩
    · exact r'.apart i i' b h1 h2
    · exact absurd e2 (ndW i b h1 p2 hp2)
    · exact absurd rfl (ndW i' _ h2 p hp)
    · rfl
  · rcases h1 with h1 | ⟨_, p, hp, rfl⟩
    · rw [ul.1 b (ndW i b h1)]; exact r'.mu i b h1
    · rw [ul.2 p hp]; exact (cs.1 p hp).2
  · have bd : ∀ p ∈ L, b ≠ p.1 := fun p hp z => nb ⟨j, z ▸ wL p hp⟩
    rw [ul.1 b bd]
    exact t.frame b o (by rw [lk.1 b bd]; exact hb) fun ⟨i, w, _⟩ => nb ⟨i, w⟩
  · by_cases bd : ∀ p ∈ L, b ≠ p.1
    · rw [ul.1 b bd]
      exact t.dom b (by rw [lk.1 b bd]; exact hb)
    · obtain ⟨p, hp, rfl⟩ := inL bd
      rw [ul.2 p hp]; simp
  · have bd : ∀ p ∈ L, b ≠ p.1 := fun p hp z => nb ⟨j, z ▸ wL p hp⟩
    have h5 := t.out b (by rw [lk.1 b bd]; exact hb) fun ⟨i, w, _⟩ => nb ⟨i, w⟩
    refine ⟨fun ⟨i, w⟩ => ?_, h5.2⟩
    rcases w with w | ⟨_, p, hp, w⟩
    · exact h5.1 ⟨i, w⟩
    · exact bd p hp w
  · rcases w with w | ⟨_, p, hp, w⟩
    · exact (tm b hb).1 ⟨i, w⟩
    · exact ndF b hb p hp w
def tLocks (t : TS) : TS := fun D σ H => ∃ L, Cells H L ∧ ∀ H1, Lk H H1 L → t ⟨fun σ' H' => (∀ p ∈ L, H' p.1 = H1 p.1) ∧ ∀ H2, Ulk H' H2 L → D.nx σ' H2, fun v H' => (∀ p ∈ L, H' p.1 = H1 p.1) ∧ ∀ H2, Ulk H' H2 L → D.rt v H2,
  fun σ' H' => (∀ p ∈ L, H' p.1 = H1 p.1) ∧ ∀ H2, Ulk H' H2 L → D.bk σ' H2, fun σ' H' => (∀ p ∈ L, H' p.1 = H1 p.1) ∧ ∀ H2, Ulk H' H2 L → D.ct σ' H2⟩ σ H1
theorem ps_locks {X : Cx} {st : Stmt} {t : TS} (h : PS X st t) : PS X st (tLocks t) := by
  refine ⟨fun pins s σ H D I hw => ?_⟩
  obtain ⟨L, c, hw⟩ := hw
  obtain ⟨H1, l1, I1⟩ := Inv_locks L I c
  refine thn (h.run pins s σ _ _ I1 (hw H1 l1)) fun f s1 q => ?_
  have un : ∀ {σ' : Sl} {H' : Hp}, Inv X pins σ' H' s1 → (∀ p ∈ L, H' p.1 = H1 p.1) → ∃ H2, Ulk H' H2 L ∧ Inv X pins σ' H2 s1 := fun {σ' H'} I2 e2 =>
    Inv_unlocks L I2 (fun p hp => by rw [e2 p hp]; exact l1.2 p hp) (fun p hp => I.nofrz (c.1 p hp).1 (c.1 p hp).2) c.2
  cases f with
  | next => obtain ⟨σ', H', I2, e, q⟩ := q; obtain ⟨H2, u2, I3⟩ := un I2 e; exact ⟨σ', H2, I3, q H2 u2⟩
  | brk => obtain ⟨σ', H', I2, e, q⟩ := q; obtain ⟨H2, u2, I3⟩ := un I2 e; exact ⟨σ', H2, I3, q H2 u2⟩
  | cont => obtain ⟨σ', H', I2, e, q⟩ := q; obtain ⟨H2, u2, I3⟩ := un I2 e; exact ⟨σ', H2, I3, q H2 u2⟩
  | ret v => obtain ⟨x, σ', H', I2, r, e, q⟩ := q; obtain ⟨H2, u2, I3⟩ := un I2 e; exact ⟨x, σ', H2, I3, r, q H2 u2⟩
def Res.en : Res → En
  | .nx e => e | .rt _ e => e | .bk e => e | .ct e => e
def Res.wi : Res → En → Res
  | .nx _, e => .nx e | .rt s _, e => .rt s e | .bk _, e => .bk e | .ct _, e => .ct e
def Res.ok : Res → Bool
  | .rt (.lk _) _ => false
  | _ => true
@[simp] theorem Res.en_nx {e : En} : (Res.nx e).en = e := rfl
@[simp] theorem Res.en_rt {s : S} {e : En} : (Res.rt s e).en = e := rfl
@[simp] theorem Res.en_bk {e : En} : (Res.bk e).en = e := rfl
@[simp] theorem Res.en_ct {e : En} : (Res.ct e).en = e := rfl
@[simp] theorem Res.wi_nx {e e1 : En} : (Res.nx e).wi e1 = .nx e1 := rfl
@[simp] theorem Res.wi_rt {s : S} {e e1 : En} : (Res.rt s e).wi e1 = .rt s e1 := rfl
@[simp] theorem Res.wi_bk {e e1 : En} : (Res.bk e).wi e1 = .bk e1 := rfl
@[simp] theorem Res.wi_ct {e e1 : En} : (Res.ct e).wi e1 = .ct e1 := rfl
@[simp] theorem Res.ok_nx {e : En} : (Res.nx e).ok = true := rfl
@[simp] theorem Res.ok_bk {e : En} : (Res.bk e).ok = true := rfl
@[simp] theorem Res.ok_ct {e : En} : (Res.ct e).ok = true := rfl
@[simp] theorem Res.ok_d {x : D} {e : En} : (Res.rt (.d x) e).ok = true := rfl
@[simp] theorem Res.ok_m {x : M} {e : En} : (Res.rt (.m x) e).ok = true := rfl
open Classical in
noncomputable def slkR (A : List Nat) (j : Nat) (xs : M) (es : En) (a : Option (Option S)) (r : Res) : Option Res :=
  if a = some (some (.lk xs)) ∧ lkA A 0 es (r.en.set j (some (.m xs))) ∧ r.ok = true ∧ j ∉ A then some (r.wi (r.en.set j (some (.m xs)))) else none
noncomputable def slkK (A : List Nat) (j : Nat) (xs : M) (es : En) : Option Res → Option Res
  | some r => slkR A j xs es r.en[j]? r
  | none => none
@[simp] theorem slkK_some {A : List Nat} {j : Nat} {xs : M} {es : En} {r : Res} : slkK A j xs es (some r) = slkR A j xs es r.en[j]? r := rfl
theorem slkR_ok {A : List Nat} {j : Nat} {xs : M} {es : En} {r : Res} (h1 : lkA A 0 es (r.en.set j (some (.m xs)))) (h2 : r.ok = true) (h3 : j ∉ A) : slkR A j xs es (some (some (.lk xs))) r = some (r.wi (r.en.set j (some (.m xs)))) := if_pos ⟨rfl, h1, h2, h3⟩
noncomputable def slkG (A : List Nat) (j : Nat) (f : FS) (x : Option (Option S)) (e : En) : Option Res := match x with
  | some (some (.m xs)) => if lkb xs = true then slkK A j xs e (f (e.set j (some (.lk xs)))) else none
  | _ => none
@[simp] theorem slkG_m {A : List Nat} {j : Nat} {f : FS} {xs : M} {e : En} : slkG A j f (some (some (.m xs))) e = if lkb xs = true then slkK A j xs e (f (e.set j (some (.lk xs)))) else none := rfl
noncomputable def sLock (A : List Nat) (j : Nat) (f : FS) : FS := fun e => slkG A j f e[j]? e
@[simp] theorem sLock_ap {A : List Nat} {j : Nat} {f : FS} {e : En} : sLock A j f e = slkG A j f e[j]? e := rfl
theorem qs_lock {X : Cx} {st : Stmt} {f : FS} {A : List Nat} (j : Nat) (h : PXS X st A f) : PXS X st A (sLock A j f) := PS.imp (ps_locks h) fun D σ H hq => by
  obtain ⟨env, W, r, re, ef, p⟩ := hq
  unfold sLock slkG at ef
  split at ef
  · rename_i xs hx
    split at ef
    case isFalse => cases ef
    rename_i hlk
    cases q : f (env.set j (some (.lk xs))) with
    | none => rw [q] at ef; cases ef
    | some r1 =>
      rw [q, slkK_some] at ef
      unfold slkR at ef
      split at ef
      · rename_i cnd
        obtain ⟨c1, c2, c3, c4⟩ := cnd
        cases ef
        obtain ⟨L, cs, hl⟩ := lock_core re hx hlk
        refine ⟨L, cs, fun H1 lk => ?_⟩
        obtain ⟨W1, re1, fin⟩ := hl H1 lk
        refine ⟨_, W1, r1, re1, q, ?_⟩
        cases r1 with
        | nx e1 =>
          intro σ' H' W' r' t' q'
          obtain ⟨h1, h2⟩ := fin A σ' H' W' F0 e1 r' t' Tm.zero q' c4 c1 c2
          refine ⟨h1, fun H2 ul => ?_⟩
          obtain ⟨W2, r2, t2, _, _⟩ := h2 H2 ul
          exact p σ' H2 W2 r2 t2 q'
        | bk e1 =>
          intro σ' H' W' r' t' q'
          obtain ⟨h1, h2⟩ := fin A σ' H' W' F0 e1 r' t' Tm.zero q' c4 c1 c2
          refine ⟨h1, fun H2 ul => ?_⟩
          obtain ⟨W2, r2, t2, _, _⟩ := h2 H2 ul
          exact p σ' H2 W2 r2 t2 q'
        | ct e1 =>
          intro σ' H' W' r' t' q'
          obtain ⟨h1, h2⟩ := fin A σ' H' W' F0 e1 r' t' Tm.zero q' c4 c1 c2
          refine ⟨h1, fun H2 ul => ?_⟩
          obtain ⟨W2, r2, t2, _, _⟩ := h2 H2 ul
          exact p σ' H2 W2 r2 t2 q'
        | rt s e1 =>
          intro v σ' H' W' F r' rs tm t' q'
          obtain ⟨h1, h2⟩ := fin A σ' H' W' F e1 r' t' tm q' c4 c1 c2
          refine ⟨h1, fun H2 ul => ?_⟩
          obtain ⟨W2, r2, t2, tm2, k2⟩ := h2 H2 ul
          refine p v σ' H2 W2 F r2 (k2 s v rs fun x z => ?_) tm2 t2 q'
          subst z
          cases c3
      · cases ef
  · cases ef
end QL
end

section
set_option Elab.async false
set_option linter.all false
set_option maxRecDepth 100000
namespace QL
open PySem PySem.Spec PyProof.Rows L2
/-! ### ranges as values: list(range(..)), tuple(range(..)) -/
def rgOk (i j : Int) : Bool := decide (-(2 ^ 62) ≤ i ∧ i < 2 ^ 62 ∧ -(2 ^ 62) ≤ j ∧ j < 2 ^ 62 ∧ (j - i).toNat ≤ 2 ^ 24)
theorem rgOk_of {i j : Int} (h0 : -1000000 ≤ i) (h1 : i ≤ 1000000) (h2 : -1000000 ≤ j) (h3 : j ≤ 1000000) : rgOk i j = true := decide_eq_true ⟨by omega, by omega, by omega, by omega, by omega⟩
theorem rgOk_RgOk {i j : Int} (h : rgOk i j = true) : RgOk i j := of_decide_eq_true (p := -(2 ^ 62) ≤ i ∧ i < 2 ^ 62 ∧ -(2 ^ 62) ≤ j ∧ j < 2 ^ 62 ∧ (j - i).toNat ≤ 2 ^ 24) h
theorem rngL_rd {K : PySem.W.Frag} {H : Hp} (i j : Int) : RDs K H (rngL i (j - i).toNat) (rgV i j) := by
  have := RDs.ints (K := K) (H := H) ((List.range (j - i).toNat).map fun (k : Nat) => i + (k : Int))
  rw [List.map_map, List.map_map] at this
  exact this
def oRgL1 : S → Option S
  | .d (.int j) => if rgOk 0 j = true then some (.m (.lst (rngL 0 j.toNat))) else none
  | _ => none
def oRgT1 : S → Option S
  | .d (.int j) => if rgOk 0 j = true then some (.d (.tup (rngL 0 j.toNat))) else none
  | _ => none
def oRgL2 : S → S → Option S := fun x y => match x, y with
  | .d (.int i), .d (.int j) => if rgOk i j = true then some (.m (.lst (rngL i (j - i).toNat))) else none
  | _, _ => none
def oRgT2 : S → S → Option S := fun x y => match x, y with
  | .d (.int i), .d (.int j) => if rgOk i j = true then some (.d (.tup (rngL i (j - i).toNat))) else none
  | _, _ => none
@[simp] theorem oRgL1_int {j : Int} : oRgL1 (.d (.int j)) = if rgOk 0 j = true then some (.m (.lst (rngL 0 j.toNat))) else none := rfl
@[simp] theorem oRgT1_int {j : Int} : oRgT1 (.d (.int j)) = if rgOk 0 j = true then some (.d (.tup (rngL 0 j.toNat))) else none := rfl
@[simp] theorem oRgL2_int {i j : Int} : oRgL2 (.d (.int i)) (.d (.int j)) = if rgOk i j = true then some (.m (.lst (rngL i (j - i).toNat))) else none := rfl
@[simp] theorem oRgT2_int {i j : Int} : oRgT2 (.d (.int i)) (.d (.int j)) = if rgOk i j = true then some (.d (.tup (rngL i (j - i).toNat))) else none := rfl
section
variable {X : Cx} {a b c : Expr} {fa fb fc : Fn1 Arg} {p p2 q pos : Pos}
theorem qx_listRg1 (hc : X.calm = true) (hg : Gl X "list") (hm : X.mg "list" = none) (hg2 : Gl X "range") (hm2 : X.mg "range" = none) (ha : PX X a fa) (na : starEach [a] X.env = (false, eval a X.env) :: starEach [] X.env := by rfl)
    (nr : starEach [.Call (.Name "range" p2) [a] [] q] X.env = (false, eval (.Call (.Name "range" p2) [a] [] q) X.env) :: starEach [] X.env := by rfl) :
    PX X (.Call (.Name "list" p) [.Call (.Name "range" p2) [a] [] q] [] pos) (fUn oRgL1 fa) := PE.imp (pe_listRg hc hg hm (prg_1 hg2 hm2 ha na) nr) fun σ H Q h =>
  un_read (r := fun x H Q => ∃ n, x = .int n ∧ (RgOk 0 n ∧ ∀ q, H q = none → Q (.ref q) (upd H q (.lst (rgV 0 n))))) (fun H x sx s Q e hx f => by
    unfold oRgL1 at e
    split at e
    · split at e
      · rename_i j h
        cases e
        have r := rngL_rd (K := X.K) (H := H) 0 j
        rw [Int.sub_zero] at r
        exact ⟨j, rd_int hx, rgOk_RgOk h, fun q hq => f.lst r hq⟩
      · cases e
    · cases e) h
theorem qx_tupRg1 (hc : X.calm = true) (hg : Gl X "tuple") (hm : X.mg "tuple" = none) (hg2 : Gl X "range") (hm2 : X.mg "range" = none) (ha : PX X a fa) (na : starEach [a] X.env = (false, eval a X.env) :: starEach [] X.env := by rfl)
    (nr : starEach [.Call (.Name "range" p2) [a] [] q] X.env = (false, eval (.Call (.Name "range" p2) [a] [] q) X.env) :: starEach [] X.env := by rfl) :
    PX X (.Call (.Name "tuple" p) [.Call (.Name "range" p2) [a] [] q] [] pos) (fUn oRgT1 fa) := PE.imp (pe_tupRg hc hg hm (prg_1 hg2 hm2 ha na) nr) fun σ H Q h =>
  un_read (r := fun x H Q => ∃ n, x = .int n ∧ (RgOk 0 n ∧ ∀ q, H q = none → Q (.ref q) (upd H q (.tup (rgV 0 n))))) (fun H x sx s Q e hx f => by
    unfold oRgT1 at e
    split at e
    · split at e
      · rename_i j h
        cases e
        have r := rngL_rd (K := X.K) (H := H) 0 j
        rw [Int.sub_zero] at r
        exact ⟨j, rd_int hx, rgOk_RgOk h, fun q hq => f.tup r hq⟩
      · cases e
    · cases e) h
theorem qx_listRg2 (hc : X.calm = true) (hg : Gl X "list") (hm : X.mg "list" = none) (hg2 : Gl X "range") (hm2 : X.mg "range" = none) (ha : PX X a fa) (hb : PX X b fb) (na : starEach [a, b] X.env = (false, eval a X.env) :: starEach [b] X.env := by rfl)
    (nb : starEach [b] X.env = (false, eval b X.env) :: starEach [] X.env := by rfl) (hp : (backTo q (starEach [b] X.env)).any (·.1) = false := by rfl)
    (nr : starEach [.Call (.Name "range" p2) [a, b] [] q] X.env = (false, eval (.Call (.Name "range" p2) [a, b] [] q) X.env) :: starEach [] X.env := by rfl) :
    PX X (.Call (.Name "list" p) [.Call (.Name "range" p2) [a, b] [] q] [] pos) (fBin oRgL2 fa fb) := PE.imp (pe_listRg hc hg hm (prg_2 hg2 hm2 ha hb na nb hp) nr) fun σ H Q h =>
  bin_read (r := fun x y H Q => ∃ i j, x = .int i ∧ y = .int j ∧ (RgOk i j ∧ ∀ q, H q = none → Q (.ref q) (upd H q (.lst (rgV i j))))) (fun H x y sx sy s Q e hx hy f => by
    unfold oRgL2 at e
    split at e
    · split at e
      · rename_i i j h
        cases e
        exact ⟨i, j, rd_int hx, rd_int hy, rgOk_RgOk h, fun q hq => f.lst (rngL_rd i j) hq⟩
      · cases e
    · cases e) h
theorem qx_tupRg2 (hc : X.calm = true) (hg : Gl X "tuple") (hm : X.mg "tuple" = none) (hg2 : Gl X "range") (hm2 : X.mg "range" = none) (ha : PX X a fa) (hb : PX X b fb) (na : starEach [a, b] X.env = (false, eval a X.env) :: starEach [b] X.env := by rfl)
    (nb : starEach [b] X.env = (false, eval b X.env) :: starEach [] X.env := by rfl) (hp : (backTo q (starEach [b] X.env)).any (·.1) = false := by rfl)
    (nr : starEach [.Call (.Name "range" p2) [a, b] [] q] X.env = (false, eval (.Call (.Name "range" p2) [a, b] [] q) X.env) :: starEach [] X.env := by rfl) :
    PX X (.Call (.Name "tuple" p) [.Call (.Name "range" p2) [a, b] [] q] [] pos) (fBin oRgT2 fa fb) := PE.imp (pe_tupRg hc hg hm (prg_2 hg2 hm2 ha hb na nb hp) nr) fun σ H Q h =>
  bin_read (r := fun x y H Q => ∃ i j, x = .int i ∧ y = .int j ∧ (RgOk i j ∧ ∀ q, H q = none → Q (.ref q) (upd H q (.tup (rgV i j))))) (fun H x y sx sy s Q e hx hy f => by
    unfold oRgT2 at e
    split at e
    · split at e
      · rename_i i j h
        cases e
        exact ⟨i, j, rd_int hx, rd_int hy, rgOk_RgOk h, fun q hq => f.tup (rngL_rd i j) hq⟩
      · cases e
    · cases e) h
end
/-! list(range(a, b, c)) -/
def stpN (i j c : Int) : Nat := (Builtin.Range.rangeSize i j c).toNat
def stpOk (i j c : Int) : Bool := decide (0 < c ∧ c < 1000000 ∧ -1000000 ≤ i ∧ i ≤ 1000000 ∧ -1000000 ≤ j ∧ j ≤ 1000000)
def stpL (i c : Int) (n : Nat) : List D := (List.range n).map fun (k : Nat) => D.int (i + (k : Int) * c)
theorem stpN_pos {i j c : Int} (h : 0 < c) : stpN i j c = if i < j then ((j - i - 1) / c + 1).toNat else 0 := by
  unfold stpN Builtin.Range.rangeSize
  rw [if_pos h]
  split <;> rfl
def oRgL3 : List S → Option S
  | [.d (.int i), .d (.int j), .d (.int c)] => if stpOk i j c = true then some (.m (.lst (stpL i c (stpN i j c)))) else none
  | _ => none
@[simp] theorem oRgL3_int {i j c : Int} : oRgL3 [.d (.int i), .d (.int j), .d (.int c)] = if stpOk i j c = true then some (.m (.lst (stpL i c (stpN i j c)))) else none := rfl
section
variable {X : Cx} {a b c : Expr} {fs : Fn1 (List Arg)} {p p2 q pos : Pos}
theorem vals_stp {a c : Int} {n : Nat} {acc : Array Value} (h : ItemsOf (fun i v => ∃ t, v = .int (a + i * c) t) acc n) : Vals ((List.range n).map fun i => V.int (a + (i : Nat) * c)) acc.toList := by
  have e : acc.toList.length = n := by rw [Array.length_toList]; exact h.1
  rw [← e]
  refine vals_of_get acc.toList _ fun j u hj => ?_
  obtain ⟨t, rfl⟩ := h.2 j u (by rw [← hj, Array.getElem?_toList])
  exact ⟨t, rfl⟩
def tLstRg3 (ta : TA) : TE := fun σ H Q => ta σ H fun vs H1 => ∃ i j c : Int, vs = [.int i, .int j, .int c] ∧ RgC i j c (stpN i j c) ∧ stpN i j c ≤ 2 ^ 24 ∧ ∀ q, H1 q = none → Q (.ref q) (upd H1 q (.lst ((List.range (stpN i j c)).map fun k => V.int (i + (k : Nat) * c))))
theorem pe_listRg3 {ta : TA} (hc : X.calm = true) (hg : Gl X "list") (hm : X.mg "list" = none) (hg2 : Gl X "range") (hm2 : X.mg "range" = none) (ha : PA X [a, b, c] ta)
    (hs : starEach [a, b, c] X.env = (false, eval a X.env) :: starEach [b, c] X.env := by rfl) (hpl : (backTo q (starEach [b, c] X.env)).any (·.1) = false := by rfl)
    (nr : starEach [.Call (.Name "range" p2) [a, b, c] [] q] X.env = (false, eval (.Call (.Name "range" p2) [a, b, c] [] q) X.env) :: starEach [] X.env := by rfl) :
    PE X (.Call (.Name "list" p) [.Call (.Name "range" p2) [a, b, c] [] q] [] pos) (tLstRg3 ta) := by
  refine ⟨fun pins s σ H Q I h => ?_⟩
  refine Call_ (ld_blt I hg hm PyProof.Rows.boot_list (PyProof.Rows.callWith_type1 (args_cons (Call_ (ld_blt I hg2 hm2 boot_range (PyProof.Rows.callWith_type1 (thn (ha.run q pins s σ H _ I h) fun us s1 ⟨vs, H1, I1, r1, q1⟩ => ?_) hs hpl))) nr) nr))
  obtain ⟨i, j, k, e, ⟨c0, c1, c2, c3⟩, c4, q⟩ := q1
  subst e
  cases r1 with
  | cons r rr =>
    cases rr with
    | cons r' rr =>
      cases rr with
      | cons r'' rr =>
        cases rr
        obtain ⟨t, rfl⟩ := r
        obtain ⟨t', rfl⟩ := r'
        obtain ⟨t'', rfl⟩ := r''
        refine call_range_3 c0 ?_ (.inl (PyProof.noPylong_small c1))
        have I2 : Inv X pins σ H1 { s1 with heap := s1.heap.push { cls := .type "range", data := .fields #[.int i t, .int j t', .int k t''] } } := I1.kept (t' := s1.toks) fun b o e => Heap.get?_push_of_some _ e
        refine args_nil ?_
        refine call_list_range (n := stpN i j k) (I2.ok.hd hc) (IsRange.new ..) c2 c3 c4 fun h' tk acc c' hk e' hi => ?_
        refine ⟨.ref _, upd H1 _ (.lst ((List.range (stpN i j k)).map fun l => V.int (i + (l : Nat) * k))), I2.laid hk (Nat.le_refl _) (show ObjOk X.prog X.w _ _ _ (.lst _) from ⟨?_, acc.toList, c', vals_stp hi, ?_⟩), rfl, q _ (I2.hok.fresh (Nat.le_refl _))⟩
        · rw [List.length_map, List.length_range, sizeLine_eq]; omega
        · rw [Array.toArray_toList]; exact e'
theorem stp_ok {i j c : Int} (h : stpOk i j c = true) : RgC i j c (stpN i j c) ∧ stpN i j c ≤ 2 ^ 24 := by
  have h : 0 < c ∧ c < 1000000 ∧ -1000000 ≤ i ∧ i ≤ 1000000 ∧ -1000000 ≤ j ∧ j ≤ 1000000 := of_decide_eq_true h
  have e : Builtin.Range.rangeSize i j c = if i < j then (j - i - 1) / c + 1 else 0 := by
    unfold Builtin.Range.rangeSize; rw [if_pos h.1]
  have b : i < j → 0 ≤ (j - i - 1) / c ∧ (j - i - 1) / c ≤ j - i - 1 := fun hij => ⟨Int.ediv_nonneg (by omega) (by omega), Int.ediv_le_self _ (by omega)⟩
  have b2 : 0 ≤ Builtin.Range.rangeSize i j c ∧ Builtin.Range.rangeSize i j c ≤ 2000001 := by
    rw [e]
    split
    · rename_i hij
      have := b hij
      omega
    · omega
  refine ⟨⟨by omega, by omega, ?_, ?_⟩, ?_⟩
  · unfold Builtin.Range.small
    generalize Builtin.Range.rangeSize i j c = z at b2
    have hc : c > 0 := h.1
    simp only [Builtin.Range.rangeFitsLong, Bool.and_eq_true, Bool.or_eq_true, decide_eq_true_eq, beq_iff_eq, hc, if_true]
    omega
  · unfold stpN; omega
  · unfold stpN; omega
theorem qx_listRg3 (hc : X.calm = true) (hg : Gl X "list") (hm : X.mg "list" = none) (hg2 : Gl X "range") (hm2 : X.mg "range" = none) (ha : PXA X [a, b, c] fs)
    (hs : starEach [a, b, c] X.env = (false, eval a X.env) :: starEach [b, c] X.env := by rfl) (hpl : (backTo q (starEach [b, c] X.env)).any (·.1) = false := by rfl)
    (nr : starEach [.Call (.Name "range" p2) [a, b, c] [] q] X.env = (false, eval (.Call (.Name "range" p2) [a, b, c] [] q) X.env) :: starEach [] X.env := by rfl) :
    PX X (.Call (.Name "list" p) [.Call (.Name "range" p2) [a, b, c] [] q] [] pos) (fOp oRgL3 fs) := PE.imp (pe_listRg3 hc hg hm hg2 hm2 ha hs hpl nr) fun σ H Q h =>
  opN_read (r := fun vs H1 Q => ∃ i j c : Int, vs = [.int i, .int j, .int c] ∧ RgC i j c (stpN i j c) ∧ stpN i j c ≤ 2 ^ 24 ∧ ∀ q, H1 q = none → Q (.ref q) (upd H1 q (.lst ((List.range (stpN i j c)).map fun k => V.int (i + (k : Nat) * c))))) (fun H vs ss s Q e rr f => by
    unfold oRgL3 at e
    split at e
    · split at e
      · rename_i i j c h
        cases e
        cases rr with
        | cons r1 rr =>
          cases rr with
          | cons r2 rr =>
            cases rr with
            | cons r3 rr =>
              cases rr
              have rd := RDs.ints (K := X.K) (H := H) ((List.range (stpN i j c)).map fun (k : Nat) => i + (k : Int) * c)
              rw [List.map_map, List.map_map] at rd
              exact ⟨i, j, c, by rw [rd_int r1, rd_int r2, rd_int r3], (stp_ok h).1, (stp_ok h).2, fun q hq => f.lst rd hq⟩
      · cases e
    · cases e) h
end
end QL
end

section
set_option Elab.async false
set_option linter.all false
set_option maxRecDepth 100000
namespace QL
open PySem PySem.Spec PyProof.Rows L2
/-! ### methods of lists -/
theorem rr0 {K : PySem.W.Frag} {H : Hp} {vs : List V} (h : RR K H [] vs) : vs = [] := by cases h; rfl
theorem erase_at : ∀ {ns : List Int} {k : Int}, k ∈ ns → ∃ j, ns[j]? = some k ∧ (∀ m : Nat, m < j → ns[m]? ≠ some k) ∧ ns.eraseIdx j = ns.erase k
  | n :: ns, k, h => by
    by_cases e : n = k
    · subst e
      exact ⟨0, rfl, fun m hm => by omega, by simp⟩
    · obtain ⟨j, h1, h2, h3⟩ := erase_at (ns := ns) (k := k) ((List.mem_cons.mp h).resolve_left fun z => e z.symm)
      refine ⟨j + 1, by simpa using h1, fun m hm => ?_, ?_⟩
      · cases m with
        | zero => simpa using e
        | succ m => simpa using h2 m (by omega)
      · rw [List.eraseIdx_cons_succ, List.erase_cons_tail (by simpa using e), h3]
def oRem : MtO := fun xs ss => match ss with
  | [.d (.int k)] => (intsOf xs).bind fun ns => if k ∈ ns then some (.non, (ns.erase k).map D.int) else none
  | _ => none
@[simp] theorem oRem_int {xs : List D} {k : Int} : oRem xs [.d (.int k)] = (intsOf xs).bind fun ns => if k ∈ ns then some (.non, (ns.erase k).map D.int) else none := rfl
def oPop : MtO := fun xs ss => match ss with
  | [] => (xs[xs.length - 1]?).map fun y => (y, xs.dropLast)
  | [.d (.int i)] => if smallI i = true then (L2.ixN xs.length i).bind fun j => (xs[j]?).map fun y => (y, xs.eraseIdx j) else none
  | _ => none
@[simp] theorem oPop_0 {xs : List D} : oPop xs [] = (xs[xs.length - 1]?).map fun y => (y, xs.dropLast) := rfl
@[simp] theorem oPop_1 {xs : List D} {i : Int} : oPop xs [.d (.int i)] = if smallI i = true then (L2.ixN xs.length i).bind fun j => (xs[j]?).map fun y => (y, xs.eraseIdx j) else none := rfl
theorem RDs.eraseIdx {K : PySem.W.Frag} {H : Hp} : ∀ {xs : List D} {us : List V} (n : Nat), RDs K H xs us → RDs K H (xs.eraseIdx n) (us.eraseIdx n)
  | _, _, _, .nil => .nil
  | _, _, 0, .cons r t => t
  | _, _, n + 1, .cons r t => .cons r (RDs.eraseIdx n t)
theorem RDs.dropLast {K : PySem.W.Frag} {H : Hp} {xs : List D} {us : List V} (h : RDs K H xs us) : RDs K H xs.dropLast us.dropLast := by
  rw [List.dropLast_eq_take, List.dropLast_eq_take, h.length]
  exact h.take _
section
variable {X : Cx}
theorem cm_rem : MtOk X "list.remove" oRem := ⟨_, mt_remove, fun H a vs us xs ss x ys Q e hH rs rr k => by
  unfold oRem at e
  split at e
  · rename_i kk
    obtain ⟨v, rfl, h⟩ := rr1 rr
    cases q : intsOf xs with
    | none => rw [q] at e; cases e
    | some ns =>
      rw [q] at e
      have e : (if kk ∈ ns then some (D.non, (ns.erase kk).map D.int) else none) = some (x, ys) := e
      split at e
      · rename_i hm
        cases e
        rw [intsOf_eq q] at rs
        have ev := RDs.of_ints rs
        subst ev
        obtain ⟨j, h1, h2, h3⟩ := erase_at hm
        refine ⟨a, ns, kk, j, rfl, by rw [rd_int h], hH, h1, h2, k _ _ .non ?_⟩
        rw [h3]
        exact RDs.ints _
      · cases e
  · cases e⟩
theorem cm_pop0 : MtOk X "list.pop" oPop := ⟨fun x vs H Q => rPop x vs H Q ∨ rPopAt x vs H Q, fun pins s σ H x xs v us Q I rx rxs h => by
    rcases h with h | h
    · exact mt_pop pins s σ H x xs v us Q I rx rxs h
    · exact mt_popAt pins s σ H x xs v us Q I rx rxs h, fun H a vs us xs ss x ys Q e hH rs rr k => by
  unfold oPop at e
  have pU : ∀ ws : List V, Pst H (upd H a (.lst ws)) := fun ws => pst_write (by rw [hH]; trivial)
  split at e
  · cases rr
    cases q : xs[xs.length - 1]? with
    | none => rw [q] at e; cases e
    | some y =>
      rw [q] at e
      cases e
      obtain ⟨v, hv, rv⟩ := rs.get q
      rw [rs.length] at hv
      exact .inl ⟨a, vs, v, rfl, rfl, hH, hv, k _ _ (RD.pst (pU _) rv) rs.dropLast⟩
  · split at e
    · rename_i i hi
      obtain ⟨v, rfl, h⟩ := rr1 rr
      have hi : -(2 ^ 62) ≤ i ∧ i < 2 ^ 62 := of_decide_eq_true hi
      cases q : L2.ixN xs.length i with
      | none => rw [q] at e; cases e
      | some j =>
        rw [q] at e
        have e : (xs[j]?).map (fun y => (y, xs.eraseIdx j)) = some (x, ys) := e
        cases q2 : xs[j]? with
        | none => rw [q2] at e; cases e
        | some y =>
          rw [q2] at e
          cases e
          obtain ⟨u, hu, ru⟩ := rs.get q2
          rw [rs.length] at q
          exact .inr ⟨a, vs, i, j, u, rfl, by rw [rd_int h], hH, by omega, by omega, (ixN_seq q).1, hu, k _ _ (RD.pst (pU _) ru) (rs.eraseIdx j)⟩
    · cases e
  · cases e⟩
end
/-! ### list * int, tuple * int -/
def oRepL : S → S → Option S := fun x y => match x, y with
  | .m (.lst xs), .d (.int k) => if smallI k = true ∧ xs.length * k.toNat ≤ sizeLine then some (.m (.lst (List.replicate k.toNat xs).flatten)) else none
  | _, _ => none
@[simp] theorem oRepL_int {xs : List D} {k : Int} : oRepL (.m (.lst xs)) (.d (.int k)) = if smallI k = true ∧ xs.length * k.toNat ≤ sizeLine then some (.m (.lst (List.replicate k.toNat xs).flatten)) else none := rfl
theorem RDs.rep {K : PySem.W.Frag} {H : Hp} {xs : List D} {us : List V} (h : RDs K H xs us) : ∀ n : Nat, RDs K H (List.replicate n xs).flatten (List.replicate n us).flatten
  | 0 => .nil
  | n + 1 => by
    rw [List.replicate_succ, List.replicate_succ, List.flatten_cons, List.flatten_cons]
    exact h.append (RDs.rep h n)
theorem op2_repL {K : PySem.W.Frag} : Op2 K rRep oRepL := by
  intro H x y sx sy s Q e hx hy f
  unfold oRepL at e
  split at e
  · split at e
    · rename_i xs k h
      cases e
      have hi : -(2 ^ 62) ≤ k ∧ k < 2 ^ 62 := of_decide_eq_true h.1
      obtain ⟨a, vs, rfl, h1, h2⟩ := rd_lst hx
      exact ⟨a, k, vs, rfl, rd_int hy, h1, by omega, by omega, by rw [← h2.length]; exact h.2, fun p hp => f.lst (h2.rep _) hp⟩
    · cases e
  · cases e
theorem tuple_mulS (l : Addr) (items : Array Value) (n : Nat) (dd : Option Addr) (sl : Array (Option Value)) (x : Int) (u : Tok) (c0 : (decide (x < -(2 ^ 63)) || decide (x ≥ 2 ^ 63)) = false) (c1 : (items.isEmpty || x == 1) = true) :
    Meets (Builtin.«tuple.__mul__» ⟨[.ref l, .int x u], []⟩) (fun _ R s => s.heap.get? l = some { cls := .type "tuple", dict := dd, data := .seq items n, slots := sl } ∧
      R (.ok (.ret (Value.ref l))) s) :=
  .of_wp fun prog w A R s h => by
    obtain ⟨hp, g, d, tk, os⟩ := s
    obtain ⟨hl, h⟩ := h
    have f1 := AutoSeq1.idx_int
    wp_walk using AutoSeq1.wpAny_loadPart' hl
    repeat (first
      | (refine wpAny_ite_false (decide_eq_false (by rw [c0]; exact Bool.false_ne_true)) ?_; wp_walk using AutoSeq1.wpAny_loadPart' hl)
      | (refine wpAny_ite_true (decide_eq_true c1) ?_; wp_walk using AutoSeq1.wpAny_loadPart' hl))
    exact ⟨_, rfl, h⟩
theorem tuple_mul0 (l : Addr) (items : Array Value) (n : Nat) (dd : Option Addr) (sl : Array (Option Value)) (x : Int) (u : Tok) (c0 : (decide (x < -(2 ^ 63)) || decide (x ≥ 2 ^ 63)) = false) (c1 : (items.isEmpty || x == 1) = false) (c2 : (decide (x ≤ 0) || items.isEmpty) = true) :
    Meets (Builtin.«tuple.__mul__» ⟨[.ref l, .int x u], []⟩) (fun _ R s => s.heap.get? l = some { cls := .type "tuple", dict := dd, data := .seq items n, slots := sl } ∧
      R (.ok (.ret (Value.ref s.heap.objs.size))) { s with heap := s.heap.push { cls := Value.type "tuple", data := Data.seq #[] }, toks := s.toks }) :=
  .of_wp fun prog w A R s h => by
    obtain ⟨hp, g, d, tk, os⟩ := s
    obtain ⟨hl, h⟩ := h
    have f1 := AutoSeq1.idx_int
    wp_walk using AutoSeq1.wpAny_loadPart' hl
    repeat (first
      | (refine wpAny_ite_false (decide_eq_false (by rw [c0]; exact Bool.false_ne_true)) ?_; wp_walk using AutoSeq1.wpAny_loadPart' hl)
      | (refine wpAny_ite_false (decide_eq_false (by rw [c1]; exact Bool.false_ne_true)) ?_; wp_walk using AutoSeq1.wpAny_loadPart' hl)
      | (refine wpAny_ite_true (decide_eq_true c2) ?_; wp_walk using AutoSeq1.wpAny_loadPart' hl))
    exact ⟨_, rfl, h⟩
def rRepU (K : PySem.W.Frag) : R2 := fun x y H Q => ∃ l k xs, x = .ref l ∧ y = .int k ∧ SqT K H l xs ∧ -(2 ^ 62) ≤ k ∧ k ≤ 1000 ∧ xs.length ≤ 1000 ∧
  ((xs = [] ∨ k = 1) → Q (.ref l) H) ∧ (¬ (xs = [] ∨ k = 1) → ∀ p, H p = none → Q (.ref p) (upd H p (.tup (List.replicate k.toNat xs).flatten)))
theorem op_repU {X : Cx} : OpR X (binaryOp .Mult) (rRepU X.K) := by
  intro pins s σ H x y v u Q I rx ry h
  obtain ⟨l, k, xs, rfl, rfl, hT, h1, h2, hz, qa, qb⟩ := h
  by_cases hk : ¬ (xs = [] ∨ k = 1) ∧ 2 ≤ k
  · exact op_repT pins s σ H (.ref l) (.int k) v u Q I rx ry ⟨l, k, xs, rfl, rfl, hT, fun z => hk.1 (.inl z), hk.2, h2, hz, qb hk.1⟩
  cases rx
  obtain ⟨t, rfl⟩ := ry
  obtain ⟨its, r, ⟨⟨cls, dd, data, sl⟩, ho, hc, n, hd⟩, hs⟩ := I.tuple hT
  simp only at hc hd
  subst hc hd
  have hle : its.length = xs.length := r.length.symm
  have hi : its.toArray.isEmpty = decide (xs = []) := by
    cases xs with
    | nil =>
      have : its = [] := List.eq_nil_of_length_eq_zero hle
      subst this
      rfl
    | cons a b =>
      cases its with
      | nil => simp at hle
      | cons c d => simp
  have c0 : (decide (k < -(2 ^ 63)) || decide (k ≥ 2 ^ 63)) = false := by
    rw [decide_eq_false (by omega), decide_eq_false (by omega)] <;> rfl
  by_cases c : xs = [] ∨ k = 1
  · have c1 : (its.toArray.isEmpty || k == 1) = true := by
      rw [hi]
      rcases c with c | c <;> simp [c]
    refine wpAny_binaryOp_repeat_ref (T := "tuple") (U := "int") (by decide) ⟨_, ho, rfl⟩ (fun s' => typeIs_int s' k t) noFill_tuple_mul F.fills_int_mul F.slot_int_rmul repeat_tuple F.slot_int_index.lookup
      (call_meets F.slot_int_rmul (typeIs_int s k t) F.entry_int_rmul (F.args_int_rmul_2 _ _) (int_rmul_tuple k t l its.toArray n dd sl)
        ⟨ho, rfl, ⟨_, ho, rfl⟩, call_meets F.slot_tuple_mul ⟨_, ho, rfl⟩ F.entry_tuple_mul (F.args_tuple_mul_2 _ _) (tuple_mulS l its.toArray n dd sl k t c0 c1) ⟨ho, ?_⟩⟩)
    exact ⟨.ref l, H, I, rfl, qa c⟩
  · have hk0 : k ≤ 0 := by
      have : ¬ 2 ≤ k := fun z => hk ⟨c, z⟩
      have : k ≠ 1 := fun z => c (.inr z)
      omega
    have c1 : (its.toArray.isEmpty || k == 1) = false := by
      rw [hi, decide_eq_false fun z => c (.inl z), Bool.false_or]
      exact beq_eq_false_iff_ne.mpr (by omega)
    have c2 : (decide (k ≤ 0) || its.toArray.isEmpty) = true := by rw [decide_eq_true hk0]; rfl
    refine wpAny_binaryOp_repeat_ref (T := "tuple") (U := "int") (by decide) ⟨_, ho, rfl⟩ (fun s' => typeIs_int s' k t) noFill_tuple_mul F.fills_int_mul F.slot_int_rmul repeat_tuple F.slot_int_index.lookup
      (call_meets F.slot_int_rmul (typeIs_int s k t) F.entry_int_rmul (F.args_int_rmul_2 _ _) (int_rmul_tuple k t l its.toArray n dd sl)
        ⟨ho, rfl, ⟨_, ho, rfl⟩, call_meets F.slot_tuple_mul ⟨_, ho, rfl⟩ F.entry_tuple_mul (F.args_tuple_mul_2 _ _) (tuple_mul0 l its.toArray n dd sl k t c0 c1 c2) ⟨ho, ?_⟩⟩)
    have e0 : (List.replicate k.toNat xs).flatten = [] := by rw [show k.toNat = 0 by omega]; rfl
    have qb := qb c
    rw [e0] at qb
    refine ⟨.ref s.heap.objs.size, _, I.laid (t' := s.toks) (o := .tup []) (fun b ob q => Heap.get?_push_of_some _ q) (Nat.le_refl _) ?_, rfl, qb _ (I.hok.fresh (Nat.le_refl _))⟩
    exact ⟨Nat.zero_le _, [], .nil, IsTup.new _ _⟩
def oRepT : S → S → Option S := fun x y => match x, y with
  | .d (.tup xs), .d (.int k) => if -1000 ≤ k ∧ k ≤ 1000 ∧ xs.length ≤ 1000 then some (.d (.tup (List.replicate k.toNat xs).flatten)) else none
  | _, _ => none
@[simp] theorem oRepT_int {xs : List D} {k : Int} : oRepT (.d (.tup xs)) (.d (.int k)) = if -1000 ≤ k ∧ k ≤ 1000 ∧ xs.length ≤ 1000 then some (.d (.tup (List.replicate k.toNat xs).flatten)) else none := rfl
theorem op2_repU {K : PySem.W.Frag} : Op2 K (rRepU K) oRepT := by
  intro H x y sx sy s Q e hx hy f
  unfold oRepT at e
  split at e
  · split at e
    · rename_i xs k h
      cases e
      obtain ⟨a, vs, rfl, h1, h2⟩ := rd_tup hx
      refine ⟨a, k, vs, rfl, rd_int hy, h1, by omega, h.2.1, by rw [← h2.length]; exact h.2.2, fun c => ?_, fun c p hp => f.tup (h2.rep _) hp⟩
      have hl := h2.length
      refine f.imm ?_
      have e : (List.replicate k.toNat xs).flatten = xs := by
        rcases c with c | c
        · subst c
          have : xs = [] := List.eq_nil_of_length_eq_zero hl
          subst this
          induction k.toNat with
          | zero => rfl
          | succ n ih => rw [List.replicate_succ, List.flatten_cons, ih]; rfl
        · subst c
          simp
      rw [e]
      exact .tup h1 h2
    · cases e
  · cases e
/-- products: ints, a list or a tuple repeated -/
def oMulA : S → S → Option S := fun x y => (oMul x y).or ((oRepL x y).or (oRepT x y))
@[simp] theorem oMulA_int {i j : Int} : oMulA (.d (.int i)) (.d (.int j)) = if mulC i j = true then some (.d (.int (i * j))) else none := by
  unfold oMulA
  rw [oMul_int]
  split <;> rfl
@[simp] theorem oMulA_lst {xs : List D} {k : Int} : oMulA (.m (.lst xs)) (.d (.int k)) = if smallI k = true ∧ xs.length * k.toNat ≤ sizeLine then some (.m (.lst (List.replicate k.toNat xs).flatten)) else none := by
  unfold oMulA
  rw [oRepL_int]
  show Option.or none (Option.or _ none) = _
  simp
@[simp] theorem oMulA_tup {xs : List D} {k : Int} : oMulA (.d (.tup xs)) (.d (.int k)) = if -1000 ≤ k ∧ k ≤ 1000 ∧ xs.length ≤ 1000 then some (.d (.tup (List.replicate k.toNat xs).flatten)) else none := by
  unfold oMulA
  rw [oRepT_int]
  show Option.or none (Option.or none _) = _
  simp
section
variable {X : Cx} {a b : Expr} {fa fb : Fn1 Arg} {pos : Pos}
theorem qo_mulA (ha : PX X a fa) (hb : PX X b fb) : PX X (.BinOp a .Mult b pos) (fBin oMulA fa fb) :=
  qx_bin (OpR.or op_mulW (OpR.or op_rep op_repU)) ((op2_intC (fun H i j => .int _) fun i j h => (show CMulW i j from of_decide_eq_true (p := i.natAbs.log2 + j.natAbs.log2 < 1000000) h)).or (op2_repL.or op2_repU)) ha hb
/-! ### shifts; ^= -/
def oShl : S → S → Option S := iOpC (fun i j => decide (0 ≤ j ∧ j ≤ 1000000 ∧ i.natAbs < 2 ^ 64)) fun i j => .int (i * 2 ^ j.toNat)
def oShr : S → S → Option S := iOpC (fun _ j => decide (0 ≤ j)) fun i j => .int (i / 2 ^ j.toNat)
@[simp] theorem oShl_int {i j : Int} : oShl (.d (.int i)) (.d (.int j)) = if decide (0 ≤ j ∧ j ≤ 1000000 ∧ i.natAbs < 2 ^ 64) = true then some (.d (.int (i * 2 ^ j.toNat))) else none := rfl
@[simp] theorem oShr_int {i j : Int} : oShr (.d (.int i)) (.d (.int j)) = if decide (0 ≤ j) = true then some (.d (.int (i / 2 ^ j.toNat))) else none := rfl
theorem qo_shl (ha : PX X a fa) (hb : PX X b fb) : PX X (.BinOp a .LShift b pos) (fBin oShl fa fb) := qx_bin op_shl (op2_intC (fun H i j => .int _) fun i j h => (show CPow i j from of_decide_eq_true (p := 0 ≤ j ∧ j ≤ 1000000 ∧ i.natAbs < 2 ^ 64) h)) ha hb
theorem qo_shr (ha : PX X a fa) (hb : PX X b fb) : PX X (.BinOp a .RShift b pos) (fBin oShr fa fb) := qx_bin op_shr (op2_intC (fun H i j => .int _) fun i j h => of_decide_eq_true h) ha hb
theorem qg_xor : AugOk X .BitXor oXor := ⟨_, iop_xor, op2_int fun H i j => .int _⟩
/-! ### is, is not of truth values -/
def oIsB : S → S → Option S := fun x y => match x, y with
  | .d (.bl a), .d (.bl b) => some (.d (.bl (decide (a = b))))
  | _, _ => none
def oNotBB : S → S → Option S := fun x y => match x, y with
  | .d (.bl a), .d (.bl b) => some (.d (.bl (!decide (a = b))))
  | _, _ => none
@[simp] theorem oIsB_bl {a b : Bool} : oIsB (.d (.bl a)) (.d (.bl b)) = some (.d (.bl (decide (a = b)))) := rfl
@[simp] theorem oNotBB_bl {a b : Bool} : oNotBB (.d (.bl a)) (.d (.bl b)) = some (.d (.bl (!decide (a = b)))) := rfl
theorem qc_isB : CmpOk X .Is oIsB := ⟨_, op_isBl, fun H x y sx sy s Q e hx hy f => by
  unfold oIsB at e
  split at e
  · cases e
    exact ⟨_, _, rd_bl hx, rd_bl hy, f.bl⟩
  · cases e⟩
theorem qc_notB : CmpOk X .IsNot oNotBB := ⟨_, op_notBl, fun H x y sx sy s Q e hx hy f => by
  unfold oNotBB at e
  split at e
  · cases e
    exact ⟨_, _, rd_bl hx, rd_bl hy, f.bl⟩
  · cases e⟩
end
/-! ### zip -/
def pairsZ (xs ys : List D) : List D := (xs.zip ys).map fun p => .tup [p.1, p.2]
def itZ2 (xs ys : Option (List D)) (e : En) : Option (List D × En) := match xs, ys with
  | some xs, some ys => some (pairsZ xs ys, e)
  | _, _ => none
@[simp] theorem itZ2_some {xs ys : List D} {e : En} : itZ2 (some xs) (some ys) e = some (pairsZ xs ys, e) := rfl
def kindA (a : Arg) (e : En) : Bool := match a.get e with
  | some (.d _) => true
  | _ => false
def itZ1 (as : List Arg) (e : En) : Option (List D × En) := match as with
  | [a, b] => if kindA a e = kindA b e then itZ2 (itemsA a e) (itemsA b e) e else none
  | _ => none
@[simp] theorem itZ1_two {a b : Arg} {e : En} : itZ1 [a, b] e = if kindA a e = kindA b e then itZ2 (itemsA a e) (itemsA b e) e else none := rfl
def itZ (fs : Fn1 (List Arg)) : Fn1 (List D) := fun e => bnd (fs e) itZ1
@[simp] theorem itZ_ap {fs : Fn1 (List Arg)} {e : En} : itZ fs e = bnd (fs e) itZ1 := rfl
end QL
end

section
set_option Elab.async false
set_option linter.all false
set_option maxRecDepth 100000
namespace QL
open PySem PySem.Spec PyProof.Rows L2
/-! ### zip, walked -/
section
variable {K : PySem.W.Frag} {a b : Addr} {vs ws : List V} {xs ys : List D} {H0 : Hp} {σ : Sl} {env : En} {W0 : Ow}
theorem pairsZ_length : (pairsZ xs ys).length = min xs.length ys.length := by simp [pairsZ]
theorem pairsZ_at {i : Nat} {x y : D} (h1 : xs[i]? = some x) (h2 : ys[i]? = some y) : (pairsZ xs ys)[i]? = some (.tup [x, y]) := by
  unfold pairsZ
  rw [List.getElem?_map, (List.getElem?_zip_eq_some (z := (x, y))).mpr ⟨h1, h2⟩]
  rfl
theorem zip_rd {H : Hp} {T : Addr} {v w : V} {x y : D} (n : H T = none) (r : RD K H x v) (r2 : RD K H y w) : RD K (upd H T (.tup [v, w])) (.tup [x, y]) (.ref T) :=
  .tup (SqT.of upd_same) (.cons (RD.pst (Same.pst (same_new n)) r) (.cons (RD.pst (Same.pst (same_new n)) r2) .nil))
theorem walkD_z (r : RE K H0 σ env W0) (h : ∀ H, Gd H0 W0 H → SqL K H a vs) (rs : RDs K H0 xs vs) (h2 : ∀ H, Gd H0 W0 H → SqL K H b ws) (rs2 : RDs K H0 ys ws) : WalkD K (Itz K a b) (pairsZ xs ys) H0 W0 := by
  refine ⟨_, (walk_zip (by rw [pairsZ_length, rs.length, rs2.length])).mono (fun H g => ⟨h H g, h2 H g⟩) (fun i H x H' _ _ y => y), fun i H x H' hi g y => ?_⟩
  obtain ⟨T, x1, x2, rfl, nT, rfl, e1, e2⟩ := y
  obtain ⟨d, q1, q2⟩ := rs.getV e1
  obtain ⟨d2, q3, q4⟩ := rs2.getV e2
  exact ⟨same_new nT, _, pairsZ_at q1 q3, zip_rd nT (RD.pst (Gd.pst r g) q2) (RD.pst (Gd.pst r g) q4)⟩
theorem walkD_zT (r : RE K H0 σ env W0) (h : SqT K H0 a vs) (rs : RDs K H0 xs vs) (h2 : SqT K H0 b ws) (rs2 : RDs K H0 ys ws) : WalkD K (RZ.ItzT K a b) (pairsZ xs ys) H0 W0 := by
  have hl : (pairsZ xs ys).length = min vs.length ws.length := by rw [pairsZ_length, rs.length, rs2.length]
  refine ⟨YPair (fun i => vs[i]?) (fun i => ws[i]?), ⟨fun i H hi g => ?_, fun H g => ⟨vs, ws, (Gd.pst r g).seq h, (Gd.pst r g).seq h2, by omega⟩, fun i H v H' hi g y => ?_⟩, fun i H x H' hi g y => ?_⟩
  · have h1 : i < vs.length := by omega
    have h3 : i < ws.length := by omega
    exact ⟨vs, ws, vs[i], ws[i], (Gd.pst r g).seq h, (Gd.pst r g).seq h2, by simp [h1], by simp [h3]⟩
  · obtain ⟨T, x, z, h1, h3, h4, h5, h6⟩ := y
    exact ⟨T, x, z, h1, h3, h4, h5 vs ((Gd.pst r g).seq h), h6 ws ((Gd.pst r g).seq h2)⟩
  · obtain ⟨T, x1, x2, rfl, nT, rfl, e1, e2⟩ := y
    obtain ⟨d, q1, q2⟩ := rs.getV e1
    obtain ⟨d2, q3, q4⟩ := rs2.getV e2
    exact ⟨same_new nT, _, pairsZ_at q1 q3, zip_rd nT (RD.pst (Gd.pst r g) q2) (RD.pst (Gd.pst r g) q4)⟩
/-- an argument's items, by its kind -/
theorem items_readK {K : PySem.W.Frag} {H1 : Hp} {σ : Sl} {env1 : En} {W1 : Ow} {a : Arg} {v : V} {F : Addr → Prop} {xs : List D} (r1 : RE K H1 σ env1 W1) (ra : RA K H1 σ a v F) (tm : Tm W1 H1 F) (e : itemsA a env1 = some xs) :
    ∃ p vs, v = .ref p ∧ RDs K H1 xs vs ∧ (kindA a env1 = false ∧ (∀ H, Gd H1 W1 H → SqL K H p vs) ∨ kindA a env1 = true ∧ SqT K H1 p vs) := by
  cases a with
  | slot j =>
    rw [itemsA_slot] at e
    unfold itemsS at e
    split at e
    · rename_i ds hs
      cases e
      obtain ⟨w, h1, h2⟩ := r1.slots j _ hs
      have h' : σ[j]? = some (some v) := ra
      rw [h1] at h'
      cases h'
      obtain ⟨p, vs, e, q1, q2⟩ := rd_tup ⟨_, h2⟩
      exact ⟨p, vs, e, q2, .inr ⟨by simp [kindA, hs], q1⟩⟩
    · rename_i ds hs
      cases e
      obtain ⟨w, h1, h2⟩ := r1.slots j _ hs
      have h' : σ[j]? = some (some v) := ra
      rw [h1] at h'
      cases h'
      obtain ⟨p, vs, e, q1, q2⟩ := rd_lk ⟨_, h2⟩
      exact ⟨p, vs, e, q2, .inl ⟨by simp [kindA, hs], fun H g => q1.gd r1 g⟩⟩
    · cases e
  | val s =>
    have e : seqOf s = some xs := e
    cases s with
    | d x =>
      cases x with
      | tup ds =>
        cases e
        obtain ⟨p, vs, e, q1, q2⟩ := rd_tup ⟨F, ra⟩
        exact ⟨p, vs, e, q2, .inr ⟨rfl, q1⟩⟩
      | _ => cases e
    | m x =>
      cases x with
      | lst ds =>
        cases e
        obtain ⟨p, vs, e, q1, q2, q3⟩ := ra
        exact ⟨p, vs, e, q3, .inl ⟨rfl, fun H g => SqL.of (g p _ q2 (tm p q1).1)⟩⟩
      | _ => cases e
    | lk x =>
      cases x with
      | lst ds =>
        cases e
        obtain ⟨p, vs, e, q1, q2⟩ := rd_lk ⟨F, ra⟩
        exact ⟨p, vs, e, q2, .inl ⟨rfl, fun H g => q1.gd r1 g⟩⟩
      | _ => cases e
end
section
variable {X : Cx} {a b : Expr} {fa fb : Fn1 Arg} {p tpos pos : Pos} {elts : List Expr} {kk : Nat}
theorem qi_zip (hg : Gl X "zip") (hm : X.mg "zip" = none) (ha : PXA X [a, b] (fCons fa (fCons fb fNil)))
    (hs : starEach [a, b] X.env = (false, eval a X.env) :: starEach [b] X.env := by rfl) (hpl : (backTo pos (starEach [b] X.env)).any (·.1) = false := by rfl) :
    PXI X (.Tuple elts kk tpos) (.Call (.Name "zip" p) [a, b] [] pos) (itZ (fCons fa (fCons fb fNil))) := PI.imp (RZ.pi_zipA hg hm ha hs hpl) fun σ H R h => by
  obtain ⟨env, W, xs, env', re, e, k⟩ := h
  obtain ⟨as, env1, ea, e⟩ := bnd_eq e
  refine ⟨env, W, as, env1, re, ea, fun vs H1 W1 Fs r1 ras t => ?_⟩
  obtain ⟨a1, e1, ea1, ea⟩ := bnd_eq ea
  obtain ⟨as', e2, ea2, ea⟩ := bnd_eq ea
  cases ea
  obtain ⟨b1, e3, eb1, ea2⟩ := bnd_eq ea2
  obtain ⟨as2, e4, ea3, ea2⟩ := bnd_eq ea2
  cases ea2
  cases ea3
  cases ras with
  | cons ra tm d ras =>
    cases ras with
    | cons rb tm2 d2 ras =>
      cases ras
      rw [itZ1_two] at e
      split at e
      · rename_i hk
        unfold itZ2 at e
        split at e
        · rename_i ds es q1 q2
          cases e
          obtain ⟨p, ws, ev, rs, q3⟩ := items_readK r1 ra tm q1
          obtain ⟨p2, ws2, ev2, rs2, q4⟩ := items_readK r1 rb tm2 q2
          refine ⟨p, p2, ws, ws2, by rw [ev, ev2], ?_⟩
          have t0 := t.less (G := F0) fun _ z => z.elim
          rcases q3 with ⟨k1, q3⟩ | ⟨k1, q3⟩ <;> rcases q4 with ⟨k2, q4⟩ | ⟨k2, q4⟩
          · exact .inl ⟨q3 H1 fun _ _ e _ => e, q4 H1 fun _ _ e _ => e, k _ H1 W1 r1 t0 (walkD_z r1 q3 rs q4 rs2)⟩
          · rw [k1, k2] at hk; cases hk
          · rw [k1, k2] at hk; cases hk
          · exact .inr ⟨q3, q4, k _ H1 W1 r1 t0 (walkD_zT r1 q3 rs q4 rs2)⟩
        · cases e
      · cases e
end
/-! ### dict comprehensions, keys ints or texts -/
def dcV (g : List (Key × D) → En → Option (Arg × En)) (acc : List (Key × D)) (k : Option Key) (z : Option S) (e : En) : Option (Arg × En) := match k, z with
  | some k, some (.d y) => if acc.length < sizeLine then g (dPut acc k y) e else none
  | _, _ => none
@[simp] theorem dcV_d {g : List (Key × D) → En → Option (Arg × En)} {acc : List (Key × D)} {k : Key} {y : D} {e : En} : dcV g acc (some k) (some (.d y)) e = if acc.length < sizeLine then g (dPut acc k y) e else none := rfl
def dcE2 (g : List (Key × D) → En → Option (Arg × En)) (own : List Nat) (acc : List (Key × D)) (e0 : En) (k : Arg) (a : Arg) (e3 : En) : Option (Arg × En) := dcV g acc (keyS (k.get e3)) (a.get e3) (unw e0 e3 own)
def dcE1 (g : List (Key × D) → En → Option (Arg × En)) (own : List Nat) (fv : Fn1 Arg) (acc : List (Key × D)) (e0 : En) (k : Arg) (e3 : En) : Option (Arg × En) := bnd (fv e3) (dcE2 g own acc e0 k)
def dcT (g : List (Key × D) → En → Option (Arg × En)) (own : List Nat) (fk fv : Fn1 Arg) (acc : List (Key × D)) (e0 : En) (c : Bool) (e2 : En) : Option (Arg × En) := if c = true then bnd (fk e2) (dcE1 g own fv acc e0) else g acc (unw e0 e2 own)
def dcB (g : List (Key × D) → En → Option (Arg × En)) (own : List Nat) (tt : Fn1 Bool) (fk fv : Fn1 Arg) (acc : List (Key × D)) (e0 : En) (z : Option En) : Option (Arg × En) := match z with
  | some e1 => bnd (tt e1) (dcT g own fk fv acc e0)
  | none => none
@[simp] theorem dcB_some {g : List (Key × D) → En → Option (Arg × En)} {own : List Nat} {tt : Fn1 Bool} {fk fv : Fn1 Arg} {acc : List (Key × D)} {e0 e1 : En} : dcB g own tt fk fv acc e0 (some e1) = bnd (tt e1) (dcT g own fk fv acc e0) := rfl
def dcL (own : List Nat) (b : D → En → Option En) (tt : Fn1 Bool) (fk fv : Fn1 Arg) : List D → List (Key × D) → En → Option (Arg × En)
  | [], acc, e => some (.val (.m (.dk acc)), e)
  | x :: xs, acc, e => dcB (dcL own b tt fk fv xs) own tt fk fv acc e (b x (wipeE e own))
@[simp] theorem dcL_nil {own : List Nat} {b : D → En → Option En} {tt : Fn1 Bool} {fk fv : Fn1 Arg} {acc : List (Key × D)} {e : En} : dcL own b tt fk fv [] acc e = some (.val (.m (.dk acc)), e) := rfl
theorem dcL_cons {own : List Nat} {b : D → En → Option En} {tt : Fn1 Bool} {fk fv : Fn1 Arg} {x : D} {xs : List D} {acc : List (Key × D)} {e : En} : dcL own b tt fk fv (x :: xs) acc e = dcB (dcL own b tt fk fv xs) own tt fk fv acc e (b x (wipeE e own)) := rfl
def fDc1 (own : List Nat) (b : D → En → Option En) (tt : Fn1 Bool) (fk fv : Fn1 Arg) (xs : List D) (e : En) : Option (Arg × En) := if okOwn e own = true then dcL own b tt fk fv xs [] e else none
def fDc (own : List Nat) (it : Fn1 (List D)) (b : D → En → Option En) (tt : Fn1 Bool) (fk fv : Fn1 Arg) : Fn1 Arg := fun e => bnd (it e) (fDc1 own b tt fk fv)
@[simp] theorem fDc1_ap {own : List Nat} {b : D → En → Option En} {tt : Fn1 Bool} {fk fv : Fn1 Arg} {xs : List D} {e : En} : fDc1 own b tt fk fv xs e = if okOwn e own = true then dcL own b tt fk fv xs [] e else none := rfl
@[simp] theorem fDc_ap {own : List Nat} {it : Fn1 (List D)} {b : D → En → Option En} {tt : Fn1 Bool} {fk fv : Fn1 Arg} {e : En} : fDc own it b tt fk fv e = bnd (it e) (fDc1 own b tt fk fv) := rfl
@[simp] theorem dcT_ap {g : List (Key × D) → En → Option (Arg × En)} {own : List Nat} {fk fv : Fn1 Arg} {acc : List (Key × D)} {e0 : En} {c : Bool} {e2 : En} : dcT g own fk fv acc e0 c e2 = if c = true then bnd (fk e2) (dcE1 g own fv acc e0) else g acc (unw e0 e2 own) := rfl
@[simp] theorem dcE1_ap {g : List (Key × D) → En → Option (Arg × En)} {own : List Nat} {fv : Fn1 Arg} {acc : List (Key × D)} {e0 : En} {k : Arg} {e3 : En} : dcE1 g own fv acc e0 k e3 = bnd (fv e3) (dcE2 g own acc e0 k) := rfl
@[simp] theorem dcE2_ap {g : List (Key × D) → En → Option (Arg × En)} {own : List Nat} {acc : List (Key × D)} {e0 : En} {k a : Arg} {e3 : En} : dcE2 g own acc e0 k a e3 = dcV g acc (keyS (k.get e3)) (a.get e3) (unw e0 e3 own) := rfl
section
variable {J : It} {n : Nat} {G : Hp → Prop} {Y : Nat → Hp → V → Hp → Prop}
theorem dc_it (w : Walk J n G Y) {g : TG} {tt : TT} {tk tv : TE} {vs : List Nat} {σ : Sl} {H1 : Hp} {D : Addr} {Qd : Hp → Prop} (Pv : Nat → Hp → Prop) (h0 : Pv 0 (upd H1 D (.dK []))) (hG : ∀ i H, i ≤ n → Pv i H → G H)
    (hs : ∀ i x H H', i < n → Pv i H → Y i H x H' → g x (wipe σ vs) H' fun σ2 H2 => wipe σ2 vs = wipe σ vs ∧ tt σ2 H2 fun b H3 =>
      if b = true then tk σ2 H3 fun y H4 => tv σ2 H4 fun z H5 => ∃ kvs k, y = kV k ∧ H5 D = some (.dK kvs) ∧ kvs.length < sizeLine ∧ Pv (i + 1) (upd H5 D (.dK (putK kvs k z))) else Pv (i + 1) H3) (hd : ∀ H, Pv n H → Qd H) :
    ∃ W : Nat → Nat → Hp → Prop, (∃ m, W 0 m (upd H1 D (.dK []))) ∧ ∀ i m H, W i m H →
      (J.stop i H ∧ Qd H) ∨ (J.go i H ∧ ∃ Nx : Hp → Prop, (∀ H', Nx H' → ∃ m', m' < m ∧ W (i + 1) m' H') ∧ ∀ x H', J.yld i H x H' → g x (wipe σ vs) H' fun σ2 H2 => wipe σ2 vs = wipe σ vs ∧ tt σ2 H2 fun b H3 =>
        if b = true then tk σ2 H3 fun y H4 => tv σ2 H4 fun z H5 => ∃ kvs k, y = kV k ∧ H5 D = some (.dK kvs) ∧ kvs.length < sizeLine ∧ Nx (upd H5 D (.dK (putK kvs k z))) else Nx H3) := by
  refine ⟨fun i m H => m = n - i ∧ i ≤ n ∧ Pv i H, ⟨n, by simp, Nat.zero_le _, h0⟩, ?_⟩
  rintro i m H ⟨rfl, hi, p⟩
  have q := hG i H hi p
  by_cases hlt : i < n
  · refine .inr ⟨w.goes i H hlt q, Pv (i + 1), fun H' p' => ⟨n - (i + 1), by omega, rfl, hlt, p'⟩, fun x H' y => hs i x H H' hlt p (w.yields i H x H' hlt q y)⟩
  · have e : i = n := by omega
    subst e
    exact .inl ⟨w.stops H q, hd H p⟩
end
theorem RE.updG {K : PySem.W.Frag} {H : Hp} {σ : Sl} {env : En} {W : Ow} {p : Addr} {o o' : HO} (r : RE K H σ env W) (h : H p = some o) (m : Mut (some o)) (n : ¬ Own W p) : RE K (upd H p o') σ env W := by
  have sm : ∀ b x, H b = some x → b ≠ p → (upd H p o') b = some x := fun b x e hb => by rw [upd_ne hb]; exact e
  have t : Tr (fun (_ : Nat) b => b = p) H (fun (_ : Nat) b => b = p) (upd H p o') F0 :=
    ⟨fun b x e hn => sm b x e fun z => hn ⟨0, z⟩, fun b e => by
      by_cases hb : b = p
      · subst hb; rw [upd_same]; simp
      · rw [upd_ne hb]; exact e, fun b _ hn => ⟨hn, fun z => z⟩⟩
  refine ⟨fun i s e => ?_, r.apart, fun i b z => ?_, r.len⟩
  · obtain ⟨v, q1, q2⟩ := r.slots i s e
    exact ⟨v, q1, RS.keep (fun _ b z => by subst z; rw [h]; exact m) t q2 fun b z ⟨_, y⟩ => n (by rw [← y]; exact ⟨i, z⟩)⟩
  · have hb : b ≠ p := fun e => n (by rw [← e]; exact ⟨i, z⟩)
    rw [upd_ne hb]
    exact r.mu i b z
theorem dPut_length {kvs : List (Key × D)} {k : Key} {y : D} : (dPut kvs k y).length ≤ kvs.length + 1 := by
  unfold dPut
  split
  · rw [List.length_map]; omega
  · simp
section
variable {X : Cx}
theorem dc_read {K : PySem.W.Frag} {own : List Nat} {A : List Nat} {it : Fn1 (List D)} {b : D → En → Option En} {tt : Fn1 Bool} {fk fv : Fn1 Arg} {σ : Sl} {H : Hp} {Q : VK} (hA : ∀ j ∈ A, j ∈ own) (h : tE K (fDc own it b tt fk fv) σ H Q) :
    tDc (tIt K it) (tP K A b) (tT K tt) (tE K fk) (tE K fv) own σ H Q := by
  obtain ⟨env, W, z, envF, re, e, k⟩ := h
  obtain ⟨xs, env1, ex, e⟩ := bnd_eq e
  unfold fDc1 at e
  split at e
  · rename_i hok
    refine ⟨env, W, xs, env1, re, ex, fun J H1 W1 r1 t1 ⟨Y, wk, hY⟩ Dl nD => ?_⟩
    have sm0 : Same H1 (upd H1 Dl (.dK [])) := same_new nD
    refine dc_it wk (fun i H2 => ∃ env2 W2 acc vs, RE K H2 σ env2 W2 ∧ Tr W1 H1 W2 H2 (fun b => b = Dl) ∧ H2 Dl = some (.dK vs) ∧ RKs K H2 acc vs ∧ ¬ Own W2 Dl ∧ okOwn env2 own = true ∧ dcL own b tt fk fv (xs.drop i) acc env2 = some (z, envF)) ?_ ?_ ?_ ?_
    · exact ⟨env1, W1, [], [], r1.same sm0, Tr.same sm0 fun b z => by rw [z]; exact nD, upd_same, RKs.nil, r1.fresh nD, hok, e⟩
    · rintro i H2 hi ⟨env2, W2, acc, vs, r2, t2, _⟩
      exact Gd.of t2
    · rintro i x H2 H3 hi ⟨env2, W2, acc, vs, r2, t2, hD, rv, nW, ok2, e2⟩ y
      obtain ⟨sm, d, hd, rd⟩ := hY i H2 x H3 hi (Gd.of t2) y
      have ed : xs.drop i = d :: xs.drop (i + 1) := by
        obtain ⟨h1, h2⟩ := List.getElem?_eq_some_iff.mp hd
        rw [List.drop_eq_getElem_cons h1, h2]
      rw [ed, dcL_cons] at e2
      cases q : b d (wipeE env2 own) with
      | none => rw [q] at e2; cases e2
      | some e3 =>
        rw [q, dcB_some] at e2
        have r3 := r2.same sm
        refine ⟨d, wipeE env2 own, W2, e3, r3.wiped, rd, q, fun σ3 r4 q4 => ⟨wipe_same q4 hA, ?_⟩⟩
        obtain ⟨c, e4, ec, e2⟩ := bnd_eq e2
        refine ⟨e3, W2, c, e4, r4, ec, fun H5 W5 r5 t5 => ?_⟩
        have hD3 : H3 Dl = some (.dK vs) := sm _ _ hD
        have hD5 : H5 Dl = some (.dK vs) := t5.frame _ _ hD3 nW
        have nW5 : ¬ Own W5 Dl := (t5.out Dl (by rw [hD3]; simp) nW).1
        have t25 : Tr W2 H2 W5 H5 F0 := (Tr.same (F := F0) sm fun _ z => z.elim).trans0 t5
        have p25 : Pst H2 H5 := r2.pst t25
        have okU : ∀ {e3 : En}, okOwn (unw env2 e3 own) own = true := by
          intro e3
          refine List.all_eq_true.mpr fun v hv => ?_
          cases q : (unw env2 e3 own)[v]? with
          | none => rfl
          | some o =>
            cases o with
            | none => rfl
            | some s =>
              rcases unw_at q with ⟨_, h2⟩ | ⟨h1, _⟩
              · have o := List.all_eq_true.mp ok2 v hv
                rw [h2] at o
                exact o
              · exact absurd hv h1
        unfold dcT at e2
        split at e2
        · rename_i hc
          subst hc
          refine iteT ?_
          obtain ⟨a, e5, ea, e2⟩ := bnd_eq e2
          refine ⟨e4, W5, a, e5, r5, ea, fun v H6 W6 F r6 ra tm t6 => ?_⟩
          obtain ⟨a2, e6, ea2, e2⟩ := bnd_eq e2
          refine ⟨e5, W6, a2, e6, r6, ea2, fun v2 H7 W7 F2 r7 ra2 tm2 t7 => ?_⟩
          unfold dcE2 dcV at e2
          split at e2
          · rename_i kk y hk hy
            split at e2
            · rename_i hl
              obtain ⟨P, ry⟩ := ra2.read r7 hy
              cases qk : a.get e6 with
              | none => rw [qk] at hk; cases hk
              | some sk =>
                rw [qk] at hk
                have ek : v = kV kk := keyOf_rd hk ((ra.keep r6.mu t7 tm).read r7 qk)
                have hD6 : H6 Dl = some (.dK vs) := t6.frame _ _ hD5 nW5
                have nW6 : ¬ Own W6 Dl := (t6.out Dl (by rw [hD5]; simp) nW5).1
                have hD7 : H7 Dl = some (.dK vs) := t7.frame _ _ hD6 nW6
                have nW7 : ¬ Own W7 Dl := (t7.out Dl (by rw [hD6]; simp) nW6).1
                have t27 : Tr W2 H2 W7 H7 F0 := (((t25.trans0 t6).less (G := F0) fun _ z => z.elim).trans0 t7).less fun _ z => z.elim
                have r8 : RE K H7 σ (unw env2 e6 own) W7 := r2.unwiped r7 (r2.pst t27) q4 hA ok2
                have pU : Pst H7 (upd H7 Dl (.dK (putK vs kk v2))) := pst_write (by rw [hD7]; trivial)
                refine ⟨vs, kk, ek, hD7, ?_, ?_⟩
                · rw [rv.length]
                  exact hl
                · refine ⟨_, W7, dPut acc kk y, _, r8.updG hD7 trivial nW7, ?_, upd_same, ((rv.pst (r2.pst t27)).put ry kk).pst pU, nW7, okU, e2⟩
                  have t07 := (t2.trans t27).less (G := fun b => b = Dl) fun b z => .inl z
                  refine ⟨fun b o e n => ?_, fun b e => ?_, t07.out⟩
                  · have nb : b ≠ Dl := fun z => by rw [z, nD] at e; cases e
                    rw [upd_ne nb]
                    exact t07.frame b o e n
                  · by_cases hb : b = Dl
                    · subst hb; rw [upd_same]; simp
                    · rw [upd_ne hb]; exact t07.dom b e
            · cases e2
          · cases e2
        · rename_i hc
          have hc : c = false := by cases c; rfl; exact absurd rfl hc
          subst hc
          refine iteF ?_
          exact ⟨_, W5, acc, vs, r2.unwiped r5 p25 q4 hA ok2, (t2.trans t25).less fun b z => .inl z, hD5, rv.pst p25, nW5, okU, e2⟩
    · rintro H2 ⟨env2, W2, acc, vs, r2, t2, hD, rv, nW, ok2, e2⟩
      rw [List.drop_length, dcL_nil] at e2
      cases e2
      refine k (.ref Dl) H2 W2 (fun b => b = Dl) r2 ⟨Dl, vs, rfl, rfl, hD, rv⟩ (fun b z => by subst z; exact ⟨nW, by rw [hD]; trivial⟩) (t1.trans0 t2)
  · cases e
theorem qx_dc {kx vx tg iter : Expr} {ifs : List Expr} {scope : Scope} {own : List (Str × Nat)} {pos : Pos} {it : Fn1 (List D)} {A : List Nat} {b : D → En → Option En} {tt : Fn1 Bool} {fk fv : Fn1 Arg} (hA : ∀ j ∈ A, j ∈ own.map (·.2)) (hc : X.calm = true) (hN : X.N.Nodup) (hi : PXI X tg iter it) (ok : BlkOk X.N X.env.scope scope own)
    (hg : ∀ (s : Shared) (H : Hp) (C : Addr) (cl : List (Str × Addr)) (fp : List Addr), PXG (X.blk s H scope (compEnvC scope cl C X.env) fp) tg A b) (ht : ∀ (s : Shared) (H : Hp) (C : Addr) (cl : List (Str × Addr)) (fp : List Addr), PTs (X.blk s H scope (compEnvC scope cl C X.env) fp) ifs (tT X.K tt))
    (hk : ∀ (s : Shared) (H : Hp) (C : Addr) (cl : List (Str × Addr)) (fp : List Addr), PX (X.blk s H scope (compEnvC scope cl C X.env) fp) kx fk) (he : ∀ (s : Shared) (H : Hp) (C : Addr) (cl : List (Str × Addr)) (fp : List Addr), PX (X.blk s H scope (compEnvC scope cl C X.env) fp) vx fv)
    (hs : ∀ x, foldedSetIterable iter X.env x = pure x := by intro _; rfl) :
    PX X (.DictComp kx vx [⟨tg, iter, ifs, 0⟩] scope pos) (fDc (own.map (·.2)) it b tt fk fv) := PE.imp (pe_dc hc hN hi ok hg ht hk he hs) fun σ H Q h => dc_read hA h
end
end QL
end

section
set_option Elab.async false
set_option linter.all false
set_option maxRecDepth 100000
namespace QL
open PySem PySem.Spec PyProof.Rows L2
open PySem.W (alike alikeAll dataLt EachIs AllAlike Sortable dataLe)
/-! ### the order of data -/
mutual
def ltD : D → D → Bool
  | .int i, .int j => decide (i < j)
  | .bl a, .bl b => !a && b
  | .str x, .str y => decide (x.cps.toList < y.cps.toList)
  | .tup xs, .tup ys => ltDs xs ys
  | _, _ => false
def ltDs : List D → List D → Bool
  | [], [] => false
  | [], _ :: _ => true
  | _ :: _, [] => false
  | x :: xs, y :: ys => if eqD x y = true then ltDs xs ys else ltD x y
end
mutual
def alD : D → D → Bool
  | .non, .non => true
  | .bl _, .bl _ => true
  | .int _, .int _ => true
  | .str _, .str _ => true
  | .tup xs, .tup ys => alDs xs ys
  | _, _ => false
def alDs : List D → List D → Bool
  | x :: xs, y :: ys => alD x y && alDs xs ys
  | [], _ => true
  | _ :: _, [] => true
end
@[simp] theorem ltD_int {i j : Int} : ltD (.int i) (.int j) = decide (i < j) := rfl
@[simp] theorem ltD_tup {i j : List D} : ltD (.tup i) (.tup j) = ltDs i j := rfl
@[simp] theorem ltDs_nil : ltDs [] [] = false := rfl
@[simp] theorem ltDs_nc {y : D} {ys : List D} : ltDs [] (y :: ys) = true := rfl
@[simp] theorem ltDs_cn {y : D} {ys : List D} : ltDs (y :: ys) [] = false := rfl
@[simp] theorem ltDs_cons {x y : D} {xs ys : List D} : ltDs (x :: xs) (y :: ys) = if eqD x y = true then ltDs xs ys else ltD x y := rfl
@[simp] theorem alD_int {i j : Int} : alD (.int i) (.int j) = true := rfl
@[simp] theorem alD_non : alD .non .non = true := rfl
@[simp] theorem alD_tup {i j : List D} : alD (.tup i) (.tup j) = alDs i j := rfl
@[simp] theorem alDs_cons {x y : D} {xs ys : List D} : alDs (x :: xs) (y :: ys) = (alD x y && alDs xs ys) := rfl
@[simp] theorem alDs_nil {ys : List D} : alDs [] ys = true := by cases ys <;> rfl
@[simp] theorem alDs_cn {y : D} {ys : List D} : alDs (y :: ys) [] = true := rfl
@[simp] theorem alDs_ints {l m : List Int} : alDs (l.map D.int) (m.map D.int) = true := by
  induction l generalizing m with
  | nil => simp
  | cons a l ih => cases m <;> simp [ih]
mutual
theorem alike_toPy : ∀ x y : D, alike (toPy x) (toPy y) = alD x y
  | .non, y => by cases y <;> simp [toPy, alike, alD]
  | .bl a, y => by cases y <;> simp [toPy, alike, alD]
  | .int i, y => by cases y <;> simp [toPy, alike, alD]
  | .str x, y => by cases y <;> simp [toPy, alike, alD]
  | .tup xs, y => by
    cases y with
    | tup ys => simpa [toPy, alike, alD] using alike_toPys xs ys
    | _ => simp [toPy, alike, alD]
theorem alike_toPys : ∀ x y : List D, alikeAll (toPys x) (toPys y) = alDs x y
  | [], y => by cases y <;> simp [toPys, alikeAll, alDs]
  | x :: xs, y => by
    cases y with
    | nil => simp [toPys, alikeAll, alDs]
    | cons y ys => simp [toPys, alikeAll, alDs, alike_toPy x y, alike_toPys xs ys]
end
mutual
theorem lt_toPy : ∀ x y : D, alD x y = true → dataLt (toPy x) (toPy y) = ltD x y
  | .non, y, h => by cases y <;> simp [alD] at h; rfl
  | .bl a, y, h => by
    cases y <;> simp [alD] at h
    rename_i b
    show dataLt (.bool a) (.bool b) = _
    rw [PySem.W.dataLt_bool]
    cases a <;> cases b <;> rfl
  | .int i, y, h => by
    cases y <;> simp [alD] at h
    exact PySem.W.dataLt_int _ _
  | .str x, y, h => by
    cases y <;> simp [alD] at h
    exact PySem.W.dataLt_str _ _
  | .tup xs, y, h => by
    cases y with
    | tup ys =>
      show dataLt (.tuple (toPys xs)) (.tuple (toPys ys)) = ltDs xs ys
      rw [PySem.W.dataLt_tuple]
      exact lt_toPys xs ys h
    | _ => simp [alD] at h
theorem lt_toPys : ∀ x y : List D, alDs x y = true → PyProof.Rows.lexLt itemOrd (PySem.W.keyToksAll (toPys x)) (PySem.W.keyToksAll (toPys y)) = ltDs x y
  | [], [], _ => rfl
  | [], y :: ys, _ => by
    show PyProof.Rows.lexLt itemOrd (PySem.W.keyToksAll []) (PySem.W.keyToksAll (toPy y :: toPys ys)) = true
    rw [PySem.W.toks_all_cons]
    rfl
  | x :: xs, [], _ => by
    show PyProof.Rows.lexLt itemOrd (PySem.W.keyToksAll (toPy x :: toPys xs)) (PySem.W.keyToksAll []) = false
    rw [PySem.W.toks_all_cons]
    rfl
  | x :: xs, y :: ys, h => by
    simp only [alDs, Bool.and_eq_true] at h
    show PyProof.Rows.lexLt itemOrd (PySem.W.keyToksAll (toPy x :: toPys xs)) (PySem.W.keyToksAll (toPy y :: toPys ys)) = _
    rw [PySem.W.dataLt_cons (by rw [alike_toPy]; exact h.1), eqv_toPy, ltDs_cons, lt_toPy x y h.1, lt_toPys xs ys h.2]
end
mutual
theorem toPy_inj : ∀ {x y : D}, toPy x = toPy y → x = y
  | .non, y, h => by cases y <;> simp [toPy] at h; rfl
  | .bl a, y, h => by cases y <;> simp [toPy] at h; rw [h]
  | .int a, y, h => by cases y <;> simp [toPy] at h; rw [h]
  | .str a, y, h => by cases y <;> simp [toPy] at h; rw [h]
  | .tup xs, y, h => by
    cases y <;> simp [toPy] at h
    rw [toPys_inj h]
theorem toPys_inj : ∀ {x y : List D}, toPys x = toPys y → x = y
  | [], y, h => by cases y <;> simp [toPys] at h; rfl
  | x :: xs, y, h => by
    cases y <;> simp [toPys] at h
    rw [toPy_inj h.1, toPys_inj h.2]
end
theorem toPys_map : ∀ ds : List D, toPys ds = ds.map toPy
  | [] => rfl
  | d :: ds => by rw [List.map_cons, ← toPys_map ds]; rfl
theorem toPy_non {x : D} (h : toPy x = .none) : x = .non := toPy_inj (y := .non) h
/-! ### <, >, <=, >= of data -/
def notNon : D → Bool
  | .non => false
  | _ => true
@[simp] theorem notNon_int {i : Int} : notNon (.int i) = true := rfl
@[simp] theorem notNon_tup {i : List D} : notNon (.tup i) = true := rfl
theorem notNon_py {x : D} (h : notNon x = true) : toPy x ≠ .none := fun z => by rw [toPy_non z] at h; cases h
def rCmpD (K : PySem.W.Frag) (g : PyData → PyData → Bool) : R2 := fun x y H Q => ∃ d e, Dp K H x d ∧ Dp K H y e ∧ alike d e = true ∧ d ≠ .none ∧ d.depth ≤ 8 ∧ Q (.bl (g d e)) H
section
variable {X : Cx}
theorem op_ltDa (hu : X.A.units + 64 < cLine) : OpR X (compareOp .Lt) (rCmpD X.K fun d e => dataLt d e) := by
  intro pins s σ H x y v u Q I rx ry h
  obtain ⟨d, e, hd, he, al, nn, dp, q⟩ := h
  obtain ⟨as, r1⟩ := Dp.reads I d x v hd rx
  obtain ⟨bs, r2⟩ := Dp.reads I e y u he ry
  exact PySem.W.lt_data r1 r2 al nn (by omega) ⟨.bl _, H, I, rfl, q⟩
theorem op_gtDa (hu : X.A.units + 64 < cLine) : OpR X (compareOp .Gt) (rCmpD X.K fun d e => dataLt e d) := by
  intro pins s σ H x y v u Q I rx ry h
  obtain ⟨d, e, hd, he, al, nn, dp, q⟩ := h
  obtain ⟨as, r1⟩ := Dp.reads I d x v hd rx
  obtain ⟨bs, r2⟩ := Dp.reads I e y u he ry
  exact PySem.W.gt_data r1 r2 al nn (by omega) ⟨.bl _, H, I, rfl, q⟩
def oCmpD (g : D → D → Bool) : S → S → Option S := fun x y => match x, y with
  | .d a, .d b => if alD a b = true ∧ notNon a = true ∧ shD 8 a = true then some (.d (.bl (g a b))) else none
  | _, _ => none
@[simp] theorem oCmpD_d {g : D → D → Bool} {a b : D} : oCmpD g (.d a) (.d b) = if alD a b = true ∧ notNon a = true ∧ shD 8 a = true then some (.d (.bl (g a b))) else none := rfl
theorem op2_cmpD {K : PySem.W.Frag} {g : PyData → PyData → Bool} {g' : D → D → Bool} (hg : ∀ a b, alD a b = true → g (toPy a) (toPy b) = g' a b) : Op2 K (rCmpD K g) (oCmpD g') := by
  intro H x y sx sy s Q e hx hy f
  unfold oCmpD at e
  split at e
  · split at e
    · rename_i a b h
      cases e
      obtain ⟨h1, h2, h3⟩ := h
      obtain ⟨P1, hx⟩ := hx
      obtain ⟨P2, hy⟩ := hy
      refine ⟨toPy a, toPy b, RD.dp hx, RD.dp hy, by rw [alike_toPy]; exact h1, notNon_py h2, (shD_ok 8 a h3).2, ?_⟩
      rw [hg a b h1]
      exact f.bl
    · cases e
  · cases e
theorem alD_comm (x y : D) : alD x y = alD y x := by rw [← alike_toPy, ← alike_toPy, PySem.W.alike_comm]
def oLtA : S → S → Option S := oCmpD ltD
def oGtA : S → S → Option S := oCmpD fun a b => ltD b a
@[simp] theorem oLtA_int {i j : Int} : oLtA (.d (.int i)) (.d (.int j)) = some (.d (.bl (decide (i < j)))) := by simp [oLtA]
@[simp] theorem oGtA_int {i j : Int} : oGtA (.d (.int i)) (.d (.int j)) = some (.d (.bl (decide (j < i)))) := by simp [oGtA]
@[simp] theorem oLtA_tup {i j : List D} : oLtA (.d (.tup i)) (.d (.tup j)) = if alDs i j = true ∧ shDs 7 i = true then some (.d (.bl (ltDs i j))) else none := by simp [oLtA]
@[simp] theorem oGtA_tup {i j : List D} : oGtA (.d (.tup i)) (.d (.tup j)) = if alDs i j = true ∧ shDs 7 i = true then some (.d (.bl (ltDs j i))) else none := by simp [oGtA]
theorem qc_ltA (hu : X.A.units + 64 < cLine) : CmpOk X .Lt oLtA := ⟨_, op_ltDa hu, op2_cmpD lt_toPy⟩
theorem qc_gtA (hu : X.A.units + 64 < cLine) : CmpOk X .Gt oGtA := ⟨_, op_gtDa hu, op2_cmpD fun a b h => lt_toPy b a (by rw [alD_comm]; exact h)⟩
end
/-! ### sorted -/
def leD (x y : D) : Bool := !ltD y x
def sortD (l : List D) : List D := l.mergeSort leD
def allAl (ds : List D) : Bool := ds.all fun x => ds.all fun y => alD x y
theorem allAl_get {ds : List D} (h : allAl ds = true) {x y : D} (hx : x ∈ ds) (hy : y ∈ ds) : alD x y = true := List.all_eq_true.mp (List.all_eq_true.mp h x hx) y hy
theorem allAl_of {ds : List D} (h : ∀ x ∈ ds, ∀ y ∈ ds, alD x y = true) : allAl ds = true := List.all_eq_true.mpr fun x hx => List.all_eq_true.mpr fun y hy => h x hx y hy
/-- tuples with an item each, or none a tuple, or a list too short to compare -/
def sortable (ds : List D) : Bool := (ds.all fun d => match d with | .tup (_ :: _) => true | _ => false) || (ds.all fun d => match d with | .tup _ => false | .non => false | _ => true) || decide (ds.length < 2)
theorem each_of {K : PySem.W.Frag} {H : Hp} : ∀ {ds : List D} {xs : List V} {its : List Value}, RDs K H ds xs → Vals xs its → EachIs (fun u d => ∃ v, RelV v u ∧ RD K H d v) its ds
  | _, _, _, .nil, .nil => .nil
  | _, _, _, .cons r t, .cons h t' => .cons ⟨_, h, r⟩ (each_of t t')
theorem of_each {K : PySem.W.Frag} {H : Hp} : ∀ {ds : List D} {its : List Value}, EachIs (fun u d => ∃ v, RelV v u ∧ RD K H d v) its ds → ∃ ys, Vals ys its ∧ RDs K H ds ys
  | _, _, .nil => ⟨[], .nil, .nil⟩
  | _, _, .cons ⟨v, h, r⟩ t => by
    obtain ⟨ys, q1, q2⟩ := of_each t
    exact ⟨v :: ys, .cons h q1, .cons r q2⟩
section
variable {X : Cx}
/-- sorted of what is collected as these items -/
theorem sorted_core {pins : List (Addr × Obj)} {s : Shared} {σ : L2.St} {H : Hp} {Q : VK} {x : Value} {xs : List V} {its : List Value} {ds : List D} (I : Inv X pins σ H s) (hu : X.A.units + 64 < cLine) (rs : RDs X.K H ds xs) (rv : Vals xs its) (hal : allAl ds = true) (hk : sortable ds = true) (hd : shDs 8 ds = true) (hz : xs.length ≤ sizeLine)
    (hcol : ∀ (Q' : List Value → Shared → Prop), (∀ h' tk, (∀ b o, s.heap.get? b = some o → h'.get? b = some o) → Q' its { s with heap := h', toks := tk }) → wpAny (model X.prog X.w) X.A.in1 (collect x) Q' X.xe s)
    (q : ∀ ys p, RDs X.K H (sortD ds) ys → H p = none → Q (.ref p) (upd H p (.lst ys))) : wpAny (model X.prog X.w) X.A (call (.builtin "sorted") [x]) (EP X pins σ Q) X.xe s := by
  refine Calls.call_function_entry PyProof.Rows.kind_sorted PyProof.Rows.plain_sorted PyProof.Rows.entry_sorted (PyProof.Rows.args_sorted1 _) ?_
  unfold Builtin.«sorted»
  refine wpAny_bind (m := checkCount "sorted" 1 1 _) (wpAny_pure ?_)
  refine wpAny_bind (hcol _ fun h' tk hk' => ?_)
  have I1 : Inv X pins σ H { s with heap := h', toks := tk } := I.kept hk'
  have hl : its.length = ds.length := by rw [← rv.length, ← rs.length]
  have hz2 : its.length ≤ sizeLine := by rw [← rv.length]; exact hz
  refine wpAny_bind (wpAny_newList ?_ hz2)
  have hoL : (h'.push (seqObj "list" its.toArray 0)).get? h'.objs.size = some (seqObj "list" its.toArray 0) := Heap.get?_push_size _ rfl
  have I2 : Inv X pins σ H { s with heap := h'.push (seqObj "list" its.toArray 0), toks := tk } := I1.kept (t' := tk) fun b o e => Heap.get?_push_of_some _ e
  show wpAny _ _ _ _ _ { s with heap := h'.push (seqObj "list" its.toArray 0), toks := tk }
  have fin : ∀ (out : List Value) (ys : List V), Vals ys out → RDs X.K H (sortD ds) ys → out.length = ds.length →
      EP X pins σ Q (.ref h'.objs.size) { s with heap := sortedHeap (h'.push (seqObj "list" its.toArray 0)) h'.objs.size its out.toArray, toks := tk } := fun out ys h1 h2 h3 => by
    obtain ⟨e', he'⟩ := PyProof.Rows.sortedHeap_at (vs := its) (out := out.toArray) hoL
    refine ⟨.ref h'.objs.size, upd H h'.objs.size (.lst ys), I1.laid (t' := tk) (fun b u e => ?_) (Nat.le_refl _) (show ObjOk X.prog X.w _ _ _ (.lst ys) from ⟨?_, out, e', h1, he'⟩), rfl, q ys _ h2 (I1.hok.fresh (Nat.le_refl _))⟩
    · have hb : b < h'.objs.size := Heap.lt_size e
      rw [PyProof.Rows.sortedHeap_old (Nat.ne_of_lt hb) (by rw [size_push']; exact Nat.lt_succ_of_lt hb)]
      exact Heap.get?_push_of_some _ e
    · rw [h1.length, h3, rs.length]
      exact hz
  have er0 : ∀ (h0 : Heap), (∀ b o, s.heap.get? b = some o → h0.get? b = some o) → EachIs (fun v b => ∃ as, Reads h0 v (toPy b) as ∧ h'.objs.size ∉ as) its ds := by
    intro h0 k0
    have e := each_of rs rv
    refine e.mono fun u d ⟨v, hv, rd⟩ => ?_
    obtain ⟨as, r⟩ := Dp.reads I (toPy d) v u (RD.dp rd) hv
    refine ⟨as, PyProof.Rows.Reads.keeps k0 r, fun z => ?_⟩
    obtain ⟨o, ho⟩ := PyProof.On.reads_mem_get r _ z
    exact absurd (Heap.lt_size (hk' _ _ ho)) (Nat.lt_irrefl _)
  by_cases h2 : ds.length < 2
  · have e1 : sortD ds = ds := by
      unfold sortD
      match ds, h2 with
      | [], _ => exact List.mergeSort_nil
      | [d], _ => exact List.mergeSort_singleton _
      | _ :: _ :: _, h2 => simp at h2; omega
    have O : SrtO.Swo (fun _ _ : Value => false) := by refine ⟨fun _ _ h => ?_, fun _ _ _ _ _ => rfl⟩; cases h
    refine wpAny_bind (wpAny_holding (wpAny_call_entry PyProof.Rows.slot_list_sort ⟨_, hoL, rfl⟩ PyProof.Rows.entry_list_sort
      (SrtO.list_sort_ord (s := { s with heap := h'.push (seqObj "list" its.toArray 0), toks := tk }) O hoL hz2 (fun h => absurd h (by omega)) fun out g1 g2 => ⟨_, rfl, ?_⟩) (PyProof.Rows.args_list_sort _)))
    have eo : out = its := by
      have hp := g2.perm
      match its, hl, hp with
      | [], _, hp => exact hp.eq_nil
      | [u], _, hp => exact List.perm_singleton.mp hp
      | _ :: _ :: _, hl, _ => simp at hl; omega
    subst eo
    exact wpAny_pure ⟨_, rfl, fin out xs rv (by rw [e1]; exact rs) hl⟩
  · have hs : Sortable (ds.map toPy) := by
      unfold sortable at hk
      simp only [Bool.or_eq_true, List.all_eq_true, decide_eq_true_eq] at hk
      rcases hk with (hk | hk) | hk
      · refine .inl fun d hd => ?_
        obtain ⟨b, hb, rfl⟩ := List.mem_map.mp hd
        have := hk b hb
        cases b with
        | tup xs =>
          cases xs with
          | nil => cases this
          | cons a l => exact ⟨_, _, rfl⟩
        | _ => cases this
      · refine .inr fun d hd => ?_
        obtain ⟨b, hb, rfl⟩ := List.mem_map.mp hd
        have := hk b hb
        cases b with
        | tup xs => cases this
        | non => cases this
        | _ => exact ⟨fun z => by simp [toPy] at z, fun xs z => by simp [toPy] at z⟩
      · exact absurd hk h2
    have ha : AllAlike (ds.map toPy) := fun d hd d' hd' => by
      obtain ⟨b, hb, rfl⟩ := List.mem_map.mp hd
      obtain ⟨b', hb', rfl⟩ := List.mem_map.mp hd'
      rw [alike_toPy]
      exact allAl_get hal hb hb'
    have dps : ∀ d ∈ ds, shD 8 d = true := by
      clear q rs rv hal hk hcol er0 fin hs ha h2 hl
      induction ds with
      | nil => intro d hd; cases hd
      | cons a l ih =>
        simp only [shDs_cons, Bool.and_eq_true] at hd
        intro d hm
        rcases List.mem_cons.mp hm with e | hm
        · rw [e]; exact hd.1
        · exact ih hd.2 d hm
    refine wpAny_bind (wpAny_holding (PySem.W.list_sort_data (s := { s with heap := h'.push (seqObj "list" its.toArray 0), toks := tk }) (enc := toPy) hoL (each_of rs rv) (er0 _ fun b o e => Heap.get?_push_of_some _ (hk' b o e)) ha hs (by rw [← hl]; exact hz2)
      (fun b hb => by
        have := (shD_ok 8 b (dps b hb)).2
        show X.A.units + 1 + 1 + _ < cLine
        omega) fun out g1 g2 => ?_))
    have em : ds.mergeSort (dataLe false toPy) = sortD ds := PySem.W.sort_congr fun a ha b hb => by
      rw [PySem.W.dataLe_eq]
      show (!dataLt (toPy b) (toPy a)) = !ltD b a
      rw [lt_toPy b a (allAl_get hal hb ha)]
    rw [em] at g2
    obtain ⟨ys, q1, q2⟩ := of_each g2
    exact wpAny_pure ⟨_, rfl, fin out ys q1 q2 g1⟩
end
end QL
end

section
set_option Elab.async false
set_option linter.all false
set_option maxRecDepth 100000
namespace QL
open PySem PySem.Spec PyProof.Rows L2
open PySem.W (alike alikeAll dataLt EachIs AllAlike Sortable dataLe minD maxD AlikeAll min_list_data min_tuple_data max_list_data max_tuple_data)
/-! ### sorted(..) of a list or a tuple of alike data, or of a dict with int keys -/
def sortC (ds : List D) : Bool := allAl ds && sortable ds && shDs 8 ds && decide (ds.length ≤ sizeLine)
def oSortS (ds : Option (List D)) : Option S := match ds with
  | some ds => if sortC ds = true then some (.m (.lst (sortD ds))) else none
  | none => none
@[simp] theorem oSortS_some {ds : List D} : oSortS (some ds) = if sortC ds = true then some (.m (.lst (sortD ds))) else none := rfl
def oSortA : List S → Option S
  | [s] => (oSortS (seqOf s)).or (oSortD [s])
  | _ => none
@[simp] theorem oSortA_lst {ds : List D} : oSortA [.m (.lst ds)] = if sortC ds = true then some (.m (.lst (sortD ds))) else none := by
  show Option.or (oSortS (some ds)) (oSortD [.m (.lst ds)]) = _
  have : oSortD [.m (.lst ds)] = none := rfl
  rw [this, Option.or_none, oSortS_some]
@[simp] theorem oSortA_lk {ds : List D} : oSortA [.lk (.lst ds)] = if sortC ds = true then some (.m (.lst (sortD ds))) else none := by
  show Option.or (oSortS (some ds)) (oSortD [.lk (.lst ds)]) = _
  have : oSortD [.lk (.lst ds)] = none := rfl
  rw [this, Option.or_none, oSortS_some]
@[simp] theorem oSortA_tup {ds : List D} : oSortA [.d (.tup ds)] = if sortC ds = true then some (.m (.lst (sortD ds))) else none := by
  show Option.or (oSortS (some ds)) (oSortD [.d (.tup ds)]) = _
  have : oSortD [.d (.tup ds)] = none := rfl
  rw [this, Option.or_none, oSortS_some]
@[simp] theorem oSortA_dk {kvs : List (Key × D)} : oSortA [.m (.dk kvs)] = oSortD [.m (.dk kvs)] := rfl
@[simp] theorem oSortA_ldk {kvs : List (Key × D)} : oSortA [.lk (.dk kvs)] = oSortD [.lk (.dk kvs)] := rfl
theorem leD_int {x y : Int} : leD (.int x) (.int y) = decide (x ≤ y) := by
  unfold leD
  rw [ltD_int]
  by_cases h : x ≤ y
  · simp [h]
  · simp [h]; omega
theorem sortD_ints (ns : List Int) : sortD (ns.map D.int) = (sortI ns).map D.int := by
  unfold sortD
  rw [← PySem.W.sort_maps (r := fun x y => decide (x ≤ y)) D.int fun a _ b _ => (leD_int (x := a) (y := b)).symm]
  congr 1
  refine sortI_of (List.mergeSort_perm _ _) ?_
  have := List.pairwise_mergeSort (le := fun x y : Int => decide (x ≤ y)) (fun a b c h1 h2 => by simp at h1 h2 ⊢; omega) (fun a b => by simp; omega) ns
  exact this.imp fun h => by simpa using h
theorem sortC_ints {ns : List Int} (h : ns.length ≤ 1000000) : sortC (ns.map D.int) = true := by
  unfold sortC
  have h1 : allAl (ns.map D.int) = true := allAl_of fun x hx y hy => by
    obtain ⟨a, _, rfl⟩ := List.mem_map.mp hx
    obtain ⟨b, _, rfl⟩ := List.mem_map.mp hy
    rfl
  have h2 : sortable (ns.map D.int) = true := by
    unfold sortable
    simp
  rw [h1, h2, shDs_ints]
  simp
  exact sizeLine_ge h
section
variable {X : Cx}
def rSortA (K : PySem.W.Frag) : List V → Hp → VK → Prop := fun vs H Q => ∃ (a : Addr) (xs : List V) (ds : List D), vs = [V.ref a] ∧ (SqL K H a xs ∨ SqT K H a xs) ∧ RDs K H ds xs ∧ allAl ds = true ∧ sortable ds = true ∧ shDs 8 ds = true ∧ ds.length ≤ sizeLine ∧
  ∀ ys p, RDs K H (sortD ds) ys → H p = none → Q (.ref p) (upd H p (.lst ys))
theorem cr_sortA (hu : X.A.units + 64 < cLine) : CallR X (.builtin "sorted") (rSortA X.K) := by
  intro pins s σ H vs us Q I r h
  obtain ⟨a, xs, ds, rfl, hs, rs, h1, h2, h3, h4, q⟩ := h
  rw [Vals.ref1 r]
  rcases hs with hs | hs
  · obtain ⟨its, rv, ⟨o, n, ho, hc, hdn, hd⟩, hz⟩ := I.list hs
    exact sorted_core I hu rs rv h1 h2 h3 hz (fun Q' k => wpAny_collect_seq (items := its.toArray) a (.inl rfl) ho hc hd (fun h' hk => k h' s.toks hk) (by rw [List.size_toArray, ← rv.length]; exact hz)) q
  · obtain ⟨its, rv, ⟨o, ho, hc, n, hd⟩, hz⟩ := I.tuple hs
    exact sorted_core I hu rs rv h1 h2 h3 hz (fun Q' k => wpAny_collect_seq (items := its.toArray) a (.inr rfl) ho hc hd (fun h' hk => k h' s.toks hk) (by rw [List.size_toArray, ← rv.length]; exact hz)) q
theorem CallOk.or {f : Value} {o o' : List S → Option S} (h : CallOk X f o) (h' : CallOk X f o') : CallOk X f (fun ss => (o ss).or (o' ss)) := by
  obtain ⟨r, h1, h2⟩ := h.ex
  obtain ⟨r', h3, h4⟩ := h'.ex
  refine ⟨fun vs H Q => r vs H Q ∨ r' vs H Q, fun pins s σ H vs us Q I rr h => ?_, fun H vs ss s Q e rr f => ?_⟩
  · rcases h with h | h
    · exact h1 pins s σ H vs us Q I rr h
    · exact h3 pins s σ H vs us Q I rr h
  · have e : (o ss).or (o' ss) = some s := e
    cases q : o ss with
    | some z =>
      rw [q] at e
      have e : some z = some s := e
      cases e
      exact .inl (h2 H vs ss _ Q q rr f)
    | none =>
      rw [q, Option.none_or] at e
      exact .inr (h4 H vs ss _ Q e rr f)
theorem CallOk.eq {f : Value} {o o' : List S → Option S} (h : CallOk X f o) (e : ∀ ss, o' ss = o ss) : CallOk X f o' := by
  rw [show o' = o from funext e]
  exact h
def oSort1 : List S → Option S
  | [s] => oSortS (seqOf s)
  | _ => none
theorem cb_sort1 (hu : X.A.units + 64 < cLine) : CallOk X (.builtin "sorted") oSort1 := ⟨_, cr_sortA hu, fun H vs ss s Q e rr f => by
  unfold oSort1 at e
  split at e
  · rename_i s1
    unfold oSortS at e
    split at e
    · rename_i ds hds
      split at e
      · rename_i hc
        cases e
        unfold sortC at hc
        simp only [Bool.and_eq_true, decide_eq_true_eq] at hc
        obtain ⟨v, rfl, hv⟩ := rr1 rr
        obtain ⟨a, xs, rfl, rs, sq⟩ := rd_seq hds hv
        exact ⟨a, xs, ds, rfl, sq, rs, hc.1.1.1, hc.1.1.2, hc.1.2, hc.2, fun ys p ry hp => f.lst ry hp⟩
      · cases e
    · cases e
  · cases e⟩
theorem cb_sortA (hc : X.calm = true) (hu : X.A.units + 64 < cLine) : CallOk X (.builtin "sorted") oSortA := ((cb_sort1 hu).or (cb_sortD hc)).eq fun ss => by
  match ss with
  | [] => rfl
  | [s] => rfl
  | _ :: _ :: _ => rfl
/-! ### min, max of a list or a tuple of alike data -/
def minDD (x : D) (xs : List D) : D := xs.foldl (fun a y => if ltD y a = true then y else a) x
def maxDD (x : D) (xs : List D) : D := xs.foldl (fun a y => if ltD a y = true then y else a) x
theorem minDD_mem (x : D) : ∀ xs : List D, minDD x xs ∈ x :: xs
  | [] => by simp [minDD]
  | y :: ys => by
    show minDD (if ltD y x = true then y else x) ys ∈ _
    have := minDD_mem (if ltD y x = true then y else x) ys
    split at this <;> rename_i h
    · rw [if_pos h]
      exact List.mem_cons_of_mem _ this
    · rw [if_neg h]
      rcases List.mem_cons.mp this with e | e
      · rw [e]; exact List.mem_cons_self
      · exact List.mem_cons_of_mem _ (List.mem_cons_of_mem _ e)
theorem maxDD_mem (x : D) : ∀ xs : List D, maxDD x xs ∈ x :: xs
  | [] => by simp [maxDD]
  | y :: ys => by
    show maxDD (if ltD x y = true then y else x) ys ∈ _
    have := maxDD_mem (if ltD x y = true then y else x) ys
    split at this <;> rename_i h
    · rw [if_pos h]
      exact List.mem_cons_of_mem _ this
    · rw [if_neg h]
      rcases List.mem_cons.mp this with e | e
      · rw [e]; exact List.mem_cons_self
      · exact List.mem_cons_of_mem _ (List.mem_cons_of_mem _ e)
theorem minD_toPy : ∀ (xs : List D) (x : D), (∀ a ∈ x :: xs, ∀ b ∈ x :: xs, alD a b = true) → minD (toPy x) (xs.map toPy) = toPy (minDD x xs)
  | [], _, _ => rfl
  | y :: ys, x, h => by
    show minD (if dataLt (toPy y) (toPy x) = true then toPy y else toPy x) (ys.map toPy) = toPy (minDD (if ltD y x = true then y else x) ys)
    rw [lt_toPy y x (h y (by simp) x (by simp))]
    by_cases q : ltD y x = true
    · rw [if_pos q, if_pos q]
      exact minD_toPy ys y fun a ha b hb => h a (by simp at ha ⊢; rcases ha with ha | ha <;> simp [ha]) b (by simp at hb ⊢; rcases hb with hb | hb <;> simp [hb])
    · rw [if_neg q, if_neg q]
      exact minD_toPy ys x fun a ha b hb => h a (by simp at ha ⊢; rcases ha with ha | ha <;> simp [ha]) b (by simp at hb ⊢; rcases hb with hb | hb <;> simp [hb])
theorem maxD_toPy : ∀ (xs : List D) (x : D), (∀ a ∈ x :: xs, ∀ b ∈ x :: xs, alD a b = true) → maxD (toPy x) (xs.map toPy) = toPy (maxDD x xs)
  | [], _, _ => rfl
  | y :: ys, x, h => by
    show maxD (if dataLt (toPy x) (toPy y) = true then toPy y else toPy x) (ys.map toPy) = toPy (maxDD (if ltD x y = true then y else x) ys)
    rw [lt_toPy x y (h x (by simp) y (by simp))]
    by_cases q : ltD x y = true
    · rw [if_pos q, if_pos q]
      exact maxD_toPy ys y fun a ha b hb => h a (by simp at ha ⊢; rcases ha with ha | ha <;> simp [ha]) b (by simp at hb ⊢; rcases hb with hb | hb <;> simp [hb])
    · rw [if_neg q, if_neg q]
      exact maxD_toPy ys x fun a ha b hb => h a (by simp at ha ⊢; rcases ha with ha | ha <;> simp [ha]) b (by simp at hb ⊢; rcases hb with hb | hb <;> simp [hb])
def mmC (ds : List D) : Bool := allAl ds && (ds.all notNon) && shDs 8 ds && decide (ds.length ≤ sizeLine)
def rMM (K : PySem.W.Frag) (g : D → List D → D) : List V → Hp → VK → Prop := fun vs H Q => ∃ (a : Addr) (xs : List V) (x : D) (ds : List D), vs = [V.ref a] ∧ (SqL K H a xs ∨ SqT K H a xs) ∧ RDs K H (x :: ds) xs ∧ mmC (x :: ds) = true ∧ ∀ v, RD K H (g x ds) v → Q v H
theorem depth_toPys {ds : List D} (h : shDs 8 ds = true) : PyData.depthAll (toPys ds) ≤ 8 := (shDs_ok 8 ds h).2
theorem alikeAll_of {ds : List D} (h : mmC ds = true) : AlikeAll (toPys ds) := by
  unfold mmC at h
  simp only [Bool.and_eq_true, decide_eq_true_eq] at h
  rw [toPys_map]
  refine ⟨fun x hx y hy => ?_, fun x hx => ?_⟩
  · obtain ⟨a, ha, rfl⟩ := List.mem_map.mp hx
    obtain ⟨b, hb, rfl⟩ := List.mem_map.mp hy
    rw [alike_toPy]
    exact allAl_get h.1.1.1 ha hb
  · obtain ⟨a, ha, rfl⟩ := List.mem_map.mp hx
    exact notNon_py (List.all_eq_true.mp h.1.1.2 a ha)
theorem mm_item {pins : List (Addr × Obj)} {s : Shared} {σ : L2.St} {H : Hp} {xs : List V} {its : List Value} {ds : List D} {d : D} {i : Nat} {v : Value} {bs : List Addr} {h' : Heap} (I : Inv X pins σ H s) (rs : RDs X.K H ds xs) (rv : Vals xs its) (hal : allAl ds = true) (hm : d ∈ ds) (hv : its[i]? = some v)
    (hr : Reads h' v (toPy d) bs) (hk : ∀ b o, s.heap.get? b = some o → h'.get? b = some o) : ∃ w, RelV w v ∧ RD X.K H d w := by
  have hl := rv.length
  have hi : i < its.length := (List.getElem?_eq_some_iff.mp hv).1
  have hx : xs[i]? = some xs[i] := List.getElem?_eq_getElem (by omega)
  obtain ⟨u, hu, ru⟩ := rv.get hx
  rw [hv] at hu
  cases hu
  obtain ⟨d', hd', rd⟩ := rs.getV hx
  obtain ⟨as, r⟩ := Dp.reads I (toPy d') _ _ (RD.dp rd) ru
  have e := PySem.W.alike_unique (toPy d) (toPy d') v bs as (by rw [alike_toPy]; exact allAl_get hal hm (List.mem_of_getElem? hd')) hr (PyProof.Rows.Reads.keeps hk r)
  rw [toPy_inj e]
  exact ⟨_, ru, rd⟩
theorem cr_minD (hc : X.calm = true) (hu : X.A.units + 64 < cLine) : CallR X (.builtin "min") (rMM X.K minDD) := by
  intro pins s σ H vs us Q I r h
  obtain ⟨a, xs, x, ds, rfl, hs, rs, hm, q⟩ := h
  have hm0 := hm
  unfold mmC at hm
  simp only [Bool.and_eq_true, decide_eq_true_eq] at hm
  have dp : X.A.units + 1 + PyData.depthAll (toPys (x :: ds)) < cLine := by have := depth_toPys hm.1.2; omega
  rw [Vals.ref1 r]
  have fin : ∀ {its : List Value}, Vals xs its → ∀ (i : Nat) v h' tk bs, its.toArray[i]? = some v → Reads h' v (minD (toPy x) (toPys ds)) bs → (∀ b o, s.heap.get? b = some o → h'.get? b = some o) → EP X pins σ Q v { s with heap := h', toks := tk } := fun {its} rv i v h' tk bs hv hr hk => by
    rw [toPys_map, minD_toPy ds x fun a ha b hb => allAl_get hm.1.1.1 ha hb] at hr
    obtain ⟨w, rw', rd⟩ := mm_item I rs rv hm.1.1.1 (minDD_mem x ds) (by simpa using hv) hr hk
    exact ⟨w, H, I.kept (t' := tk) hk, rw', q w rd⟩
  rcases hs with hs | hs
  · obtain ⟨its, rv, pl, hz⟩ := I.list hs
    obtain ⟨as, hr⟩ := Dp.readsAll I (toPys (x :: ds)) xs its (RDs.dp rs) rv
    exact min_list_data (I.ok.hd hc) pl.isList (x := toPy x) (xs := toPys ds) (by simpa [toPys] using hr) (alikeAll_of hm0) dp (fin rv)
  · obtain ⟨its, rv, pl, hz⟩ := I.tuple hs
    obtain ⟨as, hr⟩ := Dp.readsAll I (toPys (x :: ds)) xs its (RDs.dp rs) rv
    exact min_tuple_data (I.ok.hd hc) (show s.heap.IsTuple a its.toArray from pl) (x := toPy x) (xs := toPys ds) (by simpa [toPys] using hr) (alikeAll_of hm0) dp (fin rv)
theorem cr_maxD (hc : X.calm = true) (hu : X.A.units + 64 < cLine) : CallR X (.builtin "max") (rMM X.K maxDD) := by
  intro pins s σ H vs us Q I r h
  obtain ⟨a, xs, x, ds, rfl, hs, rs, hm, q⟩ := h
  have hm0 := hm
  unfold mmC at hm
  simp only [Bool.and_eq_true, decide_eq_true_eq] at hm
  have dp : X.A.units + 1 + PyData.depthAll (toPys (x :: ds)) < cLine := by have := depth_toPys hm.1.2; omega
  rw [Vals.ref1 r]
  have fin : ∀ {its : List Value}, Vals xs its → ∀ (i : Nat) v h' tk bs, its.toArray[i]? = some v → Reads h' v (maxD (toPy x) (toPys ds)) bs → (∀ b o, s.heap.get? b = some o → h'.get? b = some o) → EP X pins σ Q v { s with heap := h', toks := tk } := fun {its} rv i v h' tk bs hv hr hk => by
    rw [toPys_map, maxD_toPy ds x fun a ha b hb => allAl_get hm.1.1.1 ha hb] at hr
    obtain ⟨w, rw', rd⟩ := mm_item I rs rv hm.1.1.1 (maxDD_mem x ds) (by simpa using hv) hr hk
    exact ⟨w, H, I.kept (t' := tk) hk, rw', q w rd⟩
  rcases hs with hs | hs
  · obtain ⟨its, rv, pl, hz⟩ := I.list hs
    obtain ⟨as, hr⟩ := Dp.readsAll I (toPys (x :: ds)) xs its (RDs.dp rs) rv
    exact max_list_data (I.ok.hd hc) pl.isList (x := toPy x) (xs := toPys ds) (by simpa [toPys] using hr) (alikeAll_of hm0) dp (fin rv)
  · obtain ⟨its, rv, pl, hz⟩ := I.tuple hs
    obtain ⟨as, hr⟩ := Dp.readsAll I (toPys (x :: ds)) xs its (RDs.dp rs) rv
    exact max_tuple_data (I.ok.hd hc) (show s.heap.IsTuple a its.toArray from pl) (x := toPy x) (xs := toPys ds) (by simpa [toPys] using hr) (alikeAll_of hm0) dp (fin rv)
def oMMS (g : D → List D → D) (ds : Option (List D)) : Option S := match ds with
  | some (x :: ds) => if mmC (x :: ds) = true then some (.d (g x ds)) else none
  | _ => none
def oMM (g : D → List D → D) : List S → Option S
  | [s] => oMMS g (seqOf s)
  | _ => none
theorem oMM_ok {K : PySem.W.Frag} {g : D → List D → D} : OpN K (rMM K g) (oMM g) := fun H vs ss s Q e rr f => by
  unfold oMM at e
  split at e
  · unfold oMMS at e
    split at e
    · rename_i x ds hds
      split at e
      · rename_i hc
        cases e
        obtain ⟨v, rfl, hv⟩ := rr1 rr
        obtain ⟨a, xs, rfl, rs, sq⟩ := rd_seq hds hv
        exact ⟨a, xs, x, ds, rfl, sq, rs, hc, fun v rd => f.imm rd⟩
      · cases e
    · cases e
  · cases e
def oMinA : List S → Option S := fun ss => (oMin ss).or (oMM minDD ss)
def oMaxA : List S → Option S := fun ss => (oMax ss).or (oMM maxDD ss)
theorem cb_minA (hc : X.calm = true) (hu : X.A.units + 64 < cLine) : CallOk X (.builtin "min") oMinA := (cb_min hc).or ⟨_, cr_minD hc hu, oMM_ok⟩
theorem cb_maxA (hc : X.calm = true) (hu : X.A.units + 64 < cLine) : CallOk X (.builtin "max") oMaxA := (cb_max hc).or ⟨_, cr_maxD hc hu, oMM_ok⟩
@[simp] theorem oMinA_2 {i j : Int} : oMinA [.d (.int i), .d (.int j)] = some (.d (.int (if j < i then j else i))) := rfl
@[simp] theorem oMaxA_2 {i j : Int} : oMaxA [.d (.int i), .d (.int j)] = some (.d (.int (if j > i then j else i))) := rfl
theorem intsOf_tup {ys : List D} {l : List D} : intsOf (.tup ys :: l) = none := rfl
theorem oMinA_tups {ys : List D} {l : List D} (h : mmC (.tup ys :: l) = true) : oMinA [.m (.lst (.tup ys :: l))] = some (.d (minDD (.tup ys) l)) := by
  unfold oMinA
  rw [oMin_1]
  show Option.or none (oMMS minDD (some (.tup ys :: l))) = _
  rw [Option.none_or]
  show (if mmC (.tup ys :: l) = true then _ else _) = _
  rw [if_pos h]
theorem oMaxA_tups {ys : List D} {l : List D} (h : mmC (.tup ys :: l) = true) : oMaxA [.m (.lst (.tup ys :: l))] = some (.d (maxDD (.tup ys) l)) := by
  unfold oMaxA
  rw [oMax_1]
  show Option.or none (oMMS maxDD (some (.tup ys :: l))) = _
  rw [Option.none_or]
  show (if mmC (.tup ys :: l) = true then _ else _) = _
  rw [if_pos h]
theorem oMinA_ints {ns : List Int} {m : Int} (h : minL ns = some m) : oMinA [.m (.lst (ns.map D.int))] = some (.d (.int m)) := by
  unfold oMinA
  rw [oMin_1]
  have : intsOp minL [.m (.lst (ns.map D.int))] = some (.d (.int m)) := by simp [intsOp, h]
  rw [this]
  rfl
theorem oMaxA_ints {ns : List Int} {m : Int} (h : maxL ns = some m) : oMaxA [.m (.lst (ns.map D.int))] = some (.d (.int m)) := by
  unfold oMaxA
  rw [oMax_1]
  have : intsOp maxL [.m (.lst (ns.map D.int))] = some (.d (.int m)) := by simp [intsOp, h]
  rw [this]
  rfl
end
end QL
end

section
set_option Elab.async false
set_option linter.all false
set_option maxRecDepth 100000
namespace QL
open PySem PySem.Spec PyProof.Rows L2
/-! ### x = y, y a list or dict of its own: it moves -/
def mvK (i j : Nat) (z : Option (Option S)) (e : En) : Option Res := match z with
  | some (some (.m x)) => some (.nx ((e.set j none).set i (some (.m x))))
  | _ => none
@[simp] theorem mvK_m {i j : Nat} {x : M} {e : En} : mvK i j (some (some (.m x))) e = some (.nx ((e.set j none).set i (some (.m x)))) := rfl
def sMove (i j : Nat) : FS := fun e => mvK i j e[j]? e
@[simp] theorem sMove_ap {i j : Nat} {e : En} : sMove i j e = mvK i j e[j]? e := rfl
theorem forget_tm {K : PySem.W.Frag} {H : Hp} {σ : Sl} {env : En} {W : Ow} {j : Nat} (r : RE K H σ env W) : Tm (fun k b => if k = j then False else W k b) H (W j) := fun b z => ⟨fun ⟨k, y⟩ => by
  have y : if k = j then False else W k b := y
  by_cases hk : k = j
  · rw [if_pos hk] at y
    exact y
  · rw [if_neg hk] at y
    exact hk (r.apart k j b y z), r.mu j b z⟩
section
variable {X : Cx} {i j : Nat} {x y : Str} {pos pos' p : Pos}
theorem qs_move (hN : X.N.Nodup) (hi : X.N[i]? = some x := by rfl) (hj : X.N[j]? = some y := by rfl) (hx : Loc X.env.scope x := by first | exact Or.inl rfl | exact Or.inr rfl) (hv : Vis X.env.scope y := by first | exact Or.inl rfl | exact Or.inr (Or.inl rfl) | exact Or.inr (Or.inr rfl))
    (hd : (y == ("__debug__" : Str)) = false := by decide) (hcd : (y == ("__classdict__" : Str)) = false := by decide) (hs : swapsWith (.Name y p) (some (.Name x pos')) pos.line X.env = pure false := by rfl)
    (hf : X.fn x = true ∨ X.env.scope.names.lookup x = some .local := by first | exact .inl rfl | exact .inr rfl | assumption) :
    PXS X (.Assign [.Name x pos'] (.Name y p) pos) [i] (sMove i j) := PS.imp (ps_set hN hi hx (pe_var hj hv hd hcd) hs hf) fun D σ H h => by
  obtain ⟨env, W, r, re, e, pq⟩ := h
  unfold sMove mvK at e
  split at e
  · rename_i z hz
    cases e
    obtain ⟨v, h1, h2⟩ := re.slots j _ hz
    refine ⟨v, h1, pq _ H _ ((re.forget (i := j)).set (s := .m z) h2 (forget_tm re)) ?_ eqs_set⟩
    refine ⟨fun b o e _ => e, fun b e => e, fun b e n => ⟨fun ⟨k, w⟩ => ?_, fun z => z⟩⟩
    have w : if k = i then W j b else (if k = j then False else W k b) := w
    by_cases hk : k = i
    · rw [if_pos hk] at w; exact n ⟨j, w⟩
    · rw [if_neg hk] at w
      by_cases hk2 : k = j
      · rw [if_pos hk2] at w; exact w
      · rw [if_neg hk2] at w; exact n ⟨k, w⟩
  · cases e
end
/-! ### tuples of owned things -/
def mF : M → Option F
  | .lst xs => some (.l xs)
  | .dk kvs => some (.k kvs)
  | .dt kvs => some (.t kvs)
  | _ => none
def fM : F → S
  | .d x => .d x
  | .l xs => .m (.lst xs)
  | .k kvs => .m (.dk kvs)
  | .t kvs => .m (.dt kvs)
@[simp] theorem mF_lst {xs : List D} : mF (.lst xs) = some (.l xs) := rfl
@[simp] theorem mF_dk {kvs : List (Key × D)} : mF (.dk kvs) = some (.k kvs) := rfl
@[simp] theorem mF_dt {kvs : List (D × D)} : mF (.dt kvs) = some (.t kvs) := rfl
@[simp] theorem fM_d {x : D} : fM (.d x) = .d x := rfl
@[simp] theorem fM_l {xs : List D} : fM (.l xs) = .m (.lst xs) := rfl
@[simp] theorem fM_k {kvs : List (Key × D)} : fM (.k kvs) = .m (.dk kvs) := rfl
@[simp] theorem fM_t {kvs : List (D × D)} : fM (.t kvs) = .m (.dt kvs) := rfl
def rowC (f : Option F) (z : Option (List F × En)) : Option (List F × En) := match f, z with
  | some f, some p => some (f :: p.1, p.2)
  | _, _ => none
@[simp] theorem rowC_some {f : F} {fs : List F} {e : En} : rowC (some f) (some (fs, e)) = some (f :: fs, e) := rfl
def rowG : List Arg → En → Option (List F × En)
  | [], e => some ([], e)
  | .val (.d x) :: as, e => rowC (some (.d x)) (rowG as e)
  | .val (.m x) :: as, e => rowC (mF x) (rowG as e)
  | .val (.lk _) :: _, _ => none
  | .slot j :: as, e => match e[j]? with
    | some (some (.d x)) => rowC (some (.d x)) (rowG as e)
    | some (some (.m x)) => rowC (mF x) (rowG as (e.set j none))
    | _ => none
def rowS (j : Nat) (as : List Arg) (z : Option (Option S)) (e : En) : Option (List F × En) := match z with
    | some (some (.d x)) => rowC (some (.d x)) (rowG as e)
    | some (some (.m x)) => rowC (mF x) (rowG as (e.set j none))
    | _ => none
@[simp] theorem rowG_nil {e : En} : rowG [] e = some ([], e) := rfl
@[simp] theorem rowG_d {x : D} {as : List Arg} {e : En} : rowG (.val (.d x) :: as) e = rowC (some (.d x)) (rowG as e) := rfl
@[simp] theorem rowG_m {x : M} {as : List Arg} {e : En} : rowG (.val (.m x) :: as) e = rowC (mF x) (rowG as e) := rfl
@[simp] theorem rowG_slot {j : Nat} {as : List Arg} {e : En} : rowG (.slot j :: as) e = rowS j as e[j]? e := rfl
@[simp] theorem rowS_d {j : Nat} {as : List Arg} {x : D} {e : En} : rowS j as (some (some (.d x))) e = rowC (some (.d x)) (rowG as e) := rfl
@[simp] theorem rowS_m {j : Nat} {as : List Arg} {x : M} {e : En} : rowS j as (some (some (.m x))) e = rowC (mF x) (rowG as (e.set j none)) := rfl
theorem rowC_eq {f : Option F} {z : Option (List F × En)} {fs : List F} {e : En} (h : rowC f z = some (fs, e)) : ∃ f0 fs0, f = some f0 ∧ z = some (fs0, e) ∧ fs = f0 :: fs0 := by
  unfold rowC at h
  split at h
  · rename_i p
    cases h
    exact ⟨_, p.1, rfl, rfl, rfl⟩
  · cases h
abbrev nF (fs : List F) : List (Str × F) := fs.map fun f => (Str.empty, f)
abbrev nV (vs : List V) : List (Str × V) := vs.map fun v => (Str.empty, v)
theorem mF_rf {K : PySem.W.Frag} {H : Hp} {x : M} {f : F} {v : V} {P : Addr → Prop} (e : mF x = some f) (h : RM K H x v P) : ∃ bs, RF K H f v bs ∧ bs.Nodup ∧ ∀ b ∈ bs, P b := by
  cases x with
  | lst xs => cases e; obtain ⟨a, vs, e, pa, ha, r⟩ := h; exact ⟨[a], ⟨a, vs, e, rfl, ha, r⟩, by simp, by simpa using pa⟩
  | dk xs => cases e; obtain ⟨a, vs, e, pa, ha, r⟩ := h; exact ⟨[a], ⟨a, vs, e, rfl, ha, r⟩, by simp, by simpa using pa⟩
  | dt xs => cases e; obtain ⟨a, vs, e, pa, ha, r⟩ := h; exact ⟨[a], ⟨a, vs, e, rfl, ha, r⟩, by simp, by simpa using pa⟩
  | _ => cases e
theorem fM_rs {K : PySem.W.Frag} {H : Hp} {f : F} {v : V} {bs : List Addr} (h : RF K H f v bs) : RS K H (fM f) v (fun b => b ∈ bs) := by
  cases f with
  | d x => exact h.1
  | l xs => obtain ⟨b, vs, e, rfl, hb, r⟩ := h; exact ⟨b, vs, e, by simp, hb, r⟩
  | k xs => obtain ⟨b, vs, e, rfl, hb, r⟩ := h; exact ⟨b, vs, e, by simp, hb, r⟩
  | t xs => obtain ⟨b, vs, e, rfl, hb, r⟩ := h; exact ⟨b, vs, e, by simp, hb, r⟩
theorem row_read {K : PySem.W.Frag} {H : Hp} {σ : Sl} {W0 : Ow} : ∀ {as : List Arg} {vs : List V} {Fs : List (Addr → Prop)}, RAs K H σ W0 as vs Fs → ∀ {env : En} {W : Ow} {fs : List F} {env' : En}, RE K H σ env W → (∀ i b, W i b → W0 i b) → rowG as env = some (fs, env') →
    ∃ W' bs, RE K H σ env' W' ∧ (∀ i b, W' i b → W i b) ∧ RFs K H (nF fs) (nV vs) bs ∧ bs.Nodup ∧ ∀ b ∈ bs, (Own W b ∧ ¬ Own W' b) ∨ Fany Fs b
  | _, _, _, .nil, env, W, fs, env', re, hW, e => by
    cases e
    exact ⟨W, [], re, fun _ _ z => z, rfl, by simp, by simp⟩
  | _, _, _, .cons (a := a) (as := as) (v := v) (F := F) (Fs := Fs) ra tm dj t, env, W, fs, env', re, hW, e => by
    cases a with
    | val s =>
      cases s with
      | lk x => cases e
      | d x =>
        rw [rowG_d] at e
        obtain ⟨f0, fs0, h1, h2, rfl⟩ := rowC_eq e
        cases h1
        obtain ⟨W', bs, r', w', rf, nd, hb⟩ := row_read t re hW h2
        exact ⟨W', bs, r', w', ⟨rfl, [], bs, rfl, ⟨ra, rfl⟩, rf⟩, nd, fun b z => (hb b z).imp id .inr⟩
      | m x =>
        rw [rowG_m] at e
        obtain ⟨f0, fs0, h1, h2, rfl⟩ := rowC_eq e
        obtain ⟨W', bs, r', w', rf, nd, hb⟩ := row_read t re hW h2
        obtain ⟨b1, q1, q2, q3⟩ := mF_rf h1 (show RM K H x v F from ra)
        refine ⟨W', b1 ++ bs, r', w', ⟨rfl, b1, bs, rfl, q1, rf⟩, ?_, fun b z => ?_⟩
        · refine List.nodup_append.mpr ⟨q2, nd, fun b z c z2 => ?_⟩
          rintro rfl
          rcases hb b z2 with ⟨⟨i, o⟩, _⟩ | o
          · exact (tm b (q3 b z)).1 ⟨i, hW i b o⟩
          · exact dj b (q3 b z) o
        · rcases List.mem_append.mp z with z | z
          · exact .inr (.inl (q3 b z))
          · exact (hb b z).imp id .inr
    | slot j =>
      rw [rowG_slot] at e
      unfold rowS at e
      split at e
      · rename_i x hx
        obtain ⟨f0, fs0, h1, h2, rfl⟩ := rowC_eq e
        cases h1
        obtain ⟨W', bs, r', w', rf, nd, hb⟩ := row_read t re hW h2
        obtain ⟨w, q1, q2⟩ := re.slots j _ hx
        have h' : σ[j]? = some (some v) := ra
        rw [q1] at h'
        cases h'
        exact ⟨W', bs, r', w', ⟨rfl, [], bs, rfl, ⟨q2, rfl⟩, rf⟩, nd, fun b z => (hb b z).imp id .inr⟩
      · rename_i x hx
        obtain ⟨f0, fs0, h1, h2, rfl⟩ := rowC_eq e
        obtain ⟨w, q1, q2⟩ := re.slots j _ hx
        have h' : σ[j]? = some (some v) := ra
        rw [q1] at h'
        cases h'
        have sub : ∀ i b, (if i = j then False else W i b) → W i b := fun i b z => by
          by_cases hi : i = j
          · rw [if_pos hi] at z; exact z.elim
          · rw [if_neg hi] at z; exact z
        obtain ⟨W', bs, r', w', rf, nd, hb⟩ := row_read t (re.forget (i := j)) (fun i b z => hW i b (sub i b z)) h2
        obtain ⟨b1, p1, p2, p3⟩ := mF_rf h1 q2
        have nj : ∀ b, W j b → ¬ Own W' b := fun b z ⟨i, y⟩ => (forget_tm re b z).1 ⟨i, w' i b y⟩
        refine ⟨W', b1 ++ bs, r', fun i b z => sub i b (w' i b z), ⟨rfl, b1, bs, rfl, p1, rf⟩, ?_, fun b z => ?_⟩
        · refine List.nodup_append.mpr ⟨p2, nd, fun b z c z2 => ?_⟩
          rintro rfl
          rcases hb b z2 with ⟨o, _⟩ | o
          · exact (forget_tm re b (p3 b z)).1 o
          · obtain ⟨i, y⟩ : Own W0 b := ⟨j, hW j b (p3 b z)⟩
            exact fany_not t ⟨i, y⟩ o
        · rcases List.mem_append.mp z with z | z
          · exact .inl ⟨⟨j, p3 b z⟩, nj b (p3 b z)⟩
          · exact (hb b z).imp (fun ⟨⟨i, o⟩, n⟩ => ⟨⟨i, sub i b o⟩, n⟩) .inr
      · cases e
where
  fany_not {K : PySem.W.Frag} {H : Hp} {σ : Sl} {W0 : Ow} : ∀ {as : List Arg} {vs : List V} {Fs : List (Addr → Prop)} {b : Addr}, RAs K H σ W0 as vs Fs → Own W0 b → ¬ Fany Fs b
    | _, _, _, b, .nil, _, z => z
    | _, _, _, b, .cons ra tm dj t, o, z => by
      rcases z with z | z
      · exact (tm b z).1 o
      · exact fany_not t o z
def fRow1 (as : List Arg) (e : En) : Option (Arg × En) := match rowG as e with
  | some p => if p.1.length ≤ sizeLine then some (.val (.m (.row p.1)), p.2) else none
  | none => none
def rowE (z : Option (List F × En)) : Option (Arg × En) := match z with
  | some p => if p.1.length ≤ sizeLine then some (.val (.m (.row p.1)), p.2) else none
  | none => none
@[simp] theorem rowE_some {fs : List F} {e : En} : rowE (some (fs, e)) = if fs.length ≤ sizeLine then some (.val (.m (.row fs)), e) else none := rfl
@[simp] theorem fRow1_ap {as : List Arg} {e : En} : fRow1 as e = rowE (rowG as e) := rfl
def fRow (fs : Fn1 (List Arg)) : Fn1 Arg := fun e => bnd (fs e) fRow1
@[simp] theorem fRow_ap {fs : Fn1 (List Arg)} {e : En} : fRow fs e = bnd (fs e) fRow1 := rfl
theorem RFs.len {K : PySem.W.Frag} {H : Hp} : ∀ {fs : List (Str × F)} {vs : List (Str × V)} {bs : List Addr}, RFs K H fs vs bs → fs.length = vs.length
  | [], [], _, _ => rfl
  | (x, f) :: fs, (y, v) :: vs, bs, h => by
    obtain ⟨_, b1, b2, _, _, r⟩ := h
    rw [List.length_cons, List.length_cons, RFs.len r]
  | [], _ :: _, _, h => h.elim
  | _ :: _, [], _, h => h.elim
theorem RFs.mut {K : PySem.W.Frag} {H : Hp} : ∀ {fs : List (Str × F)} {vs : List (Str × V)} {bs : List Addr}, RFs K H fs vs bs → ∀ b ∈ bs, Mut (H b)
  | [], [], bs, h => by
    have h : bs = [] := h
    subst h
    simp
  | (x, f) :: fs, (y, v) :: vs, bs, h => by
    obtain ⟨_, b1, b2, rfl, r0, r⟩ := h
    intro b hb
    rcases List.mem_append.mp hb with hb | hb
    · cases f with
      | d x => rw [r0.2] at hb; cases hb
      | l xs => obtain ⟨c, vs, e, rfl, hc, _⟩ := r0; rw [List.mem_singleton.mp hb, hc]; trivial
      | k xs => obtain ⟨c, vs, e, rfl, hc, _⟩ := r0; rw [List.mem_singleton.mp hb, hc]; trivial
      | t xs => obtain ⟨c, vs, e, rfl, hc, _⟩ := r0; rw [List.mem_singleton.mp hb, hc]; trivial
    · exact RFs.mut r b hb
  | [], _ :: _, _, h => h.elim
  | _ :: _, [], _, h => h.elim
section
variable {X : Cx} {es : List Expr} {fs : Fn1 (List Arg)} {pos : Pos}
theorem qx_row {x1} (h : PXA X es fs) : PX X (.Tuple es x1 pos) (fRow fs) := PE.imp (pe_tup h) fun σ H Q h => by
  obtain ⟨env, W, z, env2, re, e, k⟩ := h
  obtain ⟨as, env1, ea, e⟩ := bnd_eq e
  rw [fRow1_ap] at e
  unfold rowE at e
  split at e
  · rename_i p hp
    obtain ⟨fl, env3⟩ := p
    split at e
    · rename_i hz
      cases e
      refine ⟨env, W, as, env1, re, ea, fun vs H1 W1 Fs r1 ras t1 => ?_⟩
      obtain ⟨W', bs, r', w', rf, nd, hb⟩ := row_read ras r1 (fun _ _ z => z) hp
      have hl := rf.len
      simp only [List.length_map] at hl
      refine ⟨by rw [← hl]; exact hz, fun q hq => ?_⟩
      have sm : Same H1 (upd H1 q (.tup vs)) := same_new hq
      have tmb : ∀ b ∈ bs, ¬ Own W' b ∧ Mut (H1 b) := fun b z => ⟨fun o => by
        rcases hb b z with ⟨_, n⟩ | f
        · exact n o
        · obtain ⟨i, o⟩ := o
          exact row_read.fany_not ras ⟨i, w' i b o⟩ f, rf.mut b z⟩
      refine k (.ref q) _ W' (fun b => b ∈ bs) (r'.same sm) ⟨q, vs, bs, rfl, SqT.of upd_same, rf.move (Same.pst sm) fun b o _ e => sm b o e, fun b z => z, nd⟩ (Tm.same sm tmb) ?_
      have t2 : Tr W1 H1 W' (upd H1 q (.tup vs)) F0 := ⟨fun b o e _ => sm b o e, fun b e => by
        cases q : H1 b with
        | none => exact absurd q e
        | some o => rw [sm b o q]; simp, fun b _ n => ⟨fun ⟨i, o⟩ => n ⟨i, w' i b o⟩, fun z => z⟩⟩
      have t3 := t1.trans t2
      refine ⟨t3.frame, t3.dom, fun b e n => ⟨(t3.out b e n).1, fun z => ?_⟩⟩
      rcases hb b z with ⟨o, _⟩ | f
      · exact (t1.out b e n).1 o
      · exact (t3.out b e n).2 (.inl f)
    · cases e
  · cases e
end
/-! ### names = a tuple of owned things -/
def uRow : List Nat → List F → En → Option En
  | [], [], e => some e
  | i :: is, f :: fs, e => uRow is fs (e.set i (some (fM f)))
  | _, _, _ => none
@[simp] theorem uRow_nil {e : En} : uRow [] [] e = some e := rfl
@[simp] theorem uRow_cons {i : Nat} {is : List Nat} {f : F} {fs : List F} {e : En} : uRow (i :: is) (f :: fs) e = uRow is fs (e.set i (some (fM f))) := rfl
def tU (K : PySem.W.Frag) (is : List Nat) : TGs := fun vs σ H Q => ∃ fs env W env' bs, RE K H σ env W ∧ RFs K H (nF fs) (nV vs) bs ∧ Tm W H (fun b => b ∈ bs) ∧ bs.Nodup ∧ uRow is fs env = some env' ∧ ∀ σ' W', RE K H σ' env' W' → (∀ b, Own W' b → Own W b ∨ b ∈ bs) → Eqs is σ σ' → Q σ' H
section
variable {X : Cx} {pos : Pos}
theorem qu_nil : PGs X [] (tU X.K []) := PGs.imp pgs_nil fun vs σ H Q h => by
  obtain ⟨fs, env, W, env', bs, re, rf, tm, nd, e, k⟩ := h
  cases fs with
  | nil =>
    cases e
    cases vs with
    | nil => exact ⟨rfl, k σ W re (fun b z => .inl z) Eqs.refl⟩
    | cons _ _ => exact rf.elim
  | cons _ _ => cases e
theorem qu_cons {i : Nat} {is : List Nat} {x : Str} {p : Pos} {es : List Expr} (hN : X.N.Nodup) (h2 : PGs X es (tU X.K is)) (hi : X.N[i]? = some x := by rfl) (hx : Loc X.env.scope x := by first | exact Or.inl rfl | exact Or.inr rfl)
    (hf : X.fn x = true ∨ X.env.scope.names.lookup x = some .local := by first | exact .inl rfl | exact .inr rfl | assumption)
    (hs : (assignEach (.Name x p :: es) X.env).map (·.2) = assign (.Name x p) X.env :: (assignEach es X.env).map (·.2) := by rfl) : PGs X (.Name x p :: es) (tU X.K (i :: is)) := PGs.imp (pgs_cons (pg_name hN hi hx hf) h2 hs) fun vs σ H Q h => by
  obtain ⟨fs, env, W, env', bs, re, rf, tm, nd, e, k⟩ := h
  cases fs with
  | nil => cases e
  | cons f fs =>
    cases vs with
    | nil => exact rf.elim
    | cons v vs =>
      obtain ⟨_, b1, b2, rfl, r0, r⟩ := rf
      rw [uRow_cons] at e
      obtain ⟨n1, n2, n3⟩ := List.nodup_append.mp nd
      refine ⟨v, vs, rfl, fs, _, _, env', b2, re.set (fM_rs r0) (fun b z => tm b (List.mem_append_left _ z)), r, fun b z => ⟨fun ⟨q, w⟩ => ?_, (tm b (List.mem_append_right _ z)).2⟩, n2, e, fun σ' W' r' w' q' => ?_⟩
      · have w : if q = i then b ∈ b1 else W q b := w
        by_cases hq : q = i
        · rw [if_pos hq] at w; exact n3 b w b z rfl
        · rw [if_neg hq] at w; exact (tm b (List.mem_append_right _ z)).1 ⟨q, w⟩
      · refine k σ' W' r' (fun b z => ?_) ((eqs_set (i := i)).trans q' (by simp) (fun j z => by simp [z]))
        rcases w' b z with ⟨q, w⟩ | w
        · have w : if q = i then b ∈ b1 else W q b := w
          by_cases hq : q = i
          · rw [if_pos hq] at w; exact .inr (List.mem_append_left _ w)
          · rw [if_neg hq] at w; exact .inl ⟨q, w⟩
        · exact .inr (List.mem_append_right _ w)
def unK1 : Option En → Option Res
  | some e => some (.nx e)
  | none => none
@[simp] theorem unK1_some {e : En} : unK1 (some e) = some (.nx e) := rfl
def unS (is : List Nat) (z : Option S) (e : En) : Option Res := match z with
  | some (.m (.row fs)) => if fs.length = is.length then unK1 (uRow is fs e) else none
  | some (.d (.tup xs)) => if xs.length = is.length then unK1 (uRow is (xs.map F.d) e) else none
  | _ => none
@[simp] theorem unS_row {is : List Nat} {fs : List F} {e : En} : unS is (some (.m (.row fs))) e = if fs.length = is.length then unK1 (uRow is fs e) else none := rfl
@[simp] theorem unS_tup {is : List Nat} {xs : List D} {e : En} : unS is (some (.d (.tup xs))) e = if xs.length = is.length then unK1 (uRow is (xs.map F.d) e) else none := rfl
def sUn1 (is : List Nat) (a : Arg) (e : En) : Option Res := match a with
  | .val s => unS is (some s) e
  | .slot j => match e[j]? with
    | some (some (.d (.tup xs))) => unS is (some (.d (.tup xs))) e
    | _ => none
@[simp] theorem sUn1_val {is : List Nat} {s : S} {e : En} : sUn1 is (.val s) e = unS is (some s) e := rfl
def sUn (is : List Nat) (fa : Fn1 Arg) : FS := fun e => bndS (fa e) (sUn1 is)
@[simp] theorem sUn_ap {is : List Nat} {fa : Fn1 Arg} {e : En} : sUn is fa e = bndS (fa e) (sUn1 is) := rfl
theorem rfs_of_rds {K : PySem.W.Frag} {H : Hp} : ∀ {xs : List D} {vs : List V}, RDs K H xs vs → RFs K H (nF (xs.map F.d)) (nV vs) []
  | _, _, .nil => rfl
  | _, _, .cons r t => ⟨rfl, [], [], rfl, ⟨r, rfl⟩, rfs_of_rds t⟩
theorem qs_un {es : List Expr} {k : Nat} {e : Expr} {fa : Fn1 Arg} {is : List Nat} {tpos : Pos} (hc : X.calm = true) (hg : PGs X es (tU X.K is)) (he : PX X e fa) (hn : (assignEach es X.env).length = is.length := by rfl) (hst : (assignEach es X.env).findIdx? (·.1) = none := by rfl)
    (hs : swapsWithSole [.Tuple es k tpos] e pos.line X.env = pure false := by rfl) (hw : swappedStores [.Tuple es k tpos] e X.env = pure none := by rfl)
    (h1 : (assignEach [.Tuple es k tpos] X.env).map (·.2) = [assign (.Tuple es k tpos) X.env] := by rfl) : PXS X (.Assign [.Tuple es k tpos] e pos) is (sUn is fa) := PS.imp (ps_asg he (pg_tup hc hg hn hst) hs hw h1) fun D σ H h => by
  obtain ⟨env, W, r, re, e, p⟩ := h
  obtain ⟨a, env1, ea, e⟩ := bndS_eq e
  refine ⟨env, W, a, env1, re, ea, fun v H1 W1 F r1 ra tm t => ?_⟩
  have core : ∀ {fl : List QL.F} {vs : List V} {bs : List Addr} {q : Addr}, v = .ref q → SqT X.K H1 q vs → RFs X.K H1 (nF fl) (nV vs) bs → bs.Nodup → (∀ b ∈ bs, F b) → fl.length = is.length → unK1 (uRow is fl env1) = some r → (gTup X.K is.length (tU X.K is)) v σ H1 fun σ' H' => D.nx σ' H' := fun {fl vs bs q} ev sq rf nd hb hl eu => by
    cases qu : uRow is fl env1 with
    | none => rw [qu] at eu; cases eu
    | some e2 =>
      rw [qu] at eu
      cases eu
      have hl2 := rf.len
      simp only [List.length_map] at hl2
      refine ⟨q, vs, ev, sq, by rw [← hl2]; exact hl, fl, env1, W1, e2, bs, r1, rf, fun b z => tm b (hb b z), nd, qu, fun σ' W' r' w' q' => ?_⟩
      refine p σ' H1 W' r' ⟨t.frame, t.dom, fun b e n => ⟨fun o => ?_, fun z => z⟩⟩ q'
      rcases w' b o with o | o
      · exact (t.out b e n).1 o
      · exact (t.out b e n).2 (hb b o)
  cases a with
  | val s =>
    rw [sUn1_val] at e
    unfold unS at e
    split at e
    · rename_i z fs hz
      cases hz
      split at e
      · rename_i hl
        obtain ⟨q, vs, bs, ev, sq, rf, hb, nd⟩ := (show RM X.K H1 (.row fs) v F from ra)
        exact core ev sq rf nd hb hl e
      · cases e
    · rename_i z xs hz
      cases hz
      split at e
      · rename_i hl
        obtain ⟨q, vs, ev, sq, rds⟩ := rd_tup ⟨F, ra⟩
        exact core ev sq (rfs_of_rds rds) (by simp) (by simp) (by simpa using hl) e
      · cases e
    · cases e
  | slot j =>
    unfold sUn1 at e
    simp only at e
    split at e
    · rename_i xs hx
      rw [unS_tup] at e
      split at e
      · rename_i hl
        obtain ⟨w, q1, q2⟩ := r1.slots j _ hx
        have h' : σ[j]? = some (some v) := ra
        rw [q1] at h'
        cases h'
        obtain ⟨q, vs, ev, sq, rds⟩ := rd_tup ⟨_, q2⟩
        exact core ev sq (rfs_of_rds rds) (by simp) (by simp) (by simpa using hl) e
      · cases e
    · cases e
end
end QL
end

section
set_option Elab.async false
set_option linter.all false
set_option maxRecDepth 100000
namespace QL
open PySem PySem.Spec PyProof.Rows L2
/-! ### list.extend by any list or tuple -/
section
open AutoSeq1
theorem extend_lstG (l : Addr) (items : Array Value) (n : Nat) (b : Addr) (items2 : Array Value) (n2 : Nat) (sl : Array (Option Value)) (hs0 : ¬(!items.isEmpty && Builtin.List.listTooLong (items.size + items2.size)) = true) (hs1 : items.size ≤ sizeLine) (hs2 : items.size + items2.size ≤ sizeLine + 1) :
    Meets (Builtin.«list.extend» ⟨[.ref l, .ref b], []⟩) (fun _ R s => s.heap.get? l = some { cls := .type "list", dict := none, data := .seq items n, slots := #[] } ∧ s.heap.get? b = some { cls := .type "list", dict := none, data := .seq items2 n2, slots := sl } ∧
      R (.ok (.ret Value.none)) { s with heap := s.heap.update l (Obj.mapSeq fun x => x ++ items2), toks := s.toks }) :=
  .of_wp fun prog w A R s h => by
    obtain ⟨hp, g, d, tk, os⟩ := s
    obtain ⟨hl, hb, h⟩ := h
    have f1 := idx_int
    have f2 := AutoSeq1.sub_tuple_tuple
    have f3 := AutoSeq1.sub_list_list
    have f4 := AutoSeq1.sub_tuple_list
    have f5 := AutoSeq1.sub_list_tuple
    have hz' : (items ++ items2).size ≤ sizeLine + 1 := by
      rw [Array.size_append]
      exact hs2
    wp_walk using (wpAny_updateSeq hl rfl (hz := hs1) (_hz' := hz')), wpAny_loadPart' hl, wpAny_loadPart' hb
    exact ⟨_, rfl, h⟩
end
def rExtL (K : PySem.W.Frag) : V → List V → Hp → VK → Prop := fun x vs H Q => ∃ l b xs zs, x = .ref l ∧ vs = [.ref b] ∧ H l = some (.lst xs) ∧ SqL K H b zs ∧ xs.length + zs.length ≤ sizeLine ∧ Q .non (upd H l (.lst (xs ++ zs)))
section
variable {X : Cx}
theorem mt_extL : L2.MtR X "list.extend" (rExtL X.K) := by
  intro pins s σ H x vs v us Q I rx rv h
  obtain ⟨l, b, xs, zs, rfl, rfl, hH, hB, hz, q⟩ := h
  cases rx
  rw [Vals.ref1 rv]
  obtain ⟨z, its, n, r, hl, e⟩ := I.lstM hH
  obtain ⟨its2, r2, ⟨⟨c2, dd, dt, sl⟩, n2, e2, hc2, hdd, hd2⟩, z2⟩ := I.list hB
  simp only at hc2 hd2 hdd
  subst hc2 hd2 hdd
  have hl2 := r2.length
  have hsz : its.toArray.size + its2.toArray.size ≤ sizeLine := by rw [List.size_toArray, List.size_toArray]; omega
  have hlong : ¬ (!its.toArray.isEmpty && Builtin.List.listTooLong (its.toArray.size + its2.toArray.size)) = true := by
    rw [notLongL hsz, Bool.and_false]
    decide
  refine call_meets F.slot_list_extend ⟨_, e, rfl⟩ F.entry_list_extend (F.args_list_extend_2 _ _)
    (extend_lstG l its.toArray n b its2.toArray n2 sl hlong (by rw [List.size_toArray]; omega) (by omega)) ⟨e, e2, ?_⟩
  refine ⟨.non, _, I.lset (its' := its ++ its2) hH e (by simp) (r.append r2) ?_, rfl, q⟩
  rw [List.length_append]
  omega
def oExtL : MtO := fun xs ss => match ss with
  | [.m (.lst ys)] => if xs.length + ys.length ≤ sizeLine then some (.non, xs ++ ys) else none
  | [.lk (.lst ys)] => if xs.length + ys.length ≤ sizeLine then some (.non, xs ++ ys) else none
  | _ => none
theorem cm_extL : MtOk X "list.extend" oExtL := ⟨_, mt_extL, fun H a vs us xs ss x ys Q e hH rs rr k => by
  unfold oExtL at e
  split at e
  · split at e
    · rename_i hz
      cases e
      obtain ⟨v, rfl, h⟩ := rr1 rr
      obtain ⟨b, ws, rfl, sq, rs2⟩ := rd_lst h
      exact ⟨a, b, vs, ws, rfl, rfl, hH, .of sq, by rw [← rs.length, ← rs2.length]; exact hz, k _ _ .non (rs.append rs2)⟩
    · cases e
  · split at e
    · rename_i hz
      cases e
      obtain ⟨v, rfl, h⟩ := rr1 rr
      obtain ⟨b, ws, rfl, sq, rs2⟩ := rd_lk h
      exact ⟨a, b, vs, ws, rfl, rfl, hH, sq.sq, by rw [← rs.length, ← rs2.length]; exact hz, k _ _ .non (rs.append rs2)⟩
    · cases e
  · cases e⟩
theorem MtR.or {id : String} {r r' : V → List V → Hp → VK → Prop} (h : L2.MtR X id r) (h' : L2.MtR X id r') : L2.MtR X id fun x vs H Q => r x vs H Q ∨ r' x vs H Q :=
  fun pins s σ H x vs v us Q I rx rv q => q.elim (fun q => h pins s σ H x vs v us Q I rx rv q) fun q => h' pins s σ H x vs v us Q I rx rv q
theorem MtOk.or {id : String} {o o' : MtO} (h : MtOk X id o) (h' : MtOk X id o') : MtOk X id fun xs ss => (o xs ss).or (o' xs ss) := by
  obtain ⟨r, h1, h2⟩ := h.ex
  obtain ⟨r', h3, h4⟩ := h'.ex
  refine ⟨_, MtR.or h1 h3, fun H a vs us xs ss x ys Q e hH rs rr k => ?_⟩
  cases q : o xs ss with
  | some p =>
    simp only [q, Option.or] at e
    cases e
    exact .inl (h2 H a vs us xs ss x ys Q q hH rs rr k)
  | none =>
    simp only [q, Option.or] at e
    exact .inr (h4 H a vs us xs ss x ys Q e hH rs rr k)
def oExtA : MtO := fun xs ss => (oExtT xs ss).or (oExtL xs ss)
theorem cm_extA : MtOk X "list.extend" oExtA := cm_extT.or cm_extL
@[simp] theorem oExtA_tup {xs ys : List D} : oExtA xs [.d (.tup ys)] = if xs.length + ys.length ≤ sizeLine then some (.non, xs ++ ys) else none := by
  unfold oExtA
  rw [oExtT_tup]
  split <;> rfl
@[simp] theorem oExtA_lst {xs ys : List D} : oExtA xs [.m (.lst ys)] = if xs.length + ys.length ≤ sizeLine then some (.non, xs ++ ys) else none := rfl
@[simp] theorem oExtA_lk {xs ys : List D} : oExtA xs [.lk (.lst ys)] = if xs.length + ys.length ≤ sizeLine then some (.non, xs ++ ys) else none := rfl
end
end QL
end

section
set_option Elab.async false
set_option linter.all false
set_option maxRecDepth 100000
set_option maxHeartbeats 4000000
namespace K39
open PySem PySem.Spec PyProof.Rows L2 QL
noncomputable section
/-! gcd(one, other): slots 0 one, 1 other -/
def wt1_gcd : Fn1 Bool :=
  (fTru (fVar 1))
def lb1_gcd : FS :=
  (sPar 0 1 (fCons (fVar 1) (fCons (fBin oMod (fVar 0) (fVar 1)) fNil)))
def A_gcd : List Nat := ([0, 1] ++ [])
def b_gcd : FS :=
  (sSeq (sWhile fuel0 wt1_gcd lb1_gcd)
  (sRet (fVar 0)))
def fn_gcd : FnS := mkFn 2 2 A_gcd b_gcd
/-! check(tasks): slots 0 tasks, 1 time, 2 deadline, 3 period -/
def lb1_check : FS :=
  (sIf (fNotT (fChT (fC (.int 1)) (fChC oLe (fVar 1) (fChC oLe (fVar 2) (fChC oLe (fVar 3) (fChE oLe (fC (.int 12))))))))
  sNever
  sNext)
def A_check : List Nat := (([] ++ []) ++ (([1] ++ ([2] ++ ([3] ++ []))) ++ ([] ++ [])))
def b_check : FS :=
  (sSeq (sIf (fNotT (fTB (fChain oLe oLe (fC (.int 1)) (fOp oLen (fCons (fVar 0) fNil)) (fC (.int 5)))))
  sNever
  sNext)
  (sFor (itSeq (fVar 0)) (bTup 3 (bCons (bName 1) (bCons (bName 2) (bCons (bName 3) bNil))))
  lb1_check))
def fn_check : FnS := mkFn 1 4 A_check b_check
/-! round_of(tasks): slots 0 tasks, 1 found, 2 _, 3 period -/
def lb1_round_of : FS :=
  (sSet 1 (fBin oDiv (fBin oMulA (fVar 1) (fVar 3)) (fCall fn_gcd (fCons (fVar 1) (fCons (fVar 3) fNil)))))
def A_round_of : List Nat := ([1] ++ ((([2] ++ ([2] ++ ([3] ++ []))) ++ [1]) ++ []))
def b_round_of : FS :=
  (sSeq (sSet 1 (fC (.int 1)))
  (sSeq (sFor (itSeq (fVar 0)) (bTup 3 (bCons (bName 2) (bCons (bName 2) (bCons (bName 3) bNil))))
  lb1_round_of)
  (sRet (fVar 1))))
def fn_round_of : FnS := mkFn 1 4 A_round_of b_round_of
/-! share(tasks): slots 0 tasks, 1 whole, 2 top, 3 divisor, 4 time, 5 _, 6 period -/
def ce1_share : Fn1 QL.Arg :=
  (fBin oMulA (fVar 4) (fBin oDiv (fVar 1) (fVar 6)))
def A_share : List Nat := ([] ++ ([1] ++ ([2] ++ ([3] ++ []))))
def b_share : FS :=
  (sSeq (sExpr (fCall fn_check (fCons (fVar 0) fNil)))
  (sSeq (sSet 1 (fCall fn_round_of (fCons (fVar 0) fNil)))
  (sSeq (sSet 2 (fOp oSum (fCons (fLc [4, 5, 6] (itSeq (fVar 0)) (bTup 3 (bCons (bName 4) (bCons (bName 5) (bCons (bName 6) bNil)))) fYes ce1_share) fNil)))
  (sSeq (sSet 3 (fCall fn_gcd (fCons (fVar 2) (fCons (fVar 1) fNil))))
  (sRet (fOp oTup (fCons (fBin oDiv (fVar 2) (fVar 3)) (fCons (fBin oDiv (fVar 1) (fVar 3)) fNil))))))))
def fn_share : FnS := mkFn 1 7 A_share b_share
/-! run_of(tasks, is_by_deadline, most): slots 0 tasks, 1 is_by_deadline, 2 most, 3 left, 4 due, 5 row, 6 moment, 7 k, 8 time, 9 deadline, 10 period, 11 ready, 12 now -/
def lb2_run_of : FS :=
  (sSeq (sIf (fAndT (fTB (fBin oGt (fBin oIx (fVar 3) (fVar 7)) (fC (.int 0)))) (fTB (fBin oLe (fBin oIx (fVar 4) (fVar 7)) (fVar 6))))
  (sRet (fRow (fCons (fVar 5) (fCons (fOp oTup (fCons (fVar 7) (fCons (fVar 6) fNil))) fNil))))
  sNext)
  (sIf (fTB (fBin oEq (fBin oMod (fVar 6) (fVar 10)) (fC (.int 0))))
  (sPatM (bTup 2 (bCons (bSub 3 (fVar 7)) (bCons (bSub 4 (fVar 7)) bNil))) (fOp oTup (fCons (fVar 8) (fCons (fBin oAdd (fVar 6) (fVar 9)) fNil))))
  sNext))
def ce3_run_of : Fn1 QL.Arg :=
  (fVar 7)
def ct3_run_of : Fn1 Bool :=
  (fTB (fBin oGt (fBin oIx (fVar 3) (fVar 7)) (fC (.int 0))))
def ce4_run_of : Fn1 QL.Arg :=
  (fOp oTup (fCons (fIf (fTru (fVar 1)) (fBin oIx (fVar 4) (fVar 7)) (fC (.int 0))) (fCons (fVar 7) fNil)))
def lb1_run_of : FS :=
  (sSeq (sFor (itEn (fCons (fVar 0) fNil)) (bTup 2 (bCons (bName 7) (bCons (bTup 3 (bCons (bName 8) (bCons (bName 9) (bCons (bName 10) bNil)))) bNil)))
  lb2_run_of)
  (sSeq (sSet 11 (fLc [7] (itRng (fCons (fOp oLen (fCons (fVar 0) fNil)) fNil)) (bName 7) ct3_run_of ce3_run_of))
  (sSeq (sIf (fNotT (fTru (fVar 11)))
  (sSeq (sExpr (fMt 5 oAppend (fCons (fUn oNeg (fC (.int 1))) fNil)))
  sCont)
  sNext)
  (sSeq (sSet 12 (fBin oIx (fOp oMinA (fCons (fLock 11 (fLc [7] (itSeq (fVar 11)) (bName 7) fYes ce4_run_of)) fNil)) (fC (.int 1))))
  (sSeq (sAgL 3 oSub (fVar 12) (fC (.int 1)))
  (sExpr (fMt 5 oAppend (fCons (fVar 12) fNil))))))))
def lb5_run_of : FS :=
  (sIf (fAndT (fTB (fBin oGt (fBin oIx (fVar 3) (fVar 7)) (fC (.int 0)))) (fTB (fBin oLe (fBin oIx (fVar 4) (fVar 7)) (fVar 2))))
  (sRet (fRow (fCons (fVar 5) (fCons (fOp oTup (fCons (fVar 7) (fCons (fVar 2) fNil))) fNil))))
  sNext)
def A_run_of : List Nat := ([3] ++ ([4] ++ ([5] ++ (([6] ++ ((([7] ++ (([8] ++ ([9] ++ ([10] ++ []))) ++ [])) ++ (([] ++ []) ++ (([] ++ ([] ++ [])) ++ []))) ++ ([11] ++ ((([] ++ []) ++ []) ++ ([12] ++ ([] ++ [])))))) ++ (([7] ++ ([] ++ [])) ++ [])))))
def b_run_of : FS :=
  (sSeq (sSet 3 (fBin oMulA (fOp oLst (fCons (fC (.int 0)) fNil)) (fOp oLen (fCons (fVar 0) fNil))))
  (sSeq (sSet 4 (fBin oMulA (fOp oLst (fCons (fC (.int 0)) fNil)) (fOp oLen (fCons (fVar 0) fNil))))
  (sSeq (sSet 5 (fOp oLst fNil))
  (sSeq (sFor (itRng (fCons (fVar 2) fNil)) (bName 6)
  lb1_run_of)
  (sSeq (sFor (itRng (fCons (fOp oLen (fCons (fVar 0) fNil)) fNil)) (bName 7)
  lb5_run_of)
  (sRet (fRow (fCons (fVar 5) (fCons (fC .non) fNil)))))))))
def fn_run_of : FnS := mkFn 3 13 A_run_of b_run_of
/-! play(tasks, kind, most): slots 0 tasks, 1 kind, 2 most, 3 row, 4 miss -/
def A_play : List Nat := ([] ++ (([] ++ []) ++ (([] ++ []) ++ ([3, 4] ++ []))))
def b_play : FS :=
  (sSeq (sExpr (fCall fn_check (fCons (fVar 0) fNil)))
  (sSeq (sIf (fTB (fBin oNinT (fVar 1) (fOp oTup (fCons (fC (.str (PySem.Str.ofString "deadline"))) (fCons (fC (.str (PySem.Str.ofString "number"))) fNil)))))
  sNever
  sNext)
  (sSeq (sIf (fNotT (fTB (fChain oLe oLe (fC (.int 0)) (fVar 2) (fC (.int 2000)))))
  sNever
  sNext)
  (sSeq (sUn [3, 4] (fCall fn_run_of (fCons (fVar 0) (fCons (fBin oEq (fVar 1) (fC (.str (PySem.Str.ofString "deadline")))) (fCons (fVar 2) fNil)))))
  (sRet (fOp oTup (fCons (fOp oTuple (fCons (fVar 3) fNil)) (fCons (fVar 4) fNil))))))))
def fn_play : FnS := mkFn 3 5 A_play b_play
/-! wanted(tasks, moment): slots 0 tasks, 1 moment, 2 found, 3 time, 4 deadline, 5 period -/
def lb1_wanted : FS :=
  (sIf (fTB (fBin oGe (fVar 1) (fVar 4)))
  (sAug 2 oIAdd (fBin oMulA (fBin oAdd (fBin oDiv (fBin oSub (fVar 1) (fVar 4)) (fVar 5)) (fC (.int 1))) (fVar 3)))
  sNext)
def A_wanted : List Nat := ([] ++ ([2] ++ ((([3] ++ ([4] ++ ([5] ++ []))) ++ ([2] ++ [])) ++ [])))
def b_wanted : FS :=
  (sSeq (sExpr (fCall fn_check (fCons (fVar 0) fNil)))
  (sSeq (sSet 2 (fC (.int 0)))
  (sSeq (sFor (itSeq (fVar 0)) (bTup 3 (bCons (bName 3) (bCons (bName 4) (bCons (bName 5) bNil))))
  lb1_wanted)
  (sRet (fVar 2)))))
def fn_wanted : FnS := mkFn 2 6 A_wanted b_wanted
/-! moments_of(tasks, most): slots 0 tasks, 1 most, 2 found, 3 _, 4 deadline, 5 period -/
def lb1_moments_of : FS :=
  (sExpr (fMt 2 oExtA (fCons (fOp oRgL3 (fCons (fVar 4) (fCons (fBin oAdd (fVar 1) (fC (.int 1))) (fCons (fVar 5) fNil)))) fNil)))
def A_moments_of : List Nat := ([2] ++ ((([3] ++ ([4] ++ ([5] ++ []))) ++ []) ++ []))
def b_moments_of : FS :=
  (sSeq (sSet 2 (fOp oLst fNil))
  (sSeq (sFor (itSeq (fVar 0)) (bTup 3 (bCons (bName 3) (bCons (bName 4) (bCons (bName 5) bNil))))
  lb1_moments_of)
  (sRet (fVar 2))))
def fn_moments_of : FnS := mkFn 2 6 A_moments_of b_moments_of
/-! by_deadline(tasks): slots 0 tasks, 1 moment -/
def ck2_by_deadline : Fn1 QL.Arg :=
  (fVar 1)
def cv2_by_deadline : Fn1 QL.Arg :=
  (fC (.bl true))
def lb1_by_deadline : FS :=
  (sIf (fTB (fBin oGt (fCall fn_wanted (fCons (fVar 0) (fCons (fVar 1) fNil))) (fVar 1)))
  (sRet (fVar 1))
  sNext)
def A_by_deadline : List Nat := ([] ++ (([1] ++ ([] ++ [])) ++ []))
def b_by_deadline : FS :=
  (sSeq (sExpr (fCall fn_check (fCons (fVar 0) fNil)))
  (sSeq (sFor (itSeq (fOp oSortA (fCons (fDc [1] (itSeq (fCall fn_moments_of (fCons (fVar 0) (fCons (fCall fn_round_of (fCons (fVar 0) fNil)) fNil)))) (bName 1) fYes ck2_by_deadline cv2_by_deadline) fNil))) (bName 1)
  lb1_by_deadline)
  (sRet (fC .non))))
def fn_by_deadline : FnS := mkFn 1 2 A_by_deadline b_by_deadline
/-! answer_of(tasks, k): slots 0 tasks, 1 k, 2 now, 3 after, 4 time, 5 _, 6 period -/
def lb2_answer_of : FS :=
  (sAug 3 oIAdd (fBin oMulA (fBin oDiv (fBin oSub (fBin oAdd (fVar 2) (fVar 6)) (fC (.int 1))) (fVar 6)) (fVar 4)))
def wt1_answer_of : Fn1 Bool :=
  (fTB (fBin oLe (fVar 2) (fBin oIx (fBin oIx (fVar 0) (fVar 1)) (fC (.int 1)))))
def lb1_answer_of : FS :=
  (sSeq (sSet 3 (fBin oIx (fBin oIx (fVar 0) (fVar 1)) (fC (.int 0))))
  (sSeq (sFor (itSeq (fSl (fVar 0) fNo (fPart (fVar 1)))) (bTup 3 (bCons (bName 4) (bCons (bName 5) (bCons (bName 6) bNil))))
  lb2_answer_of)
  (sSeq (sIf (fTB (fBin oEq (fVar 3) (fVar 2)))
  (sRet (fVar 2))
  sNext)
  (sSet 2 (fVar 3)))))
def A_answer_of : List Nat := ([2] ++ (([3] ++ ((([4] ++ ([5] ++ ([6] ++ []))) ++ [3]) ++ (([] ++ []) ++ [2]))) ++ []))
def b_answer_of : FS :=
  (sSeq (sSet 2 (fBin oIx (fBin oIx (fVar 0) (fVar 1)) (fC (.int 0))))
  (sSeq (sWhile fuel0 wt1_answer_of lb1_answer_of)
  (sRet (fC .non))))
def fn_answer_of : FnS := mkFn 2 7 A_answer_of b_answer_of
/-! answers(tasks): slots 0 tasks, 1 found, 2 k -/
def lb1_answers : FS :=
  (sExpr (fMt 1 oAppend (fCons (fCall fn_answer_of (fCons (fVar 0) (fCons (fVar 2) fNil))) fNil)))
def A_answers : List Nat := ([] ++ ([1] ++ (([2] ++ []) ++ [])))
def b_answers : FS :=
  (sSeq (sExpr (fCall fn_check (fCons (fVar 0) fNil)))
  (sSeq (sSet 1 (fOp oLst fNil))
  (sSeq (sFor (itRng (fCons (fOp oLen (fCons (fVar 0) fNil)) fNil)) (bName 2)
  lb1_answers)
  (sRet (fOp oTuple (fCons (fVar 1) fNil))))))
def fn_answers : FnS := mkFn 1 3 A_answers b_answers
/-! orders_of(many): slots 0 many, 1 found, 2 _, 3 longer, 4 row, 5 one -/
def ce3_orders_of : Fn1 QL.Arg :=
  (fBin oAdd (fVar 4) (fOp oTup (fCons (fVar 5) fNil)))
def ct3_orders_of : Fn1 Bool :=
  (fTB (fBin oNinT (fVar 5) (fVar 4)))
def lb2_orders_of : FS :=
  (sExpr (fMt 3 oExtA (fCons (fLc [5] (itRng (fCons (fVar 0) fNil)) (bName 5) ct3_orders_of ce3_orders_of) fNil)))
def lb1_orders_of : FS :=
  (sSeq (sSet 3 (fOp oLst fNil))
  (sSeq (sLock ([4] ++ []) 1 (sFor (itSeq (fVar 1)) (bName 4)
  lb2_orders_of))
  (sMove 1 3)))
def A_orders_of : List Nat := ([1] ++ (([2] ++ ([3] ++ (([4] ++ []) ++ [1]))) ++ []))
def b_orders_of : FS :=
  (sSeq (sSet 1 (fOp oLst (fCons (fOp oTup fNil) fNil)))
  (sSeq (sFor (itRng (fCons (fVar 0) fNil)) (bName 2)
  lb1_orders_of)
  (sRet (fVar 1))))
def fn_orders_of : FnS := mkFn 1 6 A_orders_of b_orders_of
/-! good_order(tasks): slots 0 tasks, 1 order, 2 k -/
def ce2_good_order : Fn1 QL.Arg :=
  (fBin oIx (fVar 0) (fVar 2))
def lb1_good_order : FS :=
  (sIf (fTB (fBin oNinT (fC .non) (fCall fn_answers (fCons (fOp oTuple (fCons (fLc [2] (itSeq (fVar 1)) (bName 2) fYes ce2_good_order) fNil)) fNil))))
  (sRet (fVar 1))
  sNext)
def A_good_order : List Nat := ([] ++ (([1] ++ ([] ++ [])) ++ []))
def b_good_order : FS :=
  (sSeq (sExpr (fCall fn_check (fCons (fVar 0) fNil)))
  (sSeq (sFor (itSeq (fCall fn_orders_of (fCons (fOp oLen (fCons (fVar 0) fNil)) fNil))) (bName 1)
  lb1_good_order)
  (sRet (fC .non))))
def fn_good_order : FnS := mkFn 1 3 A_good_order b_good_order
/-! from_last(tasks): slots 0 tasks, 1 left, 2 found, 3 fits, 4 k, 5 row, 6 j -/
def ce3_from_last : Fn1 QL.Arg :=
  (fBin oIx (fVar 0) (fVar 6))
def ct3_from_last : Fn1 Bool :=
  (fTB (fBin oNe (fVar 6) (fVar 4)))
def lb2_from_last : FS :=
  (sSeq (sSet 5 (fBin oAdd (fOp oTuple (fCons (fLc [6] (itSeq (fVar 1)) (bName 6) ct3_from_last ce3_from_last) fNil)) (fOp oTup (fCons (fBin oIx (fVar 0) (fVar 4)) fNil))))
  (sIf (fTB (fBin oNotN (fCall fn_answer_of (fCons (fVar 5) (fCons (fBin oSub (fOp oLen (fCons (fVar 5) fNil)) (fC (.int 1))) fNil))) (fC .non)))
  (sExpr (fMt 3 oAppend (fCons (fVar 4) fNil)))
  sNext))
def wt1_from_last : Fn1 Bool :=
  (fTru (fVar 1))
def lb1_from_last : FS :=
  (sSeq (sSet 3 (fOp oLst fNil))
  (sSeq (sLock ([4] ++ ([5] ++ ([] ++ []))) 1 (sFor (itSeq (fVar 1)) (bName 4)
  lb2_from_last))
  (sSeq (sIf (fNotT (fTru (fVar 3)))
  (sRet (fC .non))
  sNext)
  (sSeq (sExpr (fMt 2 oAppend (fCons (fOp oMax (fCons (fVar 3) fNil)) fNil)))
  (sExpr (fMt 1 oRem (fCons (fBin oIx (fVar 2) (fUn oNeg (fC (.int 1)))) fNil)))))))
def A_from_last : List Nat := ([] ++ ([1] ++ ([2] ++ (([3] ++ (([4] ++ ([5] ++ ([] ++ []))) ++ (([] ++ []) ++ ([] ++ [])))) ++ []))))
def b_from_last : FS :=
  (sSeq (sExpr (fCall fn_check (fCons (fVar 0) fNil)))
  (sSeq (sSet 1 (fUn oRgL1 (fOp oLen (fCons (fVar 0) fNil))))
  (sSeq (sSet 2 (fOp oLst fNil))
  (sSeq (sWhile fuel0 wt1_from_last lb1_from_last)
  (sRet (fOp oTuple (fCons (fUn oRev (fVar 2)) fNil)))))))
def fn_from_last : FnS := mkFn 1 7 A_from_last b_from_last
/-! idle(tasks, kind): slots 0 tasks, 1 kind, 2 row, 3 miss, 4 one -/
def ce1_idle : Fn1 QL.Arg :=
  (fVar 4)
def ct1_idle : Fn1 Bool :=
  (fTB (fBin oEq (fVar 4) (fUn oNeg (fC (.int 1)))))
def A_idle : List Nat := ([] ++ (([] ++ []) ++ ([2, 3] ++ [])))
def b_idle : FS :=
  (sSeq (sExpr (fCall fn_check (fCons (fVar 0) fNil)))
  (sSeq (sIf (fTB (fBin oNinT (fVar 1) (fOp oTup (fCons (fC (.str (PySem.Str.ofString "deadline"))) (fCons (fC (.str (PySem.Str.ofString "number"))) fNil)))))
  sNever
  sNext)
  (sSeq (sUn [2, 3] (fCall fn_run_of (fCons (fVar 0) (fCons (fBin oEq (fVar 1) (fC (.str (PySem.Str.ofString "deadline")))) (fCons (fCall fn_round_of (fCons (fVar 0) fNil)) fNil)))))
  (sRet (fIf (fTB (fBin oNotN (fVar 3) (fC .non))) (fC .non) (fOp oLen (fCons (fLock 2 (fLc [4] (itSeq (fVar 2)) (bName 4) ct1_idle ce1_idle)) fNil)))))))
def fn_idle : FnS := mkFn 2 5 A_idle b_idle
/-! _law_begin(script): slots 0 script, 1 seed, 2 cell -/
def lb1__law_begin : FS :=
  (sSet 1 (fBin oMod (fBin oAdd (fBin oAdd (fBin oMulA (fVar 1) (fC (.int 69621))) (fBin oMod (fOp oInt (fCons (fVar 2) fNil)) (fC (.int 2147483629)))) (fC (.int 7))) (fC (.int 2147483647))))
def A__law_begin : List Nat := ([1] ++ (([2] ++ [1]) ++ []))
def b__law_begin : FS :=
  (sSeq (sSet 1 (fC (.int 1)))
  (sSeq (sFor (itSeq (fVar 0)) (bName 2)
  lb1__law_begin)
  (sRet (fMkSt (fCons (fOp oList (fCons (fVar 0) fNil)) (fCons (fC (.int 0)) (fCons (fC (.int 0)) (fCons (fVar 1) fNil))))))))
def fn__law_begin : FnS := mkFn 1 3 A__law_begin b__law_begin
/-! _law_take(d, many): slots 0 d, 1 many, 2 digit, 3 small -/
def A__law_take : List Nat := ((([] ++ ([] ++ (([3] ++ ([] ++ [])) ++ []))) ++ []) ++ ((([2] ++ ([] ++ [])) ++ []) ++ ([] ++ [])))
def b__law_take : FS :=
  (sSeq (sIf (fAndT (fTB (fBin oEq (fStGet 0 2) (fC (.int 0)))) (fTB (fBin oLt (fStGet 0 1) (fStLen 0))))
  (sSeq (sStSet 0 2 (fOp oAbs (fCons (fOp oInt (fCons (fStIx 0) fNil)) fNil)))
  (sSeq (sStSet 0 1 (fBin oAdd (fStGet 0 1) (fC (.int 1))))
  (sIf (fTB (fBin oLt (fStGet 0 2) (fBin oPow (fC (.int 10)) (fC (.int 18)))))
  (sSeq (sSet 3 (fOp oInt (fCons (fStGet 0 2) fNil)))
  (sSeq (sStSet 0 2 (fC (.int 0)))
  (sRet (fBin oMod (fVar 3) (fVar 1)))))
  sNext)))
  sNext)
  (sSeq (sIf (fTB (fBin oGt (fStGet 0 2) (fC (.int 0))))
  (sSeq (sSet 2 (fBin oMod (fOp oInt (fCons (fStGet 0 2) fNil)) (fVar 1)))
  (sSeq (sStSet 0 2 (fBin oDiv (fOp oInt (fCons (fStGet 0 2) fNil)) (fVar 1)))
  (sRet (fVar 2))))
  sNext)
  (sSeq (sStSet 0 3 (fBin oMod (fOp oInt (fCons (fBin oAdd (fBin oMulA (fStGet 0 3) (fC (.int 48271))) (fC (.int 11))) fNil)) (fC (.int 2147483647))))
  (sRet (fBin oMod (fOp oInt (fCons (fBin oDiv (fStGet 0 3) (fC (.int 3))) fNil)) (fVar 1))))))
def fn__law_take : FnS := mkFn 2 4 A__law_take b__law_take
/-! _law_round(tasks): slots 0 tasks, 1 found, 2 time, 3 deadline, 4 period, 5 one, 6 other -/
def wt2__law_round : Fn1 Bool :=
  (fTB (fBin oGt (fVar 6) (fC (.int 0))))
def lb2__law_round : FS :=
  (sPar 5 6 (fCons (fVar 6) (fCons (fBin oMod (fOp oInt (fCons (fVar 5) fNil)) (fVar 6)) fNil)))
def lb1__law_round : FS :=
  (sSeq (sSet 5 (fVar 1))
  (sSeq (sSet 6 (fVar 4))
  (sSeq (sWhile fuel0 wt2__law_round lb2__law_round)
  (sSet 1 (fBin oDiv (fBin oMulA (fVar 1) (fVar 4)) (fVar 5))))))
def A__law_round : List Nat := ([1] ++ ((([2] ++ ([3] ++ ([4] ++ []))) ++ ([5] ++ ([6] ++ ([5, 6] ++ [1])))) ++ []))
def b__law_round : FS :=
  (sSeq (sSet 1 (fC (.int 1)))
  (sSeq (sFor (itSeq (fVar 0)) (bTup 3 (bCons (bName 2) (bCons (bName 3) (bCons (bName 4) bNil))))
  lb1__law_round)
  (sRet (fVar 1))))
def fn__law_round : FnS := mkFn 1 7 A__law_round b__law_round
/-! _law_part1(tasks, deadline): slots 0 tasks, 1 deadline, 2 half, 3 whole, 4 top, 5 bottom, 6 kind, 7 order, 8 double, 9 base, 10 row, 11 miss, 12 free, 13 ranked, 14 again, 15 second, 16 j, 17 one, 18 two, 19 three -/
def ce1__law_part1 : Fn1 QL.Arg :=
  (fOp oTup (fCons (fVar 17) (fCons (fVar 18) (fCons (fVar 19) fNil))))
def ct1__law_part1 : Fn1 Bool :=
  (fTB (fBin oLe (fVar 19) (fC (.int 6))))
def ce2__law_part1 : Fn1 QL.Arg :=
  (fOp oTup (fCons (fBin oMulA (fC (.int 2)) (fVar 17)) (fCons (fBin oMulA (fC (.int 2)) (fVar 18)) (fCons (fBin oMulA (fC (.int 2)) (fVar 19)) fNil))))
def ce3__law_part1 : Fn1 QL.Arg :=
  (fIf (fTB (fBin oIsN (fVar 17) (fC .non))) (fC .non) (fBin oMulA (fC (.int 2)) (fVar 17)))
def ce6__law_part1 : Fn1 QL.Arg :=
  (fVar 17)
def ct6__law_part1 : Fn1 Bool :=
  (fTB (fBin oEq (fVar 17) (fVar 16)))
def lb5__law_part1 : FS :=
  (sIf (fTB (fBin oNe (fOp oLen (fCons (fLc [17] (itSeq (fVar 10)) (bName 17) ct6__law_part1 ce6__law_part1) fNil)) (fBin oMulA (fBin oIx (fBin oIx (fVar 0) (fVar 16)) (fC (.int 0))) (fBin oDiv (fVar 3) (fBin oIx (fBin oIx (fVar 0) (fVar 16)) (fC (.int 2)))))))
  (sRet (fC (.bl false)))
  sNext)
def lb4__law_part1 : FS :=
  (sSeq (sPat (bTup 2 (bCons (bName 10) (bCons (bName 11) bNil))) (fCall fn_play (fCons (fVar 0) (fCons (fVar 6) (fCons (fVar 3) fNil)))))
  (sSeq (sSet 12 (fCall fn_idle (fCons (fVar 0) (fCons (fVar 6) fNil))))
  (sSeq (sIf (fTB (fBin oNe (fBin oIsN (fVar 12) (fC .non)) (fBin oNotN (fVar 11) (fC .non))))
  (sRet (fC (.bl false)))
  sNext)
  (sSeq (sIf (fAndT (fTB (fBin oNotN (fVar 12) (fC .non))) (fTB (fBin oNe (fBin oMulA (fVar 12) (fVar 5)) (fBin oMulA (fVar 3) (fBin oSub (fVar 5) (fVar 4))))))
  (sRet (fC (.bl false)))
  sNext)
  (sIf (fTB (fBin oIsN (fVar 11) (fC .non)))
  (sSeq (sPat (bTup 2 (bCons (bName 14) (bCons (bName 15) bNil))) (fCall fn_play (fCons (fVar 0) (fCons (fVar 6) (fCons (fBin oMulA (fC (.int 2)) (fVar 3)) fNil)))))
  (sSeq (sIf (fOrT (fTB (fBin oNotN (fVar 15) (fC .non))) (fTB (fBin oNe (fVar 14) (fBin oAdd (fVar 10) (fVar 10)))))
  (sRet (fC (.bl false)))
  sNext)
  (sFor (itRng (fCons (fOp oLen (fCons (fVar 0) fNil)) fNil)) (bName 16)
  lb5__law_part1)))
  (sIf (fOrT (fTB (fBin oNe (fOp oLen (fCons (fVar 10) fNil)) (fBin oIx (fVar 11) (fC (.int 1))))) (fAndT (fTB (fBin oNe (fCall fn_play (fCons (fVar 0) (fCons (fVar 6) (fCons (fBin oSub (fBin oIx (fVar 11) (fC (.int 1))) (fC (.int 1))) fNil)))) (fOp oTup (fCons (fSl (fVar 10) fNo (fPart (fUn oNeg (fC (.int 1))))) (fCons (fC .non) fNil))))) (fAndT (fTB (fBin oGe (fBin oSub (fBin oIx (fVar 11) (fC (.int 1))) (fC (.int 1))) (fC (.int 0)))) (fAndT (fTB (fBin oGt (fOp oLen (fCons (fVar 10) fNil)) (fC (.int 0)))) (fTB (fBin oNotN (fBin oIx (fCall fn_play (fCons (fVar 0) (fCons (fVar 6) (fCons (fBin oSub (fBin oIx (fVar 11) (fC (.int 1))) (fC (.int 1))) fNil)))) (fC (.int 1))) (fC .non)))))))
  (sRet (fC (.bl false)))
  sNext))))))
def ce7__law_part1 : Fn1 QL.Arg :=
  (fBin oIx (fVar 0) (fVar 16))
def A__law_part1 : List Nat := ([2] ++ ((([8] ++ ([9] ++ ([] ++ []))) ++ []) ++ ([3] ++ (([4] ++ ([5] ++ [])) ++ (([6] ++ (([10] ++ ([11] ++ [])) ++ ([12] ++ (([] ++ []) ++ (([] ++ []) ++ ((([14] ++ ([15] ++ [])) ++ (([] ++ []) ++ ([16] ++ ([] ++ [])))) ++ ([] ++ []))))))) ++ (([] ++ []) ++ ([7] ++ ((([13] ++ ([] ++ [])) ++ []) ++ []))))))))
def b__law_part1 : FS :=
  (sSeq (sSet 2 (fOp oTuple (fCons (fLc [17, 18, 19] (itSeq (fVar 0)) (bTup 3 (bCons (bName 17) (bCons (bName 18) (bCons (bName 19) bNil)))) ct1__law_part1 ce1__law_part1) fNil)))
  (sSeq (sIf (fTB (fBin oGt (fOp oLen (fCons (fVar 2) fNil)) (fC (.int 0))))
  (sSeq (sSet 8 (fOp oTuple (fCons (fLc [17, 18, 19] (itSeq (fVar 2)) (bTup 3 (bCons (bName 17) (bCons (bName 18) (bCons (bName 19) bNil)))) fYes ce2__law_part1) fNil)))
  (sSeq (sSet 9 (fCall fn_answers (fCons (fVar 2) fNil)))
  (sIf (fOrT (fTB (fBin oNe (fCall fn_answers (fCons (fVar 8) fNil)) (fOp oTuple (fCons (fLc [17] (itSeq (fVar 9)) (bName 17) fYes ce3__law_part1) fNil)))) (fOrT (fTB (fBin oNe (fCall fn_share (fCons (fVar 8) fNil)) (fCall fn_share (fCons (fVar 2) fNil)))) (fTB (fBin oNe (fBin oIsN (fCall fn_by_deadline (fCons (fVar 8) fNil)) (fC .non)) (fBin oIsN (fCall fn_by_deadline (fCons (fVar 2) fNil)) (fC .non))))))
  (sRet (fC (.bl false)))
  sNext)))
  sNext)
  (sSeq (sSet 3 (fCall fn__law_round (fCons (fVar 0) fNil)))
  (sSeq (sPat (bTup 2 (bCons (bName 4) (bCons (bName 5) bNil))) (fCall fn_share (fCons (fVar 0) fNil)))
  (sSeq (sFor (itSeq (fOp oTup (fCons (fC (.str (PySem.Str.ofString "deadline"))) (fCons (fC (.str (PySem.Str.ofString "number"))) fNil)))) (bName 6)
  lb4__law_part1)
  (sSeq (sIf (fOrT (fTB (fBin oGt (fCall fn_wanted (fCons (fVar 0) (fCons (fVar 3) fNil))) (fBin oDiv (fBin oMulA (fVar 4) (fVar 3)) (fVar 5)))) (fTB (fBin oNe (fBin oSub (fCall fn_wanted (fCons (fVar 0) (fCons (fBin oMulA (fC (.int 2)) (fVar 3)) fNil))) (fCall fn_wanted (fCons (fVar 0) (fCons (fVar 3) fNil)))) (fBin oDiv (fBin oMulA (fVar 4) (fVar 3)) (fVar 5)))))
  (sRet (fC (.bl false)))
  sNext)
  (sSeq (sSet 7 (fCall fn_from_last (fCons (fVar 0) fNil)))
  (sSeq (sIf (fTB (fBin oNotN (fVar 7) (fC .non)))
  (sSeq (sSet 13 (fOp oTuple (fCons (fLc [16] (itSeq (fVar 7)) (bName 16) fYes ce7__law_part1) fNil)))
  (sIf (fOrT (fTB (fBin oInT (fC .non) (fCall fn_answers (fCons (fVar 13) fNil)))) (fOrT (fTB (fBin oNotN (fBin oIx (fCall fn_play (fCons (fVar 13) (fCons (fC (.str (PySem.Str.ofString "number"))) (fCons (fVar 3) fNil)))) (fC (.int 1))) (fC .non))) (fTB (fBin oNotN (fCall fn_by_deadline (fCons (fVar 0) fNil)) (fC .non)))))
  (sRet (fC (.bl false)))
  sNext))
  sNext)
  (sRet (fC (.bl true)))))))))))
def fn__law_part1 : FnS := mkFn 2 20 A__law_part1 b__law_part1
/-! law(script): slots 0 script, 1 d, 2 tasks, 3 k, 4 told, 5 time, 6 deadline, 7 period, 8 long, 9 j, 10 less, 11 after, 12 short, 13 before -/
def lb1_law : FS :=
  (sSeq (sSet 7 (fBin oIx (fOp oLst (fCons (fC (.int 2)) (fCons (fC (.int 3)) (fCons (fC (.int 4)) (fCons (fC (.int 6)) (fCons (fC (.int 12)) fNil)))))) (fCall fn__law_take (fCons (fVar 1) (fCons (fC (.int 5)) fNil)))))
  (sSeq (sSet 6 (fOp oMax (fCons (fC (.int 1)) (fCons (fBin oSub (fVar 7) (fCall fn__law_take (fCons (fVar 1) (fCons (fC (.int 3)) fNil)))) fNil))))
  (sExpr (fMt 2 oAppend (fCons (fOp oTup (fCons (fBin oAdd (fC (.int 1)) (fCall fn__law_take (fCons (fVar 1) (fCons (fOp oMax (fCons (fC (.int 1)) (fCons (fBin oDiv (fVar 6) (fC (.int 2))) fNil))) fNil)))) (fCons (fVar 6) (fCons (fVar 7) fNil)))) fNil)))))
def lb2_law : FS :=
  (sSeq (sSet 13 (fIf (fTB (fBin oLt (fVar 9) (fVar 3))) (fBin oIx (fVar 4) (fVar 9)) (fBin oIx (fVar 4) (fBin oAdd (fVar 9) (fC (.int 1))))))
  (sIf (fOrT (fAndT (fTB (fBin oNotN (fVar 13) (fC .non))) (fOrT (fTB (fBin oIsN (fBin oIx (fVar 11) (fVar 9)) (fC .non))) (fTB (fBin oGt (fBin oIx (fVar 11) (fVar 9)) (fVar 13))))) (fAndT (fTB (fBin oLt (fVar 9) (fVar 3))) (fTB (fBin oNe (fBin oIx (fVar 11) (fVar 9)) (fBin oIx (fVar 4) (fVar 9))))))
  (sRet (fC (.bl false)))
  sNext))
def lb3_law : FS :=
  (sIf (fAndT (fTB (fBin oNotN (fBin oIx (fVar 4) (fVar 9)) (fC .non))) (fOrT (fTB (fBin oIsN (fBin oIx (fVar 11) (fVar 9)) (fC .non))) (fOrT (fTB (fBin oGt (fBin oIx (fVar 11) (fVar 9)) (fBin oIx (fVar 4) (fVar 9)))) (fAndT (fTB (fBin oLt (fVar 9) (fVar 3))) (fTB (fBin oNe (fBin oIx (fVar 11) (fVar 9)) (fBin oIx (fVar 4) (fVar 9))))))))
  (sRet (fC (.bl false)))
  sNext)
def lb4_law : FS :=
  (sSeq (sIf (fAndT (fTB (fBin oNotN (fBin oIx (fVar 4) (fVar 9)) (fC .non))) (fTB (fBin oNe (fBin oIx (fCall fn_answers (fCons (fVar 8) fNil)) (fVar 9)) (fBin oIx (fVar 4) (fVar 9)))))
  (sRet (fC (.bl false)))
  sNext)
  (sIf (fAndT (fTB (fBin oGt (fVar 9) (fC (.int 0)))) (fTB (fBin oNe (fCall fn_answers (fCons (fSl (fVar 2) fNo (fPart (fVar 9))) fNil)) (fSl (fVar 4) fNo (fPart (fVar 9))))))
  (sRet (fC (.bl false)))
  sNext))
def A_law : List Nat := ([1] ++ ([2] ++ (([3] ++ ([7] ++ ([6] ++ []))) ++ ([2] ++ ([4] ++ ([3] ++ ((([10] ++ ([11] ++ (([9] ++ ([13] ++ ([] ++ []))) ++ (([] ++ []) ++ ([] ++ []))))) ++ []) ++ (([5] ++ ([6] ++ ([7] ++ []))) ++ ((([12] ++ ([11] ++ ([9] ++ ([] ++ [])))) ++ []) ++ ([8] ++ (([] ++ []) ++ (([9] ++ (([] ++ []) ++ ([] ++ []))) ++ []))))))))))))
def b_law : FS :=
  (sSeq (sSet 1 (fCall fn__law_begin (fCons (fVar 0) fNil)))
  (sSeq (sSet 2 (fOp oLst fNil))
  (sSeq (sFor (itRng (fCons (fBin oAdd (fC (.int 1)) (fCall fn__law_take (fCons (fVar 1) (fCons (fC (.int 4)) fNil)))) fNil)) (bName 3)
  lb1_law)
  (sSeq (sSet 2 (fOp oTuple (fCons (fVar 2) fNil)))
  (sSeq (sSet 4 (fCall fn_answers (fCons (fVar 2) fNil)))
  (sSeq (sSet 3 (fCall fn__law_take (fCons (fVar 1) (fCons (fOp oLen (fCons (fVar 2) fNil)) fNil))))
  (sSeq (sIf (fTB (fBin oGt (fOp oLen (fCons (fVar 2) fNil)) (fC (.int 1))))
  (sSeq (sSet 10 (fBin oAdd (fSl (fVar 2) fNo (fPart (fVar 3))) (fSl (fVar 2) (fPart (fBin oAdd (fVar 3) (fC (.int 1)))) fNo)))
  (sSeq (sSet 11 (fCall fn_answers (fCons (fVar 10) fNil)))
  (sSeq (sFor (itRng (fCons (fOp oLen (fCons (fVar 10) fNil)) fNil)) (bName 9)
  lb2_law)
  (sSeq (sIf (fAndT (fTB (fBin oIsN (fCall fn_by_deadline (fCons (fVar 2) fNil)) (fC .non))) (fTB (fBin oNotN (fCall fn_by_deadline (fCons (fVar 10) fNil)) (fC .non))))
  (sRet (fC (.bl false)))
  sNext)
  (sIf (fAndT (fTB (fBin oNotN (fCall fn_good_order (fCons (fVar 2) fNil)) (fC .non))) (fTB (fBin oIsN (fCall fn_good_order (fCons (fVar 10) fNil)) (fC .non))))
  (sRet (fC (.bl false)))
  sNext)))))
  sNext)
  (sSeq (sPat (bTup 3 (bCons (bName 5) (bCons (bName 6) (bCons (bName 7) bNil)))) (fBin oIx (fVar 2) (fVar 3)))
  (sSeq (sIf (fTB (fBin oGt (fVar 5) (fC (.int 1))))
  (sSeq (sSet 12 (fBin oAdd (fBin oAdd (fSl (fVar 2) fNo (fPart (fVar 3))) (fOp oTup (fCons (fOp oTup (fCons (fBin oSub (fVar 5) (fC (.int 1))) (fCons (fVar 6) (fCons (fVar 7) fNil)))) fNil))) (fSl (fVar 2) (fPart (fBin oAdd (fVar 3) (fC (.int 1)))) fNo)))
  (sSeq (sSet 11 (fCall fn_answers (fCons (fVar 12) fNil)))
  (sFor (itRng (fCons (fOp oLen (fCons (fVar 2) fNil)) fNil)) (bName 9)
  lb3_law)))
  sNext)
  (sSeq (sSet 8 (fBin oAdd (fBin oAdd (fSl (fVar 2) fNo (fPart (fVar 3))) (fOp oTup (fCons (fOp oTup (fCons (fVar 5) (fCons (fVar 7) (fCons (fVar 7) fNil)))) fNil))) (fSl (fVar 2) (fPart (fBin oAdd (fVar 3) (fC (.int 1)))) fNo)))
  (sSeq (sIf (fAndT (fTB (fBin oIsN (fCall fn_by_deadline (fCons (fVar 2) fNil)) (fC .non))) (fTB (fBin oNotN (fCall fn_by_deadline (fCons (fVar 8) fNil)) (fC .non))))
  (sRet (fC (.bl false)))
  sNext)
  (sSeq (sFor (itRng (fCons (fOp oLen (fCons (fVar 2) fNil)) fNil)) (bName 9)
  lb4_law)
  (sRet (fCall fn__law_part1 (fCons (fVar 2) (fCons (fVar 6) fNil))))))))))))))))
def fn_law : FnS := mkFn 1 14 A_law b_law
end
end K39
end

section
set_option Elab.async false
set_option linter.all false
set_option maxRecDepth 100000
set_option maxHeartbeats 4000000
namespace K39
open PySem PySem.Spec PyProof.Rows L2 QL
def top (i : Nat) : Stmt := PySem.Challenge.pw_machinehall_k39_whole_deadlines_moved.main.body.getD i (.Pass ⟨0, 0, 0, 0⟩)
structure Bl (K : PySem.W.Frag) (mg : Str → Option Value) : Prop where
  z_abs : mg "abs" = none
  z_enumerate : mg "enumerate" = none
  z_int : mg "int" = none
  z_len : mg "len" = none
  z_list : mg "list" = none
  z_max : mg "max" = none
  z_min : mg "min" = none
  z_range : mg "range" = none
  z_sorted : mg "sorted" = none
  z_sum : mg "sum" = none
  z_tuple : mg "tuple" = none
  c_MOST_TASKS : ∃ t, mg "MOST_TASKS" = some (.int 5 t)
  c_MOST_TIME : ∃ t, mg "MOST_TIME" = some (.int 2000 t)
section
variable {P : Program} {w : World} {K : PySem.W.Frag} {mg : Str → Option Value} {base : Heap}
abbrev s_gcd : Stmt := top 5
theorem sc_gcd : FnScope ["one", "other"] ["one", "other"] (defScope s_gcd) := ⟨rfl, rfl, rfl, by decide +kernel, rfl, by decide +kernel, by decide +kernel⟩
theorem ok_gcd (Z : Bl K mg) (d : Df K mg "gcd" s_gcd)  : Cal P w K mg base "gcd" 1 2 fn_gcd :=
  cal_ok (A := A_gcd) (body := b_gcd) d sc_gcd (fun f cdv Ar outer s H E hr => have nd := sc_gcd.nd;
  (qs_cons (qs_while fuel0 PassesOwn.never (qt_tru (qx_var 1))
  (qs_one (qs_par (i := 0) (j := 1) rfl nd (qa_cons (qx_var 1) (qa_cons (qo_mod (qx_var 0) (qx_var 1)) qa_nil)))))
  (qs_one (qs_ret (qx_var 0))))) (fun _ _ _ _ _ _ us hl => match us, hl with | [_, _], _ => rfl)
abbrev s_check : Stmt := top 6
theorem sc_check : FnScope ["tasks", "time", "deadline", "period"] ["tasks"] (defScope s_check) := ⟨rfl, rfl, rfl, by decide +kernel, rfl, by decide +kernel, by decide +kernel⟩
theorem ok_check (Z : Bl K mg) (d : Df K mg "check" s_check)  : Cal P w K mg base "check" 1 1 fn_check :=
  cal_ok (A := A_check) (body := b_check) d sc_check (fun f cdv Ar outer s H E hr => have nd := sc_check.nd;
  (qs_cons (qs_if (qt_not (qt_chain qc_le qc_le qx_int (qx_callB (cb_len) (by rfl) Z.z_len PySem.boot_len (qa_cons (qx_var 0) qa_nil)) (qx_globC Z.c_MOST_TASKS (by rfl))))
  (qs_one qs_never)
  qs_nil)
  (qs_one (qs_for PassesOwn.never rfl (qi_seq (qx_var 0)) (qg_tup rfl (qg_cons (qg_name (i := 1) nd) (qg_cons (qg_name (i := 2) nd) (qg_cons (qg_name (i := 3) nd) qg_nil))))
  (qs_one (qs_if (qt_not (qt_chN qx_int (chl_cons qc_le (qx_var 1) (chl_cons qc_le (qx_var 2) (chl_cons qc_le (qx_var 3) (chl_last qc_le qx_int))))))
  (qs_one qs_never)
  qs_nil)))))) (fun _ _ _ _ _ _ us hl => match us, hl with | [_], _ => rfl)
abbrev s_round_of : Stmt := top 7
theorem sc_round_of : FnScope ["tasks", "found", "_", "period"] ["tasks"] (defScope s_round_of) := ⟨rfl, rfl, rfl, by decide +kernel, rfl, by decide +kernel, by decide +kernel⟩
theorem ok_round_of (Z : Bl K mg) (d : Df K mg "round_of" s_round_of) (C_gcd : Cal P w K mg base "gcd" 1 2 fn_gcd) : Cal P w K mg base "round_of" 2 1 fn_round_of :=
  cal_ok (A := A_round_of) (body := b_round_of) d sc_round_of (fun f cdv Ar outer s H E hr => have nd := sc_round_of.nd;
  (qs_cons (qs_set (i := 1) nd qx_int)
  (qs_cons (qs_for PassesOwn.never rfl (qi_seq (qx_var 0)) (qg_tup rfl (qg_cons (qg_name (i := 2) nd) (qg_cons (qg_name (i := 2) nd) (qg_cons (qg_name (i := 3) nd) qg_nil))))
  (qs_one (qs_set (i := 1) nd (qo_div (qo_mulA (qx_var 1) (qx_var 3)) (qx_cal C_gcd hr (by rfl) (qa_cons (qx_var 1) (qa_cons (qx_var 3) qa_nil)))))))
  (qs_one (qs_ret (qx_var 1)))))) (fun _ _ _ _ _ _ us hl => match us, hl with | [_], _ => rfl)
abbrev s_share : Stmt := top 8
theorem sc_share : FnScope ["tasks", "whole", "top", "divisor", "time", "_", "period"] ["tasks"] (defScope s_share) := ⟨rfl, rfl, rfl, by decide +kernel, rfl, by decide +kernel, by decide +kernel⟩
theorem ok_share (Z : Bl K mg) (d : Df K mg "share" s_share) (C_check : Cal P w K mg base "check" 2 1 fn_check) (C_round_of : Cal P w K mg base "round_of" 2 1 fn_round_of) (C_gcd : Cal P w K mg base "gcd" 2 2 fn_gcd) : Cal P w K mg base "share" 3 1 fn_share :=
  cal_ok (A := A_share) (body := b_share) d sc_share (fun f cdv Ar outer s H E hr => have nd := sc_share.nd;
  (qs_cons (qs_expr (qx_cal C_check hr (by rfl) (qa_cons (qx_var 0) qa_nil)))
  (qs_cons (qs_set (i := 1) nd (qx_cal C_round_of hr (by rfl) (qa_cons (qx_var 0) qa_nil)))
  (qs_cons (qs_set (i := 2) nd (qx_callB (cb_sum rfl) (by rfl) Z.z_sum (by decide +kernel) (qa_cons (qx_lc (by decide) rfl nd (qi_seq (qx_var 0)) (blkOk_by (own := [("time", 4), ("_", 5), ("period", 6)]) (by rfl)) (fun _ _ _ _ _ => (qg_tup rfl (qg_cons (qg_name (i := 4) nd) (qg_cons (qg_name (i := 5) nd) (qg_cons (qg_name (i := 6) nd) qg_nil))))) (fun _ _ _ _ _ => qts_nil) (fun _ _ _ _ _ => (qo_mulA (qx_var 4) (qo_div (qx_var 1) (qx_var 6))))) qa_nil)))
  (qs_cons (qs_set (i := 3) nd (qx_cal C_gcd hr (by rfl) (qa_cons (qx_var 2) (qa_cons (qx_var 1) qa_nil))))
  (qs_one (qs_ret (qx_tup (qa_cons (qo_div (qx_var 2) (qx_var 3)) (qa_cons (qo_div (qx_var 1) (qx_var 3)) qa_nil)))))))))) (fun _ _ _ _ _ _ us hl => match us, hl with | [_], _ => rfl)
abbrev s_run_of : Stmt := top 9
theorem sc_run_of : FnScope ["tasks", "is_by_deadline", "most", "left", "due", "row", "moment", "k", "time", "deadline", "period", "ready", "now"] ["tasks", "is_by_deadline", "most"] (defScope s_run_of) := ⟨rfl, rfl, rfl, by decide +kernel, rfl, by decide +kernel, by decide +kernel⟩
theorem ok_run_of (Z : Bl K mg) (d : Df K mg "run_of" s_run_of)  : Cal P w K mg base "run_of" 1 3 fn_run_of :=
  cal_ok (A := A_run_of) (body := b_run_of) d sc_run_of (fun f cdv Ar outer s H E hr => have nd := sc_run_of.nd;
  (qs_cons (qs_set (i := 3) nd (qo_mulA (qx_lst (qa_cons qx_int qa_nil)) (qx_callB (cb_len) (by rfl) Z.z_len PySem.boot_len (qa_cons (qx_var 0) qa_nil))))
  (qs_cons (qs_set (i := 4) nd (qo_mulA (qx_lst (qa_cons qx_int qa_nil)) (qx_callB (cb_len) (by rfl) Z.z_len PySem.boot_len (qa_cons (qx_var 0) qa_nil))))
  (qs_cons (qs_set (i := 5) nd (qx_lst qa_nil))
  (qs_cons (qs_for PassesOwn.never rfl (qi_rng1 (by rfl) Z.z_range (qa_cons (qx_var 2) qa_nil)) (qg_name (i := 6) nd)
  (qs_cons (qs_for PassesOwn.never rfl (qi_enum (by rfl) Z.z_enumerate (qa_cons (qx_var 0) qa_nil)) (qg_tup rfl (qg_cons (qg_name (i := 7) nd) (qg_cons (qg_tup rfl (qg_cons (qg_name (i := 8) nd) (qg_cons (qg_name (i := 9) nd) (qg_cons (qg_name (i := 10) nd) qg_nil)))) qg_nil)))
  (qs_cons (qs_if (qt_bool (qw_and (qt_cmp qc_gt (qx_ix (qx_var 3) (qx_var 7)) qx_int (nomark _)) (qw_and1 (qt_cmp qc_le (qx_ix (qx_var 4) (qx_var 7)) (qx_var 6) (nomark _)))))
  (qs_one (qs_ret (qx_row (qa_cons (qx_var 5) (qa_cons (qx_tup (qa_cons (qx_var 7) (qa_cons (qx_var 6) qa_nil))) qa_nil)))))
  qs_nil)
  (qs_one (qs_if (qt_cmp (qc_eq hr.units) (qo_mod (qx_var 6) (qx_var 10)) qx_int (nomark _))
  (qs_one (qs_patM (qm_tup rfl (qm_cons (qm_sub (i := 3) (qx_var 7)) (qm_cons (qm_sub (i := 4) (qx_var 7)) qm_nil))) (qx_tup (qa_cons (qx_var 8) (qa_cons (qo_add (qx_var 6) (qx_var 9)) qa_nil)))))
  qs_nil))))
  (qs_cons (qs_setLc (i := 11) (by decide) rfl nd rfl rfl (sw_true rfl rfl rfl (by decide +kernel)) (qi_rng1 (by rfl) Z.z_range (qa_cons (qx_callB (cb_len) (by rfl) Z.z_len PySem.boot_len (qa_cons (qx_var 0) qa_nil)) qa_nil)) (blkOk_by (own := [("k", 7)]) (by rfl)) (fun _ _ _ _ _ => (qg_name (i := 7) nd)) (fun _ _ _ _ _ => (qts_one (qt_cmp qc_gt (qx_ix (qx_var 3) (qx_var 7)) qx_int (nomark _)))) (fun _ _ _ _ _ => (qx_var 7)))
  (qs_cons (qs_if (qt_not (qt_tru (qx_var 11)))
  (qs_cons (qs_expr (qx_mt (i := 5) cm_append PySem.F.plainAttrs_list PySem.F.slot_list_append PySem.F.type_list_append (qa_cons (qo_neg qx_int) qa_nil)))
  (qs_one qs_cont))
  qs_nil)
  (qs_cons (qs_set (i := 12) nd (qx_ix (qx_callB (cb_minA rfl hr.units) (by rfl) Z.z_min (by decide +kernel) (qa_cons (qx_lock 11 (qx_lc (by decide) rfl nd (qi_seq (qx_var 11)) (blkOk_by (own := [("k", 7)]) (by rfl)) (fun _ _ _ _ _ => (qg_name (i := 7) nd)) (fun _ _ _ _ _ => qts_nil) (fun _ _ _ _ _ => (qx_tup (qa_cons (qx_if (qt_tru (qx_var 1)) (qx_ix (qx_var 4) (qx_var 7)) qx_int) (qa_cons (qx_var 7) qa_nil)))))) qa_nil)) qx_int))
  (qs_cons (qs_augL (i := 3) qg_sub (qx_var 12) qx_int)
  (qs_one (qs_expr (qx_mt (i := 5) cm_append PySem.F.plainAttrs_list PySem.F.slot_list_append PySem.F.type_list_append (qa_cons (qx_var 12) qa_nil))))))))))
  (qs_cons (qs_for PassesOwn.never rfl (qi_rng1 (by rfl) Z.z_range (qa_cons (qx_callB (cb_len) (by rfl) Z.z_len PySem.boot_len (qa_cons (qx_var 0) qa_nil)) qa_nil)) (qg_name (i := 7) nd)
  (qs_one (qs_if (qt_bool (qw_and (qt_cmp qc_gt (qx_ix (qx_var 3) (qx_var 7)) qx_int (nomark _)) (qw_and1 (qt_cmp qc_le (qx_ix (qx_var 4) (qx_var 7)) (qx_var 2) (nomark _)))))
  (qs_one (qs_ret (qx_row (qa_cons (qx_var 5) (qa_cons (qx_tup (qa_cons (qx_var 7) (qa_cons (qx_var 2) qa_nil))) qa_nil)))))
  qs_nil)))
  (qs_one (qs_ret (qx_row (qa_cons (qx_var 5) (qa_cons qx_non qa_nil))))))))))) (fun _ _ _ _ _ _ us hl => match us, hl with | [_, _, _], _ => rfl)
abbrev s_play : Stmt := top 10
theorem sc_play : FnScope ["tasks", "kind", "most", "row", "miss"] ["tasks", "kind", "most"] (defScope s_play) := ⟨rfl, rfl, rfl, by decide +kernel, rfl, by decide +kernel, by decide +kernel⟩
theorem ok_play (Z : Bl K mg) (d : Df K mg "play" s_play) (C_check : Cal P w K mg base "check" 1 1 fn_check) (C_run_of : Cal P w K mg base "run_of" 1 3 fn_run_of) : Cal P w K mg base "play" 2 3 fn_play :=
  cal_ok (A := A_play) (body := b_play) d sc_play (fun f cdv Ar outer s H E hr => have nd := sc_play.nd;
  (qs_cons (qs_expr (qx_cal C_check hr (by rfl) (qa_cons (qx_var 0) qa_nil)))
  (qs_cons (qs_if (qt_cmp (qc_ninT hr) (qx_var 1) (qx_tup (qa_cons qx_str (qa_cons qx_str qa_nil))) (by rfl))
  (qs_one qs_never)
  qs_nil)
  (qs_cons (qs_if (qt_not (qt_chain qc_le qc_le qx_int (qx_var 2) (qx_globC Z.c_MOST_TIME (by rfl))))
  (qs_one qs_never)
  qs_nil)
  (qs_cons (qs_un (is := [3, 4]) rfl (qu_cons (i := 3) nd (qu_cons (i := 4) nd qu_nil)) (qx_cal C_run_of hr (by rfl) (qa_cons (qx_var 0) (qa_cons (qo_cmp (qc_eq hr.units) (qx_var 1) qx_str (nomark _)) (qa_cons (qx_var 2) qa_nil)))))
  (qs_one (qs_ret (qx_tup (qa_cons (qx_callTy (ct_tuple) (by rfl) Z.z_tuple (by decide +kernel) (qa_cons (qx_var 3) qa_nil)) (qa_cons (qx_var 4) qa_nil)))))))))) (fun _ _ _ _ _ _ us hl => match us, hl with | [_, _, _], _ => rfl)
abbrev s_wanted : Stmt := top 11
theorem sc_wanted : FnScope ["tasks", "moment", "found", "time", "deadline", "period"] ["tasks", "moment"] (defScope s_wanted) := ⟨rfl, rfl, rfl, by decide +kernel, rfl, by decide +kernel, by decide +kernel⟩
theorem ok_wanted (Z : Bl K mg) (d : Df K mg "wanted" s_wanted) (C_check : Cal P w K mg base "check" 1 1 fn_check) : Cal P w K mg base "wanted" 2 2 fn_wanted :=
  cal_ok (A := A_wanted) (body := b_wanted) d sc_wanted (fun f cdv Ar outer s H E hr => have nd := sc_wanted.nd;
  (qs_cons (qs_expr (qx_cal C_check hr (by rfl) (qa_cons (qx_var 0) qa_nil)))
  (qs_cons (qs_set (i := 2) nd qx_int)
  (qs_cons (qs_for PassesOwn.never rfl (qi_seq (qx_var 0)) (qg_tup rfl (qg_cons (qg_name (i := 3) nd) (qg_cons (qg_name (i := 4) nd) (qg_cons (qg_name (i := 5) nd) qg_nil))))
  (qs_one (qs_if (qt_cmp qc_ge (qx_var 1) (qx_var 4) (nomark _))
  (qs_one (qs_aug (i := 2) qg_add nd (qo_mulA (qo_add (qo_div (qo_sub (qx_var 1) (qx_var 4)) (qx_var 5)) qx_int) (qx_var 3))))
  qs_nil)))
  (qs_one (qs_ret (qx_var 2))))))) (fun _ _ _ _ _ _ us hl => match us, hl with | [_, _], _ => rfl)
abbrev s_moments_of : Stmt := top 13
theorem sc_moments_of : FnScope ["tasks", "most", "found", "_", "deadline", "period"] ["tasks", "most"] (defScope s_moments_of) := ⟨rfl, rfl, rfl, by decide +kernel, rfl, by decide +kernel, by decide +kernel⟩
theorem ok_moments_of (Z : Bl K mg) (d : Df K mg "moments_of" s_moments_of)  : Cal P w K mg base "moments_of" 1 2 fn_moments_of :=
  cal_ok (A := A_moments_of) (body := b_moments_of) d sc_moments_of (fun f cdv Ar outer s H E hr => have nd := sc_moments_of.nd;
  (qs_cons (qs_set (i := 2) nd (qx_lst qa_nil))
  (qs_cons (qs_for PassesOwn.never rfl (qi_seq (qx_var 0)) (qg_tup rfl (qg_cons (qg_name (i := 3) nd) (qg_cons (qg_name (i := 4) nd) (qg_cons (qg_name (i := 5) nd) qg_nil))))
  (qs_one (qs_expr (qx_mt (i := 2) cm_extA PySem.F.plainAttrs_list PySem.F.slot_list_extend PySem.F.type_list_extend (qa_cons (qx_listRg3 rfl (by rfl) Z.z_list (by rfl) Z.z_range (qa_cons (qx_var 4) (qa_cons (qo_add (qx_var 1) qx_int) (qa_cons (qx_var 5) qa_nil)))) qa_nil)))))
  (qs_one (qs_ret (qx_var 2)))))) (fun _ _ _ _ _ _ us hl => match us, hl with | [_, _], _ => rfl)
abbrev s_by_deadline : Stmt := top 12
theorem sc_by_deadline : FnScope ["tasks", "moment"] ["tasks"] (defScope s_by_deadline) := ⟨rfl, rfl, rfl, by decide +kernel, rfl, by decide +kernel, by decide +kernel⟩
theorem ok_by_deadline (Z : Bl K mg) (d : Df K mg "by_deadline" s_by_deadline) (C_check : Cal P w K mg base "check" 2 1 fn_check) (C_moments_of : Cal P w K mg base "moments_of" 2 2 fn_moments_of) (C_round_of : Cal P w K mg base "round_of" 2 1 fn_round_of) (C_wanted : Cal P w K mg base "wanted" 2 2 fn_wanted) : Cal P w K mg base "by_deadline" 3 1 fn_by_deadline :=
  cal_ok (A := A_by_deadline) (body := b_by_deadline) d sc_by_deadline (fun f cdv Ar outer s H E hr => have nd := sc_by_deadline.nd;
  (qs_cons (qs_expr (qx_cal C_check hr (by rfl) (qa_cons (qx_var 0) qa_nil)))
  (qs_cons (qs_for PassesOwn.never rfl (qi_seq (qx_callB (cb_sortA rfl hr.units) (by rfl) Z.z_sorted (by decide +kernel) (qa_cons (qx_dc (by decide) rfl nd (qi_seq (qx_cal C_moments_of hr (by rfl) (qa_cons (qx_var 0) (qa_cons (qx_cal C_round_of hr (by rfl) (qa_cons (qx_var 0) qa_nil)) qa_nil)))) (blkOk_by (own := [("moment", 1)]) (by rfl)) (fun _ _ _ _ _ => (qg_name (i := 1) nd)) (fun _ _ _ _ _ => qts_nil) (fun _ _ _ _ _ => (qx_var 1)) (fun _ _ _ _ _ => qx_bl)) qa_nil))) (qg_name (i := 1) nd)
  (qs_one (qs_if (qt_cmp qc_gt (qx_cal C_wanted hr (by rfl) (qa_cons (qx_var 0) (qa_cons (qx_var 1) qa_nil))) (qx_var 1) (nomark _))
  (qs_one (qs_ret (qx_var 1)))
  qs_nil)))
  (qs_one (qs_ret qx_non))))) (fun _ _ _ _ _ _ us hl => match us, hl with | [_], _ => rfl)
abbrev s_answer_of : Stmt := top 15
theorem sc_answer_of : FnScope ["tasks", "k", "now", "after", "time", "_", "period"] ["tasks", "k"] (defScope s_answer_of) := ⟨rfl, rfl, rfl, by decide +kernel, rfl, by decide +kernel, by decide +kernel⟩
theorem ok_answer_of (Z : Bl K mg) (d : Df K mg "answer_of" s_answer_of)  : Cal P w K mg base "answer_of" 1 2 fn_answer_of :=
  cal_ok (A := A_answer_of) (body := b_answer_of) d sc_answer_of (fun f cdv Ar outer s H E hr => have nd := sc_answer_of.nd;
  (qs_cons (qs_set (i := 2) nd (qx_ix (qx_ix (qx_var 0) (qx_var 1)) qx_int))
  (qs_cons (qs_while fuel0 PassesOwn.never (qt_cmp qc_le (qx_var 2) (qx_ix (qx_ix (qx_var 0) (qx_var 1)) qx_int) (nomark _))
  (qs_cons (qs_set (i := 3) nd (qx_ix (qx_ix (qx_var 0) (qx_var 1)) qx_int))
  (qs_cons (qs_for PassesOwn.never rfl (qi_seq (qx_sl (qx_var 0) qp_none (qp_some (qx_var 1)))) (qg_tup rfl (qg_cons (qg_name (i := 4) nd) (qg_cons (qg_name (i := 5) nd) (qg_cons (qg_name (i := 6) nd) qg_nil))))
  (qs_one (qs_aug (i := 3) qg_add nd (qo_mulA (qo_div (qo_sub (qo_add (qx_var 2) (qx_var 6)) qx_int) (qx_var 6)) (qx_var 4)))))
  (qs_cons (qs_if (qt_cmp (qc_eq hr.units) (qx_var 3) (qx_var 2) (nomark _))
  (qs_one (qs_ret (qx_var 2)))
  qs_nil)
  (qs_one (qs_set (i := 2) nd (qx_var 3)))))))
  (qs_one (qs_ret qx_non))))) (fun _ _ _ _ _ _ us hl => match us, hl with | [_, _], _ => rfl)
abbrev s_answers : Stmt := top 14
theorem sc_answers : FnScope ["tasks", "found", "k"] ["tasks"] (defScope s_answers) := ⟨rfl, rfl, rfl, by decide +kernel, rfl, by decide +kernel, by decide +kernel⟩
theorem ok_answers (Z : Bl K mg) (d : Df K mg "answers" s_answers) (C_check : Cal P w K mg base "check" 1 1 fn_check) (C_answer_of : Cal P w K mg base "answer_of" 1 2 fn_answer_of) : Cal P w K mg base "answers" 2 1 fn_answers :=
  cal_ok (A := A_answers) (body := b_answers) d sc_answers (fun f cdv Ar outer s H E hr => have nd := sc_answers.nd;
  (qs_cons (qs_expr (qx_cal C_check hr (by rfl) (qa_cons (qx_var 0) qa_nil)))
  (qs_cons (qs_set (i := 1) nd (qx_lst qa_nil))
  (qs_cons (qs_for PassesOwn.never rfl (qi_rng1 (by rfl) Z.z_range (qa_cons (qx_callB (cb_len) (by rfl) Z.z_len PySem.boot_len (qa_cons (qx_var 0) qa_nil)) qa_nil)) (qg_name (i := 2) nd)
  (qs_one (qs_expr (qx_mt (i := 1) cm_append PySem.F.plainAttrs_list PySem.F.slot_list_append PySem.F.type_list_append (qa_cons (qx_cal C_answer_of hr (by rfl) (qa_cons (qx_var 0) (qa_cons (qx_var 2) qa_nil))) qa_nil)))))
  (qs_one (qs_ret (qx_callTy (ct_tuple) (by rfl) Z.z_tuple (by decide +kernel) (qa_cons (qx_var 1) qa_nil)))))))) (fun _ _ _ _ _ _ us hl => match us, hl with | [_], _ => rfl)
abbrev s_orders_of : Stmt := top 16
theorem sc_orders_of : FnScope ["many", "found", "_", "longer", "row", "one"] ["many"] (defScope s_orders_of) := ⟨rfl, rfl, rfl, by decide +kernel, rfl, by decide +kernel, by decide +kernel⟩
theorem ok_orders_of (Z : Bl K mg) (d : Df K mg "orders_of" s_orders_of)  : Cal P w K mg base "orders_of" 1 1 fn_orders_of :=
  cal_ok (A := A_orders_of) (body := b_orders_of) d sc_orders_of (fun f cdv Ar outer s H E hr => have nd := sc_orders_of.nd;
  (qs_cons (qs_set (i := 1) nd (qx_lst (qa_cons (qx_tup qa_nil) qa_nil)))
  (qs_cons (qs_for PassesOwn.never rfl (qi_rng1 (by rfl) Z.z_range (qa_cons (qx_var 0) qa_nil)) (qg_name (i := 2) nd)
  (qs_cons (qs_set (i := 3) nd (qx_lst qa_nil))
  (qs_cons (qs_lock 1 (qs_for PassesOwn.never rfl (qi_seq (qx_var 1)) (qg_name (i := 4) nd)
  (qs_one (qs_expr (qx_mt (i := 3) cm_extA PySem.F.plainAttrs_list PySem.F.slot_list_extend PySem.F.type_list_extend (qa_cons (qx_lc (by decide) rfl nd (qi_rng1 (by rfl) Z.z_range (qa_cons (qx_var 0) qa_nil)) (blkOk_by (own := [("one", 5)]) (by rfl)) (fun _ _ _ _ _ => (qg_name (i := 5) nd)) (fun _ _ _ _ _ => (qts_one (qt_cmp (qc_ninT hr) (qx_var 5) (qx_var 4) (by rfl)))) (fun _ _ _ _ _ => (qo_add (qx_var 4) (qx_tup (qa_cons (qx_var 5) qa_nil))))) qa_nil))))))
  (qs_one (qs_move (i := 1) (j := 3) nd)))))
  (qs_one (qs_ret (qx_var 1)))))) (fun _ _ _ _ _ _ us hl => match us, hl with | [_], _ => rfl)
abbrev s_good_order : Stmt := top 17
theorem sc_good_order : FnScope ["tasks", "order", "k"] ["tasks"] (defScope s_good_order) := ⟨rfl, rfl, rfl, by decide +kernel, rfl, by decide +kernel, by decide +kernel⟩
theorem ok_good_order (Z : Bl K mg) (d : Df K mg "good_order" s_good_order) (C_check : Cal P w K mg base "check" 2 1 fn_check) (C_orders_of : Cal P w K mg base "orders_of" 2 1 fn_orders_of) (C_answers : Cal P w K mg base "answers" 2 1 fn_answers) : Cal P w K mg base "good_order" 3 1 fn_good_order :=
  cal_ok (A := A_good_order) (body := b_good_order) d sc_good_order (fun f cdv Ar outer s H E hr => have nd := sc_good_order.nd;
  (qs_cons (qs_expr (qx_cal C_check hr (by rfl) (qa_cons (qx_var 0) qa_nil)))
  (qs_cons (qs_for PassesOwn.never rfl (qi_seq (qx_cal C_orders_of hr (by rfl) (qa_cons (qx_callB (cb_len) (by rfl) Z.z_len PySem.boot_len (qa_cons (qx_var 0) qa_nil)) qa_nil))) (qg_name (i := 1) nd)
  (qs_one (qs_if (qt_cmp (qc_ninT hr) qx_non (qx_cal C_answers hr (by rfl) (qa_cons (qx_callTy (ct_tuple) (by rfl) Z.z_tuple (by decide +kernel) (qa_cons (qx_lc (by decide) rfl nd (qi_seq (qx_var 1)) (blkOk_by (own := [("k", 2)]) (by rfl)) (fun _ _ _ _ _ => (qg_name (i := 2) nd)) (fun _ _ _ _ _ => qts_nil) (fun _ _ _ _ _ => (qx_ix (qx_var 0) (qx_var 2)))) qa_nil)) qa_nil)) (by rfl))
  (qs_one (qs_ret (qx_var 1)))
  qs_nil)))
  (qs_one (qs_ret qx_non))))) (fun _ _ _ _ _ _ us hl => match us, hl with | [_], _ => rfl)
abbrev s_from_last : Stmt := top 18
theorem sc_from_last : FnScope ["tasks", "left", "found", "fits", "k", "row", "j"] ["tasks"] (defScope s_from_last) := ⟨rfl, rfl, rfl, by decide +kernel, rfl, by decide +kernel, by decide +kernel⟩
theorem ok_from_last (Z : Bl K mg) (d : Df K mg "from_last" s_from_last) (C_check : Cal P w K mg base "check" 1 1 fn_check) (C_answer_of : Cal P w K mg base "answer_of" 1 2 fn_answer_of) : Cal P w K mg base "from_last" 2 1 fn_from_last :=
  cal_ok (A := A_from_last) (body := b_from_last) d sc_from_last (fun f cdv Ar outer s H E hr => have nd := sc_from_last.nd;
  (qs_cons (qs_expr (qx_cal C_check hr (by rfl) (qa_cons (qx_var 0) qa_nil)))
  (qs_cons (qs_set (i := 1) nd (qx_listRg1 rfl (by rfl) Z.z_list (by rfl) Z.z_range (qx_callB (cb_len) (by rfl) Z.z_len PySem.boot_len (qa_cons (qx_var 0) qa_nil))))
  (qs_cons (qs_set (i := 2) nd (qx_lst qa_nil))
  (qs_cons (qs_while fuel0 PassesOwn.never (qt_tru (qx_var 1))
  (qs_cons (qs_set (i := 3) nd (qx_lst qa_nil))
  (qs_cons (qs_lock 1 (qs_for PassesOwn.never rfl (qi_seq (qx_var 1)) (qg_name (i := 4) nd)
  (qs_cons (qs_set (i := 5) nd (qo_add (qx_callTy (ct_tuple) (by rfl) Z.z_tuple (by decide +kernel) (qa_cons (qx_lc (by decide) rfl nd (qi_seq (qx_var 1)) (blkOk_by (own := [("j", 6)]) (by rfl)) (fun _ _ _ _ _ => (qg_name (i := 6) nd)) (fun _ _ _ _ _ => (qts_one (qt_cmp (qc_ne hr.units) (qx_var 6) (qx_var 4) (nomark _)))) (fun _ _ _ _ _ => (qx_ix (qx_var 0) (qx_var 6)))) qa_nil)) (qx_tup (qa_cons (qx_ix (qx_var 0) (qx_var 4)) qa_nil))))
  (qs_one (qs_if (qt_cmp qc_notN (qx_cal C_answer_of hr (by rfl) (qa_cons (qx_var 5) (qa_cons (qo_sub (qx_callB (cb_len) (by rfl) Z.z_len PySem.boot_len (qa_cons (qx_var 5) qa_nil)) qx_int) qa_nil))) qx_non (nomark _))
  (qs_one (qs_expr (qx_mt (i := 3) cm_append PySem.F.plainAttrs_list PySem.F.slot_list_append PySem.F.type_list_append (qa_cons (qx_var 4) qa_nil))))
  qs_nil)))))
  (qs_cons (qs_if (qt_not (qt_tru (qx_var 3)))
  (qs_one (qs_ret qx_non))
  qs_nil)
  (qs_cons (qs_expr (qx_mt (i := 2) cm_append PySem.F.plainAttrs_list PySem.F.slot_list_append PySem.F.type_list_append (qa_cons (qx_callB (cb_max rfl) (by rfl) Z.z_max (by decide +kernel) (qa_cons (qx_var 3) qa_nil)) qa_nil)))
  (qs_one (qs_expr (qx_mt (i := 1) cm_rem PySem.F.plainAttrs_list PySem.F.slot_list_remove PySem.F.type_list_remove (qa_cons (qx_ix (qx_var 2) (qo_neg qx_int)) qa_nil)))))))))
  (qs_one (qs_ret (qx_callTy (ct_tuple) (by rfl) Z.z_tuple (by decide +kernel) (qa_cons (qx_rev (qx_var 2)) qa_nil))))))))) (fun _ _ _ _ _ _ us hl => match us, hl with | [_], _ => rfl)
abbrev s_idle : Stmt := top 19
theorem sc_idle : FnScope ["tasks", "kind", "row", "miss", "one"] ["tasks", "kind"] (defScope s_idle) := ⟨rfl, rfl, rfl, by decide +kernel, rfl, by decide +kernel, by decide +kernel⟩
theorem ok_idle (Z : Bl K mg) (d : Df K mg "idle" s_idle) (C_check : Cal P w K mg base "check" 2 1 fn_check) (C_run_of : Cal P w K mg base "run_of" 2 3 fn_run_of) (C_round_of : Cal P w K mg base "round_of" 2 1 fn_round_of) : Cal P w K mg base "idle" 3 2 fn_idle :=
  cal_ok (A := A_idle) (body := b_idle) d sc_idle (fun f cdv Ar outer s H E hr => have nd := sc_idle.nd;
  (qs_cons (qs_expr (qx_cal C_check hr (by rfl) (qa_cons (qx_var 0) qa_nil)))
  (qs_cons (qs_if (qt_cmp (qc_ninT hr) (qx_var 1) (qx_tup (qa_cons qx_str (qa_cons qx_str qa_nil))) (by rfl))
  (qs_one qs_never)
  qs_nil)
  (qs_cons (qs_un (is := [2, 3]) rfl (qu_cons (i := 2) nd (qu_cons (i := 3) nd qu_nil)) (qx_cal C_run_of hr (by rfl) (qa_cons (qx_var 0) (qa_cons (qo_cmp (qc_eq hr.units) (qx_var 1) qx_str (nomark _)) (qa_cons (qx_cal C_round_of hr (by rfl) (qa_cons (qx_var 0) qa_nil)) qa_nil)))))
  (qs_one (qs_ret (qx_if (qt_cmp qc_notN (qx_var 3) qx_non (nomark _)) qx_non (qx_callB (cb_len) (by rfl) Z.z_len PySem.boot_len (qa_cons (qx_lock 2 (qx_lc (by decide) rfl nd (qi_seq (qx_var 2)) (blkOk_by (own := [("one", 4)]) (by rfl)) (fun _ _ _ _ _ => (qg_name (i := 4) nd)) (fun _ _ _ _ _ => (qts_one (qt_cmp (qc_eq hr.units) (qx_var 4) (qo_neg qx_int) (nomark _)))) (fun _ _ _ _ _ => (qx_var 4)))) qa_nil))))))))) (fun _ _ _ _ _ _ us hl => match us, hl with | [_, _], _ => rfl)
abbrev s__law_begin : Stmt := top 21
theorem sc__law_begin : FnScope ["script", "seed", "cell"] ["script"] (defScope s__law_begin) := ⟨rfl, rfl, rfl, by decide +kernel, rfl, by decide +kernel, by decide +kernel⟩
theorem ok__law_begin (Z : Bl K mg) (d : Df K mg "_law_begin" s__law_begin)  : Cal P w K mg base "_law_begin" 1 1 fn__law_begin :=
  cal_ok (A := A__law_begin) (body := b__law_begin) d sc__law_begin (fun f cdv Ar outer s H E hr => have nd := sc__law_begin.nd;
  (qs_cons (qs_set (i := 1) nd qx_int)
  (qs_cons (qs_for PassesOwn.never rfl (qi_seq (qx_var 0)) (qg_name (i := 2) nd)
  (qs_one (qs_set (i := 1) nd (qo_mod (qo_add (qo_add (qo_mulA (qx_var 1) qx_int) (qo_mod (qx_callTy (ct_int) (by rfl) Z.z_int (by decide +kernel) (qa_cons (qx_var 2) qa_nil)) qx_int)) qx_int) qx_int))))
  (qs_one (qs_ret (qx_mkst (qa_cons (qx_callTy (ct_list) (by rfl) Z.z_list (by decide +kernel) (qa_cons (qx_var 0) qa_nil)) (qa_cons qx_int (qa_cons qx_int (qa_cons (qx_var 1) qa_nil)))))))))) (fun _ _ _ _ _ _ us hl => match us, hl with | [_], _ => rfl)
abbrev s__law_take : Stmt := top 22
theorem sc__law_take : FnScope ["d", "many", "digit", "small"] ["d", "many"] (defScope s__law_take) := ⟨rfl, rfl, rfl, by decide +kernel, rfl, by decide +kernel, by decide +kernel⟩
theorem ok__law_take (Z : Bl K mg) (d : Df K mg "_law_take" s__law_take)  : Cal P w K mg base "_law_take" 1 2 fn__law_take :=
  cal_ok (A := A__law_take) (body := b__law_take) d sc__law_take (fun f cdv Ar outer s H E hr => have nd := sc__law_take.nd;
  (qs_cons (qs_if (qt_bool (qw_and (qt_cmp (qc_eq hr.units) (qx_stget 2) qx_int (nomark _)) (qw_and1 (qt_cmp qc_lt (qx_stget 1) (qx_stlen (by rfl) Z.z_len) (nomark _)))))
  (qs_cons (qs_stset 2 (qx_callB (cb_abs) (by rfl) Z.z_abs (by decide +kernel) (qa_cons (qx_callTy (ct_int) (by rfl) Z.z_int (by decide +kernel) (qa_cons qx_stix qa_nil)) qa_nil)))
  (qs_cons (qs_stset 1 (qo_add (qx_stget 1) qx_int))
  (qs_one (qs_if (qt_cmp qc_lt (qx_stget 2) (qo_pow qx_int qx_int) (nomark _))
  (qs_cons (qs_set (i := 3) nd (qx_callTy (ct_int) (by rfl) Z.z_int (by decide +kernel) (qa_cons (qx_stget 2) qa_nil)))
  (qs_cons (qs_stset 2 qx_int)
  (qs_one (qs_ret (qo_mod (qx_var 3) (qx_var 1))))))
  qs_nil))))
  qs_nil)
  (qs_cons (qs_if (qt_cmp qc_gt (qx_stget 2) qx_int (nomark _))
  (qs_cons (qs_set (i := 2) nd (qo_mod (qx_callTy (ct_int) (by rfl) Z.z_int (by decide +kernel) (qa_cons (qx_stget 2) qa_nil)) (qx_var 1)))
  (qs_cons (qs_stset 2 (qo_div (qx_callTy (ct_int) (by rfl) Z.z_int (by decide +kernel) (qa_cons (qx_stget 2) qa_nil)) (qx_var 1)))
  (qs_one (qs_ret (qx_var 2)))))
  qs_nil)
  (qs_cons (qs_stset 3 (qo_mod (qx_callTy (ct_int) (by rfl) Z.z_int (by decide +kernel) (qa_cons (qo_add (qo_mulA (qx_stget 3) qx_int) qx_int) qa_nil)) qx_int))
  (qs_one (qs_ret (qo_mod (qx_callTy (ct_int) (by rfl) Z.z_int (by decide +kernel) (qa_cons (qo_div (qx_stget 3) qx_int) qa_nil)) (qx_var 1)))))))) (fun _ _ _ _ _ _ us hl => match us, hl with | [_, _], _ => rfl)
abbrev s__law_round : Stmt := top 23
theorem sc__law_round : FnScope ["tasks", "found", "time", "deadline", "period", "one", "other"] ["tasks"] (defScope s__law_round) := ⟨rfl, rfl, rfl, by decide +kernel, rfl, by decide +kernel, by decide +kernel⟩
theorem ok__law_round (Z : Bl K mg) (d : Df K mg "_law_round" s__law_round)  : Cal P w K mg base "_law_round" 1 1 fn__law_round :=
  cal_ok (A := A__law_round) (body := b__law_round) d sc__law_round (fun f cdv Ar outer s H E hr => have nd := sc__law_round.nd;
  (qs_cons (qs_set (i := 1) nd qx_int)
  (qs_cons (qs_for PassesOwn.never rfl (qi_seq (qx_var 0)) (qg_tup rfl (qg_cons (qg_name (i := 2) nd) (qg_cons (qg_name (i := 3) nd) (qg_cons (qg_name (i := 4) nd) qg_nil))))
  (qs_cons (qs_set (i := 5) nd (qx_var 1))
  (qs_cons (qs_set (i := 6) nd (qx_var 4))
  (qs_cons (qs_while fuel0 PassesOwn.never (qt_cmp qc_gt (qx_var 6) qx_int (nomark _))
  (qs_one (qs_par (i := 5) (j := 6) rfl nd (qa_cons (qx_var 6) (qa_cons (qo_mod (qx_callTy (ct_int) (by rfl) Z.z_int (by decide +kernel) (qa_cons (qx_var 5) qa_nil)) (qx_var 6)) qa_nil)))))
  (qs_one (qs_set (i := 1) nd (qo_div (qo_mulA (qx_var 1) (qx_var 4)) (qx_var 5))))))))
  (qs_one (qs_ret (qx_var 1)))))) (fun _ _ _ _ _ _ us hl => match us, hl with | [_], _ => rfl)
abbrev s__law_part1 : Stmt := top 24
theorem sc__law_part1 : FnScope ["tasks", "deadline", "half", "whole", "top", "bottom", "kind", "order", "double", "base", "row", "miss", "free", "ranked", "again", "second", "j", "one", "two", "three"] ["tasks", "deadline"] (defScope s__law_part1) := ⟨rfl, rfl, rfl, by decide +kernel, rfl, by decide +kernel, by decide +kernel⟩
theorem ok__law_part1 (Z : Bl K mg) (d : Df K mg "_law_part1" s__law_part1) (C_answers : Cal P w K mg base "answers" 3 1 fn_answers) (C_share : Cal P w K mg base "share" 3 1 fn_share) (C_by_deadline : Cal P w K mg base "by_deadline" 3 1 fn_by_deadline) (C__law_round : Cal P w K mg base "_law_round" 3 1 fn__law_round) (C_play : Cal P w K mg base "play" 3 3 fn_play) (C_idle : Cal P w K mg base "idle" 3 2 fn_idle) (C_wanted : Cal P w K mg base "wanted" 3 2 fn_wanted) (C_from_last : Cal P w K mg base "from_last" 3 1 fn_from_last) : Cal P w K mg base "_law_part1" 4 2 fn__law_part1 :=
  cal_ok (A := A__law_part1) (body := b__law_part1) d sc__law_part1 (fun f cdv Ar outer s H E hr => have nd := sc__law_part1.nd;
  (qs_cons (qs_set (i := 2) nd (qx_callTy (ct_tuple) (by rfl) Z.z_tuple (by decide +kernel) (qa_cons (qx_lc (by decide) rfl nd (qi_seq (qx_var 0)) (blkOk_by (own := [("one", 17), ("two", 18), ("three", 19)]) (by rfl)) (fun _ _ _ _ _ => (qg_tup rfl (qg_cons (qg_name (i := 17) nd) (qg_cons (qg_name (i := 18) nd) (qg_cons (qg_name (i := 19) nd) qg_nil))))) (fun _ _ _ _ _ => (qts_one (qt_cmp qc_le (qx_var 19) qx_int (nomark _)))) (fun _ _ _ _ _ => (qx_tup (qa_cons (qx_var 17) (qa_cons (qx_var 18) (qa_cons (qx_var 19) qa_nil)))))) qa_nil)))
  (qs_cons (qs_if (qt_cmp qc_gt (qx_callB (cb_len) (by rfl) Z.z_len PySem.boot_len (qa_cons (qx_var 2) qa_nil)) qx_int (nomark _))
  (qs_cons (qs_set (i := 8) nd (qx_callTy (ct_tuple) (by rfl) Z.z_tuple (by decide +kernel) (qa_cons (qx_lc (by decide) rfl nd (qi_seq (qx_var 2)) (blkOk_by (own := [("one", 17), ("two", 18), ("three", 19)]) (by rfl)) (fun _ _ _ _ _ => (qg_tup rfl (qg_cons (qg_name (i := 17) nd) (qg_cons (qg_name (i := 18) nd) (qg_cons (qg_name (i := 19) nd) qg_nil))))) (fun _ _ _ _ _ => qts_nil) (fun _ _ _ _ _ => (qx_tup (qa_cons (qo_mulA qx_int (qx_var 17)) (qa_cons (qo_mulA qx_int (qx_var 18)) (qa_cons (qo_mulA qx_int (qx_var 19)) qa_nil)))))) qa_nil)))
  (qs_cons (qs_set (i := 9) nd (qx_cal C_answers hr (by rfl) (qa_cons (qx_var 2) qa_nil)))
  (qs_one (qs_if (qt_bool (qw_or (qt_cmp (qc_ne hr.units) (qx_cal C_answers hr (by rfl) (qa_cons (qx_var 8) qa_nil)) (qx_callTy (ct_tuple) (by rfl) Z.z_tuple (by decide +kernel) (qa_cons (qx_lc (by decide) rfl nd (qi_seq (qx_var 9)) (blkOk_by (own := [("one", 17)]) (by rfl)) (fun _ _ _ _ _ => (qg_name (i := 17) nd)) (fun _ _ _ _ _ => qts_nil) (fun _ _ _ _ _ => (qx_if (qt_cmp qc_isN (qx_var 17) qx_non (nomark _)) qx_non (qo_mulA qx_int (qx_var 17))))) qa_nil)) (nomark _)) (qw_or (qt_cmp (qc_ne hr.units) (qx_cal C_share hr (by rfl) (qa_cons (qx_var 8) qa_nil)) (qx_cal C_share hr (by rfl) (qa_cons (qx_var 2) qa_nil)) (nomark _)) (qw_or1 (qt_cmp (qc_ne hr.units) (qo_cmp qc_isN (qx_cal C_by_deadline hr (by rfl) (qa_cons (qx_var 8) qa_nil)) qx_non (nomark _)) (qo_cmp qc_isN (qx_cal C_by_deadline hr (by rfl) (qa_cons (qx_var 2) qa_nil)) qx_non (nomark _)) (nomark _))))))
  (qs_one (qs_ret qx_bl))
  qs_nil))))
  qs_nil)
  (qs_cons (qs_set (i := 3) nd (qx_cal C__law_round hr (by rfl) (qa_cons (qx_var 0) qa_nil)))
  (qs_cons (qs_pat (qg_tup rfl (qg_cons (qg_name (i := 4) nd) (qg_cons (qg_name (i := 5) nd) qg_nil))) (qx_cal C_share hr (by rfl) (qa_cons (qx_var 0) qa_nil)))
  (qs_cons (qs_for PassesOwn.never rfl (qi_seq (qx_tup (qa_cons qx_str (qa_cons qx_str qa_nil)))) (qg_name (i := 6) nd)
  (qs_cons (qs_pat (qg_tup rfl (qg_cons (qg_name (i := 10) nd) (qg_cons (qg_name (i := 11) nd) qg_nil))) (qx_cal C_play hr (by rfl) (qa_cons (qx_var 0) (qa_cons (qx_var 6) (qa_cons (qx_var 3) qa_nil)))))
  (qs_cons (qs_set (i := 12) nd (qx_cal C_idle hr (by rfl) (qa_cons (qx_var 0) (qa_cons (qx_var 6) qa_nil))))
  (qs_cons (qs_if (qt_cmp (qc_ne hr.units) (qo_cmp qc_isN (qx_var 12) qx_non (nomark _)) (qo_cmp qc_notN (qx_var 11) qx_non (nomark _)) (nomark _))
  (qs_one (qs_ret qx_bl))
  qs_nil)
  (qs_cons (qs_if (qt_bool (qw_and (qt_cmp qc_notN (qx_var 12) qx_non (nomark _)) (qw_and1 (qt_cmp (qc_ne hr.units) (qo_mulA (qx_var 12) (qx_var 5)) (qo_mulA (qx_var 3) (qo_sub (qx_var 5) (qx_var 4))) (nomark _)))))
  (qs_one (qs_ret qx_bl))
  qs_nil)
  (qs_one (qs_if (qt_cmp qc_isN (qx_var 11) qx_non (nomark _))
  (qs_cons (qs_pat (qg_tup rfl (qg_cons (qg_name (i := 14) nd) (qg_cons (qg_name (i := 15) nd) qg_nil))) (qx_cal C_play hr (by rfl) (qa_cons (qx_var 0) (qa_cons (qx_var 6) (qa_cons (qo_mulA qx_int (qx_var 3)) qa_nil)))))
  (qs_cons (qs_if (qt_bool (qw_or (qt_cmp qc_notN (qx_var 15) qx_non (nomark _)) (qw_or1 (qt_cmp (qc_ne hr.units) (qx_var 14) (qo_add (qx_var 10) (qx_var 10)) (nomark _)))))
  (qs_one (qs_ret qx_bl))
  qs_nil)
  (qs_one (qs_for PassesOwn.never rfl (qi_rng1 (by rfl) Z.z_range (qa_cons (qx_callB (cb_len) (by rfl) Z.z_len PySem.boot_len (qa_cons (qx_var 0) qa_nil)) qa_nil)) (qg_name (i := 16) nd)
  (qs_one (qs_if (qt_cmp (qc_ne hr.units) (qx_callB (cb_len) (by rfl) Z.z_len PySem.boot_len (qa_cons (qx_lc (by decide) rfl nd (qi_seq (qx_var 10)) (blkOk_by (own := [("one", 17)]) (by rfl)) (fun _ _ _ _ _ => (qg_name (i := 17) nd)) (fun _ _ _ _ _ => (qts_one (qt_cmp (qc_eq hr.units) (qx_var 17) (qx_var 16) (nomark _)))) (fun _ _ _ _ _ => (qx_var 17))) qa_nil)) (qo_mulA (qx_ix (qx_ix (qx_var 0) (qx_var 16)) qx_int) (qo_div (qx_var 3) (qx_ix (qx_ix (qx_var 0) (qx_var 16)) qx_int))) (nomark _))
  (qs_one (qs_ret qx_bl))
  qs_nil))))))
  (qs_one (qs_if (qt_bool (qw_or (qt_cmp (qc_ne hr.units) (qx_callB (cb_len) (by rfl) Z.z_len PySem.boot_len (qa_cons (qx_var 10) qa_nil)) (qx_ix (qx_var 11) qx_int) (nomark _)) (qw_or1 (qt_bool (qw_and (qt_cmp (qc_ne hr.units) (qx_cal C_play hr (by rfl) (qa_cons (qx_var 0) (qa_cons (qx_var 6) (qa_cons (qo_sub (qx_ix (qx_var 11) qx_int) qx_int) qa_nil)))) (qx_tup (qa_cons (qx_sl (qx_var 10) qp_none (qp_some (qo_neg qx_int))) (qa_cons qx_non qa_nil))) (nomark _)) (qw_and (qt_cmp qc_ge (qo_sub (qx_ix (qx_var 11) qx_int) qx_int) qx_int (nomark _)) (qw_and (qt_cmp qc_gt (qx_callB (cb_len) (by rfl) Z.z_len PySem.boot_len (qa_cons (qx_var 10) qa_nil)) qx_int (nomark _)) (qw_and1 (qt_cmp qc_notN (qx_ix (qx_cal C_play hr (by rfl) (qa_cons (qx_var 0) (qa_cons (qx_var 6) (qa_cons (qo_sub (qx_ix (qx_var 11) qx_int) qx_int) qa_nil)))) qx_int) qx_non (nomark _))))))))))
  (qs_one (qs_ret qx_bl))
  qs_nil)))))))))
  (qs_cons (qs_if (qt_bool (qw_or (qt_cmp qc_gt (qx_cal C_wanted hr (by rfl) (qa_cons (qx_var 0) (qa_cons (qx_var 3) qa_nil))) (qo_div (qo_mulA (qx_var 4) (qx_var 3)) (qx_var 5)) (nomark _)) (qw_or1 (qt_cmp (qc_ne hr.units) (qo_sub (qx_cal C_wanted hr (by rfl) (qa_cons (qx_var 0) (qa_cons (qo_mulA qx_int (qx_var 3)) qa_nil))) (qx_cal C_wanted hr (by rfl) (qa_cons (qx_var 0) (qa_cons (qx_var 3) qa_nil)))) (qo_div (qo_mulA (qx_var 4) (qx_var 3)) (qx_var 5)) (nomark _)))))
  (qs_one (qs_ret qx_bl))
  qs_nil)
  (qs_cons (qs_set (i := 7) nd (qx_cal C_from_last hr (by rfl) (qa_cons (qx_var 0) qa_nil)))
  (qs_cons (qs_if (qt_cmp qc_notN (qx_var 7) qx_non (nomark _))
  (qs_cons (qs_set (i := 13) nd (qx_callTy (ct_tuple) (by rfl) Z.z_tuple (by decide +kernel) (qa_cons (qx_lc (by decide) rfl nd (qi_seq (qx_var 7)) (blkOk_by (own := [("j", 16)]) (by rfl)) (fun _ _ _ _ _ => (qg_name (i := 16) nd)) (fun _ _ _ _ _ => qts_nil) (fun _ _ _ _ _ => (qx_ix (qx_var 0) (qx_var 16)))) qa_nil)))
  (qs_one (qs_if (qt_bool (qw_or (qt_cmp (qc_inT hr) qx_non (qx_cal C_answers hr (by rfl) (qa_cons (qx_var 13) qa_nil)) (by rfl)) (qw_or (qt_cmp qc_notN (qx_ix (qx_cal C_play hr (by rfl) (qa_cons (qx_var 13) (qa_cons qx_str (qa_cons (qx_var 3) qa_nil)))) qx_int) qx_non (nomark _)) (qw_or1 (qt_cmp qc_notN (qx_cal C_by_deadline hr (by rfl) (qa_cons (qx_var 0) qa_nil)) qx_non (nomark _))))))
  (qs_one (qs_ret qx_bl))
  qs_nil)))
  qs_nil)
  (qs_one (qs_ret qx_bl))))))))))) (fun _ _ _ _ _ _ us hl => match us, hl with | [_, _], _ => rfl)
abbrev s_law : Stmt := top 25
theorem sc_law : FnScope ["script", "d", "tasks", "k", "told", "time", "deadline", "period", "long", "j", "less", "after", "short", "before"] ["script"] (defScope s_law) := ⟨rfl, rfl, rfl, by decide +kernel, rfl, by decide +kernel, by decide +kernel⟩
theorem ok_law (Z : Bl K mg) (d : Df K mg "law" s_law) (C__law_begin : Cal P w K mg base "_law_begin" 4 1 fn__law_begin) (C__law_take : Cal P w K mg base "_law_take" 4 2 fn__law_take) (C_answers : Cal P w K mg base "answers" 4 1 fn_answers) (C_by_deadline : Cal P w K mg base "by_deadline" 4 1 fn_by_deadline) (C_good_order : Cal P w K mg base "good_order" 4 1 fn_good_order) (C__law_part1 : Cal P w K mg base "_law_part1" 4 2 fn__law_part1) : Cal P w K mg base "law" 5 1 fn_law :=
  cal_ok (A := A_law) (body := b_law) d sc_law (fun f cdv Ar outer s H E hr => have nd := sc_law.nd;
  (qs_cons (qs_set (i := 1) nd (qx_cal C__law_begin hr (by rfl) (qa_cons (qx_var 0) qa_nil)))
  (qs_cons (qs_set (i := 2) nd (qx_lst qa_nil))
  (qs_cons (qs_for PassesOwn.never rfl (qi_rng1 (by rfl) Z.z_range (qa_cons (qo_add qx_int (qx_cal C__law_take hr (by rfl) (qa_cons (qx_var 1) (qa_cons qx_int qa_nil)))) qa_nil)) (qg_name (i := 3) nd)
  (qs_cons (qs_set (i := 7) nd (qx_ix (qx_lst (qa_cons qx_int (qa_cons qx_int (qa_cons qx_int (qa_cons qx_int (qa_cons qx_int qa_nil)))))) (qx_cal C__law_take hr (by rfl) (qa_cons (qx_var 1) (qa_cons qx_int qa_nil)))))
  (qs_cons (qs_set (i := 6) nd (qx_callB (cb_max rfl) (by rfl) Z.z_max (by decide +kernel) (qa_cons qx_int (qa_cons (qo_sub (qx_var 7) (qx_cal C__law_take hr (by rfl) (qa_cons (qx_var 1) (qa_cons qx_int qa_nil)))) qa_nil))))
  (qs_one (qs_expr (qx_mt (i := 2) cm_append PySem.F.plainAttrs_list PySem.F.slot_list_append PySem.F.type_list_append (qa_cons (qx_tup (qa_cons (qo_add qx_int (qx_cal C__law_take hr (by rfl) (qa_cons (qx_var 1) (qa_cons (qx_callB (cb_max rfl) (by rfl) Z.z_max (by decide +kernel) (qa_cons qx_int (qa_cons (qo_div (qx_var 6) qx_int) qa_nil))) qa_nil)))) (qa_cons (qx_var 6) (qa_cons (qx_var 7) qa_nil)))) qa_nil)))))))
  (qs_cons (qs_set (i := 2) nd (qx_callTy (ct_tuple) (by rfl) Z.z_tuple (by decide +kernel) (qa_cons (qx_var 2) qa_nil)))
  (qs_cons (qs_set (i := 4) nd (qx_cal C_answers hr (by rfl) (qa_cons (qx_var 2) qa_nil)))
  (qs_cons (qs_set (i := 3) nd (qx_cal C__law_take hr (by rfl) (qa_cons (qx_var 1) (qa_cons (qx_callB (cb_len) (by rfl) Z.z_len PySem.boot_len (qa_cons (qx_var 2) qa_nil)) qa_nil))))
  (qs_cons (qs_if (qt_cmp qc_gt (qx_callB (cb_len) (by rfl) Z.z_len PySem.boot_len (qa_cons (qx_var 2) qa_nil)) qx_int (nomark _))
  (qs_cons (qs_set (i := 10) nd (qo_add (qx_sl (qx_var 2) qp_none (qp_some (qx_var 3))) (qx_sl (qx_var 2) (qp_some (qo_add (qx_var 3) qx_int)) qp_none)))
  (qs_cons (qs_set (i := 11) nd (qx_cal C_answers hr (by rfl) (qa_cons (qx_var 10) qa_nil)))
  (qs_cons (qs_for PassesOwn.never rfl (qi_rng1 (by rfl) Z.z_range (qa_cons (qx_callB (cb_len) (by rfl) Z.z_len PySem.boot_len (qa_cons (qx_var 10) qa_nil)) qa_nil)) (qg_name (i := 9) nd)
  (qs_cons (qs_set (i := 13) nd (qx_if (qt_cmp qc_lt (qx_var 9) (qx_var 3) (nomark _)) (qx_ix (qx_var 4) (qx_var 9)) (qx_ix (qx_var 4) (qo_add (qx_var 9) qx_int))))
  (qs_one (qs_if (qt_bool (qw_or (qt_bool (qw_and (qt_cmp qc_notN (qx_var 13) qx_non (nomark _)) (qw_and1 (qt_bool (qw_or (qt_cmp qc_isN (qx_ix (qx_var 11) (qx_var 9)) qx_non (nomark _)) (qw_or1 (qt_cmp qc_gt (qx_ix (qx_var 11) (qx_var 9)) (qx_var 13) (nomark _)))))))) (qw_or1 (qt_bool (qw_and (qt_cmp qc_lt (qx_var 9) (qx_var 3) (nomark _)) (qw_and1 (qt_cmp (qc_ne hr.units) (qx_ix (qx_var 11) (qx_var 9)) (qx_ix (qx_var 4) (qx_var 9)) (nomark _))))))))
  (qs_one (qs_ret qx_bl))
  qs_nil))))
  (qs_cons (qs_if (qt_bool (qw_and (qt_cmp qc_isN (qx_cal C_by_deadline hr (by rfl) (qa_cons (qx_var 2) qa_nil)) qx_non (nomark _)) (qw_and1 (qt_cmp qc_notN (qx_cal C_by_deadline hr (by rfl) (qa_cons (qx_var 10) qa_nil)) qx_non (nomark _)))))
  (qs_one (qs_ret qx_bl))
  qs_nil)
  (qs_one (qs_if (qt_bool (qw_and (qt_cmp qc_notN (qx_cal C_good_order hr (by rfl) (qa_cons (qx_var 2) qa_nil)) qx_non (nomark _)) (qw_and1 (qt_cmp qc_isN (qx_cal C_good_order hr (by rfl) (qa_cons (qx_var 10) qa_nil)) qx_non (nomark _)))))
  (qs_one (qs_ret qx_bl))
  qs_nil))))))
  qs_nil)
  (qs_cons (qs_pat (qg_tup rfl (qg_cons (qg_name (i := 5) nd) (qg_cons (qg_name (i := 6) nd) (qg_cons (qg_name (i := 7) nd) qg_nil)))) (qx_ix (qx_var 2) (qx_var 3)))
  (qs_cons (qs_if (qt_cmp qc_gt (qx_var 5) qx_int (nomark _))
  (qs_cons (qs_set (i := 12) nd (qo_add (qo_add (qx_sl (qx_var 2) qp_none (qp_some (qx_var 3))) (qx_tup (qa_cons (qx_tup (qa_cons (qo_sub (qx_var 5) qx_int) (qa_cons (qx_var 6) (qa_cons (qx_var 7) qa_nil)))) qa_nil))) (qx_sl (qx_var 2) (qp_some (qo_add (qx_var 3) qx_int)) qp_none)))
  (qs_cons (qs_set (i := 11) nd (qx_cal C_answers hr (by rfl) (qa_cons (qx_var 12) qa_nil)))
  (qs_one (qs_for PassesOwn.never rfl (qi_rng1 (by rfl) Z.z_range (qa_cons (qx_callB (cb_len) (by rfl) Z.z_len PySem.boot_len (qa_cons (qx_var 2) qa_nil)) qa_nil)) (qg_name (i := 9) nd)
  (qs_one (qs_if (qt_bool (qw_and (qt_cmp qc_notN (qx_ix (qx_var 4) (qx_var 9)) qx_non (nomark _)) (qw_and1 (qt_bool (qw_or (qt_cmp qc_isN (qx_ix (qx_var 11) (qx_var 9)) qx_non (nomark _)) (qw_or (qt_cmp qc_gt (qx_ix (qx_var 11) (qx_var 9)) (qx_ix (qx_var 4) (qx_var 9)) (nomark _)) (qw_or1 (qt_bool (qw_and (qt_cmp qc_lt (qx_var 9) (qx_var 3) (nomark _)) (qw_and1 (qt_cmp (qc_ne hr.units) (qx_ix (qx_var 11) (qx_var 9)) (qx_ix (qx_var 4) (qx_var 9)) (nomark _))))))))))))
  (qs_one (qs_ret qx_bl))
  qs_nil))))))
  qs_nil)
  (qs_cons (qs_set (i := 8) nd (qo_add (qo_add (qx_sl (qx_var 2) qp_none (qp_some (qx_var 3))) (qx_tup (qa_cons (qx_tup (qa_cons (qx_var 5) (qa_cons (qx_var 7) (qa_cons (qx_var 7) qa_nil)))) qa_nil))) (qx_sl (qx_var 2) (qp_some (qo_add (qx_var 3) qx_int)) qp_none)))
  (qs_cons (qs_if (qt_bool (qw_and (qt_cmp qc_isN (qx_cal C_by_deadline hr (by rfl) (qa_cons (qx_var 2) qa_nil)) qx_non (nomark _)) (qw_and1 (qt_cmp qc_notN (qx_cal C_by_deadline hr (by rfl) (qa_cons (qx_var 8) qa_nil)) qx_non (nomark _)))))
  (qs_one (qs_ret qx_bl))
  qs_nil)
  (qs_cons (qs_for PassesOwn.never rfl (qi_rng1 (by rfl) Z.z_range (qa_cons (qx_callB (cb_len) (by rfl) Z.z_len PySem.boot_len (qa_cons (qx_var 2) qa_nil)) qa_nil)) (qg_name (i := 9) nd)
  (qs_cons (qs_if (qt_bool (qw_and (qt_cmp qc_notN (qx_ix (qx_var 4) (qx_var 9)) qx_non (nomark _)) (qw_and1 (qt_cmp (qc_ne hr.units) (qx_ix (qx_cal C_answers hr (by rfl) (qa_cons (qx_var 8) qa_nil)) (qx_var 9)) (qx_ix (qx_var 4) (qx_var 9)) (nomark _)))))
  (qs_one (qs_ret qx_bl))
  qs_nil)
  (qs_one (qs_if (qt_bool (qw_and (qt_cmp qc_gt (qx_var 9) qx_int (nomark _)) (qw_and1 (qt_cmp (qc_ne hr.units) (qx_cal C_answers hr (by rfl) (qa_cons (qx_sl (qx_var 2) qp_none (qp_some (qx_var 9))) qa_nil)) (qx_sl (qx_var 4) qp_none (qp_some (qx_var 9))) (nomark _)))))
  (qs_one (qs_ret qx_bl))
  qs_nil))))
  (qs_one (qs_ret (qx_cal C__law_part1 hr (by rfl) (qa_cons (qx_var 2) (qa_cons (qx_var 6) qa_nil)))))))))))))))))) (fun _ _ _ _ _ _ us hl => match us, hl with | [_], _ => rfl)
end
theorem law_fn {P : Program} {w : World} {K : PySem.W.Frag} {mg : Str → Option Value} {base : Heap} {f : Addr} {fd : FuncData} (Z : Bl K mg) (F : FunD K "law" "law" (defArgs s_law) (defBody s_law) (defScope s_law) [] [] f fd) (C__law_begin : Cal P w K mg base "_law_begin" 4 1 fn__law_begin) (C__law_take : Cal P w K mg base "_law_take" 4 2 fn__law_take) (C_answers : Cal P w K mg base "answers" 4 1 fn_answers) (C_by_deadline : Cal P w K mg base "by_deadline" 4 1 fn_by_deadline) (C_good_order : Cal P w K mg base "good_order" 4 1 fn_good_order) (C__law_part1 : Cal P w K mg base "_law_part1" 4 2 fn__law_part1) : FnOk P w K mg base CX0 5 f fd ["script"] (spF K 1 fn_law) :=
  fn_okD (A := A_law) (body := b_law) F sc_law fun cdv Ar outer s H E hr => have nd := sc_law.nd;
  (qs_cons (qs_set (i := 1) nd (qx_cal C__law_begin hr (by rfl) (qa_cons (qx_var 0) qa_nil)))
  (qs_cons (qs_set (i := 2) nd (qx_lst qa_nil))
  (qs_cons (qs_for PassesOwn.never rfl (qi_rng1 (by rfl) Z.z_range (qa_cons (qo_add qx_int (qx_cal C__law_take hr (by rfl) (qa_cons (qx_var 1) (qa_cons qx_int qa_nil)))) qa_nil)) (qg_name (i := 3) nd)
  (qs_cons (qs_set (i := 7) nd (qx_ix (qx_lst (qa_cons qx_int (qa_cons qx_int (qa_cons qx_int (qa_cons qx_int (qa_cons qx_int qa_nil)))))) (qx_cal C__law_take hr (by rfl) (qa_cons (qx_var 1) (qa_cons qx_int qa_nil)))))
  (qs_cons (qs_set (i := 6) nd (qx_callB (cb_max rfl) (by rfl) Z.z_max (by decide +kernel) (qa_cons qx_int (qa_cons (qo_sub (qx_var 7) (qx_cal C__law_take hr (by rfl) (qa_cons (qx_var 1) (qa_cons qx_int qa_nil)))) qa_nil))))
  (qs_one (qs_expr (qx_mt (i := 2) cm_append PySem.F.plainAttrs_list PySem.F.slot_list_append PySem.F.type_list_append (qa_cons (qx_tup (qa_cons (qo_add qx_int (qx_cal C__law_take hr (by rfl) (qa_cons (qx_var 1) (qa_cons (qx_callB (cb_max rfl) (by rfl) Z.z_max (by decide +kernel) (qa_cons qx_int (qa_cons (qo_div (qx_var 6) qx_int) qa_nil))) qa_nil)))) (qa_cons (qx_var 6) (qa_cons (qx_var 7) qa_nil)))) qa_nil)))))))
  (qs_cons (qs_set (i := 2) nd (qx_callTy (ct_tuple) (by rfl) Z.z_tuple (by decide +kernel) (qa_cons (qx_var 2) qa_nil)))
  (qs_cons (qs_set (i := 4) nd (qx_cal C_answers hr (by rfl) (qa_cons (qx_var 2) qa_nil)))
  (qs_cons (qs_set (i := 3) nd (qx_cal C__law_take hr (by rfl) (qa_cons (qx_var 1) (qa_cons (qx_callB (cb_len) (by rfl) Z.z_len PySem.boot_len (qa_cons (qx_var 2) qa_nil)) qa_nil))))
  (qs_cons (qs_if (qt_cmp qc_gt (qx_callB (cb_len) (by rfl) Z.z_len PySem.boot_len (qa_cons (qx_var 2) qa_nil)) qx_int (nomark _))
  (qs_cons (qs_set (i := 10) nd (qo_add (qx_sl (qx_var 2) qp_none (qp_some (qx_var 3))) (qx_sl (qx_var 2) (qp_some (qo_add (qx_var 3) qx_int)) qp_none)))
  (qs_cons (qs_set (i := 11) nd (qx_cal C_answers hr (by rfl) (qa_cons (qx_var 10) qa_nil)))
  (qs_cons (qs_for PassesOwn.never rfl (qi_rng1 (by rfl) Z.z_range (qa_cons (qx_callB (cb_len) (by rfl) Z.z_len PySem.boot_len (qa_cons (qx_var 10) qa_nil)) qa_nil)) (qg_name (i := 9) nd)
  (qs_cons (qs_set (i := 13) nd (qx_if (qt_cmp qc_lt (qx_var 9) (qx_var 3) (nomark _)) (qx_ix (qx_var 4) (qx_var 9)) (qx_ix (qx_var 4) (qo_add (qx_var 9) qx_int))))
  (qs_one (qs_if (qt_bool (qw_or (qt_bool (qw_and (qt_cmp qc_notN (qx_var 13) qx_non (nomark _)) (qw_and1 (qt_bool (qw_or (qt_cmp qc_isN (qx_ix (qx_var 11) (qx_var 9)) qx_non (nomark _)) (qw_or1 (qt_cmp qc_gt (qx_ix (qx_var 11) (qx_var 9)) (qx_var 13) (nomark _)))))))) (qw_or1 (qt_bool (qw_and (qt_cmp qc_lt (qx_var 9) (qx_var 3) (nomark _)) (qw_and1 (qt_cmp (qc_ne hr.units) (qx_ix (qx_var 11) (qx_var 9)) (qx_ix (qx_var 4) (qx_var 9)) (nomark _))))))))
  (qs_one (qs_ret qx_bl))
  qs_nil))))
  (qs_cons (qs_if (qt_bool (qw_and (qt_cmp qc_isN (qx_cal C_by_deadline hr (by rfl) (qa_cons (qx_var 2) qa_nil)) qx_non (nomark _)) (qw_and1 (qt_cmp qc_notN (qx_cal C_by_deadline hr (by rfl) (qa_cons (qx_var 10) qa_nil)) qx_non (nomark _)))))
  (qs_one (qs_ret qx_bl))
  qs_nil)
  (qs_one (qs_if (qt_bool (qw_and (qt_cmp qc_notN (qx_cal C_good_order hr (by rfl) (qa_cons (qx_var 2) qa_nil)) qx_non (nomark _)) (qw_and1 (qt_cmp qc_isN (qx_cal C_good_order hr (by rfl) (qa_cons (qx_var 10) qa_nil)) qx_non (nomark _)))))
  (qs_one (qs_ret qx_bl))
  qs_nil))))))
  qs_nil)
  (qs_cons (qs_pat (qg_tup rfl (qg_cons (qg_name (i := 5) nd) (qg_cons (qg_name (i := 6) nd) (qg_cons (qg_name (i := 7) nd) qg_nil)))) (qx_ix (qx_var 2) (qx_var 3)))
  (qs_cons (qs_if (qt_cmp qc_gt (qx_var 5) qx_int (nomark _))
  (qs_cons (qs_set (i := 12) nd (qo_add (qo_add (qx_sl (qx_var 2) qp_none (qp_some (qx_var 3))) (qx_tup (qa_cons (qx_tup (qa_cons (qo_sub (qx_var 5) qx_int) (qa_cons (qx_var 6) (qa_cons (qx_var 7) qa_nil)))) qa_nil))) (qx_sl (qx_var 2) (qp_some (qo_add (qx_var 3) qx_int)) qp_none)))
  (qs_cons (qs_set (i := 11) nd (qx_cal C_answers hr (by rfl) (qa_cons (qx_var 12) qa_nil)))
  (qs_one (qs_for PassesOwn.never rfl (qi_rng1 (by rfl) Z.z_range (qa_cons (qx_callB (cb_len) (by rfl) Z.z_len PySem.boot_len (qa_cons (qx_var 2) qa_nil)) qa_nil)) (qg_name (i := 9) nd)
  (qs_one (qs_if (qt_bool (qw_and (qt_cmp qc_notN (qx_ix (qx_var 4) (qx_var 9)) qx_non (nomark _)) (qw_and1 (qt_bool (qw_or (qt_cmp qc_isN (qx_ix (qx_var 11) (qx_var 9)) qx_non (nomark _)) (qw_or (qt_cmp qc_gt (qx_ix (qx_var 11) (qx_var 9)) (qx_ix (qx_var 4) (qx_var 9)) (nomark _)) (qw_or1 (qt_bool (qw_and (qt_cmp qc_lt (qx_var 9) (qx_var 3) (nomark _)) (qw_and1 (qt_cmp (qc_ne hr.units) (qx_ix (qx_var 11) (qx_var 9)) (qx_ix (qx_var 4) (qx_var 9)) (nomark _))))))))))))
  (qs_one (qs_ret qx_bl))
  qs_nil))))))
  qs_nil)
  (qs_cons (qs_set (i := 8) nd (qo_add (qo_add (qx_sl (qx_var 2) qp_none (qp_some (qx_var 3))) (qx_tup (qa_cons (qx_tup (qa_cons (qx_var 5) (qa_cons (qx_var 7) (qa_cons (qx_var 7) qa_nil)))) qa_nil))) (qx_sl (qx_var 2) (qp_some (qo_add (qx_var 3) qx_int)) qp_none)))
  (qs_cons (qs_if (qt_bool (qw_and (qt_cmp qc_isN (qx_cal C_by_deadline hr (by rfl) (qa_cons (qx_var 2) qa_nil)) qx_non (nomark _)) (qw_and1 (qt_cmp qc_notN (qx_cal C_by_deadline hr (by rfl) (qa_cons (qx_var 8) qa_nil)) qx_non (nomark _)))))
  (qs_one (qs_ret qx_bl))
  qs_nil)
  (qs_cons (qs_for PassesOwn.never rfl (qi_rng1 (by rfl) Z.z_range (qa_cons (qx_callB (cb_len) (by rfl) Z.z_len PySem.boot_len (qa_cons (qx_var 2) qa_nil)) qa_nil)) (qg_name (i := 9) nd)
  (qs_cons (qs_if (qt_bool (qw_and (qt_cmp qc_notN (qx_ix (qx_var 4) (qx_var 9)) qx_non (nomark _)) (qw_and1 (qt_cmp (qc_ne hr.units) (qx_ix (qx_cal C_answers hr (by rfl) (qa_cons (qx_var 8) qa_nil)) (qx_var 9)) (qx_ix (qx_var 4) (qx_var 9)) (nomark _)))))
  (qs_one (qs_ret qx_bl))
  qs_nil)
  (qs_one (qs_if (qt_bool (qw_and (qt_cmp qc_gt (qx_var 9) qx_int (nomark _)) (qw_and1 (qt_cmp (qc_ne hr.units) (qx_cal C_answers hr (by rfl) (qa_cons (qx_sl (qx_var 2) qp_none (qp_some (qx_var 9))) qa_nil)) (qx_sl (qx_var 4) qp_none (qp_some (qx_var 9))) (nomark _)))))
  (qs_one (qs_ret qx_bl))
  qs_nil))))
  (qs_one (qs_ret (qx_cal C__law_part1 hr (by rfl) (qa_cons (qx_var 2) (qa_cons (qx_var 6) qa_nil)))))))))))))))))
end K39
end

section
set_option Elab.async false
set_option linter.all false
set_option maxRecDepth 100000
set_option maxHeartbeats 0
namespace K39
open PySem PySem.Spec PyProof.Rows L2 QL
def dd_gcd : He.DefD := ⟨("gcd", none), "gcd", "gcd", defArgs s_gcd, defBody s_gcd, defScope s_gcd, [], []⟩
def dd_check : He.DefD := ⟨("check", none), "check", "check", defArgs s_check, defBody s_check, defScope s_check, [], []⟩
def dd_round_of : He.DefD := ⟨("round_of", none), "round_of", "round_of", defArgs s_round_of, defBody s_round_of, defScope s_round_of, [], []⟩
def dd_share : He.DefD := ⟨("share", none), "share", "share", defArgs s_share, defBody s_share, defScope s_share, [], []⟩
def dd_run_of : He.DefD := ⟨("run_of", none), "run_of", "run_of", defArgs s_run_of, defBody s_run_of, defScope s_run_of, [], []⟩
def dd_play : He.DefD := ⟨("play", none), "play", "play", defArgs s_play, defBody s_play, defScope s_play, [], []⟩
def dd_wanted : He.DefD := ⟨("wanted", none), "wanted", "wanted", defArgs s_wanted, defBody s_wanted, defScope s_wanted, [], []⟩
def dd_moments_of : He.DefD := ⟨("moments_of", none), "moments_of", "moments_of", defArgs s_moments_of, defBody s_moments_of, defScope s_moments_of, [], []⟩
def dd_by_deadline : He.DefD := ⟨("by_deadline", none), "by_deadline", "by_deadline", defArgs s_by_deadline, defBody s_by_deadline, defScope s_by_deadline, [], []⟩
def dd_answer_of : He.DefD := ⟨("answer_of", none), "answer_of", "answer_of", defArgs s_answer_of, defBody s_answer_of, defScope s_answer_of, [], []⟩
def dd_answers : He.DefD := ⟨("answers", none), "answers", "answers", defArgs s_answers, defBody s_answers, defScope s_answers, [], []⟩
def dd_orders_of : He.DefD := ⟨("orders_of", none), "orders_of", "orders_of", defArgs s_orders_of, defBody s_orders_of, defScope s_orders_of, [], []⟩
def dd_good_order : He.DefD := ⟨("good_order", none), "good_order", "good_order", defArgs s_good_order, defBody s_good_order, defScope s_good_order, [], []⟩
def dd_from_last : He.DefD := ⟨("from_last", none), "from_last", "from_last", defArgs s_from_last, defBody s_from_last, defScope s_from_last, [], []⟩
def dd_idle : He.DefD := ⟨("idle", none), "idle", "idle", defArgs s_idle, defBody s_idle, defScope s_idle, [], []⟩
def dd__law_begin : He.DefD := ⟨("_law_begin", none), "_law_begin", "_law_begin", defArgs s__law_begin, defBody s__law_begin, defScope s__law_begin, [], []⟩
def dd__law_take : He.DefD := ⟨("_law_take", none), "_law_take", "_law_take", defArgs s__law_take, defBody s__law_take, defScope s__law_take, [], []⟩
def dd__law_round : He.DefD := ⟨("_law_round", none), "_law_round", "_law_round", defArgs s__law_round, defBody s__law_round, defScope s__law_round, [], []⟩
def dd__law_part1 : He.DefD := ⟨("_law_part1", none), "_law_part1", "_law_part1", defArgs s__law_part1, defBody s__law_part1, defScope s__law_part1, [], []⟩
def dd_law : He.DefD := ⟨("law", none), "law", "law", defArgs s_law, defBody s_law, defScope s_law, [], []⟩
def hfn : List He.DefD := [dd_gcd, dd_check, dd_round_of, dd_share, dd_run_of, dd_play, dd_wanted, dd_moments_of, dd_by_deadline, dd_answer_of, dd_answers, dd_orders_of, dd_good_order, dd_from_last, dd_idle, dd__law_begin, dd__law_take, dd__law_round, dd__law_part1, dd_law]
def hfa : List He.Fa := [.glo "gcd", .glo "check", .glo "round_of", .glo "share", .glo "run_of", .glo "play", .glo "wanted", .glo "moments_of", .glo "by_deadline", .glo "answer_of", .glo "answers", .glo "orders_of", .glo "good_order", .glo "from_last", .glo "idle", .glo "_law_begin", .glo "_law_take", .glo "_law_round", .glo "_law_part1", .glo "law", .free "abs", .free "enumerate", .free "int", .free "len", .free "list", .free "max", .free "min", .free "range", .free "sorted", .free "sum", .free "tuple", .int "MOST_TASKS" 5, .int "MOST_TIME" 2000]
abbrev R : PySem.W.OpenRow := PySem.W.OpenLaw.row PySem.Challenge.rw_machinehall_k39_whole_deadlines_moved
def hex (K : PySem.W.Frag) : Bool := true
abbrev hk : PySem.W.Hook := hookE 24 hfa hfn hex
def ob (s : PySem.W.SharedT) : AlE := obsEG 24 hfa hfn hex (HandSHeadRun.getT s)
theorem ob_eq (s : PySem.W.SharedT) : ob s = hk.obs s.abs := obsEG_eq (HandSHeadRun.getT_eq s)
def loose0 : List PySem.Str := ["gcd", "check", "round_of", "share", "run_of", "play", "wanted", "by_deadline", "moments_of", "answers", "answer_of", "orders_of", "good_order", "from_last", "idle", "_law_begin", "_law_take", "_law_round", "_law_part1", "MachineError", "MOST_TASKS", "MOST_TIME"]
def loose : List PySem.Str := loose0
theorem run (w : World) : HandSHeadRun.RunEq R (PySem.W.view R.prog [25]) hk ob 4000 loose w := by
  intro os
  kernel_rfl
theorem facts {P : Program} {w : World} {K : PySem.W.Frag} {h : Heap} {mg : Str → Option Value} {f : Addr} (X : K.In h) (G : h.Ns mainGlobals mg) (hfa0 : mg ("law" : Str) = some (.ref f)) (ce : SaysE hfa hfn hex K) :
    ∃ fd : FuncData, (∀ (s : Shared) (v : Value), BindsTo s fd ⟨[v], []⟩ [("script", v)]) ∧ ∀ base : Heap, K.In base → base.Ns mainGlobals mg → FnOk P w K mg base CX0 5 f fd ["script"] (spF K 1 fn_law) := by
  have c := ce.d
  have e0 := ce.own
  simp only [hex, Bool.and_eq_true] at e0
  have Z : Bl K mg := ⟨He.free_ok X G (c.fact 20 (f := .free "abs") rfl), He.free_ok X G (c.fact 21 (f := .free "enumerate") rfl), He.free_ok X G (c.fact 22 (f := .free "int") rfl), He.free_ok X G (c.fact 23 (f := .free "len") rfl), He.free_ok X G (c.fact 24 (f := .free "list") rfl), He.free_ok X G (c.fact 25 (f := .free "max") rfl), He.free_ok X G (c.fact 26 (f := .free "min") rfl), He.free_ok X G (c.fact 27 (f := .free "range") rfl), He.free_ok X G (c.fact 28 (f := .free "sorted") rfl), He.free_ok X G (c.fact 29 (f := .free "sum") rfl), He.free_ok X G (c.fact 30 (f := .free "tuple") rfl), He.int_ok X G (c.fact 31 (f := .int "MOST_TASKS" 5) rfl), He.int_ok X G (c.fact 32 (f := .int "MOST_TIME" 2000) rfl)⟩
  have d_gcd : Df K mg "gcd" s_gcd := by
    obtain ⟨fd, F⟩ := c.def_ 0 (d := dd_gcd) rfl
    exact ⟨_, fd, F, He.glo_ok X G (c.fact 0 (f := .glo "gcd") rfl)⟩
  have d_check : Df K mg "check" s_check := by
    obtain ⟨fd, F⟩ := c.def_ 1 (d := dd_check) rfl
    exact ⟨_, fd, F, He.glo_ok X G (c.fact 1 (f := .glo "check") rfl)⟩
  have d_round_of : Df K mg "round_of" s_round_of := by
    obtain ⟨fd, F⟩ := c.def_ 2 (d := dd_round_of) rfl
    exact ⟨_, fd, F, He.glo_ok X G (c.fact 2 (f := .glo "round_of") rfl)⟩
  have d_share : Df K mg "share" s_share := by
    obtain ⟨fd, F⟩ := c.def_ 3 (d := dd_share) rfl
    exact ⟨_, fd, F, He.glo_ok X G (c.fact 3 (f := .glo "share") rfl)⟩
  have d_run_of : Df K mg "run_of" s_run_of := by
    obtain ⟨fd, F⟩ := c.def_ 4 (d := dd_run_of) rfl
    exact ⟨_, fd, F, He.glo_ok X G (c.fact 4 (f := .glo "run_of") rfl)⟩
  have d_play : Df K mg "play" s_play := by
    obtain ⟨fd, F⟩ := c.def_ 5 (d := dd_play) rfl
    exact ⟨_, fd, F, He.glo_ok X G (c.fact 5 (f := .glo "play") rfl)⟩
  have d_wanted : Df K mg "wanted" s_wanted := by
    obtain ⟨fd, F⟩ := c.def_ 6 (d := dd_wanted) rfl
    exact ⟨_, fd, F, He.glo_ok X G (c.fact 6 (f := .glo "wanted") rfl)⟩
  have d_moments_of : Df K mg "moments_of" s_moments_of := by
    obtain ⟨fd, F⟩ := c.def_ 7 (d := dd_moments_of) rfl
    exact ⟨_, fd, F, He.glo_ok X G (c.fact 7 (f := .glo "moments_of") rfl)⟩
  have d_by_deadline : Df K mg "by_deadline" s_by_deadline := by
    obtain ⟨fd, F⟩ := c.def_ 8 (d := dd_by_deadline) rfl
    exact ⟨_, fd, F, He.glo_ok X G (c.fact 8 (f := .glo "by_deadline") rfl)⟩
  have d_answer_of : Df K mg "answer_of" s_answer_of := by
    obtain ⟨fd, F⟩ := c.def_ 9 (d := dd_answer_of) rfl
    exact ⟨_, fd, F, He.glo_ok X G (c.fact 9 (f := .glo "answer_of") rfl)⟩
  have d_answers : Df K mg "answers" s_answers := by
    obtain ⟨fd, F⟩ := c.def_ 10 (d := dd_answers) rfl
    exact ⟨_, fd, F, He.glo_ok X G (c.fact 10 (f := .glo "answers") rfl)⟩
  have d_orders_of : Df K mg "orders_of" s_orders_of := by
    obtain ⟨fd, F⟩ := c.def_ 11 (d := dd_orders_of) rfl
    exact ⟨_, fd, F, He.glo_ok X G (c.fact 11 (f := .glo "orders_of") rfl)⟩
  have d_good_order : Df K mg "good_order" s_good_order := by
    obtain ⟨fd, F⟩ := c.def_ 12 (d := dd_good_order) rfl
    exact ⟨_, fd, F, He.glo_ok X G (c.fact 12 (f := .glo "good_order") rfl)⟩
  have d_from_last : Df K mg "from_last" s_from_last := by
    obtain ⟨fd, F⟩ := c.def_ 13 (d := dd_from_last) rfl
    exact ⟨_, fd, F, He.glo_ok X G (c.fact 13 (f := .glo "from_last") rfl)⟩
  have d_idle : Df K mg "idle" s_idle := by
    obtain ⟨fd, F⟩ := c.def_ 14 (d := dd_idle) rfl
    exact ⟨_, fd, F, He.glo_ok X G (c.fact 14 (f := .glo "idle") rfl)⟩
  have d__law_begin : Df K mg "_law_begin" s__law_begin := by
    obtain ⟨fd, F⟩ := c.def_ 15 (d := dd__law_begin) rfl
    exact ⟨_, fd, F, He.glo_ok X G (c.fact 15 (f := .glo "_law_begin") rfl)⟩
  have d__law_take : Df K mg "_law_take" s__law_take := by
    obtain ⟨fd, F⟩ := c.def_ 16 (d := dd__law_take) rfl
    exact ⟨_, fd, F, He.glo_ok X G (c.fact 16 (f := .glo "_law_take") rfl)⟩
  have d__law_round : Df K mg "_law_round" s__law_round := by
    obtain ⟨fd, F⟩ := c.def_ 17 (d := dd__law_round) rfl
    exact ⟨_, fd, F, He.glo_ok X G (c.fact 17 (f := .glo "_law_round") rfl)⟩
  have d__law_part1 : Df K mg "_law_part1" s__law_part1 := by
    obtain ⟨fd, F⟩ := c.def_ 18 (d := dd__law_part1) rfl
    exact ⟨_, fd, F, He.glo_ok X G (c.fact 18 (f := .glo "_law_part1") rfl)⟩
  obtain ⟨fdL, FL⟩ := c.def_ 19 (d := dd_law) rfl
  have e := hfa0.symm.trans (He.glo_ok X G (c.fact 19 (f := .glo "law") rfl))
  cases e
  have b := FunD.bindsA (ps := ["script"]) FL fun _ _ _ _ _ _ us hl => match us, hl with | [_], _ => rfl
  refine ⟨fdL, fun s v => b s [v] rfl, fun base _ _ => ?_⟩
  have C_gcd : Cal P w K mg base "gcd" 1 2 fn_gcd := ok_gcd Z d_gcd 
  have C_check : Cal P w K mg base "check" 1 1 fn_check := ok_check Z d_check 
  have C_round_of : Cal P w K mg base "round_of" 2 1 fn_round_of := ok_round_of Z d_round_of (C_gcd.mono (by decide))
  have C_share : Cal P w K mg base "share" 3 1 fn_share := ok_share Z d_share (C_check.mono (by decide)) (C_round_of.mono (by decide)) (C_gcd.mono (by decide))
  have C_run_of : Cal P w K mg base "run_of" 1 3 fn_run_of := ok_run_of Z d_run_of 
  have C_play : Cal P w K mg base "play" 2 3 fn_play := ok_play Z d_play (C_check.mono (by decide)) (C_run_of.mono (by decide))
  have C_wanted : Cal P w K mg base "wanted" 2 2 fn_wanted := ok_wanted Z d_wanted (C_check.mono (by decide))
  have C_moments_of : Cal P w K mg base "moments_of" 1 2 fn_moments_of := ok_moments_of Z d_moments_of 
  have C_by_deadline : Cal P w K mg base "by_deadline" 3 1 fn_by_deadline := ok_by_deadline Z d_by_deadline (C_check.mono (by decide)) (C_moments_of.mono (by decide)) (C_round_of.mono (by decide)) (C_wanted.mono (by decide))
  have C_answer_of : Cal P w K mg base "answer_of" 1 2 fn_answer_of := ok_answer_of Z d_answer_of 
  have C_answers : Cal P w K mg base "answers" 2 1 fn_answers := ok_answers Z d_answers (C_check.mono (by decide)) (C_answer_of.mono (by decide))
  have C_orders_of : Cal P w K mg base "orders_of" 1 1 fn_orders_of := ok_orders_of Z d_orders_of 
  have C_good_order : Cal P w K mg base "good_order" 3 1 fn_good_order := ok_good_order Z d_good_order (C_check.mono (by decide)) (C_orders_of.mono (by decide)) (C_answers.mono (by decide))
  have C_from_last : Cal P w K mg base "from_last" 2 1 fn_from_last := ok_from_last Z d_from_last (C_check.mono (by decide)) (C_answer_of.mono (by decide))
  have C_idle : Cal P w K mg base "idle" 3 2 fn_idle := ok_idle Z d_idle (C_check.mono (by decide)) (C_run_of.mono (by decide)) (C_round_of.mono (by decide))
  have C__law_begin : Cal P w K mg base "_law_begin" 1 1 fn__law_begin := ok__law_begin Z d__law_begin 
  have C__law_take : Cal P w K mg base "_law_take" 1 2 fn__law_take := ok__law_take Z d__law_take 
  have C__law_round : Cal P w K mg base "_law_round" 1 1 fn__law_round := ok__law_round Z d__law_round 
  have C__law_part1 : Cal P w K mg base "_law_part1" 4 2 fn__law_part1 := ok__law_part1 Z d__law_part1 (C_answers.mono (by decide)) (C_share.mono (by decide)) (C_by_deadline.mono (by decide)) (C__law_round.mono (by decide)) (C_play.mono (by decide)) (C_idle.mono (by decide)) (C_wanted.mono (by decide)) (C_from_last.mono (by decide))
  exact law_fn Z FL (C__law_begin.mono (by decide)) (C__law_take.mono (by decide)) (C_answers.mono (by decide)) (C_by_deadline.mono (by decide)) (C_good_order.mono (by decide)) (C__law_part1.mono (by decide))
end K39
end

section
set_option Elab.async false
set_option linter.all false
set_option maxRecDepth 100000
namespace K39
open PySem PySem.Spec PyProof.Rows L2 QL
/-! the plain law: answers, wants, rounds -/
structure Tk where
  c : Nat
  d : Nat
  p : Nat
def Tk.D (t : Tk) : QL.D := .tup [.int (t.c : Int), .int (t.d : Int), .int (t.p : Int)]
structure Tk.Ok (t : Tk) : Prop where
  c1 : 1 ≤ t.c
  cd : t.c ≤ t.d
  dp : t.d ≤ t.p
  p12 : t.p ≤ 12
  p24 : t.p ∣ 24
def Oks (ts : List Tk) : Prop := ∀ t ∈ ts, t.Ok
def sm (l : List Nat) : Nat := l.sum
@[simp] theorem sm_nil : sm [] = 0 := rfl
@[simp] theorem sm_cons {x : Nat} {l : List Nat} : sm (x :: l) = x + sm l := by simp [sm]
theorem sm_append {l m : List Nat} : sm (l ++ m) = sm l + sm m := by simp [sm]
theorem sm_map_le {α : Type} {f g : α → Nat} : ∀ {l : List α}, (∀ x ∈ l, f x ≤ g x) → sm (l.map f) ≤ sm (l.map g)
  | [], _ => Nat.le_refl _
  | x :: l, h => by
    have := sm_map_le (l := l) fun y z => h y (List.mem_cons_of_mem _ z)
    have := h x List.mem_cons_self
    simp only [List.map_cons, sm_cons]
    omega
theorem sm_map_eq {α : Type} {f g : α → Nat} {l : List α} (h : ∀ x ∈ l, f x = g x) : sm (l.map f) = sm (l.map g) := by rw [List.map_congr_left h]
theorem sm_map_mul {α : Type} {f : α → Nat} {n : Nat} : ∀ {l : List α}, sm (l.map fun x => n * f x) = n * sm (l.map f)
  | [] => rfl
  | x :: l => by simp only [List.map_cons, sm_cons]; rw [sm_map_mul (l := l), Nat.mul_add]
theorem sm_sub {l m : List Nat} (h : l.Sublist m) : sm l ≤ sm m := by
  induction h with
  | slnil => exact Nat.le_refl _
  | cons a h ih => rw [sm_cons]; omega
  | cons_cons a h ih => rw [sm_cons, sm_cons]; omega
theorem sm_perm {l m : List Nat} (h : l.Perm m) : sm l = sm m := by
  induction h with
  | nil => rfl
  | cons _ _ ih => rw [sm_cons, sm_cons, ih]
  | swap => rw [sm_cons, sm_cons, sm_cons, sm_cons]; omega
  | trans _ _ h1 h2 => rw [h1, h2]
/-- ups: how often one comes in `x` moments -/
def up (x p : Nat) : Nat := (x + p - 1) / p
theorem up_mono {x y p : Nat} (h : x ≤ y) : up x p ≤ up y p := Nat.div_le_div_right (by omega)
def W (hp : List Tk) (c x : Nat) : Nat := c + sm (hp.map fun t => up x t.p * t.c)
theorem W_mono {hp : List Tk} {c x y : Nat} (h : x ≤ y) : W hp c x ≤ W hp c y := by
  have := sm_map_le (l := hp) (f := fun t => up x t.p * t.c) (g := fun t => up y t.p * t.c) fun t _ => Nat.mul_le_mul_right _ (up_mono h)
  unfold W; omega
theorem W_ge {hp : List Tk} {c x : Nat} : c ≤ W hp c x := Nat.le_add_right _ _
def ans (hp : List Tk) (t : Tk) : Option Nat := (List.range (t.d + 1)).find? fun x => W hp t.c x == x
/-- the least fixed point -/
structure Lfp (hp : List Tk) (c x : Nat) : Prop where
  fix : W hp c x = x
  least : ∀ y, W hp c y = y → x ≤ y
theorem ans_some {hp : List Tk} {t : Tk} {x : Nat} : ans hp t = some x ↔ Lfp hp t.c x ∧ x ≤ t.d := by
  unfold ans
  rw [List.find?_range_eq_some]
  constructor
  · rintro ⟨h1, h2, h3⟩
    rw [List.mem_range] at h2
    refine ⟨⟨by simpa using h1, fun y hy => ?_⟩, by omega⟩
    apply Classical.byContradiction
    intro q
    have := h3 y (by omega)
    simp [hy] at this
  · rintro ⟨⟨h1, h2⟩, h3⟩
    refine ⟨by simp [h1], List.mem_range.2 (by omega), fun y hy => ?_⟩
    simp only [beq_iff_eq, Bool.not_eq_true', beq_eq_false_iff_ne, ne_eq]
    intro q
    have := h2 y q
    omega
theorem ans_none {hp : List Tk} {t : Tk} : ans hp t = none ↔ ∀ x, W hp t.c x = x → t.d < x := by
  unfold ans
  rw [List.find?_eq_none]
  constructor
  · intro h x hx
    apply Classical.byContradiction
    intro q
    exact h x (List.mem_range.2 (by omega)) (by simp [hx])
  · intro h x hx q
    have := h x (by simpa using q)
    have := List.mem_range.1 hx
    omega
/-- a place that holds all it asks for has a least fixed point beneath it -/
theorem lfp_of {hp : List Tk} {c : Nat} : ∀ {y : Nat}, W hp c y ≤ y → ∃ x, Lfp hp c x ∧ x ≤ y := by
  intro y
  induction y using Nat.strongRecOn with
  | ind y ih =>
    intro h
    by_cases z : ∃ v, v < y ∧ W hp c v ≤ v
    · obtain ⟨v, hv, hw⟩ := z
      obtain ⟨x, hx, hl⟩ := ih v hv hw
      exact ⟨x, hx, by omega⟩
    · refine ⟨y, ⟨?_, fun v hv => ?_⟩, Nat.le_refl _⟩
      · apply Classical.byContradiction
        intro q
        exact z ⟨W hp c y, by omega, W_mono h⟩
      · apply Classical.byContradiction
        intro q
        exact z ⟨v, by omega, by omega⟩
theorem ans_le {hp hp' : List Tk} {t t' : Tk} {R : Nat} (h : ans hp t = some R) (hW : ∀ x, W hp' t'.c x ≤ W hp t.c x) (hd : t.d ≤ t'.d) : ∃ R', ans hp' t' = some R' ∧ R' ≤ R := by
  obtain ⟨⟨h1, h2⟩, h3⟩ := ans_some.1 h
  obtain ⟨x, hx, hl⟩ := lfp_of (hp := hp') (c := t'.c) (y := R) (by have := hW R; omega)
  exact ⟨x, ans_some.2 ⟨hx, by omega⟩, hl⟩
theorem ans_long {hp : List Tk} {t t' : Tk} {R : Nat} (h : ans hp t = some R) (hc : t'.c = t.c) (hd : t.d ≤ t'.d) : ans hp t' = some R := by
  obtain ⟨h1, h2⟩ := ans_some.1 h
  exact ans_some.2 ⟨by rw [hc]; exact h1, by omega⟩
theorem W_eq {hp hp' : List Tk} {c x : Nat} (h : hp.map (fun t => (t.c, t.p)) = hp'.map (fun t => (t.c, t.p))) : W hp c x = W hp' c x := by
  unfold W
  have e : ∀ l : List Tk, l.map (fun t => up x t.p * t.c) = (l.map (fun t => (t.c, t.p))).map fun q => up x q.2 * q.1 := fun l => by rw [List.map_map]; rfl
  rw [e, e, h]
theorem ans_eqv {hp hp' : List Tk} {t t' : Tk} (hW : ∀ x, W hp' t'.c x = W hp t.c x) (hd : t'.d = t.d) : ans hp' t' = ans hp t := by
  unfold ans
  rw [hd]
  congr 1
  funext x
  rw [hW]
theorem W_perm {hp hp' : List Tk} {c x : Nat} (h : hp.Perm hp') : W hp c x = W hp' c x := by unfold W; rw [sm_perm (h.map _)]
theorem W_sub {hp hp' : List Tk} {c x : Nat} (h : hp'.Sublist hp) : W hp' c x ≤ W hp c x := by have := sm_sub (h.map fun t => up x t.p * t.c); unfold W; omega
/-- all times twice -/
def tw (t : Tk) : Tk := ⟨2 * t.c, 2 * t.d, 2 * t.p⟩
theorem up_tw {x p : Nat} (h : 1 ≤ p) : up (2 * x) (2 * p) = up x p := by
  unfold up
  rw [show 2 * x + 2 * p - 1 = (2 * (x + p - 1) + 1) by omega, ← Nat.div_div_eq_div_mul, show (2 * (x + p - 1) + 1) / 2 = x + p - 1 by omega]
theorem W_tw {hp : List Tk} {c x : Nat} (h : ∀ t ∈ hp, 1 ≤ t.p) : W (hp.map tw) (2 * c) (2 * x) = 2 * W hp c x := by
  unfold W
  rw [List.map_map, Nat.mul_add, ← sm_map_mul]
  congr 1
  refine sm_map_eq fun t ht => ?_
  show up (2 * x) (2 * t.p) * (2 * t.c) = 2 * (up x t.p * t.c)
  rw [up_tw (h t ht), ← Nat.mul_assoc, Nat.mul_comm _ 2, Nat.mul_assoc]
theorem W_even {hp : List Tk} {c x : Nat} : W (hp.map tw) (2 * c) x % 2 = 0 := by
  unfold W
  rw [List.map_map, show sm (hp.map ((fun t => up x t.p * t.c) ∘ tw)) = 2 * sm (hp.map fun t => up x (2 * t.p) * t.c) from ?_]
  · omega
  · rw [← sm_map_mul]
    refine sm_map_eq fun t ht => ?_
    show up x (2 * t.p) * (2 * t.c) = _
    rw [← Nat.mul_assoc, Nat.mul_comm _ 2, Nat.mul_assoc]
theorem ans_tw {hp : List Tk} {t : Tk} (h : ∀ t ∈ hp, 1 ≤ t.p) : ans (hp.map tw) (tw t) = (ans hp t).map (2 * ·) := by
  cases e : ans hp t with
  | none =>
    refine ans_none.2 fun x hx => ?_
    have h0 := ans_none.1 e
    have e2 : x % 2 = 0 := by rw [← hx]; exact W_even
    obtain ⟨y, rfl⟩ : ∃ y, x = 2 * y := ⟨x / 2, by omega⟩
    have h1 := W_tw (hp := hp) (c := t.c) (x := y) h
    have := h0 y (by have : W (hp.map tw) (2 * t.c) (2 * y) = 2 * y := hx; omega)
    show 2 * t.d < 2 * y
    omega
  | some R =>
    obtain ⟨⟨h1, h2⟩, h3⟩ := ans_some.1 e
    refine ans_some.2 ⟨⟨?_, fun x hx => ?_⟩, ?_⟩
    · show W (hp.map tw) (2 * t.c) (2 * R) = 2 * R
      rw [W_tw h, h1]
    · have e2 : x % 2 = 0 := by rw [← hx]; exact W_even
      obtain ⟨y, rfl⟩ : ∃ y, x = 2 * y := ⟨x / 2, by omega⟩
      have h1 := W_tw (hp := hp) (c := t.c) (x := y) h
      have := h2 y (by have : W (hp.map tw) (2 * t.c) (2 * y) = 2 * y := hx; omega)
      show 2 * R ≤ 2 * y
      omega
    · show 2 * R ≤ 2 * t.d
      omega
/-! rounds -/
def rnd (ts : List Tk) : Nat := ts.foldl (fun f t => Nat.lcm f t.p) 1
theorem rnd_go_dvd {m : Nat} : ∀ {ts : List Tk} {f : Nat}, f ∣ m → (∀ t ∈ ts, t.p ∣ m) → ts.foldl (fun f t => Nat.lcm f t.p) f ∣ m
  | [], f, h, _ => h
  | t :: ts, f, h, hp => rnd_go_dvd (ts := ts) (Nat.lcm_dvd h (hp t List.mem_cons_self)) fun s hs => hp s (List.mem_cons_of_mem _ hs)
theorem rnd_dvd {ts : List Tk} {m : Nat} (h : ∀ t ∈ ts, t.p ∣ m) : rnd ts ∣ m := rnd_go_dvd (Nat.one_dvd _) h
theorem go_dvd_rnd : ∀ {ts : List Tk} {f : Nat}, f ∣ ts.foldl (fun f t => Nat.lcm f t.p) f ∧ ∀ t ∈ ts, t.p ∣ ts.foldl (fun f t => Nat.lcm f t.p) f
  | [], f => ⟨Nat.dvd_refl _, nofun⟩
  | t :: ts, f => by
    obtain ⟨h1, h2⟩ := go_dvd_rnd (ts := ts) (f := Nat.lcm f t.p)
    refine ⟨Nat.dvd_trans (Nat.dvd_lcm_left _ _) h1, fun s hs => ?_⟩
    rcases List.mem_cons.1 hs with rfl | hs
    · exact Nat.dvd_trans (Nat.dvd_lcm_right _ _) h1
    · exact h2 s hs
theorem dvd_rnd {ts : List Tk} {t : Tk} (h : t ∈ ts) : t.p ∣ rnd ts := go_dvd_rnd.2 t h
theorem rnd_sub {ts ts' : List Tk} (h : ∀ t ∈ ts, ∃ t' ∈ ts', t'.p = t.p) : rnd ts ∣ rnd ts' := rnd_dvd fun t ht => by
  obtain ⟨t', h1, h2⟩ := h t ht
  rw [← h2]
  exact dvd_rnd h1
theorem rnd_go_tw : ∀ {ts : List Tk} {f : Nat}, (ts.map tw).foldl (fun f t => Nat.lcm f t.p) (2 * f) = 2 * ts.foldl (fun f t => Nat.lcm f t.p) f
  | [], f => rfl
  | t :: ts, f => by
    show (ts.map tw).foldl _ (Nat.lcm (2 * f) (2 * t.p)) = _
    rw [Nat.lcm_mul_left]
    exact rnd_go_tw
theorem rnd_tw {ts : List Tk} (h : ts ≠ []) : rnd (ts.map tw) = 2 * rnd ts := by
  cases ts with
  | nil => exact absurd rfl h
  | cons t ts =>
    show (ts.map tw).foldl _ (Nat.lcm 1 (2 * t.p)) = 2 * ts.foldl _ (Nat.lcm 1 t.p)
    rw [Nat.lcm_one_left, Nat.lcm_one_left]
    exact rnd_go_tw
theorem rnd_24 {ts : List Tk} (h : Oks ts) : rnd ts ∣ 24 := rnd_dvd fun t ht => (h t ht).p24
theorem rnd_pos {ts : List Tk} (h : Oks ts) : 1 ≤ rnd ts ∧ rnd ts ≤ 24 := ⟨Nat.pos_of_dvd_of_pos (rnd_24 h) (by decide), Nat.le_of_dvd (by decide) (rnd_24 h)⟩
/-! wants -/
def wn (t : Tk) (m : Nat) : Nat := if t.d ≤ m then ((m - t.d) / t.p + 1) * t.c else 0
def wnt (ts : List Tk) (m : Nat) : Nat := sm (ts.map fun t => wn t m)
def mom1 (most : Nat) (t : Tk) : List Nat := (List.range ((most + t.p - t.d) / t.p)).map fun q => t.d + q * t.p
def mom (ts : List Tk) (most : Nat) : List Nat := ts.flatMap (mom1 most)
theorem mem_mom1 {t : Tk} {most x : Nat} (h : t.Ok) : x ∈ mom1 most t ↔ x ≤ most ∧ ∃ q, x = t.d + q * t.p := by
  have hp := h.c1; have h2 := h.cd; have h3 := h.dp
  simp only [mom1, List.mem_map, List.mem_range]
  constructor
  · rintro ⟨q, hq, rfl⟩
    have := (Nat.le_div_iff_mul_le (by omega : 0 < t.p)).1 (show q + 1 ≤ (most + t.p - t.d) / t.p from hq)
    rw [Nat.add_mul] at this
    exact ⟨by omega, q, rfl⟩
  · rintro ⟨hx, q, rfl⟩
    refine ⟨q, ?_, rfl⟩
    have := (Nat.le_div_iff_mul_le (by omega : 0 < t.p)).2 (show (q + 1) * t.p ≤ most + t.p - t.d by rw [Nat.add_mul]; omega)
    omega
theorem mem_mom {ts : List Tk} {most x : Nat} (h : Oks ts) : x ∈ mom ts most ↔ x ≤ most ∧ ∃ t ∈ ts, ∃ q, x = t.d + q * t.p := by
  rw [mom, List.mem_flatMap]
  constructor
  · rintro ⟨t, ht, hx⟩
    obtain ⟨h1, h2⟩ := (mem_mom1 (h t ht)).1 hx
    exact ⟨h1, t, ht, h2⟩
  · rintro ⟨h1, t, ht, h2⟩
    exact ⟨t, ht, (mem_mom1 (h t ht)).2 ⟨h1, h2⟩⟩
/-- every deadline up to a round can be kept -/
def okBD (ts : List Tk) : Prop := ∀ x ∈ mom ts (rnd ts), wnt ts x ≤ x
theorem okBD_sub {ts ts' : List Tk} (h : Oks ts) (hs : ts'.Sublist ts) (hb : okBD ts) : okBD ts' := by
  have h' : Oks ts' := fun t ht => h t (hs.subset ht)
  intro x hx
  obtain ⟨h1, t, ht, h2⟩ := (mem_mom h').1 hx
  have hr : rnd ts' ≤ rnd ts := Nat.le_of_dvd (rnd_pos h).1 (rnd_sub fun t ht => ⟨t, hs.subset ht, rfl⟩)
  have := hb x ((mem_mom h).2 ⟨by omega, t, hs.subset ht, h2⟩)
  have : wnt ts' x ≤ wnt ts x := sm_sub (hs.map _)
  omega
theorem wn_tw {t : Tk} {m : Nat} : wn (tw t) (2 * m) = 2 * wn t m := by
  unfold wn tw
  by_cases h : t.d ≤ m
  · rw [if_pos h, if_pos (show 2 * t.d ≤ 2 * m by omega)]
    show ((2 * m - 2 * t.d) / (2 * t.p) + 1) * (2 * t.c) = _
    rw [show 2 * m - 2 * t.d = 2 * (m - t.d) by omega, Nat.mul_div_mul_left _ _ (by decide), ← Nat.mul_assoc, Nat.mul_comm _ 2, Nat.mul_assoc]
  · rw [if_neg h, if_neg (show ¬ 2 * t.d ≤ 2 * m by omega)]
theorem okBD_tw {ts : List Tk} (h : Oks ts) (hn : ts ≠ []) (h2 : Oks (ts.map tw)) : okBD (ts.map tw) ↔ okBD ts := by
  have hw : ∀ x, wnt (ts.map tw) (2 * x) = 2 * wnt ts x := fun x => by
    unfold wnt
    rw [List.map_map, ← sm_map_mul]
    exact sm_map_eq fun t ht => wn_tw
  constructor
  · intro hb x hx
    obtain ⟨h1, t, ht, q, rfl⟩ := (mem_mom h).1 hx
    have := hb (2 * (t.d + q * t.p)) ((mem_mom h2).2 ⟨by rw [rnd_tw hn]; omega, tw t, List.mem_map_of_mem ht, q, by
      show _ = 2 * t.d + q * (2 * t.p)
      rw [Nat.mul_add, Nat.mul_left_comm]⟩)
    rw [hw] at this
    omega
  · intro hb x hx
    obtain ⟨h1, t', ht', q, rfl⟩ := (mem_mom h2).1 hx
    obtain ⟨t, ht, rfl⟩ := List.mem_map.1 ht'
    rw [rnd_tw hn] at h1
    have e : (tw t).d + q * (tw t).p = 2 * (t.d + q * t.p) := by
      show 2 * t.d + q * (2 * t.p) = _
      rw [Nat.mul_add, Nat.mul_left_comm]
    rw [e] at h1 ⊢
    have := hb (t.d + q * t.p) ((mem_mom h).2 ⟨by omega, t, ht, q, rfl⟩)
    rw [hw]
    omega
/-- beneath every moment stands a deadline where as much is wanted -/
theorem okBD_all {ts : List Tk} (h : Oks ts) (hb : okBD ts) {x : Nat} (hx : x ≤ rnd ts) : wnt ts x ≤ x := by
  induction x with
  | zero =>
    have : wnt ts 0 ≤ sm (ts.map fun _ => 0) := sm_map_le fun t ht => by
      have := (h t ht).c1; have := (h t ht).cd
      unfold wn
      rw [if_neg (by omega)]
      exact Nat.le_refl _
    have e : ∀ l : List Tk, sm (l.map fun _ => 0) = 0 := fun l => by induction l with
      | nil => rfl
      | cons _ _ ih => rw [List.map_cons, sm_cons, ih]
    rw [e] at this
    exact this
  | succ x ih =>
    by_cases z : x + 1 ∈ mom ts (rnd ts)
    · exact hb _ z
    · have i := ih (by omega)
      have : wnt ts (x + 1) = wnt ts x := sm_map_eq fun t ht => by
        have c1 := (h t ht).c1; have cd := (h t ht).cd; have dp := (h t ht).dp
        unfold wn
        by_cases y : t.d ≤ x
        · rw [if_pos y, if_pos (by omega), show x + 1 - t.d = (x - t.d) + 1 by omega, Nat.succ_div, if_neg, Nat.add_zero]
          · rintro ⟨q, hq⟩
            exact z ((mem_mom h).2 ⟨hx, t, ht, q, by rw [Nat.mul_comm q]; omega⟩)
        · by_cases y1 : t.d ≤ x + 1
          · exact absurd ((mem_mom h).2 ⟨hx, t, ht, 0, by omega⟩) z
          · rw [if_neg y, if_neg y1]
      omega
theorem okBD_long {ts ts' : List Tk} (h : Oks ts) (hb : okBD ts) (h' : Oks ts') (hr : rnd ts' = rnd ts) (hw : ∀ m, wnt ts' m ≤ wnt ts m) : okBD ts' := fun x hx => by
  have := ((mem_mom h').1 hx).1
  have := okBD_all h hb (x := x) (by omega)
  have := hw x
  omega
theorem wn_long {c d p m : Nat} (h1 : d ≤ p) : wn ⟨c, p, p⟩ m ≤ wn ⟨c, d, p⟩ m := by
  unfold wn
  show (if p ≤ m then _ else 0) ≤ if d ≤ m then _ else 0
  by_cases z : p ≤ m
  · rw [if_pos z, if_pos (by omega)]
    exact Nat.mul_le_mul_right _ (Nat.add_le_add_right (Nat.div_le_div_right (by show m - p ≤ m - d; omega)) 1)
  · rw [if_neg z]
    exact Nat.zero_le _
/-! what is wanted in a round -/
def tops (ts : List Tk) : Nat := sm (ts.map fun t => t.c * (rnd ts / t.p))
theorem wn_round {t : Tk} {m : Nat} (h : t.Ok) (hm : t.p ∣ m) (h0 : 1 ≤ m) : wn t m = t.c * (m / t.p) := by
  obtain ⟨q, rfl⟩ := hm
  have c1 := h.c1; have cd := h.cd; have dp := h.dp
  have q1 : 1 ≤ q := by
    rcases q with _ | q
    · omega
    · omega
  have : t.p * 1 ≤ t.p * q := Nat.mul_le_mul_left _ q1
  unfold wn
  rw [if_pos (by omega), Nat.mul_div_cancel_left _ (by omega), Nat.mul_comm t.c]
  congr 1
  obtain ⟨r, rfl⟩ : ∃ r, q = r + 1 := ⟨q - 1, by omega⟩
  congr 1
  rw [Nat.mul_add, Nat.mul_one, show t.p * r + t.p - t.d = (t.p - t.d) + t.p * r by omega, Nat.add_mul_div_left _ _ (by omega), Nat.div_eq_of_lt (by omega), Nat.zero_add]
theorem wnt_round {ts : List Tk} (h : Oks ts) : wnt ts (rnd ts) = tops ts := sm_map_eq fun t ht => wn_round (h t ht) (dvd_rnd ht) (rnd_pos h).1
theorem wnt_round2 {ts : List Tk} (h : Oks ts) : wnt ts (2 * rnd ts) = 2 * tops ts := by
  unfold tops
  rw [← sm_map_mul]
  refine sm_map_eq fun t ht => ?_
  have hd := dvd_rnd ht
  rw [wn_round (h t ht) (Nat.dvd_trans hd (Nat.dvd_mul_left _ _)) (by have := (rnd_pos h).1; omega), Nat.mul_div_assoc _ hd, Nat.mul_left_comm]
end K39
end

section
set_option Elab.async false
set_option linter.all false
set_option maxRecDepth 100000
namespace K39
open PySem PySem.Spec PyProof.Rows L2 QL
/-! the run, moment by moment -/
structure Sm where
  l : Nat → Nat
  u : Nat → Nat
def tk (ts : List Tk) (k : Nat) : Tk := ts.getD k ⟨1, 1, 1⟩
def rel (ts : List Tk) (m : Nat) (s : Sm) : Sm := ⟨fun k => if m % (tk ts k).p = 0 then (tk ts k).c else s.l k, fun k => if m % (tk ts k).p = 0 then m + (tk ts k).d else s.u k⟩
def ky (b : Bool) (s : Sm) (k : Nat) : Nat := if b = true then s.u k else 0
def pk (key l : Nat → Nat) : Nat → Option Nat
  | 0 => none
  | n + 1 => if 0 < l n then (match pk key l n with
    | none => some n
    | some j => if key n < key j then some n else some j) else pk key l n
theorem pk_none {key l : Nat → Nat} : ∀ {n : Nat}, pk key l n = none ↔ ∀ i < n, l i = 0
  | 0 => ⟨fun _ i h => absurd h (Nat.not_lt_zero _), fun _ => rfl⟩
  | n + 1 => by
    unfold pk
    by_cases z : 0 < l n
    · rw [if_pos z]
      constructor
      · intro h
        split at h
        · cases h
        · split at h <;> cases h
      · intro h
        have := h n (by omega)
        omega
    · rw [if_neg z, pk_none]
      constructor
      · intro h i hi
        by_cases q : i = n
        · subst q; omega
        · exact h i (by omega)
      · exact fun h i hi => h i (by omega)
theorem pk_some {key l : Nat → Nat} : ∀ {n j : Nat}, pk key l n = some j → j < n ∧ 0 < l j ∧ ∀ i < n, 0 < l i → key j < key i ∨ (key j = key i ∧ j ≤ i)
  | 0, j, h => by cases h
  | n + 1, j, h => by
    unfold pk at h
    by_cases z : 0 < l n
    · rw [if_pos z] at h
      split at h
      · rename_i e
        cases h
        refine ⟨by omega, z, fun i hi h0 => ?_⟩
        by_cases q : i = n
        · subst q; right; exact ⟨rfl, Nat.le_refl _⟩
        · have := pk_none.1 e i (by omega)
          omega
      · rename_i i e
        obtain ⟨h1, h2, h3⟩ := pk_some e
        split at h
        · cases h
          refine ⟨by omega, z, fun i2 hi h0 => ?_⟩
          by_cases q : i2 = n
          · subst q; right; exact ⟨rfl, Nat.le_refl _⟩
          · have := h3 i2 (by omega) h0
            omega
        · cases h
          refine ⟨by omega, h2, fun i2 hi h0 => ?_⟩
          by_cases q : i2 = n
          · subst q; omega
          · exact h3 i2 (by omega) h0
    · rw [if_neg z] at h
      obtain ⟨h1, h2, h3⟩ := pk_some h
      refine ⟨by omega, h2, fun i hi h0 => ?_⟩
      by_cases q : i = n
      · subst q; omega
      · exact h3 i (by omega) h0
theorem pk_congr {key l key' l' : Nat → Nat} : ∀ {n : Nat}, (∀ i < n, l' i = l i) → (∀ i < n, ∀ j < n, (key' i < key' j) = (key i < key j)) → pk key' l' n = pk key l n
  | 0, _, _ => rfl
  | n + 1, h, hk => by
    have ih := pk_congr (n := n) (fun i hi => h i (by omega)) fun i hi j hj => hk i (by omega) j (by omega)
    unfold pk
    rw [ih, h n (by omega)]
    cases e : pk key l n with
    | none => rfl
    | some j =>
      have := (pk_some e).1
      simp only [hk n (by omega) j (by omega)]
def pkS (n : Nat) (b : Bool) (r : Sm) : Option Nat := pk (ky b r) r.l n
def dec (r : Sm) : Option Nat → Sm
  | none => r
  | some j => ⟨fun k => if k = j then r.l k - 1 else r.l k, r.u⟩
def outO : Option Nat → Int
  | none => -1
  | some j => j
def stp (ts : List Tk) (b : Bool) (m : Nat) (s : Sm) : Sm := dec (rel ts m s) (pkS ts.length b (rel ts m s))
def sim (ts : List Tk) (b : Bool) : Nat → Sm
  | 0 => ⟨fun _ => 0, fun _ => 0⟩
  | m + 1 => stp ts b m (sim ts b m)
def pks (ts : List Tk) (b : Bool) (m : Nat) : Option Nat := pkS ts.length b (rel ts m (sim ts b m))
def row (ts : List Tk) (b : Bool) (m : Nat) : List Int := (List.range m).map fun x => outO (pks ts b x)
theorem row_succ {ts : List Tk} {b : Bool} {m : Nat} : row ts b (m + 1) = row ts b m ++ [outO (pks ts b m)] := by simp [row, List.range_succ]
theorem row_len {ts : List Tk} {b : Bool} {m : Nat} : (row ts b m).length = m := by simp [row]
def mis (ts : List Tk) (b : Bool) (m k : Nat) : Bool := decide (0 < (sim ts b m).l k) && decide ((sim ts b m).u k ≤ m)
def miss (ts : List Tk) (b : Bool) (m : Nat) : Option Nat := (List.range ts.length).find? (mis ts b m)
/-- none missed before `x` -/
def Cl (ts : List Tk) (b : Bool) (x : Nat) : Prop := ∀ y < x, ∀ k < ts.length, 0 < (sim ts b y).l k → y < (sim ts b y).u k
theorem miss_none {ts : List Tk} {b : Bool} {m : Nat} : miss ts b m = none ↔ ∀ k < ts.length, 0 < (sim ts b m).l k → m < (sim ts b m).u k := by
  unfold miss mis
  rw [List.find?_eq_none]
  constructor
  · intro h k hk h0
    have := h k (List.mem_range.2 hk)
    simp only [Bool.and_eq_true, decide_eq_true_eq, not_and] at this
    have := this h0
    omega
  · intro h k hk q
    simp only [Bool.and_eq_true, decide_eq_true_eq] at q
    have := h k (List.mem_range.1 hk) q.1
    omega
theorem Cl_iff {ts : List Tk} {b : Bool} {x : Nat} : Cl ts b x ↔ ∀ y < x, miss ts b y = none := ⟨fun h y hy => miss_none.2 (h y hy), fun h y hy => miss_none.1 (h y hy)⟩
theorem tk_ok {ts : List Tk} (h : Oks ts) {k : Nat} (hk : k < ts.length) : (tk ts k).Ok ∧ tk ts k ∈ ts := by
  unfold tk
  rw [List.getD_eq_getElem?_getD, List.getElem?_eq_getElem hk]
  exact ⟨h _ (List.getElem_mem hk), List.getElem_mem hk⟩
theorem tk_map {ts : List Tk} : (List.range ts.length).map (tk ts) = ts := by
  apply List.ext_getElem
  · simp
  · intro i h1 h2
    simp [tk, List.getElem?_eq_getElem h2]
theorem sm_tk {ts : List Tk} {g : Tk → Nat} : sm ((List.range ts.length).map fun k => g (tk ts k)) = sm (ts.map g) := by
  have := congrArg (List.map g) (tk_map (ts := ts))
  rw [List.map_map] at this
  rw [← this]
  rfl
section
variable {ts : List Tk} {b : Bool}
theorem dec_u {r : Sm} {o : Option Nat} : (dec r o).u = r.u := by cases o <;> rfl
theorem dec_le {r : Sm} {o : Option Nat} {k : Nat} : (dec r o).l k ≤ r.l k := by
  cases o with
  | none => exact Nat.le_refl _
  | some j =>
    show (if k = j then r.l k - 1 else r.l k) ≤ r.l k
    split <;> omega
theorem l_le (h : Oks ts) {k : Nat} (hk : k < ts.length) : ∀ {m : Nat}, (sim ts b m).l k ≤ (tk ts k).c
  | 0 => Nat.zero_le _
  | m + 1 => by
    refine Nat.le_trans dec_le ?_
    show (if _ then _ else _) ≤ _
    split
    · exact Nat.le_refl _
    · exact l_le h hk
theorem sub_div {x p : Nat} (hp : 1 ≤ p) (h : x % p ≠ 0) : (x - 1) / p = x / p := by
  have h1 : x ≠ 0 := fun z => h (by rw [z, Nat.zero_mod])
  obtain ⟨y, rfl⟩ : ∃ y, x = y + 1 := ⟨x - 1, by omega⟩
  rw [Nat.succ_div, if_neg fun z => h (Nat.mod_eq_zero_of_dvd z)]
  rfl
theorem u_eq (h : Oks ts) {k : Nat} (hk : k < ts.length) : ∀ {m : Nat}, (sim ts b (m + 1)).u k = (tk ts k).p * (m / (tk ts k).p) + (tk ts k).d := by
  have ok := (tk_ok h hk).1
  have c1 := ok.c1; have cd := ok.cd; have dp := ok.dp
  intro m
  induction m with
  | zero =>
    show (stp ts b 0 _).u k = _
    rw [stp, dec_u]
    show (if 0 % (tk ts k).p = 0 then 0 + (tk ts k).d else 0) = _
    rw [if_pos (Nat.zero_mod _), Nat.zero_div]
    rfl
  | succ m ih =>
    show (stp ts b (m + 1) (sim ts b (m + 1))).u k = _
    rw [stp, dec_u]
    show (if (m + 1) % _ = 0 then m + 1 + _ else (sim ts b (m + 1)).u k) = _
    split
    · rename_i z
      rw [Nat.mul_div_cancel' (Nat.dvd_of_mod_eq_zero z)]
    · rename_i z
      rw [ih, ← sub_div (by omega) z]
      rfl
/-- what is asked anew was done before -/
theorem rel0 (h : Oks ts) {x : Nat} (hc : Cl ts b (x + 1)) {k : Nat} (hk : k < ts.length) (hd : (tk ts k).p ∣ x) : (sim ts b x).l k = 0 := by
  have ok := (tk_ok h hk).1
  have c1 := ok.c1; have cd := ok.cd; have dp := ok.dp
  cases x with
  | zero => rfl
  | succ x =>
    apply Classical.byContradiction
    intro q
    have h1 := hc (x + 1) (by omega) k hk (by omega)
    rw [u_eq h hk] at h1
    obtain ⟨q, e⟩ := hd
    cases q with
    | zero => omega
    | succ q =>
      rw [Nat.mul_add, Nat.mul_one] at e
      have : (tk ts k).p * (x / (tk ts k).p) ≤ (tk ts k).p * q := by
        refine Nat.mul_le_mul_left _ ?_
        have : x / (tk ts k).p < q + 1 := (Nat.div_lt_iff_lt_mul (by omega)).2 (by rw [Nat.mul_comm, Nat.mul_add]; omega)
        omega
      omega
theorem up_succ {x p : Nat} (hp : 1 ≤ p) : up (x + 1) p = if x % p = 0 then up x p + 1 else up x p := by
  unfold up
  rw [show x + 1 + p - 1 = x + p by omega, Nat.add_div_right _ (by omega)]
  by_cases z : x % p = 0
  · rw [if_pos z]
    obtain ⟨q, rfl⟩ := Nat.dvd_of_mod_eq_zero z
    rw [Nat.mul_div_cancel_left _ (by omega), show p * q + p - 1 = (p - 1) + p * q by omega, Nat.add_mul_div_left _ _ (by omega), Nat.div_eq_of_lt (by omega)]
    omega
  · rw [if_neg z, ← sub_div hp z]
    have : x ≠ 0 := fun q => z (by rw [q, Nat.zero_mod])
    rw [show x + p - 1 = (x - 1) + p by omega, Nat.add_div_right _ (by omega)]
/-! how often each has run -/
def cnt (ts : List Tk) (b : Bool) (m k : Nat) : Nat := ((row ts b m).filter fun y => y == (k : Int)).length
def idl (ts : List Tk) (b : Bool) (m : Nat) : Nat := ((row ts b m).filter fun y => y == -1).length
theorem cnt_succ {m k : Nat} : cnt ts b (m + 1) k = cnt ts b m k + if pks ts b m = some k then 1 else 0 := by
  unfold cnt
  rw [row_succ, List.filter_append, List.length_append]
  congr 1
  cases e : pks ts b m with
  | none =>
    rw [if_neg nofun, List.filter_cons_of_neg]
    · rfl
    · show ¬ ((-1 : Int) == (k : Int)) = true
      rw [beq_iff_eq]; omega
  | some j =>
    by_cases z : j = k
    · subst z
      rw [if_pos rfl, List.filter_cons_of_pos]
      · rfl
      · show ((j : Int) == (j : Int)) = true
        rw [beq_iff_eq]
    · rw [if_neg (fun q => z (Option.some.inj q)), List.filter_cons_of_neg]
      · rfl
      · show ¬ ((j : Int) == (k : Int)) = true
        rw [beq_iff_eq]; omega
theorem idl_succ {m : Nat} : idl ts b (m + 1) = idl ts b m + if pks ts b m = none then 1 else 0 := by
  unfold idl
  rw [row_succ, List.filter_append, List.length_append]
  congr 1
  cases e : pks ts b m with
  | none =>
    rw [if_pos rfl, List.filter_cons_of_pos]
    · rfl
    · rfl
  | some j =>
    rw [if_neg nofun, List.filter_cons_of_neg]
    · rfl
    · show ¬ ((j : Int) == -1) = true
      rw [beq_iff_eq]; omega
theorem cnt_eq (h : Oks ts) {k : Nat} (hk : k < ts.length) : ∀ {x : Nat}, Cl ts b x → cnt ts b x k + (sim ts b x).l k = (tk ts k).c * up x (tk ts k).p := by
  have ok := (tk_ok h hk).1
  have c1 := ok.c1; have cd := ok.cd; have dp := ok.dp
  intro x
  induction x with
  | zero =>
    intro _
    show 0 + 0 = (tk ts k).c * up 0 (tk ts k).p
    unfold up
    rw [Nat.div_eq_of_lt (by omega)]
    rfl
  | succ x ih =>
    intro hc
    have i := ih fun y hy => hc y (by omega)
    rw [cnt_succ, up_succ (by omega)]
    show _ + _ + (dec (rel ts x (sim ts b x)) (pks ts b x)).l k = _
    have hr : cnt ts b x k + (rel ts x (sim ts b x)).l k = (tk ts k).c * if x % (tk ts k).p = 0 then up x (tk ts k).p + 1 else up x (tk ts k).p := by
      show _ + (if _ then _ else _) = _
      split
      · rename_i z
        rw [rel0 h hc hk (Nat.dvd_of_mod_eq_zero z)] at i
        rw [Nat.mul_add, Nat.mul_one, ← i]
        rfl
      · exact i
    rw [← hr]
    cases e : pks ts b x with
    | none => rw [if_neg nofun]; rfl
    | some j =>
      by_cases z : j = k
      · subst z
        have := (pk_some e).2.1
        rw [if_pos rfl]
        show _ + (if j = j then _ else _) = _
        rw [if_pos rfl]
        omega
      · rw [if_neg (fun q => z (Option.some.inj q))]
        show _ + (if k = j then _ else _) = _
        rw [if_neg (fun q => z q.symm)]
        rfl
theorem sm_one {f : Nat → Nat} {j : Nat} : ∀ {n : Nat}, sm ((List.range n).map fun k => f k + if some j = some k then 1 else 0) = sm ((List.range n).map f) + if j < n then 1 else 0
  | 0 => rfl
  | n + 1 => by
    rw [List.range_succ, List.map_append, List.map_append, sm_append, sm_append, sm_one (n := n)]
    simp only [List.map_cons, List.map_nil, sm_cons, sm_nil, Option.some.injEq]
    split <;> split <;> split <;> omega
theorem all_cnt : ∀ {m : Nat}, sm ((List.range ts.length).map (cnt ts b m)) + idl ts b m = m
  | 0 => by
    show sm ((List.range ts.length).map fun _ => 0) + 0 = 0
    have e : ∀ l : List Nat, sm (l.map fun _ => 0) = 0 := fun l => by induction l with
      | nil => rfl
      | cons _ _ ih => rw [List.map_cons, sm_cons, ih]
    rw [e]
  | m + 1 => by
    have ih := all_cnt (m := m)
    have e1 : sm ((List.range ts.length).map (cnt ts b (m + 1))) = sm ((List.range ts.length).map fun k => cnt ts b m k + if pks ts b m = some k then 1 else 0) := sm_map_eq fun k _ => cnt_succ
    rw [e1, idl_succ]
    cases e : pks ts b m with
    | none =>
      simp only [reduceCtorEq, if_false, Nat.add_zero, if_true]
      exact congrArg (· + 1) ih
    | some j =>
      have := (pk_some e).1
      rw [sm_one, if_pos this, if_neg nofun]
      omega
/-! one round -/
theorem l_round (h : Oks ts) (hc : Cl ts b (rnd ts + 1)) {k : Nat} (hk : k < ts.length) : (sim ts b (rnd ts)).l k = 0 := rel0 h hc hk (dvd_rnd (tk_ok h hk).2)
theorem up_mul {q p : Nat} (hp : 1 ≤ p) : up (p * q) p = q := by
  unfold up
  rw [show p * q + p - 1 = (p - 1) + p * q by omega, Nat.add_mul_div_left _ _ (by omega), Nat.div_eq_of_lt (by omega), Nat.zero_add]
theorem cnt_round (h : Oks ts) (hc : Cl ts b (rnd ts + 1)) {k : Nat} (hk : k < ts.length) : cnt ts b (rnd ts) k = (tk ts k).c * (rnd ts / (tk ts k).p) := by
  have ok := (tk_ok h hk).1
  have c1 := ok.c1; have cd := ok.cd; have dp := ok.dp
  have := cnt_eq h hk (b := b) (x := rnd ts) fun y hy => hc y (by omega)
  rw [l_round h hc hk] at this
  obtain ⟨q, e⟩ := dvd_rnd (tk_ok h hk).2
  rw [e] at this ⊢
  rw [up_mul (by omega)] at this
  rw [Nat.mul_div_cancel_left _ (by omega)]
  exact this
theorem idl_round (h : Oks ts) (hc : Cl ts b (rnd ts + 1)) : tops ts + idl ts b (rnd ts) = rnd ts := by
  have := all_cnt (ts := ts) (b := b) (m := rnd ts)
  rw [sm_map_eq (g := fun k => (tk ts k).c * (rnd ts / (tk ts k).p)) (fun k hk => cnt_round h hc (List.mem_range.1 hk)), sm_tk (g := fun t => t.c * (rnd ts / t.p))] at this
  exact this
/-- a second round is as the first -/
theorem shift (h : Oks ts) (hc : Cl ts b (rnd ts + 1)) : ∀ {x k : Nat}, k < ts.length → (sim ts b (rnd ts + x)).l k = (sim ts b x).l k ∧ (1 ≤ x → (sim ts b (rnd ts + x)).u k = rnd ts + (sim ts b x).u k)
  | 0, k, hk => ⟨l_round h hc hk, fun q => absurd q (by decide)⟩
  | x + 1, k, hk => by
    have ih : ∀ k < ts.length, _ := fun k hk => shift h hc (x := x) hk
    have hm : ∀ k < ts.length, (rnd ts + x) % (tk ts k).p = x % (tk ts k).p := fun k hk => by
      obtain ⟨q, e⟩ := dvd_rnd (tk_ok h hk).2
      rw [e, Nat.add_comm, Nat.add_mul_mod_self_left]
    have hl : ∀ k < ts.length, (rel ts (rnd ts + x) (sim ts b (rnd ts + x))).l k = (rel ts x (sim ts b x)).l k := fun k hk => by
      show (if _ then _ else _) = if _ then _ else _
      rw [hm k hk, (ih k hk).1]
    have hu : ∀ k < ts.length, (rel ts (rnd ts + x) (sim ts b (rnd ts + x))).u k = rnd ts + (rel ts x (sim ts b x)).u k := fun k hk => by
      show (if (rnd ts + x) % (tk ts k).p = 0 then rnd ts + x + (tk ts k).d else (sim ts b (rnd ts + x)).u k) = rnd ts + if x % (tk ts k).p = 0 then x + (tk ts k).d else (sim ts b x).u k
      rw [hm k hk]
      split
      · rw [Nat.add_assoc]
      · rename_i z
        exact (ih k hk).2 (Nat.pos_of_ne_zero fun q => z (by rw [q, Nat.zero_mod]))
    have hp : pks ts b (rnd ts + x) = pks ts b x := pk_congr hl fun i hi j hj => by
      unfold ky
      cases b
      · rfl
      · simp only [if_true]
        rw [hu i hi, hu j hj]
        exact propext ⟨fun q => by omega, fun q => by omega⟩
    show (dec (rel ts (rnd ts + x) (sim ts b (rnd ts + x))) (pks ts b (rnd ts + x))).l k = (dec (rel ts x (sim ts b x)) (pks ts b x)).l k ∧ (_ → (dec (rel ts (rnd ts + x) (sim ts b (rnd ts + x))) (pks ts b (rnd ts + x))).u k = _ + (dec (rel ts x (sim ts b x)) (pks ts b x)).u k)
    rw [hp, dec_u, dec_u]
    refine ⟨?_, fun _ => hu k hk⟩
    cases pks ts b x with
    | none => exact hl k hk
    | some j =>
      show (if _ then _ else _) = if _ then _ else _
      rw [hl k hk]
theorem pks_shift (h : Oks ts) (hc : Cl ts b (rnd ts + 1)) {x : Nat} : pks ts b (rnd ts + x) = pks ts b x := by
  have hm : ∀ k < ts.length, (rnd ts + x) % (tk ts k).p = x % (tk ts k).p := fun k hk => by
    obtain ⟨q, e⟩ := dvd_rnd (tk_ok h hk).2
    rw [e, Nat.add_comm, Nat.add_mul_mod_self_left]
  have hu : ∀ k < ts.length, (rel ts (rnd ts + x) (sim ts b (rnd ts + x))).u k = rnd ts + (rel ts x (sim ts b x)).u k := fun k hk => by
    show (if (rnd ts + x) % (tk ts k).p = 0 then rnd ts + x + (tk ts k).d else (sim ts b (rnd ts + x)).u k) = rnd ts + if x % (tk ts k).p = 0 then x + (tk ts k).d else (sim ts b x).u k
    rw [hm k hk]
    split
    · rw [Nat.add_assoc]
    · rename_i z
      exact (shift h hc hk).2 (Nat.pos_of_ne_zero fun q => z (by rw [q, Nat.zero_mod]))
  refine pk_congr (fun k hk => ?_) fun i hi j hj => ?_
  · show (if _ then _ else _) = if _ then _ else _
    rw [hm k hk, (shift h hc hk).1]
  · unfold ky
    cases b
    · rfl
    · simp only [if_true]
      rw [hu i hi, hu j hj]
      exact propext ⟨fun q => by omega, fun q => by omega⟩
theorem row_twice (h : Oks ts) (hc : Cl ts b (rnd ts + 1)) : row ts b (2 * rnd ts) = row ts b (rnd ts) ++ row ts b (rnd ts) := by
  unfold row
  rw [show 2 * rnd ts = rnd ts + rnd ts by omega, List.range_add, List.map_append, List.map_map]
  congr 1
  refine List.map_congr_left fun x _ => ?_
  show outO _ = outO _
  rw [pks_shift h hc]
theorem cl_twice (h : Oks ts) (hc : Cl ts b (rnd ts + 1)) : Cl ts b (2 * rnd ts + 1) := fun y hy k hk h0 => by
  by_cases z : y < rnd ts + 1
  · exact hc y z k hk h0
  · obtain ⟨x, rfl⟩ : ∃ x, y = rnd ts + x := ⟨y - rnd ts, by omega⟩
    obtain ⟨h1, h2⟩ := shift h hc (x := x) hk
    rw [h1] at h0
    rw [h2 (by omega)]
    have := hc x (by omega) k hk h0
    omega
/-- where none is missed no more is wanted than there is time -/
theorem wnt_le (h : Oks ts) {x : Nat} (hc : Cl ts b (x + 1)) : wnt ts x ≤ x := by
  have h1 := all_cnt (ts := ts) (b := b) (m := x)
  have h2 : wnt ts x ≤ sm ((List.range ts.length).map (cnt ts b x)) := by
    unfold wnt
    rw [← sm_tk (g := fun t => wn t x)]
    refine sm_map_le fun k hk => ?_
    have hk := List.mem_range.1 hk
    have ok := (tk_ok h hk).1
    have c1 := ok.c1; have cd := ok.cd; have dp := ok.dp
    have e := cnt_eq h hk (b := b) (x := x) fun y hy => hc y (by omega)
    have le := l_le h hk (b := b) (m := x)
    unfold wn
    split
    · rename_i hd
      cases x with
      | zero => omega
      | succ x =>
        have hu := u_eq h hk (b := b) (m := x)
        have hx := hc (x + 1) (by omega) k hk
        rw [hu] at hx
        rw [show up (x + 1) (tk ts k).p = x / (tk ts k).p + 1 from by unfold up; rw [show x + 1 + (tk ts k).p - 1 = x + (tk ts k).p by omega, Nat.add_div_right _ (by omega)]] at e
        rw [Nat.mul_add, Nat.mul_one] at e
        have hq : (x + 1 - (tk ts k).d) / (tk ts k).p ≤ x / (tk ts k).p := Nat.div_le_div_right (by omega)
        rw [Nat.add_mul, Nat.one_mul, Nat.mul_comm _ (tk ts k).c]
        by_cases z : (x + 1 - (tk ts k).d) / (tk ts k).p = x / (tk ts k).p
        · rw [z]
          have : ¬ 0 < (sim ts b (x + 1)).l k := fun q => by
            have q := hx q
            have := Nat.mul_div_le (x + 1 - (tk ts k).d) (tk ts k).p
            rw [z] at this
            omega
          omega
        · have : (tk ts k).c * ((x + 1 - (tk ts k).d) / (tk ts k).p + 1) ≤ (tk ts k).c * (x / (tk ts k).p) := Nat.mul_le_mul_left _ (by omega)
          rw [Nat.mul_add, Nat.mul_one] at this
          omega
    · exact Nat.zero_le _
  omega
end
end K39
end

section
set_option Elab.async false
set_option linter.all false
set_option maxRecDepth 100000
namespace K39
open PySem PySem.Spec PyProof.Rows L2 QL
theorem up_add {a b p : Nat} (hp : 1 ≤ p) : up (a + b) p ≤ up a p + up b p := by
  unfold up
  have h : ∀ x, p * ((x + p - 1) / p) ≥ x := fun x => by
    have h1 := Nat.div_add_mod (x + p - 1) p
    have h2 := Nat.mod_lt (x + p - 1) (show 0 < p by omega)
    omega
  have ha := h a; have hb := h b
  refine Nat.le_of_lt_succ ((Nat.div_lt_iff_lt_mul (by omega)).2 ?_)
  rw [Nat.succ_mul, Nat.mul_comm, Nat.mul_add]
  omega
theorem last_of (P : Nat → Prop) (h0 : P 0) : ∀ r, ∃ t, t ≤ r ∧ P t ∧ ∀ y, t < y → y ≤ r → ¬ P y
  | 0 => ⟨0, Nat.le_refl _, h0, fun y h1 h2 => by omega⟩
  | r + 1 => by
    by_cases z : P (r + 1)
    · exact ⟨r + 1, Nat.le_refl _, z, fun y h1 h2 => by omega⟩
    · obtain ⟨t, h1, h2, h3⟩ := last_of P h0 r
      refine ⟨t, by omega, h2, fun y h4 h5 => ?_⟩
      by_cases q : y = r + 1
      · subst q; exact z
      · exact h3 y h4 (by omega)
section
variable {ts : List Tk}
theorem take_tk {j : Nat} (h : j ≤ ts.length) : (List.range j).map (tk ts) = ts.take j := by
  conv => rhs; rw [← tk_map (ts := ts)]
  rw [← List.map_take, List.take_range, Nat.min_eq_left h]
theorem rel_pos (h : Oks ts) {b : Bool} {m k : Nat} (hk : k < ts.length) (h0 : 0 < (sim ts b m).l k) : 0 < (rel ts m (sim ts b m)).l k := by
  have := (tk_ok h hk).1.c1
  show 0 < if _ then _ else _
  split
  · omega
  · exact h0
theorem pks_le {m i : Nat} (hi : i < ts.length) (h : 0 < (rel ts m (sim ts false m)).l i) : ∃ i', pks ts false m = some i' ∧ i' ≤ i := by
  cases e : pks ts false m with
  | none =>
    have := pk_none.1 e i hi
    omega
  | some i' =>
    refine ⟨i', rfl, ?_⟩
    have := (pk_some e).2.2 i hi h
    rcases this with h | h
    · exact absurd h (Nat.lt_irrefl _)
    · exact h.2
theorem rta (h : Oks ts) (hR : ∀ j < ts.length, (ans (ts.take j) (tk ts j)).isSome = true) : ∀ m, Cl ts false m := by
  intro m
  induction m with
  | zero => exact fun y hy => absurd hy (Nat.not_lt_zero _)
  | succ m hc =>
    intro y hy j hj h0
    by_cases z : y < m
    · exact hc y z j hj h0
    have : y = m := by omega
    subst this
    clear z hy
    apply Classical.byContradiction
    intro hu
    cases y with
    | zero => exact absurd h0 (Nat.lt_irrefl _)
    | succ m =>
    rw [u_eq h hj] at hu
    have ok := (tk_ok h hj).1
    have c1 := ok.c1; have cd := ok.cd; have dp := ok.dp
    obtain ⟨R, hA⟩ := Option.isSome_iff_exists.1 (hR j hj)
    obtain ⟨⟨hW, _⟩, hRd⟩ := ans_some.1 hA
    obtain ⟨r, hr⟩ : ∃ r, r = (tk ts j).p * (m / (tk ts j).p) := ⟨_, rfl⟩
    rw [← hr] at hu
    have hrm : r ≤ m := by rw [hr]; exact Nat.mul_div_le _ _
    have hmr : m < r + (tk ts j).p := by
      have h1 := Nat.div_add_mod m (tk ts j).p
      have h2 := Nat.mod_lt m (show 0 < (tk ts j).p by omega)
      omega
    -- pending since the last asking
    have pend : ∀ d x, x + d = m + 1 → r < x → 0 < (sim ts false x).l j := by
      intro d
      induction d with
      | zero => intro x hx _; have : x = m + 1 := by omega
                subst this; exact h0
      | succ d ih =>
        intro x hx hr0
        have := ih (x + 1) (by omega) (by omega)
        have h1 : (sim ts false (x + 1)).l j ≤ (rel ts x (sim ts false x)).l j := dec_le
        have h2 : (rel ts x (sim ts false x)).l j = (sim ts false x).l j := by
          show (if _ then _ else _) = _
          rw [if_neg]
          intro q
          obtain ⟨q1, e⟩ := Nat.dvd_of_mod_eq_zero q
          have a1 : m / (tk ts j).p < q1 := by
            apply Classical.byContradiction
            intro z
            have := Nat.mul_le_mul_left (tk ts j).p (show q1 ≤ m / (tk ts j).p by omega)
            omega
          have a2 : (tk ts j).p * (m / (tk ts j).p + 1) ≤ (tk ts j).p * q1 := Nat.mul_le_mul_left _ a1
          rw [Nat.mul_add, ← hr] at a2
          omega
        omega
    obtain ⟨t0, ht, hP, hL⟩ := last_of (fun x => ∀ i < j, (sim ts false x).l i = 0) (fun i _ => rfl) r
    have early : ∀ y, t0 ≤ y → y < r → ∃ i, pks ts false y = some i ∧ i < j := fun y h1 h2 => by
      have := hL (y + 1) (by omega) (by omega)
      have ⟨i, hi, hp⟩ : ∃ i, i < j ∧ 0 < (sim ts false (y + 1)).l i := by
        apply Classical.byContradiction
        intro q
        refine this fun i hi => ?_
        apply Classical.byContradiction
        intro q2
        exact q ⟨i, hi, by omega⟩
      have h3 : (sim ts false (y + 1)).l i ≤ (rel ts y (sim ts false y)).l i := dec_le
      obtain ⟨i', e, hle⟩ := pks_le (ts := ts) (m := y) (i := i) (by omega) (by omega)
      exact ⟨i', e, by omega⟩
    have late : ∀ y, r ≤ y → y ≤ m → ∃ i, pks ts false y = some i ∧ i ≤ j := fun y h1 h2 => by
      refine pks_le hj ?_
      by_cases z : y = r
      · show 0 < if y % (tk ts j).p = 0 then (tk ts j).c else (sim ts false y).l j
        rw [if_pos (by rw [z, hr, Nat.mul_mod_right])]
        omega
      · exact rel_pos h hj (pend (m + 1 - y) y (by omega) (by omega))
    have cj : ∀ d, t0 + d ≤ r → cnt ts false (t0 + d) j = cnt ts false t0 j := by
      intro d
      induction d with
      | zero => intro _; rfl
      | succ d ih =>
        intro hd
        obtain ⟨i, e, hi⟩ := early (t0 + d) (by omega) (by omega)
        show cnt ts false (t0 + d + 1) j = _
        rw [cnt_succ, ih (by omega), e, if_neg]
        · rfl
        · intro q; cases q; exact absurd hi (Nat.lt_irrefl _)
    have G : ∀ d, t0 + d ≤ m + 1 → sm ((List.range (j + 1)).map (cnt ts false (t0 + d))) = sm ((List.range (j + 1)).map (cnt ts false t0)) + d := by
      intro d
      induction d with
      | zero => intro _; rfl
      | succ d ih =>
        intro hd
        have ⟨i, e, hi⟩ : ∃ i, pks ts false (t0 + d) = some i ∧ i ≤ j := by
          by_cases z : t0 + d < r
          · obtain ⟨i, e, hi⟩ := early (t0 + d) (by omega) z
            exact ⟨i, e, by omega⟩
          · exact late (t0 + d) (by omega) (by omega)
        have e1 : sm ((List.range (j + 1)).map (cnt ts false (t0 + (d + 1)))) = sm ((List.range (j + 1)).map fun k => cnt ts false (t0 + d) k + if some i = some k then 1 else 0) := sm_map_eq fun k _ => by
          show cnt ts false (t0 + d + 1) k = _
          rw [cnt_succ, e]
        rw [e1, sm_one, ih (by omega), if_pos (by omega)]
        omega
    have g := G R (by omega)
    rw [List.range_succ, List.map_append, List.map_append, sm_append, sm_append] at g
    simp only [List.map_cons, List.map_nil, sm_cons, sm_nil, Nat.add_zero] at g
    -- those before it
    have Cx : ∀ x, x ≤ m + 1 → Cl ts false x := fun x hx y hy => hc y (by omega)
    have A0 : sm ((List.range j).map (cnt ts false t0)) = sm ((List.range j).map fun i => (tk ts i).c * up t0 (tk ts i).p) := sm_map_eq fun i hi => by
      have hi := List.mem_range.1 hi
      have := cnt_eq h (k := i) (by omega) (Cx t0 (by omega))
      rw [hP i hi] at this
      exact this
    have A1 : sm ((List.range j).map (cnt ts false (t0 + R))) ≤ sm ((List.range j).map fun i => (tk ts i).c * up t0 (tk ts i).p + up R (tk ts i).p * (tk ts i).c) := sm_map_le fun i hi => by
      have hi := List.mem_range.1 hi
      have := cnt_eq h (k := i) (by omega) (Cx (t0 + R) (by omega))
      have o := (tk_ok h (k := i) (by omega)).1
      have c1 := o.c1; have cd := o.cd; have dp := o.dp
      have h1 := Nat.mul_le_mul_left (tk ts i).c (up_add (a := t0) (b := R) (p := (tk ts i).p) (by omega))
      rw [Nat.mul_add, Nat.mul_comm _ (up R _)] at h1
      omega
    have sadd : ∀ (f g : Nat → Nat) (l : List Nat), sm (l.map fun i => f i + g i) = sm (l.map f) + sm (l.map g) := fun f g l => by
      induction l with
      | nil => rfl
      | cons _ _ ih => simp only [List.map_cons, sm_cons]; rw [ih]; omega
    rw [sadd] at A1
    have A2 : sm ((List.range j).map fun i => up R (tk ts i).p * (tk ts i).c) = sm ((ts.take j).map fun t => up R t.p * t.c) := by
      rw [← take_tk (ts := ts) (j := j) (by omega), List.map_map]; rfl
    have hW' : (tk ts j).c + sm ((ts.take j).map fun t => up R t.p * t.c) = R := hW
    by_cases z : t0 + R ≤ r
    · rw [cj R z] at g
      omega
    · have e1 := cnt_eq h hj (Cx (t0 + R) (by omega))
      have e2 := cnt_eq h hj (Cx r (by omega))
      have h3 := rel0 h (Cx (r + 1) (by omega)) hj (by rw [hr]; exact Nat.dvd_mul_right _ _)
      rw [h3] at e2
      have e3 := cj (r - t0) (by omega)
      rw [show t0 + (r - t0) = r by omega] at e3
      have h4 := pend (m + 1 - (t0 + R)) (t0 + R) (by omega) (by omega)
      have h5 : up (t0 + R) (tk ts j).p = m / (tk ts j).p + 1 := by
        unfold up
        apply Nat.le_antisymm
        · refine Nat.le_of_lt_succ ((Nat.div_lt_iff_lt_mul (by omega)).2 ?_)
          rw [Nat.succ_mul, Nat.add_mul, Nat.mul_comm (m / _), ← hr]
          omega
        · refine (Nat.le_div_iff_mul_le (by omega)).2 ?_
          rw [Nat.add_mul, Nat.mul_comm (m / _), ← hr]
          omega
      have h6 : up r (tk ts j).p = m / (tk ts j).p := by rw [hr]; exact up_mul (by omega)
      rw [h5, Nat.mul_add] at e1
      rw [h6] at e2
      omega
/-! an order from the last -/
structure Rk (ts : List Tk) (o : List Nat) : Prop where
  perm : o.Perm (List.range ts.length)
  ok : ∀ j, (h : j < o.length) → (ans ((o.take j).map (tk ts)) (tk ts o[j])).isSome = true
theorem Rk.map_perm {o : List Nat} (h : Rk ts o) : (o.map (tk ts)).Perm ts := by
  have := h.perm.map (tk ts)
  rwa [tk_map] at this
theorem Rk.oks {o : List Nat} (h : Rk ts o) (hk : Oks ts) : Oks (o.map (tk ts)) := fun t ht => hk t (h.map_perm.mem_iff.1 ht)
theorem Rk.rnd {o : List Nat} (h : Rk ts o) : K39.rnd (o.map (tk ts)) = K39.rnd ts := Nat.dvd_antisymm (rnd_sub fun t ht => ⟨t, h.map_perm.mem_iff.1 ht, rfl⟩) (rnd_sub fun t ht => ⟨t, h.map_perm.mem_iff.2 ht, rfl⟩)
theorem Rk.all {o : List Nat} (h : Rk ts o) : ∀ j < (o.map (tk ts)).length, (ans ((o.map (tk ts)).take j) (tk (o.map (tk ts)) j)).isSome = true := fun j hj => by
  have hj' : j < o.length := by simpa using hj
  have := h.ok j hj'
  rw [← List.map_take]
  have e : tk (o.map (tk ts)) j = tk ts o[j] := by
    show List.getD _ _ _ = _
    rw [List.getD_eq_getElem?_getD, List.getElem?_map, List.getElem?_eq_getElem hj']
    rfl
  rw [e]
  exact this
theorem Rk.cl {o : List Nat} (h : Rk ts o) (hk : Oks ts) : ∀ m, Cl (o.map (tk ts)) false m := rta (h.oks hk) h.all
theorem Rk.bd {o : List Nat} (h : Rk ts o) (hk : Oks ts) : okBD ts := fun x _ => by
  have := wnt_le (h.oks hk) (h.cl hk (x + 1))
  have e : wnt ts x = wnt (o.map (tk ts)) x := sm_perm (h.map_perm.symm.map _)
  omega
/-- the places given from the last -/
structure Fl (ts : List Tk) (left found : List Nat) : Prop where
  left : left = (List.range ts.length).filter fun x => !found.contains x
  nd : found.Nodup
  lt : ∀ x ∈ found, x < ts.length
  ok : ∀ i, (h : i < found.length) → (ans (((List.range ts.length).filter fun x => !(found.take (i + 1)).contains x).map (tk ts)) (tk ts found[i])).isSome = true
theorem Fl.zero : Fl ts (List.range ts.length) [] := ⟨(List.filter_eq_self.2 fun _ _ => rfl).symm, List.nodup_nil, nofun, fun i h => absurd h (Nat.not_lt_zero _)⟩
theorem Fl.nodup {left found : List Nat} (h : Fl ts left found) : left.Nodup := by rw [h.left]; exact List.nodup_range.filter _
theorem Fl.next {left found : List Nat} {k : Nat} (h : Fl ts left found) (hk : k ∈ left) (hf : (ans ((left.filter fun x => x != k).map (tk ts)) (tk ts k)).isSome = true) : Fl ts (left.erase k) (found ++ [k]) := by
  have hk' : k < ts.length ∧ k ∉ found := by
    rw [h.left, List.mem_filter, List.mem_range] at hk
    simpa using hk
  have e : (left.filter fun x => x != k) = (List.range ts.length).filter fun x => !(found ++ [k]).contains x := by
    rw [h.left, List.filter_filter]
    refine List.filter_congr fun x _ => ?_
    rw [Bool.eq_iff_iff]
    simp only [Bool.and_eq_true, bne_iff_ne, ne_eq, Bool.not_eq_true', List.contains_eq_mem, decide_eq_false_iff_not, List.mem_append, List.mem_singleton, not_or]
    exact ⟨fun q => ⟨q.2, q.1⟩, fun q => ⟨q.2, q.1⟩⟩
  refine ⟨?_, ?_, ?_, ?_⟩
  · rw [h.nodup.erase_eq_filter, e]
  · rw [List.nodup_append]
    refine ⟨h.nd, by simp, fun a ha b hb => ?_⟩
    rw [List.mem_singleton] at hb
    subst hb
    rintro rfl
    exact hk'.2 ha
  · intro x hx
    rcases List.mem_append.1 hx with hx | hx
    · exact h.lt x hx
    · rw [List.mem_singleton] at hx
      subst hx
      exact hk'.1
  · intro i hi
    rw [List.length_append, List.length_singleton] at hi
    by_cases z : i < found.length
    · rw [List.getElem_append_left z, List.take_append_of_le_length (by omega)]
      exact h.ok i z
    · have : i = found.length := by omega
      subst this
      rw [List.getElem_append_right (Nat.le_refl _), List.take_of_length_le (by simp)]
      simp only [Nat.sub_self, List.getElem_cons_zero]
      rw [← e]
      exact hf
theorem Fl.done {found : List Nat} (h : Fl ts [] found) : Rk ts found.reverse := by
  have hm : ∀ x, x ∈ found ↔ x < ts.length := fun x => ⟨h.lt x, fun hx => by
    apply Classical.byContradiction
    intro q
    have : x ∈ (List.range ts.length).filter fun x => !found.contains x := List.mem_filter.2 ⟨List.mem_range.2 hx, by simpa using q⟩
    rw [← h.left] at this
    cases this⟩
  have hp : found.Perm (List.range ts.length) := (List.perm_ext_iff_of_nodup h.nd List.nodup_range).2 fun x => by rw [hm, List.mem_range]
  refine ⟨(List.reverse_perm _).trans hp, fun j hj => ?_⟩
  rw [List.length_reverse] at hj
  have := h.ok (found.length - 1 - j) (by omega)
  rw [List.getElem_reverse]
  rw [ans_eqv (hp := ((List.range ts.length).filter fun x => !(found.take (found.length - 1 - j + 1)).contains x).map (tk ts)) (t := tk ts found[found.length - 1 - j]) (fun x => ?_) rfl]
  · exact this
  · refine W_perm (List.Perm.map _ ?_)
    rw [List.take_reverse]
    refine (List.reverse_perm _).trans ((List.perm_ext_iff_of_nodup (h.nd.sublist (List.drop_sublist _ _)) (List.nodup_range.filter _)).2 fun x => ?_)
    have hs : x ∈ found ↔ x ∈ found.take (found.length - j) ∨ x ∈ found.drop (found.length - j) := by rw [← List.mem_append, List.take_append_drop]
    have hd := h.nd
    rw [← List.take_append_drop (found.length - j) found, List.nodup_append] at hd
    rw [List.mem_filter, List.mem_range, ← hm, hs, show found.length - 1 - j + 1 = found.length - j by omega]
    simp only [Bool.not_eq_true', List.contains_eq_mem, decide_eq_false_iff_not]
    constructor
    · intro q
      exact ⟨.inr q, fun q2 => hd.2.2 x q2 x q rfl⟩
    · rintro ⟨q | q, q2⟩
      · exact absurd q q2
      · exact q
end
end K39
end

section
set_option Elab.async false
set_option linter.all false
set_option maxRecDepth 100000
namespace K39
open PySem PySem.Spec PyProof.Rows L2 QL
/-- a loop that may leave the function -/
theorem for_exitG {b : D → En → Option En} {f : FS} (P : Nat → En → Prop) (Q : S → En → Prop) : ∀ (xs : List D) (k0 : Nat) (e : En), P k0 e →
    (∀ k x e, xs[k]? = some x → P (k0 + k) e → ∃ e1, b x e = some e1 ∧ ((∃ e2, (f e1 = some (.nx e2) ∨ f e1 = some (.ct e2)) ∧ P (k0 + k + 1) e2) ∨ ∃ v e2, f e1 = some (.rt v e2) ∧ Q v e2)) →
    (∃ e', forL b f xs e = some (.nx e') ∧ P (k0 + xs.length) e') ∨ ∃ v e', forL b f xs e = some (.rt v e') ∧ Q v e'
  | [], k0, e, h0, _ => .inl ⟨e, rfl, h0⟩
  | x :: xs, k0, e, h0, st => by
    obtain ⟨e1, h1, h2⟩ := st 0 x e rfl h0
    rw [forL_cons, h1, forK_some]
    rcases h2 with ⟨e2, h2, h3⟩ | ⟨v, e2, h2, h3⟩
    · have ih := for_exitG P Q xs (k0 + 1) e2 h3 fun k x e hk hp => by
        have := st (k + 1) x e (by simpa using hk) (by rwa [show k0 + (k + 1) = k0 + 1 + k by omega])
        rwa [show k0 + (k + 1) + 1 = k0 + 1 + k + 1 by omega] at this
      have e : whileK (forL b f xs) (f e1) = forL b f xs e2 := by rcases h2 with h2 | h2 <;> rw [h2] <;> rfl
      rw [e, show k0 + (x :: xs).length = k0 + 1 + xs.length by simp; omega]
      exact ih
    · rw [h2]
      exact .inr ⟨v, e2, rfl, h3⟩
theorem for_exit {b : D → En → Option En} {f : FS} {xs : List D} {e : En} (P : Nat → En → Prop) (Q : S → En → Prop) (h0 : P 0 e)
    (st : ∀ k x e, xs[k]? = some x → P k e → ∃ e1, b x e = some e1 ∧ ((∃ e2, (f e1 = some (.nx e2) ∨ f e1 = some (.ct e2)) ∧ P (k + 1) e2) ∨ ∃ v e2, f e1 = some (.rt v e2) ∧ Q v e2)) :
    (∃ e', forL b f xs e = some (.nx e') ∧ P xs.length e') ∨ ∃ v e', forL b f xs e = some (.rt v e') ∧ Q v e' := by
  have := for_exitG P Q xs 0 e h0 fun k x e hk hp => by simpa using st k x e hk (by simpa using hp)
  simpa using this
theorem while_exitG {tc : Fn1 Bool} {f : FS} (P : Nat → En → Prop) (Qn : En → Prop) (Q : S → En → Prop)
    (h : ∀ m e, P m e → (∃ e', tc e = some (false, e') ∧ Qn e') ∨ ∃ e', tc e = some (true, e') ∧ ((∃ e'' m', (f e' = some (.nx e'') ∨ f e' = some (.ct e'')) ∧ m' < m ∧ P m' e'') ∨ ∃ v e'', f e' = some (.rt v e'') ∧ Q v e'')) :
    ∀ fuel m e, m < fuel → P m e → (∃ e', whileN tc f fuel e = some (.nx e') ∧ Qn e') ∨ ∃ v e', whileN tc f fuel e = some (.rt v e') ∧ Q v e'
  | 0, m, e, hf, _ => absurd hf (by omega)
  | n + 1, m, e, hf, hp => by
    have u : whileN tc f (n + 1) e = bndS (tc e) (whileT (whileN tc f n) f) := rfl
    rcases h m e hp with ⟨e', h1, h2⟩ | ⟨e', h1, ⟨e'', m', h2, h3, h4⟩ | ⟨v, e'', h2, h3⟩⟩
    · exact .inl ⟨e', by rw [u, h1]; rfl, h2⟩
    · have ih := while_exitG P Qn Q h n m' e'' (by omega) h4
      have e : whileN tc f (n + 1) e = whileN tc f n e'' := by
        rw [u, h1, bndS_some, whileT_ap, if_pos rfl]
        rcases h2 with h2 | h2 <;> rw [h2] <;> rfl
      rw [e]
      exact ih
    · exact .inr ⟨v, e'', by rw [u, h1, bndS_some, whileT_ap, if_pos rfl, h2]; rfl, h3⟩
theorem while_exit {tc : Fn1 Bool} {f : FS} {e : En} (P : Nat → En → Prop) (Qn : En → Prop) (Q : S → En → Prop) (m : Nat) (hm : m < 100000) (h0 : P m e)
    (h : ∀ m e, P m e → (∃ e', tc e = some (false, e') ∧ Qn e') ∨ ∃ e', tc e = some (true, e') ∧ ((∃ e'' m', (f e' = some (.nx e'') ∨ f e' = some (.ct e'')) ∧ m' < m ∧ P m' e'') ∨ ∃ v e'', f e' = some (.rt v e'') ∧ Q v e'')) :
    (∃ e', whileN tc f (fuel0 e) e = some (.nx e') ∧ Qn e') ∨ ∃ v e', whileN tc f (fuel0 e) e = some (.rt v e') ∧ Q v e' := while_exitG P Qn Q h 100000 m e hm h0
theorem smallT {n : Nat} (h : n ≤ 1000) : n ≤ sizeLine := sizeLine_ge (by omega)
/-- a whole number that is no less than nought -/
abbrev I (n : Nat) : D := .int (n : Int)
theorem f_gcd {a b : Nat} (hb : b < 100000) : fn_gcd [.d (I a), .d (I b)] = some (.d (I (Nat.gcd a b)), [.d (I a), .d (I b)]) := by
  simp only [fn_gcd, mkFn, b_gcd, A_gcd]
  have : ∃ e', whileN wt1_gcd lb1_gcd (fuel0 [some (.d (I a)), some (.d (I b))]) [some (.d (I a)), some (.d (I b))] = some (.nx e') ∧ e' = [some (.d (I (Nat.gcd a b))), some (.d (I 0))] := by
    refine while0 (fun m e => ∃ a' : Nat, Nat.gcd a' m = Nat.gcd a b ∧ e = [some (.d (I a')), some (.d (I m))]) _ b hb ⟨a, rfl, rfl⟩ ?_
    rintro m e ⟨a', hg, rfl⟩
    by_cases z : m = 0
    · left
      subst z
      refine ⟨_, by simp [wt1_gcd]; rfl, ?_⟩
      rw [← hg, Nat.gcd_zero_right]
    · right
      have z' : 0 < m := by omega
      refine ⟨[some (.d (I a')), some (.d (I m))], [some (.d (I m)), some (.d (I (a' % m)))], a' % m, ?_, ?_, Nat.mod_lt _ (by omega), m, ?_, rfl⟩
      · simp [wt1_gcd, z]
      · simp [lb1_gcd, z']
      · rw [← hg, Nat.gcd_comm, ← Nat.gcd_rec, Nat.gcd_comm]
  obtain ⟨e', h1, rfl⟩ := this
  simp [h1]
structure TsOk (ts : List Tk) : Prop where
  ok : Oks ts
  n1 : 1 ≤ ts.length
  n5 : ts.length ≤ 5
abbrev TD (ts : List Tk) : D := .tup (ts.map Tk.D)
theorem ts_at {ts : List Tk} {k : Nat} {x : D} (h : (ts.map Tk.D)[k]? = some x) : ∃ t, ts[k]? = some t ∧ x = t.D := by
  rw [List.getElem?_map] at h
  cases e : ts[k]? with
  | none => rw [e] at h; cases h
  | some t => rw [e] at h; cases h; exact ⟨t, rfl, rfl⟩
theorem mem_at {ts : List Tk} {k : Nat} {t : Tk} (h : ts[k]? = some t) : t ∈ ts := List.mem_of_getElem? h
theorem f_check {ts : List Tk} (h : TsOk ts) : fn_check [.d (TD ts)] = some (.d .non, [.d (TD ts)]) := by
  simp only [fn_check, mkFn, b_check, A_check]
  have : ∃ e', forL (bTup 3 (bCons (bName 1) (bCons (bName 2) (bCons (bName 3) bNil)))) lb1_check (ts.map Tk.D) [some (.d (TD ts)), none, none, none] = some (.nx e') ∧ ∃ o1 o2 o3, e' = [some (.d (TD ts)), o1, o2, o3] := by
    refine for_list (fun k e => ∃ o1 o2 o3, e = [some (.d (TD ts)), o1, o2, o3]) ⟨_, _, _, rfl⟩ ?_
    rintro k x e hx ⟨o1, o2, o3, rfl⟩
    obtain ⟨t, ht, rfl⟩ := ts_at hx
    have ok := h.ok t (mem_at ht)
    have h1 : (1 : Int) ≤ t.c := by have := ok.c1; omega
    have h2 : (t.c : Int) ≤ t.d := by have := ok.cd; omega
    have h3 : (t.d : Int) ≤ t.p := by have := ok.dp; omega
    have h4 : (t.p : Int) ≤ 12 := by have := ok.p12; omega
    obtain ⟨c, d, p⟩ := t
    simp [lb1_check, Tk.D, h1, h2, h3, h4]
  obtain ⟨e', h1, o1, o2, o3, rfl⟩ := this
  have n1 : (1 : Int) ≤ ts.length := by have := h.n1; omega
  have n5 : (ts.length : Int) ≤ 5 := by have := h.n5; omega
  simp [h1, n1, n5]
theorem f_round_of {ts : List Tk} (h : TsOk ts) : fn_round_of [.d (TD ts)] = some (.d (I (rnd ts)), [.d (TD ts)]) := by
  simp only [fn_round_of, mkFn, b_round_of, A_round_of]
  have hG := @f_gcd
  have : ∃ e', forL (bTup 3 (bCons (bName 2) (bCons (bName 2) (bCons (bName 3) bNil)))) lb1_round_of (ts.map Tk.D) [some (.d (TD ts)), some (.d (.int 1)), none, none] = some (.nx e') ∧ ∃ o2 o3, e' = [some (.d (TD ts)), some (.d (I (rnd ts))), o2, o3] := by
    have := for_list (b := bTup 3 (bCons (bName 2) (bCons (bName 2) (bCons (bName 3) bNil)))) (f := lb1_round_of) (xs := ts.map Tk.D) (e := [some (.d (TD ts)), some (.d (.int 1)), none, none])
      (fun k e => ∃ o2 o3, e = [some (.d (TD ts)), some (.d (I (rnd (ts.take k)))), o2, o3]) ⟨none, none, rfl⟩ ?_
    · obtain ⟨e', h1, o2, o3, rfl⟩ := this
      refine ⟨_, h1, o2, o3, ?_⟩
      rw [List.length_map, List.take_length]
    · rintro k x e hx ⟨o2, o3, rfl⟩
      obtain ⟨t, ht, rfl⟩ := ts_at hx
      have ok := h.ok t (mem_at ht)
      have hk : k < ts.length := (List.getElem?_eq_some_iff.1 ht).1
      have hr := rnd_pos (ts := ts.take k) fun t ht => h.ok t (List.mem_of_mem_take ht)
      have er : rnd (ts.take (k + 1)) = Nat.lcm (rnd (ts.take k)) t.p := by
        unfold rnd
        rw [List.take_add_one, ht, List.foldl_append]
        rfl
      obtain ⟨c, d, p⟩ := t
      have hp : p ≤ 12 := ok.p12
      have g := hG (a := rnd (ts.take k)) (b := p) (by omega)
      have hg : 1 ≤ Nat.gcd (rnd (ts.take k)) p := Nat.gcd_pos_of_pos_left _ hr.1
      have hg2 : Nat.gcd (rnd (ts.take k)) p ≤ 24 := Nat.le_trans (Nat.gcd_le_left _ hr.1) hr.2
      rw [er, Nat.lcm]
      unfold lb1_round_of
      generalize fn_gcd = F at *
      generalize hq : Nat.gcd (rnd (ts.take k)) p = q at *
      generalize rnd (ts.take k) = r at *
      have m : mulC (r : Int) (p : Int) = true := mulC_of (by omega) (by omega) (by omega) (by omega)
      have dv : ∀ n, divC n (q : Int) = true := fun n => divC_of (by omega) (by omega)
      have em : oMulA (.d (I r)) (.d (I p)) = some (.d (.int ((r : Int) * p))) := by simp [oMulA, m]
      simp -implicitDefEqProofs [Tk.D, g, em, dv]
  obtain ⟨e', h1, o2, o3, rfl⟩ := this
  simp [h1]
end K39
end

section
set_option Elab.async false
set_option linter.all false
set_option maxRecDepth 100000
namespace K39
open PySem PySem.Spec PyProof.Rows L2 QL
theorem sm_cast : ∀ {l : List Nat}, ((sm l : Nat) : Int) = (l.map fun x : Nat => (x : Int)).sum
  | [] => rfl
  | x :: l => by rw [sm_cons, List.map_cons, List.sum_cons, ← sm_cast]; rfl
theorem oSum_ints {l : List Int} : oSum [.m (.lst (l.map D.int))] = some (.d (.int l.sum)) := by simp [oSum, intsOp]
theorem tops_le {ts : List Tk} (h : TsOk ts) : tops ts ≤ 2000 := by
  have h1 : tops ts ≤ sm (ts.map fun _ => 288) := sm_map_le fun t ht => by
    have ok := h.ok t ht
    have : rnd ts / t.p ≤ 24 := Nat.le_trans (Nat.div_le_self _ _) (rnd_pos h.ok).2
    have hc : t.c ≤ 12 := by have := ok.cd; have := ok.dp; have := ok.p12; omega
    exact Nat.mul_le_mul hc this
  have e : ∀ l : List Tk, sm (l.map fun _ => 288) = 288 * l.length := fun l => by induction l with
    | nil => rfl
    | cons _ _ ih => rw [List.map_cons, sm_cons, ih, List.length_cons]; omega
  rw [e] at h1
  have := h.n5
  omega
def gg (ts : List Tk) : Nat := Nat.gcd (tops ts) (rnd ts)
theorem gg_pos {ts : List Tk} (h : TsOk ts) : 1 ≤ gg ts ∧ gg ts ≤ 24 := ⟨Nat.gcd_pos_of_pos_right _ (rnd_pos h.ok).1, Nat.le_trans (Nat.gcd_le_right _ (rnd_pos h.ok).1) (rnd_pos h.ok).2⟩
def shr (w : Int) : D → D := fun x => match x with
  | .tup [.int c, _, .int p] => .int (c * (w / p))
  | _ => .non
abbrev E7 (ts : List Tk) (w : Nat) : En := [some (.d (TD ts)), some (.d (I w)), none, none, none, none, none]
theorem f_share {ts : List Tk} (h : TsOk ts) : fn_share [.d (TD ts)] = some (.d (.tup [I (tops ts / gg ts), I (rnd ts / gg ts)]), [.d (TD ts)]) := by
  simp only [fn_share, mkFn, b_share, A_share]
  have hC := f_check h
  have hR := f_round_of h
  have hr := rnd_pos h.ok
  have hG := f_gcd (a := tops ts) (b := rnd ts) (by omega)
  have hg := gg_pos h
  have hL : lcL [4, 5, 6] (bTup 3 (bCons (bName 4) (bCons (bName 5) (bCons (bName 6) bNil)))) fYes ce1_share (ts.map Tk.D) [] (E7 ts (rnd ts)) = some (.val (.m (.lst ((ts.map Tk.D).map (shr (rnd ts))))), E7 ts (rnd ts)) := by
    refine lc_map (shr (rnd ts)) fun x hx => ?_
    obtain ⟨t, ht, rfl⟩ := List.mem_map.1 hx
    have ok := h.ok t ht
    obtain ⟨c, d, p⟩ := t
    have c1 : 1 ≤ c := ok.c1; have cd : c ≤ d := ok.cd; have dp : d ≤ p := ok.dp; have hp : p ≤ 12 := ok.p12
    have dv : ∀ n, divC n (p : Int) = true := fun n => divC_of (by omega) (by omega)
    have hq : rnd ts / p ≤ 24 := Nat.le_trans (Nat.div_le_self _ _) hr.2
    have m : mulC (c : Int) ((rnd ts : Int) / p) = true := by
      have e : ((rnd ts : Int) / (p : Int)) = ((rnd ts / p : Nat) : Int) := rfl
      obtain ⟨q, hqe⟩ : ∃ q, q = rnd ts / p := ⟨_, rfl⟩
      rw [← hqe] at hq
      rw [e, ← hqe]
      exact mulC_of (by omega) (by omega) (by omega) (by omega)
    have em : oMulA (.d (I c)) (.d (.int ((rnd ts : Int) / p))) = some (.d (.int ((c : Int) * ((rnd ts : Int) / p)))) := by simp [oMulA, m]
    simp -implicitDefEqProofs [lcOne, ce1_share, Tk.D, dv, em, shr]
  have e2 : (ts.map Tk.D).map (shr (rnd ts)) = ((ts.map fun t => t.c * (rnd ts / t.p)).map fun x : Nat => (x : Int)).map D.int := by
    rw [List.map_map, List.map_map, List.map_map]
    rfl
  have hS : oSum [.m (.lst ((ts.map Tk.D).map (shr (rnd ts))))] = some (.d (I (tops ts))) := by
    rw [e2]
    unfold tops I
    rw [sm_cast]
    exact oSum_ints
  have z2 : 2 ≤ sizeLine := smallT (by decide)
  have zl : ts.length ≤ sizeLine := smallT (by have := h.n5; omega)
  have dv : ∀ n, divC n (gg ts : Int) = true := fun n => divC_of (by omega) (by omega)
  have hGd : Nat.gcd (tops ts) (rnd ts) = gg ts := rfl
  rw [hGd] at hG
  generalize fn_check = F at *
  generalize fn_round_of = F1 at *
  generalize fn_gcd = F2 at *
  generalize ce1_share = F3 at *
  generalize (ts.map Tk.D).map (shr (rnd ts)) = L at *
  generalize tops ts = a at *
  generalize rnd ts = b at *
  generalize gg ts = g at *
  simp -implicitDefEqProofs [hC, hR, hL, hS, hG, dv, z2, zl]
end K39
end

section
set_option Elab.async false
set_option linter.all false
set_option maxRecDepth 100000
namespace K39
open PySem PySem.Spec PyProof.Rows L2 QL
theorem take_one {ts : List Tk} {k : Nat} {t : Tk} (h : ts[k]? = some t) : ts.take (k + 1) = ts.take k ++ [t] := by rw [List.take_add_one, h]; rfl
theorem tk_at {ts : List Tk} {k : Nat} (h : k < ts.length) : ts[k]? = some (tk ts k) := by unfold tk; rw [List.getD_eq_getElem?_getD, List.getElem?_eq_getElem h]; rfl
theorem emul {x y : Int} (h1 : -(2 ^ 200) < x) (h2 : x < 2 ^ 200) (h3 : -(2 ^ 200) < y) (h4 : y < 2 ^ 200) : oMulA (.d (.int x)) (.d (.int y)) = some (.d (.int (x * y))) := by simp [oMulA, mulC_of h1 h2 h3 h4]
theorem f_wanted {ts : List Tk} (h : TsOk ts) {m : Nat} (hm : m ≤ 5000) : fn_wanted [.d (TD ts), .d (I m)] = some (.d (I (wnt ts m)), [.d (TD ts), .d (I m)]) := by
  simp only [fn_wanted, mkFn, b_wanted, A_wanted]
  have hC := f_check h
  have : ∃ e', forL (bTup 3 (bCons (bName 3) (bCons (bName 4) (bCons (bName 5) bNil)))) lb1_wanted (ts.map Tk.D) [some (.d (TD ts)), some (.d (I m)), some (.d (.int 0)), none, none, none] = some (.nx e') ∧ ∃ o3 o4 o5, e' = [some (.d (TD ts)), some (.d (I m)), some (.d (I (wnt ts m))), o3, o4, o5] := by
    have := for_list (b := bTup 3 (bCons (bName 3) (bCons (bName 4) (bCons (bName 5) bNil)))) (f := lb1_wanted) (xs := ts.map Tk.D) (e := [some (.d (TD ts)), some (.d (I m)), some (.d (.int 0)), none, none, none])
      (fun k e => ∃ o3 o4 o5, e = [some (.d (TD ts)), some (.d (I m)), some (.d (I (wnt (ts.take k) m))), o3, o4, o5]) ⟨none, none, none, rfl⟩ ?_
    · obtain ⟨e', h1, o3, o4, o5, rfl⟩ := this
      refine ⟨_, h1, o3, o4, o5, ?_⟩
      rw [List.length_map, List.take_length]
    · rintro k x e hx ⟨o3, o4, o5, rfl⟩
      obtain ⟨t, ht, rfl⟩ := ts_at hx
      have ok := h.ok t (mem_at ht)
      have ew : wnt (ts.take (k + 1)) m = wnt (ts.take k) m + wn t m := by
        rw [take_one ht, wnt, List.map_append, sm_append]
        rfl
      rw [ew]
      obtain ⟨c, d, p⟩ := t
      have c1 : 1 ≤ c := ok.c1; have cd : c ≤ d := ok.cd; have dp : d ≤ p := ok.dp; have hp : p ≤ 12 := ok.p12
      have dv : ∀ n, divC n (p : Int) = true := fun n => divC_of (by omega) (by omega)
      generalize wnt (ts.take k) m = w at *
      by_cases z : d ≤ m
      · have e1 : (m : Int) - (d : Int) = ((m - d : Nat) : Int) := by omega
        have hq : (m - d) / p ≤ 5000 := Nat.le_trans (Nat.div_le_self _ _) (by omega)
        have e2 : ((m - d : Nat) : Int) / (p : Int) = (((m - d) / p : Nat) : Int) := rfl
        have ev : wn ⟨c, d, p⟩ m = ((m - d) / p + 1) * c := if_pos z
        rw [ev]
        generalize (m - d) / p = q at *
        have em := emul (x := ((q : Int) + 1)) (y := (c : Int)) (by omega) (by omega) (by omega) (by omega)
        simp -implicitDefEqProofs [lb1_wanted, Tk.D, z, e1, e2, dv, em]
      · have ev : wn ⟨c, d, p⟩ m = 0 := if_neg z
        rw [ev]
        simp -implicitDefEqProofs [lb1_wanted, Tk.D, z]
  obtain ⟨e', h1, o3, o4, o5, rfl⟩ := this
  generalize fn_check = F at *
  simp -implicitDefEqProofs [hC, h1]
def oD : Option Nat → D
  | some x => I x
  | none => .non
theorem f_answer_of {ts : List Tk} (h : Oks ts) (hn : ts.length ≤ 5) {k : Nat} (hk : k < ts.length) : fn_answer_of [.d (TD ts), .d (I k)] = some (.d (oD (ans (ts.take k) (tk ts k))), [.d (TD ts), .d (I k)]) := by
  simp only [fn_answer_of, mkFn, b_answer_of, A_answer_of]
  have hat : (ts.map Tk.D)[k]? = some (tk ts k).D := by rw [List.getElem?_map, tk_at hk]; rfl
  have ok := (tk_ok h hk).1
  have hcut : QL.cutD (ts.map Tk.D) none (some (k : Int)) = (ts.take k).map Tk.D := by rw [cutD_to (by simp; omega), List.map_take]
  obtain ⟨c, d, p, ht⟩ : ∃ c d p, tk ts k = ⟨c, d, p⟩ := ⟨_, _, _, rfl⟩
  rw [ht] at hat ok ⊢
  have c1 : 1 ≤ c := ok.c1; have cd : c ≤ d := ok.cd; have dp : d ≤ p := ok.dp; have hp : p ≤ 12 := ok.p12
  have hO : Oks (ts.take k) := fun t ht => h t (List.mem_of_mem_take ht)
  have hl : (ts.take k).length ≤ 5 := by simp; omega
  generalize ts.take k = hs at *
  unfold TD
  generalize ts.map Tk.D = L at *
  have inner : ∀ (now : Nat) (o4 o5 o6 : Option S), now ≤ 12 → ∃ e', forL (bTup 3 (bCons (bName 4) (bCons (bName 5) (bCons (bName 6) bNil)))) lb2_answer_of (hs.map Tk.D) [some (.d (.tup L)), some (.d (I k)), some (.d (I now)), some (.d (I c)), o4, o5, o6] = some (.nx e') ∧ ∃ o4 o5 o6, e' = [some (.d (.tup L)), some (.d (I k)), some (.d (I now)), some (.d (I (W hs c now))), o4, o5, o6] := by
    intro now o4 o5 o6 hnow
    have := for_list (b := bTup 3 (bCons (bName 4) (bCons (bName 5) (bCons (bName 6) bNil)))) (f := lb2_answer_of) (xs := hs.map Tk.D) (e := [some (.d (.tup L)), some (.d (I k)), some (.d (I now)), some (.d (I c)), o4, o5, o6])
      (fun j e => ∃ o4 o5 o6, e = [some (.d (.tup L)), some (.d (I k)), some (.d (I now)), some (.d (I (W (hs.take j) c now))), o4, o5, o6]) ⟨_, _, _, rfl⟩ ?_
    · obtain ⟨e', h1, o3, o4, o5, rfl⟩ := this
      refine ⟨_, h1, o3, o4, o5, ?_⟩
      rw [List.length_map, List.take_length]
    · rintro j x e hx ⟨o4, o5, o6, rfl⟩
      obtain ⟨t, ht, rfl⟩ := ts_at hx
      have ok := hO t (mem_at ht)
      have ew : W (hs.take (j + 1)) c now = W (hs.take j) c now + up now t.p * t.c := by
        rw [take_one ht, W, List.map_append, sm_append, ← Nat.add_assoc]
        rfl
      rw [ew]
      obtain ⟨c2, d2, p2⟩ := t
      have c1 : 1 ≤ c2 := ok.c1; have cd : c2 ≤ d2 := ok.cd; have dp : d2 ≤ p2 := ok.dp; have hp : p2 ≤ 12 := ok.p12
      have dv : ∀ n, divC n (p2 : Int) = true := fun n => divC_of (by omega) (by omega)
      generalize W (hs.take j) c now = w at *
      have e1 : (now : Int) + (p2 : Int) - 1 = ((now + p2 - 1 : Nat) : Int) := by omega
      have e2 : ((now + p2 - 1 : Nat) : Int) / (p2 : Int) = ((up now p2 : Nat) : Int) := rfl
      have hq : up now p2 ≤ 24 := Nat.le_trans (Nat.div_le_self _ _) (by omega)
      generalize up now p2 = q at *
      have em := emul (x := (q : Int)) (y := (c2 : Int)) (by omega) (by omega) (by omega) (by omega)
      simp -implicitDefEqProofs [lb2_answer_of, Tk.D, e1, e2, dv, em]
  have hd : Tk.D ⟨c, d, p⟩ = .tup [I c, I d, I p] := rfl
  rw [hd] at hat
  have := while_exit (tc := wt1_answer_of) (f := lb1_answer_of) (e := [some (.d (.tup L)), some (.d (I k)), some (.d (I c)), none, none, none, none])
    (fun m e => ∃ now o3 o4 o5 o6, e = [some (.d (.tup L)), some (.d (I k)), some (.d (I now)), o3, o4, o5, o6] ∧ m = 100 - now ∧ (∀ y, W hs c y = y → now ≤ y) ∧ now ≤ W hs c now)
    (fun e => ans hs ⟨c, d, p⟩ = none ∧ ∃ now o3 o4 o5 o6, e = [some (.d (.tup L)), some (.d (I k)), some (.d (I now)), o3, o4, o5, o6])
    (fun v e => v = .d (oD (ans hs ⟨c, d, p⟩)) ∧ ∃ now o3 o4 o5 o6, e = [some (.d (.tup L)), some (.d (I k)), some (.d (I now)), o3, o4, o5, o6])
    (100 - c) (by omega) ⟨c, none, none, none, none, rfl, rfl, fun y hy => by rw [← hy]; exact W_ge, W_ge⟩ ?_
  · rcases this with ⟨e', h1, h2, now, o3, o4, o5, o6, rfl⟩ | ⟨v, e', h1, rfl, now, o3, o4, o5, o6, rfl⟩
    · rw [h2]
      simp -implicitDefEqProofs [hat, h1, oD]
    · simp -implicitDefEqProofs [hat, h1]
  · rintro m e ⟨now, o3, o4, o5, o6, rfl, rfl, hle, hw⟩
    by_cases z : now ≤ d
    · obtain ⟨e', h1, o4', o5', o6', rfl⟩ := inner now o4 o5 o6 (by omega)
      refine .inr ⟨[some (.d (.tup L)), some (.d (I k)), some (.d (I now)), o3, o4, o5, o6], by simp -implicitDefEqProofs [wt1_answer_of, hat, z], ?_⟩
      by_cases z2 : W hs c now = now
      · right
        have ea : ans hs ⟨c, d, p⟩ = some now := ans_some.2 ⟨⟨z2, hle⟩, z⟩
        rw [ea]
        rw [z2] at h1
        refine ⟨.d (oD (some now)), [some (.d (.tup L)), some (.d (I k)), some (.d (I now)), some (.d (I now)), o4', o5', o6'], ?_, rfl, now, _, _, _, _, rfl⟩
        simp -implicitDefEqProofs [lb1_answer_of, hat, hcut, h1, oD]
      · left
        have hb : W hs c now ≤ 100000 := by
          have h1 : sm (hs.map fun t => up now t.p * t.c) ≤ sm (hs.map fun _ => 12 * 12) := sm_map_le fun t ht => by
            have ok := hO t ht
            have c1 := ok.c1; have cd := ok.cd; have dp := ok.dp; have hp := ok.p12
            have := up_mono (p := t.p) (show now ≤ 12 by omega)
            have h3 : up 12 t.p ≤ 12 := by
              unfold up
              exact Nat.le_trans (Nat.le_of_lt_succ ((Nat.div_lt_iff_lt_mul (by omega)).2 (show 12 + t.p - 1 < 13 * t.p by omega))) (Nat.le_refl _)
            exact Nat.mul_le_mul (by omega) (by omega)
          have e : ∀ l : List Tk, sm (l.map fun _ => 12 * 12) = 144 * l.length := fun l => by induction l with
            | nil => rfl
            | cons _ _ ih => rw [List.map_cons, sm_cons, ih, List.length_cons]; omega
          rw [e] at h1
          have : W hs c now = c + sm (hs.map fun t => up now t.p * t.c) := rfl
          omega
        refine ⟨[some (.d (.tup L)), some (.d (I k)), some (.d (I (W hs c now))), some (.d (I (W hs c now))), o4', o5', o6'], 100 - W hs c now, .inl ?_, by omega, W hs c now, _, _, _, _, rfl, rfl, fun y hy => ?_, W_mono hw⟩
        · generalize W hs c now = w at *
          have z3 : ¬ (w : Int) = (now : Int) := by omega
          simp -implicitDefEqProofs [lb1_answer_of, hat, hcut, h1, z2, z3]
        · rw [← hy]
          exact W_mono (hle y hy)
    · left
      refine ⟨[some (.d (.tup L)), some (.d (I k)), some (.d (I now)), o3, o4, o5, o6], by simp -implicitDefEqProofs [wt1_answer_of, hat, z], ans_none.2 fun y hy => ?_, now, _, _, _, _, rfl⟩
      have := hle y hy
      show d < y
      omega
def ansL (ts : List Tk) (n : Nat) : List D := (List.range n).map fun k => oD (ans (ts.take k) (tk ts k))
theorem f_answers {ts : List Tk} (h : TsOk ts) : fn_answers [.d (TD ts)] = some (.d (.tup (ansL ts ts.length)), [.d (TD ts)]) := by
  simp only [fn_answers, mkFn, b_answers, A_answers]
  have hC := f_check h
  have hA : ∀ k < ts.length, fn_answer_of [.d (TD ts), .d (I k)] = some (.d (oD (ans (ts.take k) (tk ts k))), [.d (TD ts), .d (I k)]) := fun k hk => f_answer_of h.ok h.n5 hk
  have n5 := h.n5
  generalize fn_check = F at *
  have : ∃ e', forL (bName 2) lb1_answers (rngL 0 ts.length) [some (.d (TD ts)), some (.m (.lst [])), none] = some (.nx e') ∧ ∃ o2, e' = [some (.d (TD ts)), some (.m (.lst (ansL ts ts.length))), o2] := by
    refine for_rng (fun k e => ∃ o2, e = [some (.d (TD ts)), some (.m (.lst (ansL ts k))), o2]) ⟨none, rfl⟩ ?_
    rintro k e hk ⟨o2, rfl⟩
    have hl : (ansL ts k).length < sizeLine := sizeLine_gt (by simp [ansL]; omega)
    have ek : ansL ts (k + 1) = ansL ts k ++ [oD (ans (ts.take k) (tk ts k))] := by simp [ansL, List.range_succ]
    rw [ek]
    have a := hA k hk
    unfold lb1_answers
    generalize fn_answer_of = G at *
    generalize ansL ts k = l at *
    generalize oD (ans (ts.take k) (tk ts k)) = o at *
    simp -implicitDefEqProofs [a, hl]
  obtain ⟨e', h1, o2, rfl⟩ := this
  have hs : smallI (ts.length : Int) = true := smallI_of (by omega) (by omega)
  have z0 : 0 ≤ sizeLine := Nat.zero_le _
  simp -implicitDefEqProofs [hC, h1, hs, z0]
end K39
end

section
set_option Elab.async false
set_option linter.all false
set_option maxRecDepth 100000
namespace K39
open PySem PySem.Spec PyProof.Rows L2 QL
theorem stpN_mom {d p most : Nat} (hp : 1 ≤ p) (hd : d ≤ p) : stpN (d : Int) ((most : Int) + 1) (p : Int) = (most + p - d) / p := by
  rw [stpN_pos (by omega)]
  by_cases z : d ≤ most
  · rw [if_pos (by omega), show ((most : Int) + 1 - d - 1) = ((most - d : Nat) : Int) by omega]
    rw [show ((most - d : Nat) : Int) / (p : Int) = (((most - d) / p : Nat) : Int) from rfl, show most + p - d = (most - d) + p by omega, Nat.add_div_right _ (by omega)]
    generalize (most - d) / p = q
    omega
  · rw [if_neg (by omega), Nat.div_eq_of_lt (by omega)]
theorem mom1_eq {d p most c : Nat} (hp : 1 ≤ p) (hd : d ≤ p) : stpL (d : Int) (p : Int) (stpN (d : Int) ((most : Int) + 1) (p : Int)) = (mom1 most ⟨c, d, p⟩).map I := by
  rw [stpN_mom hp hd]
  unfold stpL mom1
  rw [List.map_map]
  refine List.map_congr_left fun k _ => ?_
  show D.int _ = D.int _
  simp
theorem mom_len1 {most : Nat} {t : Tk} (h : t.Ok) (hm : most ≤ 24) : (mom1 most t).length ≤ 24 := by
  unfold mom1
  rw [List.length_map, List.length_range]
  have := h.c1; have := h.cd; have := h.dp
  refine Nat.le_of_lt_succ ((Nat.div_lt_iff_lt_mul (by omega)).2 ?_)
  have : 24 + t.p ≤ 25 * t.p := by omega
  omega
theorem mom_len {ts : List Tk} {most : Nat} (h : Oks ts) (hm : most ≤ 24) : (mom ts most).length ≤ 24 * ts.length := by
  induction ts with
  | nil => exact Nat.le_refl _
  | cons t ts ih =>
    rw [mom, List.flatMap_cons, List.length_append, List.length_cons]
    have := mom_len1 (h t List.mem_cons_self) hm
    have ih := ih fun s hs => h s (List.mem_cons_of_mem _ hs)
    unfold mom at ih
    omega
theorem f_moments_of {ts : List Tk} (h : TsOk ts) {most : Nat} (hm : most ≤ 24) : fn_moments_of [.d (TD ts), .d (I most)] = some (.m (.lst ((mom ts most).map I)), [.d (TD ts), .d (I most)]) := by
  simp only [fn_moments_of, mkFn, b_moments_of, A_moments_of]
  have n5 := h.n5
  have : ∃ e', forL (bTup 3 (bCons (bName 3) (bCons (bName 4) (bCons (bName 5) bNil)))) lb1_moments_of (ts.map Tk.D) [some (.d (TD ts)), some (.d (I most)), some (.m (.lst [])), none, none, none] = some (.nx e') ∧ ∃ o3 o4 o5, e' = [some (.d (TD ts)), some (.d (I most)), some (.m (.lst ((mom ts most).map I))), o3, o4, o5] := by
    have := for_list (b := bTup 3 (bCons (bName 3) (bCons (bName 4) (bCons (bName 5) bNil)))) (f := lb1_moments_of) (xs := ts.map Tk.D) (e := [some (.d (TD ts)), some (.d (I most)), some (.m (.lst [])), none, none, none])
      (fun k e => ∃ o3 o4 o5, e = [some (.d (TD ts)), some (.d (I most)), some (.m (.lst ((mom (ts.take k) most).map I))), o3, o4, o5]) ⟨none, none, none, rfl⟩ ?_
    · obtain ⟨e', h1, o3, o4, o5, rfl⟩ := this
      refine ⟨_, h1, o3, o4, o5, ?_⟩
      rw [List.length_map, List.take_length]
    · rintro k x e hx ⟨o3, o4, o5, rfl⟩
      obtain ⟨t, ht, rfl⟩ := ts_at hx
      have ok := h.ok t (mem_at ht)
      have ew : mom (ts.take (k + 1)) most = mom (ts.take k) most ++ mom1 most t := by
        rw [take_one ht, mom, List.flatMap_append]
        simp [mom]
      rw [ew, List.map_append]
      have hl := mom_len (ts := ts.take k) (most := most) (fun t ht => h.ok t (List.mem_of_mem_take ht)) hm
      have hl2 := mom_len1 ok hm
      have hl3 : (ts.take k).length ≤ 5 := by simp; omega
      obtain ⟨c, d, p⟩ := t
      have c1 : 1 ≤ c := ok.c1; have cd : c ≤ d := ok.cd; have dp : d ≤ p := ok.dp; have hp : p ≤ 12 := ok.p12
      have so : stpOk (d : Int) ((most : Int) + 1) (p : Int) = true := decide_eq_true ⟨by omega, by omega, by omega, by omega, by omega, by omega⟩
      have em := mom1_eq (c := c) (most := most) (d := d) (p := p) (by omega) dp
      have hs : (mom (ts.take k) most).length + (mom1 most ⟨c, d, p⟩).length ≤ sizeLine := smallT (by omega)
      generalize mom (ts.take k) most = a at *
      generalize mom1 most ⟨c, d, p⟩ = b at *
      simp -implicitDefEqProofs [lb1_moments_of, Tk.D, so, em, hs]
  obtain ⟨e', h1, o3, o4, o5, rfl⟩ := this
  have z0 : 0 ≤ sizeLine := Nat.zero_le _
  simp -implicitDefEqProofs [h1, z0]
/-! a dict of moments -/
def dOf (l : List Nat) : List (L2.Key × D) := l.map fun n : Nat => ((Sum.inl (n : Int) : L2.Key), D.bl true)
def din (l : List Nat) (x : Nat) : List Nat := if x ∈ l then l else l ++ [x]
theorem dOf_put {l : List Nat} {x : Nat} : dPut (dOf l) (Sum.inl (x : Int)) (.bl true) = dOf (din l x) := by
  unfold dPut din
  have e : ((dOf l).any fun kv => decide (kv.1 = (Sum.inl (x : Int) : L2.Key))) = true ↔ x ∈ l := by
    rw [List.any_eq_true]
    constructor
    · rintro ⟨kv, h1, h2⟩
      obtain ⟨n, hn, rfl⟩ := List.mem_map.1 h1
      have h2 : (Sum.inl (n : Int) : L2.Key) = Sum.inl (x : Int) := of_decide_eq_true h2
      have h3 : (n : Int) = (x : Int) := Sum.inl.inj h2
      have : n = x := by omega
      rw [← this]
      exact hn
    · intro h
      exact ⟨_, List.mem_map.2 ⟨x, h, rfl⟩, decide_eq_true rfl⟩
  by_cases z : x ∈ l
  · rw [if_pos (e.2 z), if_pos z]
    unfold dOf
    rw [List.map_map]
    refine List.map_congr_left fun n _ => ?_
    show (if _ then _ else _) = _
    split
    · rename_i q
      rfl
    · rfl
  · rw [if_neg fun q => z (e.1 q), if_neg z]
    simp [dOf]
def dall (xs l : List Nat) : List Nat := xs.foldl din l
theorem mem_dall {x : Nat} : ∀ {xs l : List Nat}, x ∈ dall xs l ↔ x ∈ xs ∨ x ∈ l
  | [], l => by simp [dall]
  | y :: xs, l => by
    show x ∈ dall xs (din l y) ↔ _
    rw [mem_dall]
    unfold din
    by_cases z : y ∈ l
    · rw [if_pos z]
      constructor
      · rintro (q | q)
        · exact .inl (List.mem_cons_of_mem _ q)
        · exact .inr q
      · rintro (q | q)
        · rcases List.mem_cons.1 q with rfl | q
          · exact .inr z
          · exact .inl q
        · exact .inr q
    · rw [if_neg z]
      simp only [List.mem_append, List.mem_cons, List.mem_singleton, List.not_mem_nil, or_false]
      constructor
      · rintro (q | q | q)
        · exact .inl (.inr q)
        · exact .inr q
        · exact .inl (.inl q)
      · rintro ((q | q) | q)
        · exact .inr (.inr q)
        · exact .inl q
        · exact .inr (.inl q)
theorem nodup_dall : ∀ {xs l : List Nat}, l.Nodup → (dall xs l).Nodup
  | [], l, h => h
  | y :: xs, l, h => by
    show (dall xs (din l y)).Nodup
    refine nodup_dall ?_
    unfold din
    split
    · exact h
    · rename_i z
      rw [List.nodup_append]
      refine ⟨h, by simp, fun a ha b hb => ?_⟩
      rw [List.mem_singleton] at hb
      subst hb
      rintro rfl
      exact z ha
theorem nodup_lt : ∀ {n : Nat} {l : List Nat}, l.Nodup → (∀ x ∈ l, x < n) → l.length ≤ n
  | 0, l, _, h => by
    cases l with
    | nil => exact Nat.le_refl _
    | cons x l => exact absurd (h x List.mem_cons_self) (Nat.not_lt_zero _)
  | n + 1, l, hn, h => by
    have := nodup_lt (n := n) (l := l.erase n) (hn.erase _) fun x hx => by
      have h1 := h x (List.mem_of_mem_erase hx)
      have h2 : x ≠ n := fun e => by
        subst e
        exact (List.Nodup.mem_erase_iff hn).1 hx |>.1 rfl
      omega
    by_cases z : n ∈ l
    · rw [List.length_erase_of_mem z] at this
      omega
    · rw [List.erase_of_not_mem z] at this
      omega
abbrev E2 (ts : List Tk) : En := [some (.d (TD ts)), none]
theorem dc_all {ts : List Tk} : ∀ {xs l : List Nat}, l.length + xs.length < 1000 → dcL [1] (bName 1) fYes ck2_by_deadline cv2_by_deadline (xs.map I) (dOf l) (E2 ts) = some (.val (.m (.dk (dOf (dall xs l)))), E2 ts)
  | [], l, _ => rfl
  | x :: xs, l, h => by
    have hl : (dOf l).length < sizeLine := sizeLine_gt (by simp [dOf]; simp at h; omega)
    rw [List.map_cons, dcL_cons]
    have ih := dc_all (ts := ts) (xs := xs) (l := din l x) (by
      rw [List.length_cons] at h
      unfold din
      split
      · omega
      · rw [List.length_append, List.length_singleton]; omega)
    have e := dOf_put (l := l) (x := x)
    have ed : dall (x :: xs) l = dall xs (din l x) := rfl
    rw [ed, ← ih, ← e]
    generalize dcL [1] (bName 1) fYes ck2_by_deadline cv2_by_deadline (xs.map I) = G
    simp [ck2_by_deadline, cv2_by_deadline, dcE1, dcE2, hl, keyS, unw, wipeE]
theorem keysI_dOf : ∀ {l : List Nat}, keysI (dOf l) = some (l.map fun n : Nat => (n : Int))
  | [] => rfl
  | n :: l => by
    have := keysI_dOf (l := l)
    simp [dOf, keysI] at this ⊢
    simp [this]
theorem f_by_deadline {ts : List Tk} (h : TsOk ts) : ∃ x, fn_by_deadline [.d (TD ts)] = some (.d x, [.d (TD ts)]) ∧ (okBD ts ∧ x = .non ∨ ¬ okBD ts ∧ ∃ n : Nat, x = I n) := by
  simp only [fn_by_deadline, mkFn, b_by_deadline, A_by_deadline]
  have hC := f_check h
  have hR := f_round_of h
  have hr := rnd_pos h.ok
  have hM := f_moments_of h (most := rnd ts) hr.2
  have n5 := h.n5
  have hl := mom_len (ts := ts) h.ok hr.2
  have hD := dc_all (ts := ts) (xs := mom ts (rnd ts)) (l := []) (by simp; omega)
  have hW : ∀ m ≤ 24, fn_wanted [.d (TD ts), .d (I m)] = some (.d (I (wnt ts m)), [.d (TD ts), .d (I m)]) := fun m hm => f_wanted h (by omega)
  obtain ⟨K, hK⟩ : ∃ K, K = dall (mom ts (rnd ts)) [] := ⟨_, rfl⟩
  have hKm : ∀ x, x ∈ K ↔ x ∈ mom ts (rnd ts) := fun x => by rw [hK, mem_dall]; simp
  have hKl : ∀ x ∈ K, x ≤ 24 := fun x hx => by
    have := ((mem_mom h.ok).1 ((hKm x).1 hx)).1
    omega
  have hKn : K.length < 64 := by
    have := nodup_lt (n := 25) (l := K) (by rw [hK]; exact nodup_dall List.nodup_nil) fun x hx => by have := hKl x hx; omega
    omega
  rw [← hK] at hD
  have hP := sortI_perm (K.map fun n : Nat => (n : Int))
  have hkI := keysI_dOf (l := K)
  have hSo : oSortA [.m (.dk (dOf K))] = some (.m (.lst ((sortI (K.map fun n : Nat => (n : Int))).map D.int))) := by
    rw [oSortA_dk, oSortD_one]
    simp [hkI, hKn]
  generalize hS : sortI (K.map fun n : Nat => (n : Int)) = Sx at *
  have loop := for_exit (b := bName 1) (f := lb1_by_deadline) (xs := Sx.map D.int) (e := E2 ts)
    (fun k e => (∀ i x, i < k → Sx[i]? = some x → ∃ n : Nat, x = n ∧ wnt ts n ≤ n) ∧ ∃ o, e = [some (.d (TD ts)), o])
    (fun v e => ¬ okBD ts ∧ ∃ n : Nat, v = .d (I n) ∧ ∃ o, e = [some (.d (TD ts)), o]) ⟨fun i x hi => absurd hi (Nat.not_lt_zero _), none, rfl⟩ ?_
  · have hd0 : dOf [] = [] := rfl
    rw [hd0] at hD
    unfold E2 at hD loop
    rcases loop with ⟨e', h1, h2, o, rfl⟩ | ⟨v, e', h1, h2, n, rfl, o, rfl⟩
    · refine ⟨.non, ?_, .inl ⟨fun x hx => ?_, rfl⟩⟩
      · generalize fn_check = F at *
        generalize fn_round_of = F1 at *
        generalize fn_moments_of = F2 at *
        generalize mom ts (rnd ts) = mm at *
        generalize dOf K = dk at *
        simp -implicitDefEqProofs [hC, hR, hM, hD, hSo, h1]
      · have := (hKm x).2 hx
        have := hP.mem_iff.2 (List.mem_map_of_mem (f := fun n : Nat => (n : Int)) this)
        obtain ⟨i, hi⟩ := List.getElem?_of_mem this
        obtain ⟨n, hn, hw⟩ := h2 i _ (by rw [List.length_map]; exact (List.getElem?_eq_some_iff.1 hi).1) hi
        cases Int.ofNat.inj hn
        exact hw
    · refine ⟨I n, ?_, .inr ⟨h2, n, rfl⟩⟩
      generalize fn_check = F at *
      generalize fn_round_of = F1 at *
      generalize fn_moments_of = F2 at *
      generalize mom ts (rnd ts) = mm at *
      generalize dOf K = dk at *
      simp -implicitDefEqProofs [hC, hR, hM, hD, hSo, h1]
  · rintro k x e hx ⟨hok, o, rfl⟩
    rw [List.getElem?_map] at hx
    cases q : Sx[k]? with
    | none => rw [q] at hx; cases hx
    | some y =>
      rw [q] at hx
      cases hx
      have hy : y ∈ Sx := List.mem_of_getElem? q
      obtain ⟨n, hn, rfl⟩ := List.mem_map.1 (hP.mem_iff.1 hy)
      have hw := hW n (hKl n hn)
      refine ⟨_, rfl, ?_⟩
      by_cases z : wnt ts n ≤ n
      · left
        refine ⟨[some (.d (TD ts)), some (.d (I n))], .inl ?_, fun i x hi hx => ?_, _, rfl⟩
        · have z2 : ¬ n < wnt ts n := by omega
          unfold lb1_by_deadline
          generalize fn_wanted = F at *
          generalize wnt ts n = w at *
          simp -implicitDefEqProofs [hw, z2]
        · by_cases zi : i = k
          · subst zi
            rw [q] at hx
            cases hx
            exact ⟨n, rfl, z⟩
          · exact hok i x (by omega) hx
      · right
        refine ⟨.d (I n), [some (.d (TD ts)), some (.d (I n))], ?_, fun hb => z (hb n ((hKm n).1 hn)), n, rfl, _, rfl⟩
        have z2 : n < wnt ts n := by omega
        unfold lb1_by_deadline
        generalize fn_wanted = F at *
        generalize wnt ts n = w at *
        simp -implicitDefEqProofs [hw, z2]
end K39
end

section
set_option Elab.async false
set_option linter.all false
set_option maxRecDepth 100000
namespace K39
open PySem PySem.Spec PyProof.Rows L2 QL
def nl (o : Option S) : Prop := ∀ x, o ≠ some (.lk x)
theorem lkA1_nl {A : List Nat} {k : Nat} {s o : Option S} (h : nl o) : lkA1 A k s o = True := eq_true fun x e => absurd e (h x)
theorem nl_none : nl none := fun x h => by cases h
theorem nl_d {x : D} : nl (some (.d x)) := fun y h => by cases h
theorem nl_m {x : M} : nl (some (.m x)) := fun y h => by cases h
theorem shI {n : Nat} : ∀ {l : List Nat}, shDs n (l.map I) = true
  | [] => shDs_nil
  | x :: l => by rw [List.map_cons, shDs_cons, shI (l := l)]; simp
theorem anyI {l : List Nat} {x : Nat} : ((l.map I).any fun z => eqD z (I x)) = l.contains x := by
  induction l with
  | nil => rfl
  | cons y l ih =>
    rw [List.map_cons, List.any_cons, ih, List.contains_cons]
    congr 1
    show decide ((y : Int) = (x : Int)) = (x == y)
    rw [Bool.eq_iff_iff]
    simp only [decide_eq_true_eq, beq_iff_eq]
    omega
/-! all orders -/
def ext (n : Nat) (r : List Nat) : List (List Nat) := ((List.range n).filter fun x => !r.contains x).map fun x => r ++ [x]
def ord (n : Nat) : Nat → List (List Nat)
  | 0 => [[]]
  | i + 1 => (ord n i).flatMap (ext n)
def tD (r : List Nat) : D := .tup (r.map I)
theorem mem_ord {n : Nat} : ∀ {i : Nat} {r : List Nat}, r ∈ ord n i ↔ r.length = i ∧ r.Nodup ∧ ∀ x ∈ r, x < n
  | 0, r => by
    show r ∈ [[]] ↔ _
    rw [List.mem_singleton]
    constructor
    · rintro rfl
      exact ⟨rfl, List.nodup_nil, nofun⟩
    · exact fun h => List.eq_nil_of_length_eq_zero h.1
  | i + 1, r => by
    show r ∈ (ord n i).flatMap (ext n) ↔ _
    rw [List.mem_flatMap]
    constructor
    · rintro ⟨r0, h0, h1⟩
      obtain ⟨a, b, c⟩ := mem_ord.1 h0
      obtain ⟨x, hx, rfl⟩ := List.mem_map.1 h1
      rw [List.mem_filter, List.mem_range] at hx
      have hx2 : x ∉ r0 := by simpa using hx.2
      refine ⟨by simp [a], ?_, fun y hy => ?_⟩
      · rw [List.nodup_append]
        refine ⟨b, by simp, fun u hu v hv => ?_⟩
        rw [List.mem_singleton] at hv
        subst hv
        rintro rfl
        exact hx2 hu
      · rcases List.mem_append.1 hy with hy | hy
        · exact c y hy
        · rw [List.mem_singleton] at hy
          subst hy
          exact hx.1
    · rintro ⟨a, b, c⟩
      have hne : r ≠ [] := fun e => by rw [e] at a; cases a
      have e := List.dropLast_concat_getLast hne
      refine ⟨r.dropLast, mem_ord.2 ⟨by rw [List.length_dropLast, a]; rfl, b.sublist (List.dropLast_sublist _), fun x hx => c x (List.dropLast_subset _ hx)⟩, ?_⟩
      refine List.mem_map.2 ⟨r.getLast hne, List.mem_filter.2 ⟨List.mem_range.2 (c _ (List.getLast_mem hne)), ?_⟩, e⟩
      rw [← e, List.nodup_append] at b
      have : r.getLast hne ∉ r.dropLast := fun q => b.2.2 _ q _ (List.mem_singleton.2 rfl) rfl
      simpa using this
theorem ext_len {n : Nat} {r : List Nat} : (ext n r).length ≤ n := by
  unfold ext
  rw [List.length_map]
  exact Nat.le_trans (List.length_filter_le _ _) (by simp)
theorem flat_len {n : Nat} : ∀ {l : List (List Nat)}, (l.flatMap (ext n)).length ≤ n * l.length
  | [] => Nat.zero_le _
  | r :: l => by
    rw [List.flatMap_cons, List.length_append, List.length_cons, Nat.mul_add]
    have := ext_len (n := n) (r := r)
    have := flat_len (n := n) (l := l)
    omega
theorem ord_len {n : Nat} (hn : n ≤ 5) : ∀ {i : Nat}, (ord n i).length ≤ 5 ^ i
  | 0 => Nat.le_refl _
  | i + 1 => by
    have h1 := flat_len (n := n) (l := ord n i)
    have h2 := ord_len hn (i := i)
    have h3 : n * (ord n i).length ≤ 5 * 5 ^ i := Nat.mul_le_mul hn h2
    rw [Nat.pow_succ, Nat.mul_comm]
    exact Nat.le_trans h1 h3
def extR (r : List Nat) : D → Option D := fun x => if ((r.map I).any fun z => eqD z x) = true then none else some (.tup (r.map I ++ [x]))
theorem extR_all {r : List Nat} : ∀ {l : List Nat}, (l.map I).filterMap (extR r) = ((l.filter fun x => !r.contains x).map fun x => r ++ [x]).map tD
  | [] => rfl
  | x :: l => by
    rw [List.map_cons, List.filterMap_cons]
    have e : extR r (I x) = if r.contains x = true then none else some (tD (r ++ [x])) := by
      unfold extR
      rw [anyI]
      simp only [tD, List.map_append, List.map_cons, List.map_nil]
    rw [e]
    by_cases z : r.contains x = true
    · rw [if_pos z, List.filter_cons_of_neg (by simpa using z), ← extR_all]
    · rw [if_neg z, List.filter_cons_of_pos (by simpa using z), List.map_cons, List.map_cons, ← extR_all]
theorem f_orders_of {n : Nat} (hn : n ≤ 5) : fn_orders_of [.d (I n)] = some (.m (.lst ((ord n n).map tD)), [.d (I n)]) := by
  simp only [fn_orders_of, mkFn, b_orders_of, A_orders_of]
  have sI : smallI (n : Int) = true := smallI_of (by omega) (by omega)
  have rz : rngL 0 n = (List.range n).map I := rngL_zero
  have pw : ∀ i ≤ n, 5 ^ i ≤ 3125 := fun i hi => Nat.le_trans (Nat.pow_le_pow_right (by decide) (Nat.le_trans hi hn)) (by decide)
  have inner : ∀ (i : Nat), i < n → ∀ o4, ∃ e', forL (bName 4) lb2_orders_of ((ord n i).map tD) [some (.d (I n)), some (.lk (.lst ((ord n i).map tD))), some (.d (I i)), some (.m (.lst [])), o4, none] = some (.nx e') ∧
      ∃ o4', (nl o4 → nl o4') ∧ e' = [some (.d (I n)), some (.lk (.lst ((ord n i).map tD))), some (.d (I i)), some (.m (.lst ((ord n (i + 1)).map tD))), o4', none] := by
    intro i hi o4
    have hp := ord_len hn (i := i + 1)
    have hp2 := pw (i + 1) hi
    have := for_list (b := bName 4) (f := lb2_orders_of) (xs := (ord n i).map tD) (e := [some (.d (I n)), some (.lk (.lst ((ord n i).map tD))), some (.d (I i)), some (.m (.lst [])), o4, none])
      (fun j e => ∃ o4', (nl o4 → nl o4') ∧ e = [some (.d (I n)), some (.lk (.lst ((ord n i).map tD))), some (.d (I i)), some (.m (.lst ((((ord n i).take j).flatMap (ext n)).map tD))), o4', none]) ⟨o4, id, rfl⟩ ?_
    · obtain ⟨e', h1, o4', h2, rfl⟩ := this
      refine ⟨_, h1, o4', h2, ?_⟩
      rw [List.length_map, List.take_length]
      rfl
    · rintro j x e hx ⟨o4', h2, rfl⟩
      rw [List.getElem?_map] at hx
      cases q : (ord n i)[j]? with
      | none => rw [q] at hx; cases hx
      | some r =>
        rw [q] at hx
        cases hx
        obtain ⟨rl, rn, rb⟩ := mem_ord.1 (List.mem_of_getElem? q)
        have ef : ((ord n i).take (j + 1)).flatMap (ext n) = ((ord n i).take j).flatMap (ext n) ++ ext n r := by
          rw [List.take_add_one, q, List.flatMap_append]
          simp
        have hlen : (((ord n i).take j).flatMap (ext n)).length + (ext n r).length ≤ sizeLine := by
          have h1 := flat_len (n := n) (l := (ord n i).take j)
          have h2 := ext_len (n := n) (r := r)
          have h3 : ((ord n i).take j).length ≤ 3125 := by
            have := ord_len hn (i := i)
            have := pw i (by omega)
            simp
            omega
          have h4 : n * ((ord n i).take j).length ≤ 5 * 3125 := Nat.mul_le_mul hn h3
          exact sizeLine_ge (by omega)
        rw [ef, List.map_append]
        have hL : lcL [5] (bName 5) ct3_orders_of ce3_orders_of (rngL 0 n) [] [some (.d (I n)), some (.lk (.lst ((ord n i).map tD))), some (.d (I i)), some (.m (.lst ((((ord n i).take j).flatMap (ext n)).map tD))), some (.d (tD r)), none]
            = some (.val (.m (.lst ((ext n r).map tD))), [some (.d (I n)), some (.lk (.lst ((ord n i).map tD))), some (.d (I i)), some (.m (.lst ((((ord n i).take j).flatMap (ext n)).map tD))), some (.d (tD r)), none]) := by
          rw [rz, lc_pure (extR r), List.nil_append, extR_all]
          · rfl
          · intro x hx
            obtain ⟨k, hk, rfl⟩ := List.mem_map.1 hx
            have hk := List.mem_range.1 hk
            have s1 : shD 8 (I k) = true := shD_int
            have s2 : shDs 8 (r.map I) = true := shI
            have z1 : r.length + 1 ≤ sizeLine := smallT (by omega)
            have z2 : 1 ≤ sizeLine := smallT (by decide)
            unfold tD
            generalize (ord n i).map (fun r => D.tup (r.map I)) = L1
            generalize (((ord n i).take j).flatMap (ext n)).map (fun r => D.tup (r.map I)) = L2
            by_cases z : ((r.map I).any fun z => eqD z (I k)) = true <;> simp -implicitDefEqProofs [lcOne, ct3_orders_of, ce3_orders_of, extR, s1, s2, z, z1, z2]
        have z0 : n ≤ sizeLine := smallT (by omega)
        refine ⟨_, [some (.d (I n)), some (.lk (.lst ((ord n i).map tD))), some (.d (I i)), some (.m (.lst ((((ord n i).take j).flatMap (ext n)).map tD ++ (ext n r).map tD))), some (.d (tD r)), none], rfl, ?_, _, fun _ => nl_d, rfl⟩
        unfold lb2_orders_of
        generalize (ord n i).map tD = L1 at *
        have l2 : ((((ord n i).take j).flatMap (ext n)).map tD).length = (((ord n i).take j).flatMap (ext n)).length := List.length_map ..
        have l3 : ((ext n r).map tD).length = (ext n r).length := List.length_map ..
        rw [← l2, ← l3] at hlen
        generalize (((ord n i).take j).flatMap (ext n)).map tD = L2 at *
        generalize (ext n r).map tD = L3 at *
        generalize tD r = y at *
        simp -implicitDefEqProofs [sI, hL, rngL_len, z0, hlen]
  have : ∃ e', forL (bName 2) lb1_orders_of (rngL 0 n) [some (.d (I n)), some (.m (.lst [.tup []])), none, none, none, none] = some (.nx e') ∧ ∃ o2 o4, e' = [some (.d (I n)), some (.m (.lst ((ord n n).map tD))), o2, none, o4, none] := by
    have := for_rng (b := bName 2) (f := lb1_orders_of) (lo := 0) (n := n) (e := [some (.d (I n)), some (.m (.lst [.tup []])), none, none, none, none])
      (fun i e => ∃ o2 o4, nl o4 ∧ e = [some (.d (I n)), some (.m (.lst ((ord n i).map tD))), o2, none, o4, none]) ⟨none, none, nl_none, rfl⟩ ?_
    · obtain ⟨e', h1, o2, o4, _, rfl⟩ := this
      exact ⟨_, h1, o2, o4, rfl⟩
    · rintro i e hi ⟨o2, o4, hn4, rfl⟩
      obtain ⟨e', h1, o4', h2, rfl⟩ := inner i hi o4
      have k4 : ∀ {A : List Nat} {k : Nat} {s : Option S}, lkA1 A k s o4' = True := lkA1_nl (h2 hn4)
      refine ⟨[some (.d (I n)), some (.m (.lst ((ord n i).map tD))), some (.d (I i)), none, o4, none], [some (.d (I n)), some (.m (.lst ((ord n (i + 1)).map tD))), some (.d (I i)), none, o4', none], by simp, ?_, _, _, h2 hn4, rfl⟩
      unfold lb1_orders_of
      generalize (ord n i).map tD = L1 at *
      generalize (ord n (i + 1)).map tD = L2 at *
      have z0 : 0 ≤ sizeLine := Nat.zero_le _
      simp -implicitDefEqProofs [h1, slkR_ok, k4, z0]
  obtain ⟨e', h1, o2, o4, rfl⟩ := this
  have z0 : 0 ≤ sizeLine := Nat.zero_le _
  have z1 : 1 ≤ sizeLine := smallT (by decide)
  simp -implicitDefEqProofs [h1, sI, z0, z1]
end K39
end

section
set_option Elab.async false
set_option linter.all false
set_option maxRecDepth 100000
namespace K39
open PySem PySem.Spec PyProof.Rows L2 QL
/-- every one of a row of tasks has an answer -/
def Gd (ts : List Tk) : Prop := ∀ j < ts.length, (ans (ts.take j) (tk ts j)).isSome = true
theorem shOD {n : Nat} {o : Option Nat} : shD n (oD o) = true := by cases o <;> simp [oD]
theorem shAns {ts : List Tk} {k n : Nat} : shDs n (ansL ts k) = true := by
  unfold ansL
  induction (List.range k) with
  | nil => simp
  | cons x l ih => rw [List.map_cons, shDs_cons, ih, shOD]; rfl
theorem non_ans {ts : List Tk} : ((ansL ts ts.length).any fun z => eqD z .non) = true ↔ ¬ Gd ts := by
  rw [List.any_eq_true]
  constructor
  · rintro ⟨z, h1, h2⟩ hg
    obtain ⟨j, hj, rfl⟩ := List.mem_map.1 h1
    have := hg j (List.mem_range.1 hj)
    cases e : ans (ts.take j) (tk ts j) with
    | none => rw [e] at this; cases this
    | some x => rw [e] at h2; simp [oD] at h2
  · intro hg
    apply Classical.byContradiction
    intro q
    refine hg fun j hj => ?_
    cases e : ans (ts.take j) (tk ts j) with
    | some x => rfl
    | none =>
      refine absurd ⟨D.non, List.mem_map.2 ⟨j, List.mem_range.2 hj, by rw [e]; rfl⟩, rfl⟩ q
theorem map_tk_ok {ts : List Tk} (h : Oks ts) {r : List Nat} (hr : ∀ x ∈ r, x < ts.length) : Oks (r.map (tk ts)) := fun t ht => by
  obtain ⟨x, hx, rfl⟩ := List.mem_map.1 ht
  exact (tk_ok h (hr x hx)).1
theorem ix_tk {ts : List Tk} {k : Nat} (hk : k < ts.length) : (ts.map Tk.D)[k]? = some (tk ts k).D := by rw [List.getElem?_map, tk_at hk]; rfl
def ixR (ts : List Tk) : D → D := fun x => match x with
  | .int i => (tk ts i.toNat).D
  | _ => .non
theorem ixR_all {ts : List Tk} {l : List Nat} : (l.map I).map (ixR ts) = (l.map (tk ts)).map Tk.D := by
  rw [List.map_map, List.map_map]
  rfl
theorem f_good_order {ts : List Tk} (h : TsOk ts) : ∃ x, fn_good_order [.d (TD ts)] = some (.d x, [.d (TD ts)]) ∧
    (((∀ r ∈ ord ts.length ts.length, ¬ Gd (r.map (tk ts))) ∧ x = .non) ∨ ∃ r ∈ ord ts.length ts.length, Gd (r.map (tk ts)) ∧ x = tD r) := by
  simp only [fn_good_order, mkFn, b_good_order, A_good_order]
  have n5 := h.n5
  have n1 := h.n1
  have hC := f_check h
  have hO := f_orders_of (n := ts.length) n5
  have hA : ∀ r ∈ ord ts.length ts.length, fn_answers [.d (TD (r.map (tk ts)))] = some (.d (.tup (ansL (r.map (tk ts)) (r.map (tk ts)).length)), [.d (TD (r.map (tk ts)))]) := fun r hr => by
    obtain ⟨a, b, c⟩ := mem_ord.1 hr
    exact f_answers ⟨map_tk_ok h.ok c, by rw [List.length_map, a]; exact n1, by rw [List.length_map, a]; exact n5⟩
  obtain ⟨L, hL⟩ : ∃ L, L = ord ts.length ts.length := ⟨_, rfl⟩
  rw [← hL] at hO hA ⊢
  have loop := for_exit (b := bName 1) (f := lb1_good_order) (xs := L.map tD) (e := [some (.d (TD ts)), none, none])
    (fun k e => (∀ i r, i < k → L[i]? = some r → ¬ Gd (r.map (tk ts))) ∧ ∃ o, e = [some (.d (TD ts)), o, none])
    (fun v e => ∃ r ∈ L, Gd (r.map (tk ts)) ∧ v = .d (tD r) ∧ ∃ o, e = [some (.d (TD ts)), o, none]) ⟨fun i r hi => absurd hi (Nat.not_lt_zero _), none, rfl⟩ ?_
  · rcases loop with ⟨e', h1, h2, o, rfl⟩ | ⟨v, e', h1, r, hr, hg, rfl, o, rfl⟩
    · refine ⟨.non, ?_, .inl ⟨fun r hr => ?_, rfl⟩⟩
      · generalize fn_check = F at *
        generalize fn_orders_of = F1 at *
        simp -implicitDefEqProofs [hC, hO, h1]
      · obtain ⟨i, hi⟩ := List.getElem?_of_mem hr
        exact h2 i r (by rw [List.length_map]; exact (List.getElem?_eq_some_iff.1 hi).1) hi
    · refine ⟨tD r, ?_, .inr ⟨r, hr, hg, rfl⟩⟩
      generalize fn_check = F at *
      generalize fn_orders_of = F1 at *
      simp -implicitDefEqProofs [hC, hO, h1]
  · rintro k x e hx ⟨hok, o, rfl⟩
    rw [List.getElem?_map] at hx
    cases q : L[k]? with
    | none => rw [q] at hx; cases hx
    | some r =>
      rw [q] at hx
      cases hx
      have hr : r ∈ L := List.mem_of_getElem? q
      have a := hA r hr
      obtain ⟨rl, rn, rb⟩ := mem_ord.1 (by rw [← hL]; exact hr)
      refine ⟨_, rfl, ?_⟩
      have hLc : lcL [2] (bName 2) fYes ce2_good_order (r.map I) [] [some (.d (TD ts)), some (.d (tD r)), none] = some (.val (.m (.lst ((r.map (tk ts)).map Tk.D))), [some (.d (TD ts)), some (.d (tD r)), none]) := by
        rw [lc_map (ixR ts), ixR_all]
        intro x hx
        obtain ⟨i, hi, rfl⟩ := List.mem_map.1 hx
        have := ix_tk (rb i hi)
        unfold TD tD ixR
        generalize ts.map Tk.D = L0 at *
        generalize r.map I = L1
        simp -implicitDefEqProofs [lcOne, ce2_good_order, this]
      have z0 : r.length ≤ sizeLine := smallT (by omega)
      have s1 : shD 8 D.non = true := shD_non
      have s2 : shDs 8 (ansL (r.map (tk ts)) (r.map (tk ts)).length) = true := shAns
      have hn := oNinT_tup (x := .non) s1 s2
      have na := non_ans (ts := r.map (tk ts))
      unfold lb1_good_order
      unfold TD tD at *
      by_cases z : ((ansL (r.map (tk ts)) (r.map (tk ts)).length).any fun z => eqD z .non) = true
      · left
        refine ⟨[some (.d (.tup (ts.map Tk.D))), some (.d (.tup (r.map I))), none], .inl ?_, fun i r2 hi hx => ?_, _, rfl⟩
        · rw [z] at hn
          generalize fn_answers = F at *
          generalize ts.map Tk.D = L0 at *
          have l1 : r.length = (r.map I).length := (List.length_map ..).symm
          rw [l1] at z0
          generalize r.map I = L1 at *
          generalize (r.map (tk ts)).map Tk.D = L2 at *
          generalize ansL (r.map (tk ts)) (r.map (tk ts)).length = L3 at *
          simp -implicitDefEqProofs [hLc, a, hn, z0]
        · by_cases zi : i = k
          · subst zi
            rw [q] at hx
            cases hx
            exact na.1 z
          · exact hok i r2 (by omega) hx
      · right
        have hg : Gd (r.map (tk ts)) := Classical.byContradiction fun q => z (na.2 q)
        have z' : ((ansL (r.map (tk ts)) (r.map (tk ts)).length).any fun z => eqD z .non) = false := by simpa using z
        refine ⟨.d (.tup (r.map I)), [some (.d (.tup (ts.map Tk.D))), some (.d (.tup (r.map I))), none], ?_, r, hr, hg, rfl, _, rfl⟩
        rw [z'] at hn
        generalize fn_answers = F at *
        generalize ts.map Tk.D = L0 at *
        have l1 : r.length = (r.map I).length := (List.length_map ..).symm
        rw [l1] at z0
        generalize r.map I = L1 at *
        generalize (r.map (tk ts)).map Tk.D = L2 at *
        generalize ansL (r.map (tk ts)) (r.map (tk ts)).length = L3 at *
        simp -implicitDefEqProofs [hLc, a, hn, z0]
/-! from the last -/
def fit (ts : List Tk) (left : List Nat) (k : Nat) : Bool := (ans ((left.filter fun x => x != k).map (tk ts)) (tk ts k)).isSome
theorem maxL_nat {l : List Nat} (h : l ≠ []) : ∃ x ∈ l, maxL (l.map fun n : Nat => (n : Int)) = some (x : Int) := by
  cases l with
  | nil => exact absurd rfl h
  | cons y l =>
    obtain ⟨h1, _, _⟩ := foldl_max (l.map fun n : Nat => (n : Int)) (y : Int)
    rcases h1 with h1 | h1
    · exact ⟨y, List.mem_cons_self, congrArg some h1⟩
    · obtain ⟨x, hx, e⟩ := List.mem_map.1 h1
      exact ⟨x, List.mem_cons_of_mem _ hx, congrArg some e.symm⟩
theorem erase_cast {k : Nat} : ∀ {l : List Nat}, (l.map fun n : Nat => (n : Int)).erase (k : Int) = (l.erase k).map fun n : Nat => (n : Int)
  | [] => rfl
  | x :: l => by
    rw [List.map_cons]
    by_cases z : x = k
    · subst z
      rw [List.erase_cons_head, List.erase_cons_head]
    · rw [List.erase_cons_tail (by simp; omega), List.erase_cons_tail (by simpa using z), List.map_cons, erase_cast]
theorem getI_last {l : List D} {a : D} : getI (l ++ [a]) (-1) = some a := by
  unfold getI
  rw [if_neg (by decide), if_pos (by simp; omega), show (-1 + ((l ++ [a]).length : Int)).toNat = l.length by simp; omega]
  simp
theorem mapI {l : List Nat} : l.map I = (l.map fun n : Nat => (n : Int)).map D.int := by rw [List.map_map]; rfl
def neR (ts : List Tk) (k : Nat) : D → Option D := fun x => match x with
  | .int i => if i = (k : Int) then none else some (tk ts i.toNat).D
  | _ => none
theorem neR_all {ts : List Tk} {k : Nat} : ∀ {l : List Nat}, (l.map I).filterMap (neR ts k) = ((l.filter fun x => x != k).map (tk ts)).map Tk.D
  | [] => rfl
  | x :: l => by
    rw [List.map_cons, List.filterMap_cons]
    have e : neR ts k (I x) = if x = k then none else some (tk ts x).D := by
      show (if (x : Int) = (k : Int) then _ else _) = _
      by_cases z : x = k
      · rw [if_pos z, if_pos (by omega)]
      · rw [if_neg z, if_neg (by omega)]; rfl
    rw [e]
    by_cases z : x = k
    · rw [if_pos z, List.filter_cons_of_neg (by simpa using z), ← neR_all]
    · rw [if_neg z, List.filter_cons_of_pos (by simpa using z), List.map_cons, List.map_cons, ← neR_all]
theorem f_from_last {ts : List Tk} (h : TsOk ts) : ∃ x, fn_from_last [.d (TD ts)] = some (.d x, [.d (TD ts)]) ∧ (x = .non ∨ ∃ r, Rk ts r ∧ x = tD r) := by
  simp only [fn_from_last, mkFn, b_from_last, A_from_last]
  have n5 := h.n5
  have n1 := h.n1
  have hC := f_check h
  have inner : ∀ (left found : List Nat), left.length ≤ 5 → (∀ x ∈ left, x < ts.length) → ∀ o4 o5, ∃ e', forL (bName 4) lb2_from_last (left.map I) [some (.d (TD ts)), some (.lk (.lst (left.map I))), some (.m (.lst (found.map I))), some (.m (.lst [])), o4, o5, none] = some (.nx e') ∧
      ∃ o4' o5', (nl o4 → nl o5 → nl o4' ∧ nl o5') ∧ e' = [some (.d (TD ts)), some (.lk (.lst (left.map I))), some (.m (.lst (found.map I))), some (.m (.lst ((left.filter (fit ts left)).map I))), o4', o5', none] := by
    intro left found hl hlt o4 o5
    have := for_list (b := bName 4) (f := lb2_from_last) (xs := left.map I) (e := [some (.d (TD ts)), some (.lk (.lst (left.map I))), some (.m (.lst (found.map I))), some (.m (.lst [])), o4, o5, none])
      (fun j e => ∃ o4' o5', (nl o4 → nl o5 → nl o4' ∧ nl o5') ∧ e = [some (.d (TD ts)), some (.lk (.lst (left.map I))), some (.m (.lst (found.map I))), some (.m (.lst (((left.take j).filter (fit ts left)).map I))), o4', o5', none]) ⟨o4, o5, fun a b => ⟨a, b⟩, rfl⟩ ?_
    · obtain ⟨e', h1, o4', o5', h2, rfl⟩ := this
      refine ⟨_, h1, o4', o5', h2, ?_⟩
      rw [List.length_map, List.take_length]
    · rintro j x e hx ⟨o4', o5', h2, rfl⟩
      rw [List.getElem?_map] at hx
      cases q : left[j]? with
      | none => rw [q] at hx; cases hx
      | some k =>
        rw [q] at hx
        cases hx
        have hk := hlt k (List.mem_of_getElem? q)
        have ef : (left.take (j + 1)).filter (fit ts left) = (left.take j).filter (fit ts left) ++ (if fit ts left k = true then [k] else []) := by
          rw [List.take_add_one, q, List.filter_append]
          congr 1
          by_cases z : fit ts left k = true
          · rw [if_pos z, Option.toList, List.filter_cons_of_pos z]; rfl
          · rw [if_neg z, Option.toList, List.filter_cons_of_neg z]; rfl
        rw [ef, List.map_append]
        obtain ⟨fs, hfs⟩ : ∃ fs, fs = (left.take j).filter (fit ts left) := ⟨_, rfl⟩
        have hfl : fs.length ≤ 5 := by
          rw [hfs]
          refine Nat.le_trans (List.length_filter_le _ _) ?_
          simp
          omega
        rw [← hfs]
        have hLc : lcL [6] (bName 6) ct3_from_last ce3_from_last (left.map I) [] [some (.d (TD ts)), some (.lk (.lst (left.map I))), some (.m (.lst (found.map I))), some (.m (.lst (fs.map I))), some (.d (I k)), o5', none]
            = some (.val (.m (.lst (((left.filter fun x => x != k).map (tk ts)).map Tk.D))), [some (.d (TD ts)), some (.lk (.lst (left.map I))), some (.m (.lst (found.map I))), some (.m (.lst (fs.map I))), some (.d (I k)), o5', none]) := by
          rw [lc_pure (neR ts k), List.nil_append, neR_all]
          intro x hx
          obtain ⟨i, hi, rfl⟩ := List.mem_map.1 hx
          have hix := ix_tk (hlt i hi)
          unfold TD neR
          generalize ts.map Tk.D = L0 at *
          generalize left.map I = L1
          generalize found.map I = L2
          generalize fs.map I = L3
          by_cases z : (i : Int) = (k : Int)
          · have z2 : i = k := by omega
            simp -implicitDefEqProofs [lcOne, ct3_from_last, ce3_from_last, hix, z, z2]
          · have z2 : ¬ i = k := by omega
            simp -implicitDefEqProofs [lcOne, ct3_from_last, ce3_from_last, hix, z, z2]
        -- the row and its answer
        obtain ⟨R, hR⟩ : ∃ R, R = (left.filter fun x => x != k).map (tk ts) := ⟨_, rfl⟩
        have hRl : R.length ≤ 4 := by
          rw [hR, List.length_map]
          have h1 : k ∈ left := List.mem_of_getElem? q
          have h2 : (left.filter fun x => x != k).length < left.length := List.length_filter_lt_length_iff_exists.2 ⟨k, h1, by simp⟩
          omega
        have hRo : Oks (R ++ [tk ts k]) := fun t ht => by
          rcases List.mem_append.1 ht with ht | ht
          · rw [hR] at ht
            exact map_tk_ok h.ok (fun x hx => hlt x (List.mem_filter.1 hx).1) t ht
          · rw [List.mem_singleton] at ht
            subst ht
            exact (tk_ok h.ok hk).1
        have hA := f_answer_of hRo (by simp; omega) (k := R.length) (by simp)
        have e1 : (R ++ [tk ts k]).take R.length = R := by simp
        have e2 : tk (R ++ [tk ts k]) R.length = tk ts k := by simp [tk]
        rw [e1, e2] at hA
        have efit : fit ts left k = (ans R (tk ts k)).isSome := by rw [hR]; rfl
        rw [efit]
        rw [← hR] at hLc
        have hix := ix_tk hk
        have eD : TD (R ++ [tk ts k]) = .tup (R.map Tk.D ++ [(tk ts k).D]) := by rw [TD, List.map_append]; rfl
        have z1 : 1 ≤ sizeLine := smallT (by decide)
        have z2 : R.length + 1 ≤ sizeLine := smallT (by omega)
        have zl : left.length ≤ sizeLine := smallT (by omega)
        have zf : fs.length < sizeLine := sizeLine_gt (by omega)
        refine ⟨_, [some (.d (TD ts)), some (.lk (.lst (left.map I))), some (.m (.lst (found.map I))), some (.m (.lst (fs.map I ++ (if (ans R (tk ts k)).isSome = true then [k] else []).map I))), some (.d (I k)), some (.d (TD (R ++ [tk ts k]))), none], rfl, ?_, _, _, fun _ _ => ⟨nl_d, nl_d⟩, rfl⟩
        rw [eD] at hA ⊢
        unfold lb2_from_last
        unfold TD at *
        have lR : (R.map Tk.D).length = R.length := List.length_map ..
        have lf : (fs.map I).length = fs.length := List.length_map ..
        have ll : (left.map I).length = left.length := List.length_map ..
        rw [← lf] at zf
        rw [← ll] at zl
        rw [← lR] at z2
        have hA' : fn_answer_of [.d (.tup (R.map Tk.D ++ [(tk ts k).D])), .d (.int ((R.map Tk.D).length : Int))] = some (.d (oD (ans R (tk ts k))), [.d (.tup (R.map Tk.D ++ [(tk ts k).D])), .d (.int ((R.map Tk.D).length : Int))]) := by rw [lR]; exact hA
        generalize fn_answer_of = F at *
        generalize ts.map Tk.D = L0 at *
        generalize left.map I = L1 at *
        generalize found.map I = L2 at *
        generalize fs.map I = L3 at *
        generalize R.map Tk.D = L4 at *
        generalize (tk ts k).D = y at *
        have e0 : ((L4.length : Int) + 1 - 1) = (L4.length : Int) := by omega
        cases hq : ans R (tk ts k) with
        | none =>
          rw [hq] at hA'
          simp -implicitDefEqProofs [hLc, hix, hA', z1, z2, zl, e0, oD]
        | some v =>
          rw [hq] at hA'
          simp -implicitDefEqProofs [hLc, hix, hA', z1, z2, zl, zf, e0, oD]
  have hrg : rgOk 0 (ts.length : Int) = true := rgOk_of (by omega) (by omega) (by omega) (by omega)
  have rz : rngL 0 ts.length = (List.range ts.length).map I := rngL_zero
  have loop := while_exit (tc := wt1_from_last) (f := lb1_from_last) (e := [some (.d (TD ts)), some (.m (.lst ((List.range ts.length).map I))), some (.m (.lst [])), none, none, none, none])
    (fun m e => ∃ left found o3 o4 o5, Fl ts left found ∧ nl o4 ∧ nl o5 ∧ m = left.length ∧ e = [some (.d (TD ts)), some (.m (.lst (left.map I))), some (.m (.lst (found.map I))), o3, o4, o5, none])
    (fun e => ∃ found o3 o4 o5, Fl ts [] found ∧ e = [some (.d (TD ts)), some (.m (.lst [])), some (.m (.lst (found.map I))), o3, o4, o5, none])
    (fun v e => v = .d .non ∧ ∃ o1 o2 o3 o4 o5 o6, e = [some (.d (TD ts)), o1, o2, o3, o4, o5, o6])
    ts.length (by omega) ⟨_, _, none, none, none, Fl.zero, nl_none, nl_none, by simp, rfl⟩ ?_
  · have z0 : 0 ≤ sizeLine := Nat.zero_le _
    rcases loop with ⟨e', h1, found, o3, o4, o5, hF, rfl⟩ | ⟨v, e', h1, rfl, o1, o2, o3, o4, o5, o6, rfl⟩
    · refine ⟨tD found.reverse, ?_, .inr ⟨_, hF.done, rfl⟩⟩
      have er : tD found.reverse = .tup ((found.map I).reverse) := by unfold tD; rw [List.map_reverse]
      rw [er]
      rw [← rz] at h1
      generalize fn_check = F at *
      generalize found.map I = L1 at *
      simp -implicitDefEqProofs [hC, h1, hrg, z0]
    · refine ⟨.non, ?_, .inl rfl⟩
      rw [← rz] at h1
      generalize fn_check = F at *
      simp -implicitDefEqProofs [hC, h1, hrg, z0]
  · rintro m e ⟨left, found, o3, o4, o5, hF, n4, n5', rfl, rfl⟩
    have hlt : ∀ x ∈ left, x < ts.length := fun x hx => by
      rw [hF.left] at hx
      exact List.mem_range.1 (List.mem_filter.1 hx).1
    have hll : left.length ≤ 5 := by
      have := nodup_lt hF.nodup hlt
      omega
    have hfl : found.length ≤ 5 := by
      have := nodup_lt hF.nd hF.lt
      omega
    by_cases z : left = []
    · subst z
      exact .inl ⟨[some (.d (TD ts)), some (.m (.lst [])), some (.m (.lst (found.map I))), o3, o4, o5, none], by simp [wt1_from_last], found, o3, o4, o5, hF, rfl⟩
    · right
      obtain ⟨e', h1, o4', o5', hn, rfl⟩ := inner left found hll hlt o4 o5
      obtain ⟨n4', n5''⟩ := hn n4 n5'
      have k4 : ∀ {A : List Nat} {k : Nat} {s : Option S}, lkA1 A k s o4' = True := lkA1_nl n4'
      have k5 : ∀ {A : List Nat} {k : Nat} {s : Option S}, lkA1 A k s o5' = True := lkA1_nl n5''
      refine ⟨[some (.d (TD ts)), some (.m (.lst (left.map I))), some (.m (.lst (found.map I))), o3, o4, o5, none], ?_, ?_⟩
      · cases left with
        | nil => exact absurd rfl z
        | cons y l => simp [wt1_from_last]
      have z0 : 0 ≤ sizeLine := Nat.zero_le _
      by_cases zf : left.filter (fit ts left) = []
      · right
        refine ⟨.d .non, [some (.d (TD ts)), some (.m (.lst (left.map I))), some (.m (.lst (found.map I))), some (.m (.lst [])), o4', o5', none], ?_, rfl, _, _, _, _, _, _, rfl⟩
        rw [zf] at h1
        unfold lb1_from_last
        generalize left.map I = L1 at *
        generalize found.map I = L2 at *
        generalize TD ts = T at *
        simp -implicitDefEqProofs [h1, slkR_ok, k4, k5, z0]
      · left
        obtain ⟨x, hx, hm⟩ := maxL_nat zf
        have hx2 := List.mem_filter.1 hx
        have hN := hF.next hx2.1 hx2.2
        have hfe : ((left.filter (fit ts left)).map I).isEmpty = false := by
          cases q : left.filter (fit ts left) with
          | nil => exact absurd q zf
          | cons _ _ => rfl
        refine ⟨[some (.d (TD ts)), some (.m (.lst ((left.erase x).map I))), some (.m (.lst (found.map I ++ [I x]))), some (.m (.lst ((left.filter (fit ts left)).map I))), o4', o5', none], (left.erase x).length, .inl ?_, ?_, left.erase x, found ++ [x], _, _, _, hN, n4', n5'', rfl, by rw [List.map_append]; rfl⟩
        · have hmx : oMax [.m (.lst ((left.filter (fit ts left)).map I))] = some (.d (I x)) := by
            rw [mapI, oMax_1, intsOp_lst, intsOf_map]
            simp [hm]
          have hrm : oRem (left.map I) [.d (.int (x : Int))] = some (.non, (left.erase x).map I) := by
            rw [mapI, oRem_int, intsOf_map, Option.bind_some, if_pos (List.mem_map.2 ⟨x, hx2.1, rfl⟩), erase_cast, ← mapI]
          have hgl : getI (found.map I ++ [I x]) (-1) = some (I x) := getI_last
          have zl : (found.map I).length < sizeLine := by rw [List.length_map]; exact sizeLine_gt (by omega)
          unfold lb1_from_last
          generalize left.map I = L1 at *
          generalize (left.erase x).map I = L5 at *
          generalize found.map I = L2 at *
          generalize (left.filter (fit ts left)).map I = L3 at *
          generalize TD ts = T at *
          have hne : L3 ≠ [] := fun e => by rw [e] at hfe; cases hfe
          simp -implicitDefEqProofs [h1, slkR_ok, k4, k5, z0, hfe, hne, hmx, hrm, hgl, zl]
        · rw [List.length_erase_of_mem hx2.1]
          have : 0 < left.length := List.length_pos_iff.2 z
          omega
end K39
end

section
set_option Elab.async false
set_option linter.all false
set_option maxRecDepth 100000
namespace K39
open PySem PySem.Spec PyProof.Rows L2 QL
def lst (n : Nat) (f : Nat → Nat) : List D := (List.range n).map fun k => I (f k)
theorem lst_get {n k : Nat} {f : Nat → Nat} (h : k < n) : (lst n f)[k]? = some (I (f k)) := by
  unfold lst
  rw [List.getElem?_map, List.getElem?_range h]
  rfl
theorem lst_len {n : Nat} {f : Nat → Nat} : (lst n f).length = n := by simp [lst]
theorem lst_congr {n : Nat} {f g : Nat → Nat} (h : ∀ i < n, f i = g i) : lst n f = lst n g := List.map_congr_left fun i hi => by rw [h i (List.mem_range.1 hi)]
theorem lst_set {n k x : Nat} {f : Nat → Nat} : (lst n f).set k (I x) = lst n fun i => if i = k then x else f i := by
  apply List.ext_getElem
  · simp [lst]
  · intro i h1 h2
    rw [List.getElem_set]
    simp only [lst, List.getElem_map, List.getElem_range]
    by_cases z : k = i
    · rw [if_pos z, if_pos z.symm]
    · rw [if_neg z, if_neg fun q => z q.symm]
theorem rep0 {n : Nat} (hn : n ≤ 5) : oMulA (.m (.lst [.int 0])) (.d (.int (n : Int))) = some (.m (.lst (lst n fun _ => 0))) := by
  have s : smallI (n : Int) = true := smallI_of (by omega) (by omega)
  have z : n ≤ sizeLine := smallT (by omega)
  have e : (List.replicate n [D.int 0]).flatten = lst n fun _ => 0 := by
    apply List.ext_getElem
    · simp [lst]
    · intro i h1 h2
      simp [lst]
  unfold oMulA
  show Option.or (oMul (.m (.lst [.int 0])) (.d (.int (n : Int)))) _ = _
  have : oMul (.m (.lst [.int 0])) (.d (.int (n : Int))) = none := rfl
  rw [this]
  simp [s, z, e]
/-- the slots of a run -/
abbrev ev (ts : List Tk) (b : Bool) (most : Nat) (lf du : Nat → Nat) (rw : List Int) (o6 o7 o8 o9 o10 o11 o12 : Option S) : En :=
  [some (.d (TD ts)), some (.d (.bl b)), some (.d (I most)), some (.m (.lst (lst ts.length lf))), some (.m (.lst (lst ts.length du))), some (.m (.lst (rw.map D.int))), o6, o7, o8, o9, o10, o11, o12]
def rowV (rw : List Int) (x : D) : S := .m (.row [.l (rw.map D.int), .d x])
theorem run_inner {ts : List Tk} {b : Bool} {most : Nat} (h : TsOk ts) (m : Nat) (s : Sm) (rw : List Int) {o7 o8 o9 o10 o11 o12 : Option S} (h7 : okS o7 = true) :
    (∃ e', forL (bTup 2 (bCons (bName 7) (bCons (bTup 3 (bCons (bName 8) (bCons (bName 9) (bCons (bName 10) bNil)))) bNil))) lb2_run_of (pairsE 0 (ts.map Tk.D)) (ev ts b most s.l s.u rw (some (.d (I m))) o7 o8 o9 o10 o11 o12) = some (.nx e') ∧
      (∀ i < ts.length, ¬ (0 < s.l i ∧ s.u i ≤ m)) ∧ ∃ o7 o8 o9 o10, okS o7 = true ∧ e' = ev ts b most (rel ts m s).l (rel ts m s).u rw (some (.d (I m))) o7 o8 o9 o10 o11 o12) ∨
    (∃ v e', forL (bTup 2 (bCons (bName 7) (bCons (bTup 3 (bCons (bName 8) (bCons (bName 9) (bCons (bName 10) bNil)))) bNil))) lb2_run_of (pairsE 0 (ts.map Tk.D)) (ev ts b most s.l s.u rw (some (.d (I m))) o7 o8 o9 o10 o11 o12) = some (.rt v e') ∧
      ∃ k < ts.length, (∀ i < k, ¬ (0 < s.l i ∧ s.u i ≤ m)) ∧ 0 < s.l k ∧ s.u k ≤ m ∧ v = rowV rw (.tup [I k, I m])) := by
  have loop := for_exit (b := bTup 2 (bCons (bName 7) (bCons (bTup 3 (bCons (bName 8) (bCons (bName 9) (bCons (bName 10) bNil)))) bNil))) (f := lb2_run_of) (xs := pairsE 0 (ts.map Tk.D)) (e := ev ts b most s.l s.u rw (some (.d (I m))) o7 o8 o9 o10 o11 o12)
    (fun k e => (∀ i < k, ¬ (0 < s.l i ∧ s.u i ≤ m)) ∧ ∃ o7 o8 o9 o10, okS o7 = true ∧ e = ev ts b most (fun i => if i < k then (rel ts m s).l i else s.l i) (fun i => if i < k then (rel ts m s).u i else s.u i) rw (some (.d (I m))) o7 o8 o9 o10 o11 o12)
    (fun v e => ∃ k < ts.length, (∀ i < k, ¬ (0 < s.l i ∧ s.u i ≤ m)) ∧ 0 < s.l k ∧ s.u k ≤ m ∧ v = rowV rw (.tup [I k, I m]))
    ⟨fun i hi => absurd hi (Nat.not_lt_zero _), o7, o8, o9, o10, h7, by simp⟩ ?_
  · rcases loop with ⟨e', h1, h2, o7, o8, o9, o10, h8, rfl⟩ | ⟨v, e', h1, h2⟩
    · left
      refine ⟨_, h1, fun i hi => h2 i (by rw [pairsE_length, List.length_map]; exact hi), o7, o8, o9, o10, h8, ?_⟩
      rw [pairsE_length, List.length_map]
      unfold ev
      rw [lst_congr (g := (rel ts m s).l) fun i hi => if_pos hi, lst_congr (g := (rel ts m s).u) fun i hi => if_pos hi]
    · exact .inr ⟨v, e', h1, h2⟩
  · rintro k x e hx ⟨hok, o7, o8, o9, o10, h7, rfl⟩
    have hk : k < ts.length := by
      have := (List.getElem?_eq_some_iff.1 hx).1
      rwa [pairsE_length, List.length_map] at this
    rw [pairsE_at (ix_tk hk)] at hx
    cases hx
    have ok := (tk_ok h.ok hk).1
    have hrl : (rel ts m s).l k = if m % (tk ts k).p = 0 then (tk ts k).c else s.l k := rfl
    have hru : (rel ts m s).u k = if m % (tk ts k).p = 0 then m + (tk ts k).d else s.u k := rfl
    obtain ⟨c, d, p, ht⟩ : ∃ c d p, tk ts k = ⟨c, d, p⟩ := ⟨_, _, _, rfl⟩
    rw [ht] at ok hrl hru ⊢
    have c1 : 1 ≤ c := ok.c1; have cd : c ≤ d := ok.cd; have dp : d ≤ p := ok.dp
    have p0 : 0 < p := by omega
    have g3 : (lst ts.length (fun i => if i < k then (rel ts m s).l i else s.l i))[k]? = some (I (s.l k)) := by rw [lst_get hk, if_neg (Nat.lt_irrefl _)]
    have g4 : (lst ts.length (fun i => if i < k then (rel ts m s).u i else s.u i))[k]? = some (I (s.u k)) := by rw [lst_get hk, if_neg (Nat.lt_irrefl _)]
    have e3 : ∀ (f g : Nat → Nat) (x : Nat), g k = x → (lst ts.length (fun i => if i < k then g i else f i)).set k (I x) = lst ts.length (fun i => if i < k + 1 then g i else f i) := fun f g x hx => by
      rw [lst_set]
      refine lst_congr fun i _ => ?_
      by_cases q : i = k
      · subst q
        rw [if_pos rfl, if_pos (by omega), hx]
      · rw [if_neg q]
        by_cases q2 : i < k
        · rw [if_pos q2, if_pos (by omega)]
        · rw [if_neg q2, if_neg (by omega)]
    have e4 : ∀ (f g : Nat → Nat), g k = f k → lst ts.length (fun i => if i < k then g i else f i) = lst ts.length (fun i => if i < k + 1 then g i else f i) := fun f g hx => lst_congr fun i _ => by
      by_cases q : i = k
      · subst q
        rw [if_neg (Nat.lt_irrefl _), if_pos (by omega), hx]
      · by_cases q2 : i < k
        · rw [if_pos q2, if_pos (by omega)]
        · rw [if_neg q2, if_neg (by omega)]
    have l3 : k < (lst ts.length (fun i => if i < k then (rel ts m s).l i else s.l i)).length := by rw [lst_len]; exact hk
    have l4 : k < (lst ts.length (fun i => if i < k then (rel ts m s).u i else s.u i)).length := by rw [lst_len]; exact hk
    have z2 : 2 ≤ sizeLine := smallT (by decide)
    have hd : Tk.D ⟨c, d, p⟩ = .tup [I c, I d, I p] := rfl
    have e0 : (0 + k : Nat) = k := Nat.zero_add k
    refine ⟨ev ts b most (fun i => if i < k then (rel ts m s).l i else s.l i) (fun i => if i < k then (rel ts m s).u i else s.u i) rw (some (.d (I m))) (some (.d (I k))) (some (.d (I c))) (some (.d (I d))) (some (.d (I p))) o11 o12, by rw [hd, e0]; simp -implicitDefEqProofs [ev], ?_⟩
    by_cases zm : 0 < s.l k ∧ s.u k ≤ m
    · right
      refine ⟨rowV rw (.tup [I k, I m]), [some (.d (TD ts)), some (.d (.bl b)), some (.d (I most)), some (.m (.lst (lst ts.length (fun i => if i < k then (rel ts m s).l i else s.l i)))), some (.m (.lst (lst ts.length (fun i => if i < k then (rel ts m s).u i else s.u i)))), none, some (.d (I m)), some (.d (I k)), some (.d (I c)), some (.d (I d)), some (.d (I p)), o11, o12], ?_, k, hk, hok, zm.1, zm.2, rfl⟩
      unfold lb2_run_of ev rowV
      generalize lst ts.length (fun i => if i < k then (rel ts m s).l i else s.l i) = L3 at *
      generalize lst ts.length (fun i => if i < k then (rel ts m s).u i else s.u i) = L4 at *
      generalize rw.map D.int = L5
      generalize TD ts = T
      simp -implicitDefEqProofs [g3, g4, zm.1, zm.2, z2]
    · left
      have hbranch : ∃ e2, lb2_run_of (ev ts b most (fun i => if i < k then (rel ts m s).l i else s.l i) (fun i => if i < k then (rel ts m s).u i else s.u i) rw (some (.d (I m))) (some (.d (I k))) (some (.d (I c))) (some (.d (I d))) (some (.d (I p))) o11 o12) = some (.nx e2) ∧ e2 = ev ts b most (fun i => if i < k + 1 then (rel ts m s).l i else s.l i) (fun i => if i < k + 1 then (rel ts m s).u i else s.u i) rw (some (.d (I m))) (some (.d (I k))) (some (.d (I c))) (some (.d (I d))) (some (.d (I p))) o11 o12 := by
        obtain ⟨q, hq⟩ : ∃ q, q = m % p := ⟨_, rfl⟩
        have hmod : (m : Int) % (p : Int) = (q : Int) := by rw [hq]; rfl
        rw [← hq] at hrl hru
        by_cases zp : q = 0
        · rw [if_pos zp] at hrl hru
          refine ⟨_, ?_, by unfold ev; rw [← e3 s.l (rel ts m s).l c hrl, ← e3 s.u (rel ts m s).u (m + d) hru]⟩
          unfold lb2_run_of ev
          generalize lst ts.length (fun i => if i < k then (rel ts m s).l i else s.l i) = L3 at *
          generalize lst ts.length (fun i => if i < k then (rel ts m s).u i else s.u i) = L4 at *
          generalize rw.map D.int = L5
          generalize TD ts = T
          have hp3 : ∀ x, putL L3 (k : Int) x = some (L3.set k x) := fun x => by rw [putL_nat, if_pos l3]
          have hp4 : ∀ x, putL L4 (k : Int) x = some (L4.set k x) := fun x => by rw [putL_nat, if_pos l4]
          by_cases z1 : 0 < s.l k
          · have z3 : ¬ s.u k ≤ m := fun q => zm ⟨z1, q⟩
            have z4 : m < s.u k := by omega
            simp -implicitDefEqProofs [-putL_nat, g3, g4, z1, z3, z4, z2, p0, hmod, zp, hp3, hp4]
            rfl
          · have z3 : s.l k = 0 := by omega
            simp -implicitDefEqProofs [-putL_nat, g3, g4, z3, z2, p0, hmod, zp, hp3, hp4]
            rfl
        · rw [if_neg zp] at hrl hru
          refine ⟨_, ?_, by unfold ev; rw [← e4 s.l (rel ts m s).l hrl, ← e4 s.u (rel ts m s).u hru]⟩
          have zp' : ¬ (q : Int) = 0 := by omega
          unfold lb2_run_of ev
          generalize lst ts.length (fun i => if i < k then (rel ts m s).l i else s.l i) = L3 at *
          generalize lst ts.length (fun i => if i < k then (rel ts m s).u i else s.u i) = L4 at *
          generalize rw.map D.int = L5
          generalize TD ts = T
          have hp3 : ∀ x, putL L3 (k : Int) x = some (L3.set k x) := fun x => by rw [putL_nat, if_pos l3]
          have hp4 : ∀ x, putL L4 (k : Int) x = some (L4.set k x) := fun x => by rw [putL_nat, if_pos l4]
          by_cases z1 : 0 < s.l k
          · have z3 : ¬ s.u k ≤ m := fun q => zm ⟨z1, q⟩
            have z4 : m < s.u k := by omega
            simp -implicitDefEqProofs [g3, g4, z1, z3, z4, z2, p0, hmod, zp, zp']
          · have z3 : s.l k = 0 := by omega
            simp -implicitDefEqProofs [g3, g4, z3, z2, p0, hmod, zp, zp']
      obtain ⟨e2, h1, rfl⟩ := hbranch
      refine ⟨_, .inl h1, fun i hi => ?_, _, _, _, _, rfl, rfl⟩
      by_cases q : i = k
      · subst q; exact zm
      · exact hok i (by omega)
end K39
end

section
set_option Elab.async false
set_option linter.all false
set_option maxRecDepth 100000
namespace K39
open PySem PySem.Spec PyProof.Rows L2 QL
/-! which is run -/
def rd (n : Nat) (l : Nat → Nat) : List Nat := (List.range n).filter fun k => decide (0 < l k)
def kt (key : Nat → Nat) (k : Nat) : D := .tup [I (key k), I k]
theorem lt_kt {key : Nat → Nat} {i j : Nat} (h : j < i) : ltD (kt key i) (kt key j) = decide (key i < key j) := by
  unfold kt
  rw [ltD_tup, ltDs_cons, ltDs_cons]
  have e1 : eqD (I (key i)) (I (key j)) = decide ((key i : Int) = (key j : Int)) := rfl
  have e2 : eqD (I i) (I j) = decide ((i : Int) = (j : Int)) := rfl
  rw [e1, e2, ltD_int, ltD_int]
  by_cases z : key i = key j
  · rw [if_pos (decide_eq_true (by omega)), if_neg (fun q => by have := of_decide_eq_true q; omega)]
    simp
    omega
  · rw [if_neg (fun q => z (by have := of_decide_eq_true q; omega))]
    simp
theorem min_pk {key l : Nat → Nat} : ∀ {n : Nat}, (pk key l n = none ∧ rd n l = []) ∨ ∃ j x xs, pk key l n = some j ∧ rd n l = x :: xs ∧ minDD (kt key x) (xs.map (kt key)) = kt key j
  | 0 => .inl ⟨rfl, rfl⟩
  | n + 1 => by
    have er : rd (n + 1) l = rd n l ++ if 0 < l n then [n] else [] := by
      unfold rd
      rw [List.range_succ, List.filter_append]
      congr 1
      by_cases z : 0 < l n
      · rw [if_pos z, List.filter_cons_of_pos (by simpa using z)]; rfl
      · rw [if_neg z, List.filter_cons_of_neg (by simpa using z)]; rfl
    have ep : pk key l (n + 1) = if 0 < l n then (match pk key l n with | none => some n | some j => if key n < key j then some n else some j) else pk key l n := rfl
    rw [er, ep]
    rcases min_pk (key := key) (l := l) (n := n) with ⟨h1, h2⟩ | ⟨j, x, xs, h1, h2, h3⟩
    · rw [h1, h2]
      by_cases z : 0 < l n
      · rw [if_pos z, if_pos z]
        exact .inr ⟨n, n, [], rfl, rfl, rfl⟩
      · rw [if_neg z, if_neg z]
        exact .inl ⟨rfl, rfl⟩
    · rw [h1, h2]
      have hj := (pk_some h1).1
      by_cases z : 0 < l n
      · rw [if_pos z, if_pos z]
        refine .inr ⟨if key n < key j then n else j, x, xs ++ [n], ?_, rfl, ?_⟩
        · show (if key n < key j then some n else some j) = _
          split <;> rfl
        · unfold minDD at h3 ⊢
          rw [List.map_append, List.foldl_append, h3]
          show (if ltD (kt key n) (kt key j) = true then kt key n else kt key j) = _
          rw [lt_kt hj]
          by_cases q : key n < key j
          · rw [if_pos (by simpa using q), if_pos q]
          · rw [if_neg (by simpa using q), if_neg q]
      · rw [if_neg z, if_neg z, List.append_nil]
        exact .inr ⟨j, x, xs, rfl, rfl, h3⟩
theorem mmC_kt {key : Nat → Nat} {l : List Nat} (h : l.length ≤ 5) : mmC (l.map (kt key)) = true := by
  unfold mmC
  have h1 : allAl (l.map (kt key)) = true := allAl_of fun x hx y hy => by
    obtain ⟨i, _, rfl⟩ := List.mem_map.1 hx
    obtain ⟨j, _, rfl⟩ := List.mem_map.1 hy
    simp [kt]
  have h2 : (l.map (kt key)).all notNon = true := List.all_eq_true.2 fun x hx => by
    obtain ⟨i, _, rfl⟩ := List.mem_map.1 hx
    rfl
  have h3 : ∀ l : List Nat, shDs 8 (l.map (kt key)) = true := fun l => by
    induction l with
    | nil => exact shDs_nil
    | cons x l ih => rw [List.map_cons, shDs_cons, ih]; rfl
  have h4 : (l.map (kt key)).length ≤ sizeLine := by rw [List.length_map]; exact smallT (by omega)
  rw [h1, h2, h3, decide_eq_true h4]
  rfl
theorem min_kt {key l : Nat → Nat} {n j : Nat} (hn : n ≤ 5) (h : pk key l n = some j) : oMinA [.m (.lst ((rd n l).map (kt key)))] = some (.d (kt key j)) := by
  rcases min_pk (key := key) (l := l) (n := n) with ⟨h1, h2⟩ | ⟨i, x, xs, h1, h2, h3⟩
  · rw [h] at h1; cases h1
  · rw [h] at h1
    cases h1
    have hl : (rd n l).length ≤ 5 := Nat.le_trans (List.length_filter_le _ _) (by simp; omega)
    have hm := mmC_kt (key := key) hl
    rw [h2] at hm ⊢
    rw [List.map_cons] at hm ⊢
    have := oMinA_tups (ys := [I (key x), I x]) (l := xs.map (kt key)) hm
    rw [← h3]
    exact this
theorem rd_nil {key l : Nat → Nat} {n : Nat} (h : pk key l n = none) : rd n l = [] := by
  rcases min_pk (key := key) (l := l) (n := n) with ⟨h1, h2⟩ | ⟨i, x, xs, h1, h2, h3⟩
  · exact h2
  · rw [h] at h1; cases h1
def posD (l : Nat → Nat) : D → Bool := fun x => match x with
  | .int i => decide (0 < l i.toNat)
  | _ => false
theorem posD_all {l : Nat → Nat} {n : Nat} : ((List.range n).map I).filter (posD l) = (rd n l).map I := by
  rw [List.filter_map]
  rfl
def ktR (key : Nat → Nat) : D → D := fun x => match x with
  | .int i => kt key i.toNat
  | _ => .non
theorem ktR_all {key : Nat → Nat} {l : List Nat} : (l.map I).map (ktR key) = l.map (kt key) := by
  rw [List.map_map]
  rfl
/-- one moment -/
theorem run_moment {ts : List Tk} {b : Bool} {most : Nat} (h : TsOk ts) (m : Nat) (s : Sm) (rw : List Int) (hrw : rw.length ≤ 5000) {o7 o8 o9 o10 o11 o12 : Option S} (h7 : okS o7 = true) :
    (∃ e', (lb1_run_of (ev ts b most s.l s.u rw (some (.d (I m))) o7 o8 o9 o10 o11 o12) = some (.nx e') ∨ lb1_run_of (ev ts b most s.l s.u rw (some (.d (I m))) o7 o8 o9 o10 o11 o12) = some (.ct e')) ∧
      (∀ i < ts.length, ¬ (0 < s.l i ∧ s.u i ≤ m)) ∧ ∃ o7 o8 o9 o10 o11 o12, okS o7 = true ∧ e' = ev ts b most (stp ts b m s).l (stp ts b m s).u (rw ++ [outO (pkS ts.length b (rel ts m s))]) (some (.d (I m))) o7 o8 o9 o10 o11 o12) ∨
    (∃ v e', lb1_run_of (ev ts b most s.l s.u rw (some (.d (I m))) o7 o8 o9 o10 o11 o12) = some (.rt v e') ∧
      ∃ k < ts.length, (∀ i < k, ¬ (0 < s.l i ∧ s.u i ≤ m)) ∧ 0 < s.l k ∧ s.u k ≤ m ∧ v = rowV rw (.tup [I k, I m])) := by
  have n5 := h.n5
  rcases run_inner (b := b) (most := most) (o8 := o8) (o9 := o9) (o10 := o10) (o11 := o11) (o12 := o12) h m s rw h7 with ⟨e', h1, h2, o7', o8', o9', o10', h7', rfl⟩ | ⟨v, e', h1, h2⟩
  · left
    obtain ⟨r, hr⟩ : ∃ r, r = rel ts m s := ⟨_, rfl⟩
    rw [← hr] at h1
    have rz : rngL 0 ts.length = (List.range ts.length).map I := rngL_zero
    have sI : smallI (ts.length : Int) = true := smallI_of (by omega) (by omega)
    have zl : ts.length ≤ sizeLine := smallT (by omega)
    have hL3 : lcL [7] (bName 7) ct3_run_of ce3_run_of (rngL 0 ts.length) [] (ev ts b most r.l r.u rw (some (.d (I m))) o7' o8' o9' o10' o11 o12) = some (.val (.m (.lst ((rd ts.length r.l).map I))), ev ts b most r.l r.u rw (some (.d (I m))) o7' o8' o9' o10' o11 o12) := by
      rw [rz, lc_filter (posD r.l), posD_all]
      intro x hx
      obtain ⟨k, hk, rfl⟩ := List.mem_map.1 hx
      have g := lst_get (f := r.l) (List.mem_range.1 hk)
      unfold ev posD
      generalize lst ts.length r.l = L3 at *
      generalize lst ts.length r.u = L4
      generalize rw.map D.int = L5
      generalize TD ts = T
      by_cases z : 0 < r.l k
      · simp -implicitDefEqProofs [lcOne, ct3_run_of, ce3_run_of, g, z]
      · have z2 : r.l k = 0 := by omega
        simp -implicitDefEqProofs [lcOne, ct3_run_of, ce3_run_of, g, z2]
    have zr : rw.length < sizeLine := sizeLine_gt (by omega)
    have zr' : (rw.map D.int).length < sizeLine := by rw [List.length_map]; exact zr
    have zT : (ts.map Tk.D).length = ts.length := List.length_map ..
    have est : stp ts b m s = dec r (pkS ts.length b r) := by rw [hr]; rfl
    rw [est, ← hr]
    cases hp : pkS ts.length b r with
    | none =>
      have e0 := rd_nil hp
      rw [e0] at hL3
      refine ⟨ev ts b most r.l r.u (rw ++ [-1]) (some (.d (I m))) o7' o8' o9' o10' (some (.m (.lst []))) o12, .inr ?_, h2, o7', o8', o9', o10', _, _, h7', rfl⟩
      unfold lb1_run_of
      unfold ev at *
      rw [List.map_append]
      generalize lst ts.length r.l = L3 at *
      generalize lst ts.length r.u = L4 at *
      generalize lst ts.length s.l = L6 at *
      generalize lst ts.length s.u = L7 at *
      generalize rw.map D.int = L5 at *
      unfold TD at *
      rw [← zT] at sI zl hL3
      generalize ts.map Tk.D = T at *
      simp -implicitDefEqProofs [h1, hL3, sI, zl, h7', zr', rngL_len]
    | some j =>
      obtain ⟨hj, hj0, hjm⟩ := pk_some hp
      have hne : rd ts.length r.l ≠ [] := fun e => by
        have : j ∈ rd ts.length r.l := List.mem_filter.2 ⟨List.mem_range.2 hj, by simpa using hj0⟩
        rw [e] at this
        cases this
      have hlt : ∀ k ∈ rd ts.length r.l, k < ts.length := fun k hk => List.mem_range.1 (List.mem_filter.1 hk).1
      have hrl : (rd ts.length r.l).length ≤ 5 := Nat.le_trans (List.length_filter_le _ _) (by simp; omega)
      have hL4 : lcL [7] (bName 7) fYes ce4_run_of ((rd ts.length r.l).map I) [] (ev ts b most r.l r.u rw (some (.d (I m))) o7' o8' o9' o10' (some (.lk (.lst ((rd ts.length r.l).map I)))) o12) = some (.val (.m (.lst ((rd ts.length r.l).map (kt (ky b r))))), ev ts b most r.l r.u rw (some (.d (I m))) o7' o8' o9' o10' (some (.lk (.lst ((rd ts.length r.l).map I)))) o12) := by
        rw [lc_map (ktR (ky b r)), ktR_all]
        intro x hx
        obtain ⟨k, hk, rfl⟩ := List.mem_map.1 hx
        have g := lst_get (f := r.u) (hlt k hk)
        have ek : ktR (ky b r) (I k) = kt (ky b r) k := rfl
        have z2 : 2 ≤ sizeLine := smallT (by decide)
        rw [ek]
        unfold ev kt ky
        generalize lst ts.length r.l = L3 at *
        generalize lst ts.length r.u = L4 at *
        generalize rw.map D.int = L5
        generalize (rd ts.length r.l).map I = L6
        generalize TD ts = T
        cases b <;> simp -implicitDefEqProofs [lcOne, ce4_run_of, g, z2]
      have hmin := min_kt (key := ky b r) h.n5 hp
      have gj := lst_get (f := r.l) hj
      have e1 : ((r.l j : Int) - 1) = ((r.l j - 1 : Nat) : Int) := by omega
      have ls := lst_set (n := ts.length) (k := j) (x := r.l j - 1) (f := r.l)
      have lj : j < (lst ts.length r.l).length := by rw [lst_len]; exact hj
      have zrd : ((rd ts.length r.l).map I).length ≤ sizeLine := by rw [List.length_map]; exact smallT (by omega)
      refine ⟨ev ts b most (dec r (some j)).l r.u (rw ++ [(j : Int)]) (some (.d (I m))) o7' o8' o9' o10' (some (.m (.lst ((rd ts.length r.l).map I)))) (some (.d (I j))), .inl ?_, h2, o7', o8', o9', o10', _, _, h7', rfl⟩
      have el : lst ts.length (dec r (some j)).l = (lst ts.length r.l).set j (I (r.l j - 1)) := by
        rw [ls]
        refine lst_congr fun i _ => ?_
        show (if i = j then r.l i - 1 else r.l i) = _
        by_cases q : i = j
        · subst q; simp
        · rw [if_neg q, if_neg q]
      unfold lb1_run_of
      unfold ev at *
      rw [List.map_append, el]
      have hne' : (rd ts.length r.l).map I ≠ [] := fun e => hne (List.map_eq_nil_iff.1 e)
      generalize lst ts.length r.l = L3 at *
      generalize lst ts.length r.u = L4 at *
      generalize lst ts.length s.l = L6 at *
      generalize lst ts.length s.u = L7 at *
      generalize rw.map D.int = L5 at *
      generalize (rd ts.length r.l).map I = L8 at *
      generalize (rd ts.length r.l).map (kt (ky b r)) = L9 at *
      unfold TD at *
      rw [← zT] at sI zl hL3
      generalize ts.map Tk.D = T at *
      have hp3 : ∀ x, putL L3 (j : Int) x = some (L3.set j x) := fun x => by rw [putL_nat, if_pos lj]
      have hkt : kt (ky b r) j = .tup [I (ky b r j), I j] := rfl
      rw [hkt] at hmin
      simp -implicitDefEqProofs [-putL_nat, h1, hL3, hL4, hmin, sI, zl, h7', zr', rngL_len, zrd, gj, e1, hp3, lockR_ok, hne']
  · right
    refine ⟨v, e', ?_, h2⟩
    unfold lb1_run_of
    unfold ev at *
    generalize lst ts.length s.l = L6 at *
    generalize lst ts.length s.u = L7 at *
    generalize rw.map D.int = L5 at *
    unfold TD at *
    generalize ts.map Tk.D = T at *
    simp -implicitDefEqProofs [h1]
end K39
end

section
set_option Elab.async false
set_option linter.all false
set_option maxRecDepth 100000
namespace K39
open PySem PySem.Spec PyProof.Rows L2 QL
/-- how a run ends -/
def RunR (ts : List Tk) (b : Bool) (most m' : Nat) (x : D) : Prop := (Cl ts b (most + 1) ∧ m' = most ∧ x = .non) ∨ ∃ k, m' ≤ most ∧ 1 ≤ m' ∧ Cl ts b m' ∧ ¬ Cl ts b (m' + 1) ∧ x = .tup [I k, I m']
theorem cl_mono {ts : List Tk} {b : Bool} {x y : Nat} (h : Cl ts b y) (hx : x ≤ y) : Cl ts b x := fun z hz => h z (by omega)
theorem cl_next {ts : List Tk} {b : Bool} {m : Nat} (h : Cl ts b m) (h2 : ∀ i < ts.length, ¬ (0 < (sim ts b m).l i ∧ (sim ts b m).u i ≤ m)) : Cl ts b (m + 1) := fun y hy k hk h0 => by
  by_cases z : y < m
  · exact h y z k hk h0
  · have : y = m := by omega
    subst this
    have := h2 k hk
    omega
theorem cl_miss {ts : List Tk} {b : Bool} {m k : Nat} (hk : k < ts.length) (h1 : 0 < (sim ts b m).l k) (h2 : (sim ts b m).u k ≤ m) : ¬ Cl ts b (m + 1) ∧ 1 ≤ m := by
  refine ⟨fun h => ?_, ?_⟩
  · have := h m (by omega) k hk h1
    omega
  · cases m with
    | zero => exact absurd h1 (Nat.lt_irrefl _)
    | succ m => omega
theorem f_run_of {ts : List Tk} (h : TsOk ts) {b : Bool} {most : Nat} (hm : most ≤ 2000) : ∃ m' x, fn_run_of [.d (TD ts), .d (.bl b), .d (I most)] = some (rowV (row ts b m') x, [.d (TD ts), .d (.bl b), .d (I most)]) ∧ RunR ts b most m' x := by
  simp only [fn_run_of, mkFn, b_run_of, A_run_of]
  have n5 := h.n5
  have sI : smallI (ts.length : Int) = true := smallI_of (by omega) (by omega)
  have sM : smallI (most : Int) = true := smallI_of (by omega) (by omega)
  have zT : (ts.map Tk.D).length = ts.length := List.length_map ..
  have z0 : 0 ≤ sizeLine := Nat.zero_le _
  have z1 : 1 ≤ sizeLine := smallT (by decide)
  have z2 : 2 ≤ sizeLine := smallT (by decide)
  have hr0 : oMulA (.m (.lst [.int 0])) (.d (.int ((ts.map Tk.D).length : Int))) = some (.m (.lst (lst ts.length fun _ => 0))) := by rw [zT]; exact rep0 n5
  have loop := for_exit (b := bName 6) (f := lb1_run_of) (xs := rngL 0 most) (e := ev ts b most (fun _ => 0) (fun _ => 0) [] none none none none none none none)
    (fun m e => Cl ts b m ∧ ∃ o6 o7 o8 o9 o10 o11 o12, okS o7 = true ∧ e = ev ts b most (sim ts b m).l (sim ts b m).u (row ts b m) o6 o7 o8 o9 o10 o11 o12)
    (fun v e => ∃ m' x, v = rowV (row ts b m') x ∧ RunR ts b most m' x)
    ⟨fun y hy => absurd hy (Nat.not_lt_zero _), none, none, none, none, none, none, none, rfl, rfl⟩ ?_
  · rcases loop with ⟨e', h1, h2, o6, o7, o8, o9, o10, o11, o12, h7, rfl⟩ | ⟨v, e', h1, m', x, rfl, hR⟩
    · rw [rngL_len] at h2 h1
      -- the last look
      have loop2 := for_exit (b := bName 7) (f := lb5_run_of) (xs := rngL 0 ts.length) (e := ev ts b most (sim ts b most).l (sim ts b most).u (row ts b most) o6 o7 o8 o9 o10 o11 o12)
        (fun k e => (∀ i < k, ¬ (0 < (sim ts b most).l i ∧ (sim ts b most).u i ≤ most)) ∧ ∃ o7, e = ev ts b most (sim ts b most).l (sim ts b most).u (row ts b most) o6 o7 o8 o9 o10 o11 o12)
        (fun v e => ∃ m' x, v = rowV (row ts b m') x ∧ RunR ts b most m' x)
        ⟨fun i hi => absurd hi (Nat.not_lt_zero _), o7, rfl⟩ ?_
      · rcases loop2 with ⟨e', h3, h4, o7, rfl⟩ | ⟨v, e', h3, m', x, rfl, hR⟩
        · rw [rngL_len] at h4
          refine ⟨most, .non, ?_, .inl ⟨cl_next h2 h4, rfl, rfl⟩⟩
          unfold rowV
          unfold ev at *
          generalize lst ts.length (sim ts b most).l = L3 at *
          generalize lst ts.length (sim ts b most).u = L4 at *
          generalize (row ts b most).map D.int = L5 at *
          unfold TD at *
          generalize lst ts.length (fun _ => 0) = L7 at *
          simp only [List.map_nil] at h1
          rw [← zT] at sI h3
          generalize ts.map Tk.D = T at *
          simp -implicitDefEqProofs [hr0, h1, h3, sI, sM, z0, z1, z2]
        · refine ⟨m', x, ?_, hR⟩
          unfold rowV at *
          unfold ev at *
          generalize lst ts.length (sim ts b most).l = L3 at *
          generalize lst ts.length (sim ts b most).u = L4 at *
          generalize (row ts b most).map D.int = L5 at *
          unfold TD at *
          generalize lst ts.length (fun _ => 0) = L7 at *
          simp only [List.map_nil] at h1
          rw [← zT] at sI h3
          generalize ts.map Tk.D = T at *
          simp -implicitDefEqProofs [hr0, h1, h3, sI, sM, z0, z1, z2]
      · rintro k x e hx ⟨hok, o7, rfl⟩
        obtain ⟨hk, rfl⟩ := rngL_get hx
        have g3 := lst_get (f := (sim ts b most).l) hk
        have g4 := lst_get (f := (sim ts b most).u) hk
        have e0 : (0 + (k : Int)) = (k : Int) := Int.zero_add _
        rw [e0]
        refine ⟨ev ts b most (sim ts b most).l (sim ts b most).u (row ts b most) o6 (some (.d (I k))) o8 o9 o10 o11 o12, rfl, ?_⟩
        by_cases zm : 0 < (sim ts b most).l k ∧ (sim ts b most).u k ≤ most
        · right
          obtain ⟨c1, c2⟩ := cl_miss hk zm.1 zm.2
          refine ⟨rowV (row ts b most) (.tup [I k, I most]), [some (.d (TD ts)), some (.d (.bl b)), some (.d (I most)), some (.m (.lst (lst ts.length (sim ts b most).l))), some (.m (.lst (lst ts.length (sim ts b most).u))), none, o6, some (.d (I k)), o8, o9, o10, o11, o12], ?_, most, _, rfl, .inr ⟨k, Nat.le_refl _, c2, h2, c1, rfl⟩⟩
          unfold lb5_run_of rowV ev
          generalize lst ts.length (sim ts b most).l = L3 at *
          generalize lst ts.length (sim ts b most).u = L4 at *
          generalize (row ts b most).map D.int = L5 at *
          generalize TD ts = T at *
          simp -implicitDefEqProofs [g3, g4, zm.1, zm.2, z2]
        · left
          refine ⟨_, .inl (?_ : _ = some (Res.nx (ev ts b most (sim ts b most).l (sim ts b most).u (row ts b most) o6 (some (.d (I k))) o8 o9 o10 o11 o12))), fun i hi => ?_, _, rfl⟩
          · unfold lb5_run_of ev
            generalize lst ts.length (sim ts b most).l = L3 at *
            generalize lst ts.length (sim ts b most).u = L4 at *
            generalize (row ts b most).map D.int = L5 at *
            generalize TD ts = T at *
            by_cases z1 : 0 < (sim ts b most).l k
            · have z3 : ¬ (sim ts b most).u k ≤ most := fun q => zm ⟨z1, q⟩
              have z4 : most < (sim ts b most).u k := by omega
              simp -implicitDefEqProofs [g3, g4, z1, z3, z4, z2]
            · have z3 : (sim ts b most).l k = 0 := by omega
              simp -implicitDefEqProofs [g3, g4, z3, z2]
          · by_cases q : i = k
            · subst q; exact zm
            · exact hok i (by omega)
    · refine ⟨m', x, ?_, hR⟩
      unfold rowV at *
      unfold ev at *
      unfold TD at *
      generalize lst ts.length (fun _ => 0) = L7 at *
      simp only [List.map_nil] at h1
      generalize ts.map Tk.D = T at *
      simp -implicitDefEqProofs [hr0, h1, sM, z0, z1, z2]
  · rintro m x e hx ⟨hc, o6, o7, o8, o9, o10, o11, o12, h7, rfl⟩
    obtain ⟨hmm, rfl⟩ := rngL_get hx
    have e0 : (0 + (m : Int)) = (m : Int) := Int.zero_add _
    rw [e0]
    refine ⟨ev ts b most (sim ts b m).l (sim ts b m).u (row ts b m) (some (.d (I m))) o7 o8 o9 o10 o11 o12, rfl, ?_⟩
    rcases run_moment (b := b) (most := most) (o8 := o8) (o9 := o9) (o10 := o10) (o11 := o11) (o12 := o12) h m (sim ts b m) (row ts b m) (by rw [row_len]; omega) h7 with ⟨e', h1, h2, o7', o8', o9', o10', o11', o12', h7', rfl⟩ | ⟨v, e', h1, k, hk, h2, h3, h4, rfl⟩
    · left
      refine ⟨_, h1, cl_next hc h2, some (.d (I m)), o7', o8', o9', o10', o11', o12', h7', ?_⟩
      rw [row_succ]
      rfl
    · right
      obtain ⟨c1, c2⟩ := cl_miss hk h3 h4
      exact ⟨_, _, h1, m, _, rfl, .inr ⟨k, by omega, c2, hc, c1, rfl⟩⟩
def kd (b : Bool) : D := .str (PySem.Str.ofString (if b = true then "deadline" else "number"))
theorem kd_sh {b : Bool} : shD 8 (kd b) = true := by cases b <;> decide +kernel
theorem kds_sh : shDs 8 [.str (PySem.Str.ofString "deadline"), .str (PySem.Str.ofString "number")] = true := by decide +kernel
theorem kd_in {b : Bool} : oNinT (.d (kd b)) (.d (.tup [.str (PySem.Str.ofString "deadline"), .str (PySem.Str.ofString "number")])) = some (.d (.bl false)) := by
  rw [oNinT_tup kd_sh kds_sh, show (!([D.str (PySem.Str.ofString "deadline"), .str (PySem.Str.ofString "number")].any fun z => eqD z (kd b))) = false by cases b <;> decide +kernel]
theorem kd_eq {b : Bool} : oEq (.d (kd b)) (.d (.str (PySem.Str.ofString "deadline"))) = some (.d (.bl b)) := by
  rw [oEq_d kd_sh (by decide +kernel), show eqD (kd b) (.str (PySem.Str.ofString "deadline")) = b by cases b <;> decide +kernel]
theorem f_play {ts : List Tk} (h : TsOk ts) {b : Bool} {most : Nat} (hm : most ≤ 2000) : ∃ m' x, fn_play [.d (TD ts), .d (kd b), .d (I most)] = some (.d (.tup [.tup ((row ts b m').map D.int), x]), [.d (TD ts), .d (kd b), .d (I most)]) ∧ RunR ts b most m' x := by
  simp only [fn_play, mkFn, b_play, A_play]
  have hC := f_check h
  obtain ⟨m', x, hR, hr⟩ := f_run_of h (b := b) hm
  refine ⟨m', x, ?_, hr⟩
  have z2 : 2 ≤ sizeLine := smallT (by decide)
  have e1 := kd_in (b := b)
  have e2 := kd_eq (b := b)
  unfold rowV at hR
  have m0 : (most : Int) ≤ 2000 := by omega
  generalize fn_check = F at *
  generalize fn_run_of = F1 at *
  generalize (row ts b m').map D.int = L at *
  generalize TD ts = T at *
  generalize kd b = K at *
  generalize (PySem.Str.ofString "deadline") = s1 at *
  generalize (PySem.Str.ofString "number") = s2 at *
  simp -implicitDefEqProofs [hC, hR, e1, e2, z2, m0]
def m1 : D → Bool := fun x => match x with
  | .int i => i == -1
  | _ => false
theorem f_idle {ts : List Tk} (h : TsOk ts) {b : Bool} : ∃ x, fn_idle [.d (TD ts), .d (kd b)] = some (.d x, [.d (TD ts), .d (kd b)]) ∧ ((Cl ts b (rnd ts + 1) ∧ x = I (idl ts b (rnd ts))) ∨ (¬ Cl ts b (rnd ts + 1) ∧ x = .non)) := by
  simp only [fn_idle, mkFn, b_idle, A_idle]
  have hC := f_check h
  have hG := f_round_of h
  have hr0 := rnd_pos h.ok
  obtain ⟨m', x, hR, hr⟩ := f_run_of h (b := b) (most := rnd ts) (by omega)
  have z2 : 2 ≤ sizeLine := smallT (by decide)
  have e1 := kd_in (b := b)
  have e2 := kd_eq (b := b)
  unfold rowV at hR
  have hL : lcL [4] (bName 4) ct1_idle ce1_idle ((row ts b m').map D.int) [] [some (.d (TD ts)), some (.d (kd b)), some (.lk (.lst ((row ts b m').map D.int))), some (.d x), none] = some (.val (.m (.lst (((row ts b m').map D.int).filter m1))), [some (.d (TD ts)), some (.d (kd b)), some (.lk (.lst ((row ts b m').map D.int))), some (.d x), none]) := by
    rw [lc_filter m1]
    intro y hy
    obtain ⟨i, hi, rfl⟩ := List.mem_map.1 hy
    unfold m1
    generalize TD ts = T
    generalize kd b = K
    generalize (row ts b m').map D.int = L
    by_cases z : i = -1
    · subst z
      simp -implicitDefEqProofs [lcOne, ct1_idle, ce1_idle]
    · simp -implicitDefEqProofs [lcOne, ct1_idle, ce1_idle, z]
  have hl : (((row ts b m').map D.int).filter m1).length = idl ts b m' := by
    rw [List.filter_map, List.length_map]
    rfl
  have hm' : m' ≤ rnd ts := by
    rcases hr with ⟨_, q, _⟩ | ⟨_, q, _⟩ <;> omega
  have zl : ((row ts b m').map D.int).length ≤ sizeLine := by rw [List.length_map, row_len]; exact smallT (by omega)
  rcases hr with ⟨h1, rfl, rfl⟩ | ⟨k, h1, h2, h3, h4, rfl⟩
  · refine ⟨I (idl ts b (rnd ts)), ?_, .inl ⟨h1, rfl⟩⟩
    rw [← hl]
    generalize ((row ts b (rnd ts)).map D.int).filter m1 = L2 at *
    generalize (row ts b (rnd ts)).map D.int = L at *
    generalize fn_check = F at *
    generalize fn_run_of = F1 at *
    generalize fn_round_of = F2 at *
    generalize TD ts = T at *
    generalize kd b = K at *
    generalize (PySem.Str.ofString "deadline") = s1 at *
    generalize (PySem.Str.ofString "number") = s2 at *
    simp -implicitDefEqProofs [hC, hR, hG, e1, e2, z2, hL, zl, lockR_ok]
  · refine ⟨.non, ?_, .inr ⟨fun q => h4 (cl_mono q (by omega)), rfl⟩⟩
    generalize (row ts b m').map D.int = L at *
    generalize fn_check = F at *
    generalize fn_run_of = F1 at *
    generalize fn_round_of = F2 at *
    generalize TD ts = T at *
    generalize kd b = K at *
    generalize (PySem.Str.ofString "deadline") = s1 at *
    generalize (PySem.Str.ofString "number") = s2 at *
    simp -implicitDefEqProofs [hC, hR, hG, e1, e2, z2]
end K39
end

section
set_option Elab.async false
set_option linter.all false
set_option maxRecDepth 100000
namespace K39
open PySem PySem.Spec PyProof.Rows L2 QL
/-! ### the drawing -/
def GS : M → Prop
  | .st _ p c z => 0 ≤ p ∧ 0 ≤ c ∧ 0 ≤ z ∧ z < 2 ^ 32
  | _ => False
theorem f_take {st : M} {many : Int} (g : GS st) (h0 : 0 < many) (h1 : many < 2 ^ 100) :
    ∃ r st', fn__law_take [.m st, .d (.int many)] = some (.d (.int r), [.m st', .d (.int many)]) ∧ 0 ≤ r ∧ r < many ∧ GS st' := by
  cases st with
  | lst => exact g.elim
  | dk => exact g.elim
  | ins => exact g.elim
  | dt => exact g.elim
  | row => exact g.elim
  | st ns p c z =>
    obtain ⟨g1, g2, g3, g4⟩ := g
    simp only [fn__law_take, mkFn, b__law_take, A__law_take]
    have hm : oMulA (.d (.int z)) (.d (.int 48271)) = some (.d (.int (z * 48271))) := emul (by omega) (by omega) (by omega) (by omega)
    have hd3 : ∀ n, divC n 3 = true := fun n => divC_of (by omega) (by omega)
    have hdm : ∀ n, divC n many = true := fun n => divC_of (by omega) (by omega)
    have mod : ∀ n : Int, 0 ≤ n % many ∧ n % many < many := fun n => ⟨Int.emod_nonneg _ (by omega), Int.emod_lt_of_pos _ h0⟩
    have divs : ∀ n : Int, 0 ≤ n → 0 ≤ n / many := fun n hn => Int.ediv_nonneg hn (by omega)
    have seedR : ∀ n : Int, 0 ≤ n % 2147483647 ∧ n % 2147483647 < 2 ^ 32 := fun n => by omega
    by_cases hc : c = 0
    · subst hc
      by_cases hp : p < ns.length
      · obtain ⟨i, hi⟩ : ∃ i, getI ns p = some i := by
          unfold getI
          rw [if_pos g1]
          exact ⟨_, List.getElem?_eq_getElem (by omega)⟩
        generalize ha : (if i < 0 then -i else i) = a
        have ha0 : 0 ≤ a := by rw [← ha]; split <;> omega
        by_cases hs : a < 1000000000000000000
        · refine ⟨a % many, .st ns (p + 1) 0 z, ?_, (mod a).1, (mod a).2, by omega, by omega, g3, g4⟩
          simp -implicitDefEqProofs [hp, hi, ha, hs, h0]
        · have hn : 0 < a := by omega
          refine ⟨a % many, .st ns (p + 1) (a / many) z, ?_, (mod a).1, (mod a).2, by omega, divs a ha0, g3, g4⟩
          simp -implicitDefEqProofs [hp, hi, ha, hs, h0, hn, hdm]
      · refine ⟨_, .st ns p 0 ((z * 48271 + 11) % 2147483647), ?_, (mod ((z * 48271 + 11) % 2147483647 / 3)).1, (mod ((z * 48271 + 11) % 2147483647 / 3)).2, g1, g2, seedR _⟩
        simp -implicitDefEqProofs [hp, h0, hm, hd3]
    · have hn : 0 < c := by omega
      refine ⟨c % many, .st ns p (c / many) z, ?_, (mod c).1, (mod c).2, g1, divs c g2, g3, g4⟩
      simp -implicitDefEqProofs [hc, h0, hn, hdm]
theorem f_begin {ns : List Int} : ∃ z, fn__law_begin [.lk (.lst (ns.map D.int))] = some (.m (.st ns 0 0 z), [.lk (.lst (ns.map D.int))]) ∧ GS (.st ns 0 0 z) := by
  simp only [fn__law_begin, mkFn, b__law_begin, A__law_begin]
  have := for_list (b := bName 2) (f := lb1__law_begin) (xs := ns.map D.int) (e := [some (.lk (.lst (ns.map D.int))), some (.d (.int 1)), none])
    (fun k e => ∃ z o, e = [some (.lk (.lst (ns.map D.int))), some (.d (.int z)), o] ∧ 0 ≤ z ∧ z < 2 ^ 32) ⟨1, none, rfl, by omega, by omega⟩ ?_
  · obtain ⟨e', h1, z, o, rfl, h2, h3⟩ := this
    refine ⟨z, ?_, by omega, by omega, h2, h3⟩
    simp -implicitDefEqProofs [h1]
  · rintro k x e hx ⟨z, o, rfl, h2, h3⟩
    rw [List.getElem?_map] at hx
    cases hn : ns[k]? with
    | none => rw [hn] at hx; cases hx
    | some i =>
      rw [hn] at hx
      cases hx
      have hm : oMulA (.d (.int z)) (.d (.int 69621)) = some (.d (.int (z * 69621))) := emul (by omega) (by omega) (by omega) (by omega)
      refine ⟨_, _, rfl, ?_, (z * 69621 + i % 2147483629 + 7) % 2147483647, some (.d (.int i)), rfl, by omega, by omega⟩
      simp -implicitDefEqProofs [lb1__law_begin, hm]
theorem f__law_round {ts : List Tk} (h : TsOk ts) : fn__law_round [.d (TD ts)] = some (.d (I (rnd ts)), [.d (TD ts)]) := by
  simp only [fn__law_round, mkFn, b__law_round, A__law_round]
  have : ∃ e', forL (bTup 3 (bCons (bName 2) (bCons (bName 3) (bCons (bName 4) bNil)))) lb1__law_round (ts.map Tk.D) [some (.d (TD ts)), some (.d (.int 1)), none, none, none, none, none] = some (.nx e') ∧ ∃ o2 o3 o4 o5 o6, e' = [some (.d (TD ts)), some (.d (I (rnd ts))), o2, o3, o4, o5, o6] := by
    have := for_list (b := bTup 3 (bCons (bName 2) (bCons (bName 3) (bCons (bName 4) bNil)))) (f := lb1__law_round) (xs := ts.map Tk.D) (e := [some (.d (TD ts)), some (.d (.int 1)), none, none, none, none, none])
      (fun k e => ∃ o2 o3 o4 o5 o6, e = [some (.d (TD ts)), some (.d (I (rnd (ts.take k)))), o2, o3, o4, o5, o6]) ⟨none, none, none, none, none, rfl⟩ ?_
    · obtain ⟨e', h1, o2, o3, o4, o5, o6, rfl⟩ := this
      refine ⟨_, h1, o2, o3, o4, o5, o6, ?_⟩
      rw [List.length_map, List.take_length]
    · rintro k x e hx ⟨o2, o3, o4, o5, o6, rfl⟩
      obtain ⟨t, ht, rfl⟩ := ts_at hx
      have ok := h.ok t (mem_at ht)
      have hr := rnd_pos (ts := ts.take k) fun t ht => h.ok t (List.mem_of_mem_take ht)
      have er : rnd (ts.take (k + 1)) = Nat.lcm (rnd (ts.take k)) t.p := by
        unfold rnd
        rw [take_one ht, List.foldl_append]
        rfl
      obtain ⟨c, d, p⟩ := t
      have hp : p ≤ 12 := ok.p12
      have hg : 1 ≤ Nat.gcd (rnd (ts.take k)) p := Nat.gcd_pos_of_pos_left _ hr.1
      have hg2 : Nat.gcd (rnd (ts.take k)) p ≤ 24 := Nat.le_trans (Nat.gcd_le_left _ hr.1) hr.2
      rw [er, Nat.lcm]
      have loop : ∃ e', whileN wt2__law_round lb2__law_round (fuel0 [some (.d (TD ts)), some (.d (I (rnd (ts.take k)))), some (.d (I c)), some (.d (I d)), some (.d (I p)), some (.d (I (rnd (ts.take k)))), some (.d (I p))]) [some (.d (TD ts)), some (.d (I (rnd (ts.take k)))), some (.d (I c)), some (.d (I d)), some (.d (I p)), some (.d (I (rnd (ts.take k)))), some (.d (I p))] = some (.nx e') ∧
          e' = [some (.d (TD ts)), some (.d (I (rnd (ts.take k)))), some (.d (I c)), some (.d (I d)), some (.d (I p)), some (.d (I (Nat.gcd (rnd (ts.take k)) p))), some (.d (I 0))] := by
        refine while0 (fun m e => ∃ a' : Nat, Nat.gcd a' m = Nat.gcd (rnd (ts.take k)) p ∧ e = [some (.d (TD ts)), some (.d (I (rnd (ts.take k)))), some (.d (I c)), some (.d (I d)), some (.d (I p)), some (.d (I a')), some (.d (I m))]) _ p (by omega) ⟨_, rfl, rfl⟩ ?_
        rintro m e ⟨a', hg, rfl⟩
        generalize TD ts = T
        by_cases z : m = 0
        · left
          subst z
          refine ⟨_, by simp [wt2__law_round]; rfl, ?_⟩
          rw [← hg, Nat.gcd_zero_right]
        · right
          have z' : 0 < m := by omega
          refine ⟨[some (.d T), some (.d (I (rnd (ts.take k)))), some (.d (I c)), some (.d (I d)), some (.d (I p)), some (.d (I a')), some (.d (I m))], [some (.d T), some (.d (I (rnd (ts.take k)))), some (.d (I c)), some (.d (I d)), some (.d (I p)), some (.d (I m)), some (.d (I (a' % m)))], a' % m, ?_, ?_, Nat.mod_lt _ (by omega), m, ?_, rfl⟩
          · simp [wt2__law_round, z']
          · simp [lb2__law_round, z']
          · rw [← hg, Nat.gcd_comm, ← Nat.gcd_rec, Nat.gcd_comm]
      obtain ⟨e', h1, rfl⟩ := loop
      have hD : Tk.D ⟨c, d, p⟩ = .tup [I c, I d, I p] := rfl
      rw [hD]
      unfold lb1__law_round
      generalize hq : Nat.gcd (rnd (ts.take k)) p = q at *
      generalize rnd (ts.take k) = r at *
      generalize TD ts = T at *
      have dv : ∀ n, divC n (q : Int) = true := fun n => divC_of (by omega) (by omega)
      have em : oMulA (.d (I r)) (.d (I p)) = some (.d (.int ((r : Int) * p))) := emul (by omega) (by omega) (by omega) (by omega)
      simp -implicitDefEqProofs [h1, em, dv]
  obtain ⟨e', h1, o2, o3, o4, o5, o6, rfl⟩ := this
  simp [h1]
end K39
end

section
set_option Elab.async false
set_option linter.all false
set_option maxRecDepth 100000
namespace K39
open PySem PySem.Spec PyProof.Rows L2 QL
theorem cutD_last {l : List D} {a : D} : QL.cutD (l ++ [a]) none (some (-1)) = l := by
  unfold QL.cutD
  rw [HT.sIx_none]
  have : HT.sIx (l ++ [a]).length (l ++ [a]).length (some (-1)) = l.length := by
    unfold HT.sIx
    simp
    try omega
  rw [this]
  simp
/-! halves -/
def half (ts : List Tk) : List Tk := ts.filter fun t => decide (t.p ≤ 6)
abbrev e17 (ts : List Tk) (x : D) (o2 o8 o9 : Option S) : En := [some (.d (TD ts)), some (.d x), o2, none, none, none, none, none, o8, o9, none, none, none, none, none, none, none, none, none, none]
def halfR : D → Option D := fun x => match x with
  | .tup [a, b, .int p] => if p ≤ 6 then some (.tup [a, b, .int p]) else none
  | _ => none
theorem halfR_all : ∀ {ts : List Tk}, (ts.map Tk.D).filterMap halfR = (half ts).map Tk.D
  | [] => rfl
  | t :: ts => by
    rw [List.map_cons, List.filterMap_cons]
    have e : halfR t.D = if (t.p : Int) ≤ 6 then some t.D else none := rfl
    rw [e]
    unfold half
    by_cases z : t.p ≤ 6
    · rw [if_pos (by omega), List.filter_cons_of_pos (by simpa using z), List.map_cons, halfR_all]; rfl
    · rw [if_neg (by omega), List.filter_cons_of_neg (by simpa using z), halfR_all]; rfl
theorem lc1 {ts : List Tk} {x : D} : lcL [17, 18, 19] (bTup 3 (bCons (bName 17) (bCons (bName 18) (bCons (bName 19) bNil)))) ct1__law_part1 ce1__law_part1 (ts.map Tk.D) [] (e17 ts x none none none) = some (.val (.m (.lst ((half ts).map Tk.D))), e17 ts x none none none) := by
  rw [lc_pure halfR, List.nil_append, halfR_all]
  intro y hy
  obtain ⟨t, ht, rfl⟩ := List.mem_map.1 hy
  obtain ⟨c, d, p⟩ := t
  have z3 : 3 ≤ sizeLine := smallT (by decide)
  unfold e17 halfR Tk.D
  generalize TD ts = T
  by_cases z : (p : Int) ≤ 6
  · have z' : p ≤ 6 := by omega
    simp -implicitDefEqProofs [lcOne, ct1__law_part1, ce1__law_part1, z3, z, z']
  · have z' : ¬ p ≤ 6 := by omega
    simp -implicitDefEqProofs [lcOne, ct1__law_part1, ce1__law_part1, z3, z, z']
def twR : D → D := fun x => match x with
  | .tup [.int a, .int b, .int p] => .tup [.int (2 * a), .int (2 * b), .int (2 * p)]
  | _ => .non
theorem twR_all {ts : List Tk} : (ts.map Tk.D).map twR = (ts.map tw).map Tk.D := by
  rw [List.map_map, List.map_map]
  refine List.map_congr_left fun t _ => ?_
  show D.tup _ = D.tup _
  simp [tw]
theorem lc2 {ts hs : List Tk} {x : D} (h : Oks hs) : lcL [17, 18, 19] (bTup 3 (bCons (bName 17) (bCons (bName 18) (bCons (bName 19) bNil)))) fYes ce2__law_part1 (hs.map Tk.D) [] (e17 ts x (some (.d (TD hs))) none none) = some (.val (.m (.lst ((hs.map tw).map Tk.D))), e17 ts x (some (.d (TD hs))) none none) := by
  rw [lc_map twR, twR_all]
  intro y hy
  obtain ⟨t, ht, rfl⟩ := List.mem_map.1 hy
  have ok := h t ht
  obtain ⟨c, d, p⟩ := t
  have c1 : 1 ≤ c := ok.c1; have cd : c ≤ d := ok.cd; have dp : d ≤ p := ok.dp; have hp : p ≤ 12 := ok.p12
  have z3 : 3 ≤ sizeLine := smallT (by decide)
  have e1 : oMulA (.d (.int 2)) (.d (I c)) = some (.d (.int (2 * (c : Int)))) := emul (by omega) (by omega) (by omega) (by omega)
  have e2 : oMulA (.d (.int 2)) (.d (I d)) = some (.d (.int (2 * (d : Int)))) := emul (by omega) (by omega) (by omega) (by omega)
  have e3 : oMulA (.d (.int 2)) (.d (I p)) = some (.d (.int (2 * (p : Int)))) := emul (by omega) (by omega) (by omega) (by omega)
  unfold e17 twR Tk.D
  generalize TD ts = T
  generalize TD hs = T2
  simp -implicitDefEqProofs [lcOne, ce2__law_part1, z3, e1, e2, e3]
def dbR : D → D := fun x => match x with
  | .int i => .int (2 * i)
  | _ => .non
theorem dbR_all {hs : List Tk} (h : Oks hs) {n : Nat} (hn : n ≤ hs.length) : (ansL hs n).map dbR = ansL (hs.map tw) n := by
  unfold ansL
  rw [List.map_map]
  refine List.map_congr_left fun k hk => ?_
  have hk := List.mem_range.1 hk
  have e1 : tk (hs.map tw) k = tw (tk hs k) := by
    unfold tk
    rw [List.getD_eq_getElem?_getD, List.getD_eq_getElem?_getD, List.getElem?_map, List.getElem?_eq_getElem (by omega)]
    rfl
  rw [e1, ← List.map_take, ans_tw fun t ht => by have ok := (h t (List.mem_of_mem_take ht)); have := ok.c1; have := ok.cd; have := ok.dp; omega]
  show dbR (oD _) = oD _
  cases ans (hs.take k) (tk hs k) with
  | none => rfl
  | some v => show D.int _ = D.int _; simp
theorem lc3 {ts hs : List Tk} {x y : D} (h : Oks hs) {n : Nat} (hn : n ≤ hs.length) : lcL [17] (bName 17) fYes ce3__law_part1 (ansL hs n) [] (e17 ts x (some (.d (TD hs))) (some (.d y)) (some (.d (.tup (ansL hs n))))) = some (.val (.m (.lst (ansL (hs.map tw) n))), e17 ts x (some (.d (TD hs))) (some (.d y)) (some (.d (.tup (ansL hs n))))) := by
  rw [lc_map dbR, dbR_all h hn]
  intro z hz
  obtain ⟨k, hk, rfl⟩ := List.mem_map.1 hz
  have hk := List.mem_range.1 hk
  unfold e17 dbR
  generalize TD ts = T
  generalize TD hs = T2
  generalize ansL hs n = L
  cases e : ans (hs.take k) (tk hs k) with
  | none => simp -implicitDefEqProofs [lcOne, ce3__law_part1, oD]
  | some v =>
    have hv := (ans_some.1 e).2
    have := (tk_ok h (show k < hs.length by omega)).1.p12
    have := (tk_ok h (show k < hs.length by omega)).1.dp
    have e1 : oMulA (.d (.int 2)) (.d (I v)) = some (.d (.int (2 * (v : Int)))) := emul (by omega) (by omega) (by omega) (by omega)
    simp -implicitDefEqProofs [lcOne, ce3__law_part1, oD, e1]
theorem tops_tw {hs : List Tk} (hn : hs ≠ []) : tops (hs.map tw) = 2 * tops hs := by
  unfold tops
  rw [List.map_map, rnd_tw hn, ← sm_map_mul]
  refine sm_map_eq fun t _ => ?_
  show 2 * t.c * (2 * rnd hs / (2 * t.p)) = 2 * (t.c * (rnd hs / t.p))
  rw [Nat.mul_div_mul_left _ _ (by decide), Nat.mul_assoc]
theorem share_tw {hs : List Tk} (hn : hs ≠ []) : tops (hs.map tw) / gg (hs.map tw) = tops hs / gg hs ∧ rnd (hs.map tw) / gg (hs.map tw) = rnd hs / gg hs := by
  have eg : gg (hs.map tw) = 2 * gg hs := by
    unfold gg
    rw [tops_tw hn, rnd_tw hn, Nat.gcd_mul_left]
  rw [eg, tops_tw hn, rnd_tw hn, Nat.mul_div_mul_left _ _ (by decide), Nat.mul_div_mul_left _ _ (by decide)]
  exact ⟨rfl, rfl⟩
/-! the kinds -/
theorem free_eq {ts : List Tk} {b : Bool} (h : TsOk ts) (hc : Cl ts b (rnd ts + 1)) : ((idl ts b (rnd ts) : Nat) : Int) * ((rnd ts / gg ts : Nat) : Int) = (rnd ts : Int) * (((rnd ts / gg ts : Nat) : Int) - ((tops ts / gg ts : Nat) : Int)) := by
  have e := idl_round h.ok hc
  have hg := gg_pos h
  obtain ⟨A, hA⟩ := Nat.gcd_dvd_left (tops ts) (rnd ts)
  obtain ⟨B, hB⟩ := Nat.gcd_dvd_right (tops ts) (rnd ts)
  have hA' : tops ts = gg ts * A := hA
  have hB' : rnd ts = gg ts * B := hB
  have e1 : rnd ts / gg ts = B := by rw [hB']; exact Nat.mul_div_cancel_left _ hg.1
  have e2 : tops ts / gg ts = A := by rw [hA']; exact Nat.mul_div_cancel_left _ hg.1
  rw [e1, e2]
  have e3 : ((idl ts b (rnd ts) : Nat) : Int) = (gg ts : Int) * B - gg ts * A := by
    have : ((tops ts + idl ts b (rnd ts) : Nat) : Int) = ((rnd ts : Nat) : Int) := by rw [e]
    rw [Int.natCast_add] at this
    have h1 : ((tops ts : Nat) : Int) = (gg ts : Int) * A := by rw [hA']; exact Int.natCast_mul _ _
    have h2 : ((rnd ts : Nat) : Int) = (gg ts : Int) * B := by rw [hB']; exact Int.natCast_mul _ _
    omega
  have h2 : ((rnd ts : Nat) : Int) = (gg ts : Int) * B := by rw [hB']; exact Int.natCast_mul _ _
  rw [e3, h2]
  grind
theorem top_eq {ts : List Tk} (h : TsOk ts) : (((tops ts / gg ts : Nat) : Int) * (rnd ts : Int)) / ((rnd ts / gg ts : Nat) : Int) = (tops ts : Int) := by
  have hg := gg_pos h
  have hr := rnd_pos h.ok
  obtain ⟨A, hA⟩ := Nat.gcd_dvd_left (tops ts) (rnd ts)
  obtain ⟨B, hB⟩ := Nat.gcd_dvd_right (tops ts) (rnd ts)
  have hA' : tops ts = gg ts * A := hA
  have hB' : rnd ts = gg ts * B := hB
  have e1 : rnd ts / gg ts = B := by rw [hB']; exact Nat.mul_div_cancel_left _ hg.1
  have e2 : tops ts / gg ts = A := by rw [hA']; exact Nat.mul_div_cancel_left _ hg.1
  have B1 : B ≠ 0 := fun q => by rw [q] at hB'; omega
  rw [e1, e2, hB', hA', Int.natCast_mul, Int.natCast_mul, show (A : Int) * ((gg ts : Int) * (B : Int)) = ((gg ts : Int) * A) * B by grind]
  exact Int.mul_ediv_cancel _ (by omega)
end K39
end

section
set_option Elab.async false
set_option linter.all false
set_option maxRecDepth 100000
namespace K39
open PySem PySem.Spec PyProof.Rows L2 QL
abbrev pe (ts : List Tk) (x : D) (w a g : Nat) (o2 o6 o8 o9 o10 o11 o12 o14 o15 o16 : Option S) : En :=
  [some (.d (TD ts)), some (.d x), o2, some (.d (I w)), some (.d (I a)), some (.d (I g)), o6, none, o8, o9, o10, o11, o12, none, o14, o15, o16, none, none, none]
def eqj (j : Nat) : D → Bool := fun x => match x with
  | .int i => i == (j : Int)
  | _ => false
theorem cnt_len {ts : List Tk} {b : Bool} {m j : Nat} : (((row ts b m).map D.int).filter (eqj j)).length = cnt ts b m j := by
  rw [List.filter_map, List.length_map]
  rfl
theorem kind5 {ts : List Tk} {x : D} {b : Bool} (h : TsOk ts) (hc : Cl ts b (rnd ts + 1)) {a g : Nat} {o2 o6 o8 o9 o11 o12 o14 o15 o16 : Option S} (h16 : okS o16 = true) :
    ∃ e', forL (bName 16) lb5__law_part1 (rngL 0 ts.length) (pe ts x (rnd ts) a g o2 o6 o8 o9 (some (.d (.tup ((row ts b (rnd ts)).map D.int)))) o11 o12 o14 o15 o16) = some (.nx e') ∧
      ∃ o16, okS o16 = true ∧ e' = pe ts x (rnd ts) a g o2 o6 o8 o9 (some (.d (.tup ((row ts b (rnd ts)).map D.int)))) o11 o12 o14 o15 o16 := by
  have hr := rnd_pos h.ok
  refine for_rng (fun j e => ∃ o16, okS o16 = true ∧ e = pe ts x (rnd ts) a g o2 o6 o8 o9 (some (.d (.tup ((row ts b (rnd ts)).map D.int)))) o11 o12 o14 o15 o16) ⟨o16, h16, rfl⟩ ?_
  rintro j e hj ⟨o16, h16, rfl⟩
  have hL : lcL [17] (bName 17) ct6__law_part1 ce6__law_part1 ((row ts b (rnd ts)).map D.int) [] (pe ts x (rnd ts) a g o2 o6 o8 o9 (some (.d (.tup ((row ts b (rnd ts)).map D.int)))) o11 o12 o14 o15 (some (.d (I j)))) = some (.val (.m (.lst (((row ts b (rnd ts)).map D.int).filter (eqj j)))), pe ts x (rnd ts) a g o2 o6 o8 o9 (some (.d (.tup ((row ts b (rnd ts)).map D.int)))) o11 o12 o14 o15 (some (.d (I j)))) := by
    rw [lc_filter (eqj j)]
    intro y hy
    obtain ⟨i, hi, rfl⟩ := List.mem_map.1 hy
    unfold pe eqj
    generalize TD ts = T
    generalize (row ts b (rnd ts)).map D.int = L
    by_cases z : i = (j : Int)
    · subst z
      simp -implicitDefEqProofs [lcOne, ct6__law_part1, ce6__law_part1]
    · simp -implicitDefEqProofs [lcOne, ct6__law_part1, ce6__law_part1, z]
  have hl := cnt_len (ts := ts) (b := b) (m := rnd ts) (j := j)
  have hcn := cnt_round h.ok hc hj
  have zl : ((row ts b (rnd ts)).map D.int).length ≤ sizeLine := by rw [List.length_map, row_len]; exact smallT (by omega)
  have hix := ix_tk hj
  have ok := (tk_ok h.ok hj).1
  obtain ⟨c, d, p, ht⟩ : ∃ c d p, tk ts j = ⟨c, d, p⟩ := ⟨_, _, _, rfl⟩
  rw [ht] at hix ok hcn
  have c1 : 1 ≤ c := ok.c1; have cd : c ≤ d := ok.cd; have dp : d ≤ p := ok.dp; have hp : p ≤ 12 := ok.p12
  have hD : Tk.D ⟨c, d, p⟩ = .tup [I c, I d, I p] := rfl
  rw [hD] at hix
  rw [hcn] at hl
  have hq : rnd ts / p ≤ 24 := Nat.le_trans (Nat.div_le_self _ _) hr.2
  have dv : ∀ n, divC n (p : Int) = true := fun n => divC_of (by omega) (by omega)
  have e2 : ((rnd ts : Int) / (p : Int)) = ((rnd ts / p : Nat) : Int) := rfl
  have hl' : (((row ts b (rnd ts)).map D.int).filter (eqj j)).length = c * (rnd ts / p) := hl
  have em : oMulA (.d (I c)) (.d (.int ((rnd ts : Int) / p))) = some (.d (.int ((((row ts b (rnd ts)).map D.int).filter (eqj j)).length : Int))) := by
    rw [hl', e2]
    generalize rnd ts / p = q at *
    rw [emul (by omega) (by omega) (by omega) (by omega), Int.natCast_mul]
  have e0 : (0 + (j : Int)) = (j : Int) := Int.zero_add _
  rw [e0]
  refine ⟨pe ts x (rnd ts) a g o2 o6 o8 o9 (some (.d (.tup ((row ts b (rnd ts)).map D.int)))) o11 o12 o14 o15 (some (.d (I j))), _, rfl, ?_, some (.d (I j)), rfl, rfl⟩
  unfold lb5__law_part1
  unfold pe TD at *
  generalize ((row ts b (rnd ts)).map D.int).filter (eqj j) = L2 at *
  generalize (row ts b (rnd ts)).map D.int = L at *
  generalize ts.map Tk.D = T at *
  generalize rnd ts = w at *
  simp -implicitDefEqProofs [hL, hix, zl, dv, em]
theorem kind4 {ts : List Tk} {x : D} {b : Bool} (h : TsOk ts) {o2 o8 o9 o10 o11 o12 o14 o15 o16 : Option S} (h16 : okS o16 = true) :
    ∃ o10' o11' o12' o14' o15' o16', okS o16' = true ∧ lb4__law_part1 (pe ts x (rnd ts) (tops ts / gg ts) (rnd ts / gg ts) o2 (some (.d (kd b))) o8 o9 o10 o11 o12 o14 o15 o16) = some (.nx (pe ts x (rnd ts) (tops ts / gg ts) (rnd ts / gg ts) o2 (some (.d (kd b))) o8 o9 o10' o11' o12' o14' o15' o16')) := by
  have hr := rnd_pos h.ok
  have hg := gg_pos h
  obtain ⟨m', y, hP, hR⟩ := f_play h (b := b) (most := rnd ts) (by omega)
  obtain ⟨f, hI, hF⟩ := f_idle h (b := b)
  have ht := tops_le h
  have hq : tops ts / gg ts ≤ 2000 := Nat.le_trans (Nat.div_le_self _ _) ht
  have hq2 : rnd ts / gg ts ≤ 24 := Nat.le_trans (Nat.div_le_self _ _) hr.2
  rcases hR with ⟨hc, rfl, rfl⟩ | ⟨k, h1, h2, h3, h4, rfl⟩
  · rcases hF with ⟨_, rfl⟩ | ⟨q, _⟩
    · obtain ⟨m2, y2, hP2, hR2⟩ := f_play h (b := b) (most := 2 * rnd ts) (by omega)
      have hc2 := cl_twice h.ok hc
      have hm2 : m2 = 2 * rnd ts ∧ y2 = .non := by
        rcases hR2 with ⟨_, q1, q2⟩ | ⟨_, q1, _, _, q4, _⟩
        · exact ⟨q1, q2⟩
        · exact absurd (cl_mono hc2 (by omega)) q4
      obtain ⟨rfl, rfl⟩ := hm2
      have hi : idl ts b (rnd ts) ≤ 24 := by have := idl_round h.ok hc; omega
      have hfr := free_eq h hc
      obtain ⟨e', h5, o16', h16', rfl⟩ := kind5 (x := x) h hc h16 (a := tops ts / gg ts) (g := rnd ts / gg ts) (o2 := o2) (o6 := some (.d (kd b))) (o8 := o8) (o9 := o9) (o11 := some (.d .non)) (o12 := some (.d (I (idl ts b (rnd ts))))) (o14 := some (.d (.tup ((row ts b (2 * rnd ts)).map D.int)))) (o15 := some (.d .non)) (o16 := o16)
      refine ⟨some (.d (.tup ((row ts b (rnd ts)).map D.int))), some (.d .non), some (.d (I (idl ts b (rnd ts)))), some (.d (.tup ((row ts b (2 * rnd ts)).map D.int))), some (.d .non), o16', h16', ?_⟩
      have e1 : oMulA (.d (I (idl ts b (rnd ts)))) (.d (I (rnd ts / gg ts))) = some (.d (.int (((idl ts b (rnd ts) : Nat) : Int) * ((rnd ts / gg ts : Nat) : Int)))) := by
        generalize rnd ts / gg ts = B at *
        exact emul (by omega) (by omega) (by omega) (by omega)
      have e2 : oMulA (.d (I (rnd ts))) (.d (.int (((rnd ts / gg ts : Nat) : Int) - ((tops ts / gg ts : Nat) : Int)))) = some (.d (.int (((idl ts b (rnd ts) : Nat) : Int) * ((rnd ts / gg ts : Nat) : Int)))) := by
        rw [hfr]
        generalize tops ts / gg ts = A at *
        generalize rnd ts / gg ts = B at *
        exact emul (by omega) (by omega) (by omega) (by omega)
      have e3 : oMulA (.d (.int 2)) (.d (I (rnd ts))) = some (.d (I (2 * rnd ts))) := by
        rw [emul (by omega) (by omega) (by omega) (by omega)]
        rfl
      have hrow : (row ts b (2 * rnd ts)).map D.int = (row ts b (rnd ts)).map D.int ++ (row ts b (rnd ts)).map D.int := by rw [row_twice h.ok hc, List.map_append]
      have zl : ((row ts b (rnd ts)).map D.int).length + ((row ts b (rnd ts)).map D.int).length ≤ sizeLine := by rw [List.length_map, row_len]; exact smallT (by omega)
      have sh : shDs 7 ((row ts b (rnd ts)).map D.int) = true := shDs_ints
      have zT : (ts.map Tk.D).length = ts.length := List.length_map ..
      have sI : smallI (ts.length : Int) = true := smallI_of (by have := h.n5; omega) (by have := h.n5; omega)
      rw [hrow] at hP2 h5 ⊢
      have hne : oNe (.d (.tup ((row ts b (rnd ts)).map D.int ++ (row ts b (rnd ts)).map D.int))) (.d (.tup ((row ts b (rnd ts)).map D.int ++ (row ts b (rnd ts)).map D.int))) = some (.d (.bl false)) := by
        rw [oNe_d (by rw [shD_tup, shDs_append, sh]; rfl) (by rw [shD_tup, shDs_append, sh]; rfl), eqD_self]
        rfl
      unfold lb4__law_part1
      unfold pe TD at *
      rw [← zT] at sI h5
      generalize (row ts b (rnd ts)).map D.int = L at *
      generalize ts.map Tk.D = T at *
      generalize rnd ts / gg ts = B at *
      generalize tops ts / gg ts = A at *
      generalize idl ts b (rnd ts) = il at *
      generalize 2 * rnd ts = w2 at *
      generalize rnd ts = w at *
      generalize kd b = K at *
      generalize fn_play = F1 at *
      generalize fn_idle = F2 at *
      simp -implicitDefEqProofs [hP, hI, hP2, e1, e2, e3, zl, hne, sI, h5]
    · exact absurd hc q
  · rcases hF with ⟨q, _⟩ | ⟨_, rfl⟩
    · exact absurd (cl_mono q (by omega)) h4
    · obtain ⟨m2, y2, hP2, hR2⟩ := f_play h (b := b) (most := m' - 1) (by omega)
      have hm2 : m2 = m' - 1 ∧ y2 = .non := by
        rcases hR2 with ⟨_, q1, q2⟩ | ⟨_, q1, _, _, q4, _⟩
        · exact ⟨q1, q2⟩
        · exact absurd (cl_mono h3 (by omega)) q4
      obtain ⟨rfl, rfl⟩ := hm2
      have e1 : ((m' : Int) - 1) = ((m' - 1 : Nat) : Int) := by omega
      have hcut : QL.cutD ((row ts b m').map D.int) none (some (-1)) = (row ts b (m' - 1)).map D.int := by
        have : m' = (m' - 1) + 1 := by omega
        rw [this, row_succ, List.map_append, List.map_cons, List.map_nil, cutD_last]
        rfl
      have hlen : ((row ts b m').map D.int).length = m' := by rw [List.length_map, row_len]
      have sh : shDs 6 ((row ts b (m' - 1)).map D.int) = true := shDs_ints
      have z2 : 2 ≤ sizeLine := smallT (by decide)
      have hne : oNe (.d (.tup [.tup ((row ts b (m' - 1)).map D.int), .non])) (.d (.tup [.tup ((row ts b (m' - 1)).map D.int), .non])) = some (.d (.bl false)) := by
        rw [oNe_d (by rw [shD_tup, shDs_cons, shD_tup, sh]; simp) (by rw [shD_tup, shDs_cons, shD_tup, sh]; simp), eqD_self]
        rfl
      refine ⟨some (.d (.tup ((row ts b m').map D.int))), some (.d (.tup [I k, I m'])), some (.d .non), o14, o15, o16, h16, ?_⟩
      unfold lb4__law_part1
      unfold pe at *
      generalize (row ts b (m' - 1)).map D.int = L2 at *
      generalize (row ts b m').map D.int = L at *
      generalize TD ts = T at *
      generalize rnd ts / gg ts = B at *
      generalize tops ts / gg ts = A at *
      generalize rnd ts = w at *
      generalize kd b = K at *
      generalize fn_play = F1 at *
      generalize fn_idle = F2 at *
      simp -implicitDefEqProofs [hP, hI, hP2, e1, hcut, hlen, hne, z2]
/-- the part of halves -/
structure LOk (ts : List Tk) : Prop where
  ok : Oks ts
  n1 : 1 ≤ ts.length
  n4 : ts.length ≤ 4
  p12 : ∀ t ∈ ts, t.p ∣ 12
theorem LOk.t {ts : List Tk} (h : LOk ts) : TsOk ts := ⟨h.ok, h.n1, by have := h.n4; omega⟩
theorem ne_self {x : D} (h : shD 8 x = true) : oNe (.d x) (.d x) = some (.d (.bl false)) := by
  rw [oNe_d h h, eqD_self]
  rfl
theorem mem_half {ts : List Tk} {t : Tk} (h : t ∈ half ts) : t ∈ ts ∧ t.p ≤ 6 := by
  have := List.mem_filter.1 h
  exact ⟨this.1, by simpa using this.2⟩
theorem half_oks {ts : List Tk} (h : LOk ts) : Oks (half ts) := fun t ht => h.ok t (mem_half ht).1
theorem half_tw {ts : List Tk} (h : LOk ts) : Oks ((half ts).map tw) := fun t' ht' => by
  obtain ⟨t, ht, rfl⟩ := List.mem_map.1 ht'
  obtain ⟨h1, h2⟩ := mem_half ht
  have ok := h.ok t h1
  have c1 := ok.c1; have cd := ok.cd; have dp := ok.dp
  exact ⟨by show 1 ≤ 2 * t.c; omega, by show 2 * t.c ≤ 2 * t.d; omega, by show 2 * t.d ≤ 2 * t.p; omega, by show 2 * t.p ≤ 12; omega, Nat.mul_dvd_mul_left 2 (h.p12 t h1)⟩
theorem half_len {ts : List Tk} (h : LOk ts) : (half ts).length ≤ 4 := Nat.le_trans (List.length_filter_le _ _) h.n4
theorem f_part1 {ts : List Tk} (h : LOk ts) {x : D} : fn__law_part1 [.d (TD ts), .d x] = some (.d (.bl true), [.d (TD ts), .d x]) := by
  simp only [fn__law_part1, mkFn, b__law_part1, A__law_part1]
  have hr := rnd_pos h.ok
  have hg := gg_pos h.t
  have ht := tops_le h.t
  have n4 := h.n4
  have z4 : ts.length ≤ sizeLine := smallT (by omega)
  have hl1 := lc1 (ts := ts) (x := x)
  have zh : (half ts).length ≤ sizeLine := smallT (by have := half_len h; omega)
  -- the first statement
  obtain ⟨S1, hS1⟩ : ∃ S : FS, S = (sIf (fTB (fBin oGt (fOp oLen (fCons (fVar 2) fNil)) (fC (.int 0))))
  (sSeq (sSet 8 (fOp oTuple (fCons (fLc [17, 18, 19] (itSeq (fVar 2)) (bTup 3 (bCons (bName 17) (bCons (bName 18) (bCons (bName 19) bNil)))) fYes ce2__law_part1) fNil)))
  (sSeq (sSet 9 (fCall fn_answers (fCons (fVar 2) fNil)))
  (sIf (fOrT (fTB (fBin oNe (fCall fn_answers (fCons (fVar 8) fNil)) (fOp oTuple (fCons (fLc [17] (itSeq (fVar 9)) (bName 17) fYes ce3__law_part1) fNil)))) (fOrT (fTB (fBin oNe (fCall fn_share (fCons (fVar 8) fNil)) (fCall fn_share (fCons (fVar 2) fNil)))) (fTB (fBin oNe (fBin oIsN (fCall fn_by_deadline (fCons (fVar 8) fNil)) (fC .non)) (fBin oIsN (fCall fn_by_deadline (fCons (fVar 2) fNil)) (fC .non))))))
  (sRet (fC (.bl false)))
  sNext)))
  sNext) := ⟨_, rfl⟩
  rw [← hS1]
  have st1 : ∃ o8 o9, S1 (e17 ts x (some (.d (TD (half ts)))) none none) = some (.nx (e17 ts x (some (.d (TD (half ts)))) o8 o9)) := by
    rw [hS1]
    clear hS1
    by_cases z : half ts = []
    · refine ⟨none, none, ?_⟩
      rw [z]
      unfold e17 TD
      generalize ts.map Tk.D = T
      simp -implicitDefEqProofs
    · have hH : TsOk (half ts) := ⟨half_oks h, List.length_pos_iff.2 z, by have := half_len h; omega⟩
      have hH2 : TsOk ((half ts).map tw) := ⟨half_tw h, by rw [List.length_map]; exact hH.n1, by rw [List.length_map]; exact hH.n5⟩
      have hA1 := f_answers hH
      have hA2 := f_answers hH2
      have hS1 := f_share hH
      have hS2 := f_share hH2
      rw [(share_tw z).1, (share_tw z).2] at hS2
      obtain ⟨x1, hB1, hx1⟩ := f_by_deadline hH
      obtain ⟨x2, hB2, hx2⟩ := f_by_deadline hH2
      have hiff := okBD_tw (half_oks h) z (half_tw h)
      have hx : isNon (.d x1) = isNon (.d x2) := by
        rcases hx1 with ⟨q1, rfl⟩ | ⟨q1, n1, rfl⟩ <;> rcases hx2 with ⟨q2, rfl⟩ | ⟨q2, n2, rfl⟩
        · rfl
        · exact absurd (hiff.2 q1) q2
        · exact absurd (hiff.1 q2) q1
        · rfl
      have hl2 := lc2 (ts := ts) (x := x) (half_oks h)
      have hl3 := lc3 (ts := ts) (x := x) (y := TD ((half ts).map tw)) (half_oks h) (Nat.le_refl _)
      rw [List.length_map] at hA2
      have za : (ansL (half ts) (half ts).length).length ≤ sizeLine := by
        have : (ansL (half ts) (half ts).length).length = (half ts).length := by simp [ansL]
        rw [this]; exact zh
      have hne := ne_self (x := .tup (ansL ((half ts).map tw) (half ts).length)) (by rw [shD_tup]; exact shAns)
      have hne2 := ne_self (x := .tup [I (tops (half ts) / gg (half ts)), I (rnd (half ts) / gg (half ts))]) (by simp)
      have hpos : 0 < ((half ts).map Tk.D).length := by rw [List.length_map]; exact hH.n1
      have zh' : ((half ts).map Tk.D).length ≤ sizeLine := by rw [List.length_map]; exact zh
      refine ⟨some (.d (TD ((half ts).map tw))), some (.d (.tup (ansL (half ts) (half ts).length))), ?_⟩
      generalize ansL ((half ts).map tw) (half ts).length = L2 at *
      generalize ansL (half ts) (half ts).length = L1 at *
      generalize I (tops (half ts) / gg (half ts)) = S1 at *
      generalize I (rnd (half ts) / gg (half ts)) = S2 at *
      unfold e17 TD at *
      generalize ts.map Tk.D = T at *
      generalize ((half ts).map tw).map Tk.D = T2 at *
      generalize (half ts).map Tk.D = T1 at *
      generalize fn_answers = F1 at *
      generalize fn_share = F2 at *
      generalize fn_by_deadline = F3 at *
      generalize hb : isNon (.d x2) = bb at *
      have hnb : oNe (.d (.bl bb)) (.d (.bl bb)) = some (.d (.bl false)) := ne_self (by simp)
      simp -implicitDefEqProofs [hA1, hA2, hS1, hS2, hB1, hB2, hl2, hl3, hne, hne2, hx, hb, hpos, zh', za, hnb]
  obtain ⟨o8, o9, st1⟩ := st1
  clear hS1
  -- the kinds
  have kinds : ∃ o10 o11 o12 o14 o15 o16, okS o16 = true ∧ forL (bName 6) lb4__law_part1 [.str (PySem.Str.ofString "deadline"), .str (PySem.Str.ofString "number")] (pe ts x (rnd ts) (tops ts / gg ts) (rnd ts / gg ts) (some (.d (TD (half ts)))) none o8 o9 none none none none none none) = some (.nx (pe ts x (rnd ts) (tops ts / gg ts) (rnd ts / gg ts) (some (.d (TD (half ts)))) (some (.d (kd false))) o8 o9 o10 o11 o12 o14 o15 o16)) := by
    obtain ⟨a1, a2, a3, a4, a5, a6, q1, k1⟩ := kind4 (x := x) (b := true) h.t okS_none (o2 := some (.d (TD (half ts)))) (o8 := o8) (o9 := o9) (o10 := none) (o11 := none) (o12 := none) (o14 := none) (o15 := none)
    obtain ⟨b1, b2, b3, b4, b5, b6, q2, k2⟩ := kind4 (x := x) (b := false) h.t q1 (o2 := some (.d (TD (half ts)))) (o8 := o8) (o9 := o9) (o10 := a1) (o11 := a2) (o12 := a3) (o14 := a4) (o15 := a5)
    refine ⟨b1, b2, b3, b4, b5, b6, q2, ?_⟩
    have e1 : (D.str (PySem.Str.ofString "deadline")) = kd true := rfl
    have e2 : (D.str (PySem.Str.ofString "number")) = kd false := rfl
    rw [e1, e2, forL_cons]
    have u1 : bName 6 (kd true) (pe ts x (rnd ts) (tops ts / gg ts) (rnd ts / gg ts) (some (.d (TD (half ts)))) none o8 o9 none none none none none none) = some (pe ts x (rnd ts) (tops ts / gg ts) (rnd ts / gg ts) (some (.d (TD (half ts)))) (some (.d (kd true))) o8 o9 none none none none none none) := rfl
    rw [u1, forK_some, k1, whileK_nx, forL_cons]
    have u2 : bName 6 (kd false) (pe ts x (rnd ts) (tops ts / gg ts) (rnd ts / gg ts) (some (.d (TD (half ts)))) (some (.d (kd true))) o8 o9 a1 a2 a3 a4 a5 a6) = some (pe ts x (rnd ts) (tops ts / gg ts) (rnd ts / gg ts) (some (.d (TD (half ts)))) (some (.d (kd false))) o8 o9 a1 a2 a3 a4 a5 a6) := rfl
    rw [u2, forK_some, k2, whileK_nx, forL_nil]
  obtain ⟨o10, o11, o12, o14, o15, o16, h16, kinds⟩ := kinds
  have z2 : 2 ≤ sizeLine := smallT (by decide)
  -- wants
  have hLR := f__law_round h.t
  have hSh := f_share h.t
  have hW1 := f_wanted h.t (m := rnd ts) (by omega)
  have hW2 := f_wanted h.t (m := 2 * rnd ts) (by omega)
  rw [wnt_round h.ok] at hW1
  rw [wnt_round2 h.ok] at hW2
  have htop := top_eq h.t
  have hq : tops ts / gg ts ≤ 2000 := Nat.le_trans (Nat.div_le_self _ _) ht
  have hq2 : rnd ts / gg ts ≤ 24 := Nat.le_trans (Nat.div_le_self _ _) hr.2
  have hq3 : 1 ≤ rnd ts / gg ts := by
    have : gg ts ≤ rnd ts := Nat.gcd_le_right _ hr.1
    exact (Nat.le_div_iff_mul_le (by omega)).2 (by omega)
  have em1 : oMulA (.d (I (tops ts / gg ts))) (.d (I (rnd ts))) = some (.d (.int (((tops ts / gg ts : Nat) : Int) * (rnd ts : Int)))) := by
    generalize tops ts / gg ts = A at *
    exact emul (by omega) (by omega) (by omega) (by omega)
  have dv : ∀ n, divC n ((rnd ts / gg ts : Nat) : Int) = true := fun n => by
    generalize rnd ts / gg ts = B at *
    exact divC_of (by omega) (by omega)
  have em2 : oMulA (.d (.int 2)) (.d (I (rnd ts))) = some (.d (I (2 * rnd ts))) := by
    rw [emul (by omega) (by omega) (by omega) (by omega)]
    rfl
  have esub : (((2 * tops ts : Nat) : Int) - ((tops ts : Nat) : Int)) = ((tops ts : Nat) : Int) := by omega
  -- from the last
  obtain ⟨y, hFL, hy⟩ := f_from_last h.t
  rcases hy with rfl | ⟨r, hRk, rfl⟩
  · unfold e17 pe at *
    unfold TD at *
    rw [← List.length_map (f := Tk.D)] at z4 zh
    generalize (half ts).map Tk.D = T1 at *
    generalize ts.map Tk.D = T at *
    generalize rnd ts / gg ts = B at *
    generalize tops ts / gg ts = A at *
    generalize hw2 : 2 * rnd ts = w2 at *
    generalize rnd ts = w at *
    generalize ht2 : 2 * tops ts = t2 at *
    generalize tops ts = t1 at *
    generalize fn__law_round = F1 at *
    generalize fn_wanted = F2 at *
    generalize fn_from_last = F3 at *
    generalize fn_answers = F4 at *
    generalize fn_by_deadline = F5 at *
    generalize fn_share = F6 at *
    simp -implicitDefEqProofs [hl1, z4, zh, st1, hLR, hSh, kinds, hW1, hW2, em1, em2, dv, htop, esub, hFL, z2]
  · have hrl : r.length = ts.length := by rw [hRk.perm.length_eq, List.length_range]
    have hlt : ∀ i ∈ r, i < ts.length := fun i hi => List.mem_range.1 (hRk.perm.mem_iff.1 hi)
    have hT2 : TsOk (r.map (tk ts)) := ⟨hRk.oks h.ok, by rw [List.length_map, hrl]; exact h.n1, by rw [List.length_map, hrl]; omega⟩
    have hA := f_answers hT2
    have hGd : ¬ ((ansL (r.map (tk ts)) (r.map (tk ts)).length).any fun z => eqD z .non) = true := fun q => non_ans.1 q hRk.all
    have hIn : oInT (.d .non) (.d (.tup (ansL (r.map (tk ts)) (r.map (tk ts)).length))) = some (.d (.bl false)) := by
      rw [oInT_tup shD_non shAns, show ((ansL (r.map (tk ts)) (r.map (tk ts)).length).any fun z => eqD z .non) = false by simpa using hGd]
    obtain ⟨m2, y2, hP2, hR2⟩ := f_play hT2 (b := false) (most := rnd ts) (by omega)
    have hy2 : y2 = .non := by
      rcases hR2 with ⟨_, _, q2⟩ | ⟨_, _, _, _, q4, _⟩
      · exact q2
      · exact absurd (hRk.cl h.ok _) q4
    subst hy2
    have hkd : kd false = .str (PySem.Str.ofString "number") := rfl
    rw [hkd] at hP2
    obtain ⟨y3, hB, hy3⟩ := f_by_deadline h.t
    have hy4 : y3 = .non := by
      rcases hy3 with ⟨_, q⟩ | ⟨q, _⟩
      · exact q
      · exact absurd (hRk.bd h.ok) q
    subst hy4
    have hL7 : lcL [16] (bName 16) fYes ce7__law_part1 (r.map I) [] [some (.d (TD ts)), some (.d x), some (.d (TD (half ts))), some (.d (I (rnd ts))), some (.d (I (tops ts / gg ts))), some (.d (I (rnd ts / gg ts))), some (.d (kd false)), some (.d (tD r)), o8, o9, o10, o11, o12, none, o14, o15, o16, none, none, none]
        = some (.val (.m (.lst ((r.map (tk ts)).map Tk.D))), [some (.d (TD ts)), some (.d x), some (.d (TD (half ts))), some (.d (I (rnd ts))), some (.d (I (tops ts / gg ts))), some (.d (I (rnd ts / gg ts))), some (.d (kd false)), some (.d (tD r)), o8, o9, o10, o11, o12, none, o14, o15, o16, none, none, none]) := by
      rw [lc_map (ixR ts), ixR_all]
      intro y hy
      obtain ⟨i, hi, rfl⟩ := List.mem_map.1 hy
      have hix := ix_tk (hlt i hi)
      unfold TD tD ixR
      generalize ts.map Tk.D = T at *
      generalize (half ts).map Tk.D = T1 at *
      generalize r.map I = T2 at *
      generalize kd false = K
      generalize rnd ts / gg ts = B
      generalize tops ts / gg ts = A
      generalize rnd ts = w
      simp -implicitDefEqProofs [lcOne, ce7__law_part1, hix]
    have zr : (r.map I).length ≤ sizeLine := by rw [List.length_map, hrl]; exact z4
    unfold e17 pe at *
    unfold TD tD at *
    rw [← List.length_map (f := Tk.D)] at z4 zh
    generalize (half ts).map Tk.D = T1 at *
    generalize (r.map (tk ts)).map Tk.D = T3 at *
    generalize ansL (r.map (tk ts)) (r.map (tk ts)).length = T4 at *
    generalize ts.map Tk.D = T at *
    generalize r.map I = T2 at *
    generalize rnd ts / gg ts = B at *
    generalize tops ts / gg ts = A at *
    generalize hw2 : 2 * rnd ts = w2 at *
    generalize rnd ts = w at *
    generalize ht2 : 2 * tops ts = t2 at *
    generalize tops ts = t1 at *
    generalize fn__law_round = F1 at *
    generalize fn_wanted = F2 at *
    generalize fn_from_last = F3 at *
    generalize fn_answers = F4 at *
    generalize fn_by_deadline = F5 at *
    generalize fn_share = F6 at *
    generalize fn_play = F7 at *
    simp -implicitDefEqProofs [hl1, z4, zh, st1, hLR, hSh, kinds, hW1, hW2, em1, em2, dv, htop, esub, hFL, z2, hL7, h16, zr, hA, hIn, hP2, hB]
end K39
end

section
set_option Elab.async false
set_option linter.all false
set_option maxRecDepth 100000
namespace K39
open PySem PySem.Spec PyProof.Rows L2 QL
/-! a task left out, and one changed -/
def less (ts : List Tk) (k : Nat) : List Tk := ts.take k ++ ts.drop (k + 1)
section
variable {ts : List Tk} {k : Nat}
theorem less_sub : (less ts k).Sublist ts := by
  unfold less
  conv => rhs; rw [← List.take_append_drop k ts]
  refine (List.Sublist.refl _).append ?_
  rw [← List.drop_drop]
  exact List.drop_sublist _ _
theorem less_len (hk : k < ts.length) : (less ts k).length = ts.length - 1 := by
  unfold less
  simp
  omega
theorem less_tk1 (hk : k < ts.length) {j : Nat} (h : j < k) : tk (less ts k) j = tk ts j := by
  unfold tk less
  rw [List.getD_eq_getElem?_getD, List.getD_eq_getElem?_getD, List.getElem?_append_left (by simp; omega), List.getElem?_take_of_lt h]
theorem less_tk2 (hk : k < ts.length) {j : Nat} (h : k ≤ j) : tk (less ts k) j = tk ts (j + 1) := by
  unfold tk less
  rw [List.getD_eq_getElem?_getD, List.getD_eq_getElem?_getD, List.getElem?_append_right (by simp; omega), List.getElem?_drop]
  congr 2
  simp
  omega
theorem less_take1 (hk : k < ts.length) {j : Nat} (h : j ≤ k) : (less ts k).take j = ts.take j := by
  unfold less
  rw [List.take_append_of_le_length (by simp; omega), List.take_take, Nat.min_eq_left h]
theorem less_take2 (hk : k < ts.length) {j : Nat} (h : k ≤ j) : ((less ts k).take j).Sublist (ts.take (j + 1)) := by
  have e : less (ts.take (j + 1)) k = (less ts k).take j := by
    unfold less
    rw [List.take_append, List.take_take, List.take_take, List.length_take, Nat.min_eq_left (by omega : k ≤ ts.length), Nat.min_eq_left (by omega : k ≤ j + 1), Nat.min_eq_right h, List.drop_take, show j + 1 - (k + 1) = j - k by omega]
  rw [← e]
  exact less_sub
theorem ans_less1 (hk : k < ts.length) {j : Nat} (h : j < k) : ans ((less ts k).take j) (tk (less ts k) j) = ans (ts.take j) (tk ts j) := by rw [less_take1 hk (by omega), less_tk1 hk h]
theorem ans_less2 (hk : k < ts.length) {j R : Nat} (h : k ≤ j) (hR : ans (ts.take (j + 1)) (tk ts (j + 1)) = some R) : ∃ R', ans ((less ts k).take j) (tk (less ts k) j) = some R' ∧ R' ≤ R := by
  rw [less_tk2 hk h]
  exact ans_le hR (fun x => W_sub (less_take2 hk h)) (Nat.le_refl _)
/-! one changed -/
theorem set_eq {t : Tk} (hk : k < ts.length) : ts.take k ++ [t] ++ ts.drop (k + 1) = ts.set k t := by
  rw [List.set_eq_take_append_cons_drop, if_pos hk, List.append_assoc]
  rfl
theorem set_tk {t : Tk} (hk : k < ts.length) {j : Nat} : tk (ts.set k t) j = if j = k then t else tk ts j := by
  unfold tk
  rw [List.getD_eq_getElem?_getD, List.getElem?_set]
  by_cases z : k = j
  · rw [if_pos z, if_pos (by omega), if_pos z.symm]; rfl
  · rw [if_neg z, if_neg fun q => z q.symm, List.getD_eq_getElem?_getD]
theorem sm_set {f : Tk → Nat} {t : Tk} : ∀ {l : List Tk} {k : Nat}, (∀ s, l[k]? = some s → f t ≤ f s) → sm ((l.set k t).map f) ≤ sm (l.map f)
  | [], k, _ => Nat.le_refl _
  | s :: l, 0, h => by
    have := h s rfl
    show sm (f t :: l.map f) ≤ sm (f s :: l.map f)
    rw [sm_cons, sm_cons]
    omega
  | s :: l, k + 1, h => by
    have := sm_set (l := l) (k := k) (t := t) (f := f) fun s' q => h s' q
    show sm (f s :: (l.set k t).map f) ≤ sm (f s :: l.map f)
    rw [sm_cons, sm_cons]
    omega
theorem W_set {t : Tk} {l : List Tk} {c x : Nat} (h : ∀ s, l[k]? = some s → t.c ≤ s.c ∧ t.p = s.p) : W (l.set k t) c x ≤ W l c x := by
  have := sm_set (l := l) (k := k) (t := t) (f := fun t => up x t.p * t.c) fun s q => by
    obtain ⟨h1, h2⟩ := h s q
    rw [h2]
    exact Nat.mul_le_mul_left _ h1
  unfold W
  omega
theorem map_set {α : Type} {f : Tk → α} {t : Tk} : ∀ {l : List Tk} {k : Nat}, (∀ s, l[k]? = some s → f t = f s) → (l.set k t).map f = l.map f
  | [], k, _ => rfl
  | s :: l, 0, h => by rw [List.set_cons_zero, List.map_cons, List.map_cons, h s rfl]
  | s :: l, k + 1, h => by rw [List.set_cons_succ, List.map_cons, List.map_cons]; exact congrArg _ (map_set fun s' q => h s' q)
theorem take_at {s : Tk} {j : Nat} (h : (ts.take j)[k]? = some s) (hk : k < ts.length) : s = tk ts k := by
  rw [List.getElem?_take] at h
  split at h
  · rw [tk_at hk] at h
    exact (Option.some.inj h).symm
  · cases h
theorem ans_short (hk : k < ts.length) {t : Tk} (hc : t.c ≤ (tk ts k).c) (hd : t.d = (tk ts k).d) (hp : t.p = (tk ts k).p) {j R : Nat} (hR : ans (ts.take j) (tk ts j) = some R) :
    ∃ R', ans ((ts.set k t).take j) (tk (ts.set k t) j) = some R' ∧ R' ≤ R := by
  rw [List.take_set, set_tk hk]
  refine ans_le hR (fun x => ?_) ?_
  · have h1 : W ((ts.take j).set k t) (tk ts j).c x ≤ W (ts.take j) (tk ts j).c x := W_set fun s q => by
      rw [take_at q hk]
      exact ⟨hc, hp⟩
    split
    · rename_i z
      subst z
      unfold W at h1 ⊢
      omega
    · exact h1
  · split
    · rename_i z
      subst z
      rw [hd]
      exact Nat.le_refl _
    · exact Nat.le_refl _
theorem ans_set1 (hk : k < ts.length) {t : Tk} {j : Nat} (h : j < k) : ans ((ts.set k t).take j) (tk (ts.set k t) j) = ans (ts.take j) (tk ts j) := by
  rw [set_tk hk, if_neg (by omega), List.take_set_of_le (by omega)]
theorem ans_longer (hk : k < ts.length) {t : Tk} (hc : t.c = (tk ts k).c) (hd : (tk ts k).d ≤ t.d) (hp : t.p = (tk ts k).p) {j R : Nat} (hR : ans (ts.take j) (tk ts j) = some R) :
    ans ((ts.set k t).take j) (tk (ts.set k t) j) = some R := by
  have hW : ∀ x, W ((ts.take j).set k t) (tk ts j).c x = W (ts.take j) (tk ts j).c x := fun x => W_eq (map_set fun s q => by rw [take_at q hk, hc, hp])
  have h1 : ans ((ts.take j).set k t) (tk ts j) = some R := by rw [← hR]; exact ans_eqv hW rfl
  rw [List.take_set, set_tk hk]
  split
  · rename_i z
    subst z
    exact ans_long h1 hc hd
  · exact h1
theorem rnd_map {ts' : List Tk} (h : ts'.map (·.p) = ts.map (·.p)) : rnd ts' = rnd ts := by
  have e : ∀ l : List Tk, rnd l = (l.map (·.p)).foldl Nat.lcm 1 := fun l => by unfold rnd; rw [List.foldl_map]
  rw [e, e, h]
theorem okBD_set (h : Oks ts) (hb : okBD ts) (hk : k < ts.length) {t : Tk} (hc : t.c = (tk ts k).c) (hp : t.p = (tk ts k).p) (hd : t.d = t.p) (h' : Oks (ts.set k t)) : okBD (ts.set k t) := by
  refine okBD_long h hb h' (rnd_map (map_set fun s q => ?_)) fun m => sm_set fun s q => ?_
  · rw [tk_at hk] at q
    cases q
    exact hp
  · rw [tk_at hk] at q
    cases q
    have := wn_long (c := (tk ts k).c) (d := (tk ts k).d) (p := (tk ts k).p) (m := m) (tk_ok h hk).1.dp
    have e : t = ⟨(tk ts k).c, (tk ts k).p, (tk ts k).p⟩ := by rw [← hc, ← hp]; rw [← hd]; rw [hd]; cases t; simp_all
    rw [e]
    exact this
/-! the first ones -/
theorem ansL_take {j : Nat} (h : j ≤ ts.length) : ansL (ts.take j) j = (ansL ts ts.length).take j := by
  unfold ansL
  rw [← List.map_take, List.take_range, Nat.min_eq_left h]
  refine List.map_congr_left fun i hi => ?_
  have hi := List.mem_range.1 hi
  rw [List.take_take, Nat.min_eq_left (by omega)]
  congr 2
  unfold tk
  rw [List.getD_eq_getElem?_getD, List.getD_eq_getElem?_getD, List.getElem?_take_of_lt hi]
theorem ansL_len {n : Nat} : (ansL ts n).length = n := by simp [ansL]
theorem ansL_get {n j : Nat} (h : j < n) : (ansL ts n)[j]? = some (oD (ans (ts.take j) (tk ts j))) := by
  unfold ansL
  rw [List.getElem?_map, List.getElem?_range h]
  rfl
/-! good orders -/
theorem Gd_iff {l : List Tk} : Gd l ↔ ∀ a t b, l = a ++ t :: b → (ans a t).isSome = true := by
  constructor
  · rintro h a t b rfl
    have := h a.length (by simp)
    rw [List.take_left' rfl] at this
    have e : tk (a ++ t :: b) a.length = t := by unfold tk; simp
    rwa [e] at this
  · intro h j hj
    refine h (l.take j) (tk l j) (l.drop (j + 1)) ?_
    have := tk_at hj
    conv => lhs; rw [← List.take_append_drop j l]
    congr 1
    obtain ⟨h1, h2⟩ := List.getElem?_eq_some_iff.1 this
    rw [← h2, List.drop_eq_getElem_cons h1]
theorem Gd_sub {l l' : List Tk} (h : Gd l) (hs : l'.Sublist l) : Gd l' := by
  rw [Gd_iff] at h ⊢
  rintro a t b rfl
  obtain ⟨r1, r2, rfl, h1, h2⟩ := List.append_sublist_iff.1 hs
  obtain ⟨s1, s2, rfl, h3, h4⟩ := List.cons_sublist_iff.1 h2
  obtain ⟨u, v, rfl⟩ := List.append_of_mem h3
  have := h (r1 ++ u) t (v ++ s2) (by simp)
  obtain ⟨R, hR⟩ := Option.isSome_iff_exists.1 this
  obtain ⟨R', h5, _⟩ := ans_le (t' := t) hR (fun x => W_sub (h1.trans (List.sublist_append_left _ _))) (Nat.le_refl _)
  rw [h5]
  rfl
def sh (k i : Nat) : Nat := if i < k then i else i - 1
theorem sh_inj {i j : Nat} (hi : i ≠ k) (hj : j ≠ k) (h : sh k i = sh k j) : i = j := by
  unfold sh at h
  split at h <;> split at h <;> omega
theorem sh_nodup : ∀ {l : List Nat}, l.Nodup → (∀ x ∈ l, x ≠ k) → (l.map (sh k)).Nodup
  | [], _, _ => List.nodup_nil
  | x :: l, h, hk => by
    rw [List.nodup_cons] at h
    rw [List.map_cons, List.nodup_cons]
    refine ⟨fun q => ?_, sh_nodup h.2 fun y hy => hk y (List.mem_cons_of_mem _ hy)⟩
    obtain ⟨y, hy, e⟩ := List.mem_map.1 q
    have := sh_inj (hk y (List.mem_cons_of_mem _ hy)) (hk x List.mem_cons_self) e
    subst this
    exact h.1 hy
theorem sh_lt {n i : Nat} (hk : k < n) (hi : i < n) (h : i ≠ k) : sh k i < n - 1 := by unfold sh; split <;> omega
theorem sh_tk (hk : k < ts.length) {i : Nat} (h : i ≠ k) : tk (less ts k) (sh k i) = tk ts i := by
  unfold sh
  split
  · exact less_tk1 hk (by omega)
  · rw [less_tk2 hk (by omega), show i - 1 + 1 = i by omega]
theorem good_less (hk : k < ts.length) {r : List Nat} (hr : r ∈ ord ts.length ts.length) (hg : Gd (r.map (tk ts))) : ∃ r' ∈ ord (ts.length - 1) (ts.length - 1), Gd (r'.map (tk (less ts k))) := by
  obtain ⟨h1, h2, h3⟩ := mem_ord.1 hr
  have hf : ∀ x ∈ r.filter (fun x => x != k), x ≠ k ∧ x < ts.length := fun x hx => by
    have := List.mem_filter.1 hx
    exact ⟨by simpa using this.2, h3 x this.1⟩
  have hn : ((r.filter (fun x => x != k)).map (sh k)).Nodup := sh_nodup (h2.filter _) fun x hx => (hf x hx).1
  have hl : ∀ y ∈ (r.filter (fun x => x != k)).map (sh k), y < ts.length - 1 := fun y hy => by
    obtain ⟨x, hx, rfl⟩ := List.mem_map.1 hy
    exact sh_lt hk (hf x hx).2 (hf x hx).1
  have hkr : k ∈ r := by
    apply Classical.byContradiction
    intro q
    have e : r.filter (fun x => x != k) = r := List.filter_eq_self.2 fun x hx => by
      simp only [bne_iff_ne, ne_eq]
      rintro rfl
      exact q hx
    have := nodup_lt hn hl
    rw [List.length_map, e, h1] at this
    omega
  have hle : (r.filter (fun x => x != k)).length = ts.length - 1 := by
    rw [← h2.erase_eq_filter, List.length_erase_of_mem hkr, h1]
  refine ⟨(r.filter (fun x => x != k)).map (sh k), mem_ord.2 ⟨by rw [List.length_map, hle], hn, hl⟩, ?_⟩
  have e : ((r.filter (fun x => x != k)).map (sh k)).map (tk (less ts k)) = (r.filter (fun x => x != k)).map (tk ts) := by
    rw [List.map_map]
    exact List.map_congr_left fun x hx => sh_tk hk (hf x hx).1
  rw [e]
  exact Gd_sub hg ((List.filter_sublist).map _)
end
end K39
end

section
set_option Elab.async false
set_option linter.all false
set_option maxRecDepth 100000
namespace K39
open PySem PySem.Spec PyProof.Rows L2 QL
/-- what is drawn so far -/
structure Dr (ts : List Tk) (n : Nat) : Prop where
  ok : Oks ts
  p12 : ∀ t ∈ ts, t.p ∣ 12
  len : ts.length = n
theorem Dr.snoc {ts : List Tk} {n : Nat} {t : Tk} (h : Dr ts n) (ok : t.Ok) (hp : t.p ∣ 12) : Dr (ts ++ [t]) (n + 1) := by
  refine ⟨fun s hs => ?_, fun s hs => ?_, by simp [h.len]⟩
  · rcases List.mem_append.1 hs with hs | hs
    · exact h.ok s hs
    · rw [List.mem_singleton] at hs; subst hs; exact ok
  · rcases List.mem_append.1 hs with hs | hs
    · exact h.p12 s hs
    · rw [List.mem_singleton] at hs; subst hs; exact hp
theorem draw1 {s0 : S} {st : M} {ts : List Tk} {n : Nat} {o6 o7 : Option S} (g : GS st) (h : Dr ts n) (hn : n ≤ 4) {k : Nat} :
    ∃ st' t o6' o7', GS st' ∧ t.Ok ∧ t.p ∣ 12 ∧ lb1_law [some s0, some (.m st), some (.m (.lst (ts.map Tk.D))), some (.d (I k)), none, none, o6, o7, none, none, none, none, none, none] = some (.nx [some s0, some (.m st'), some (.m (.lst ((ts ++ [t]).map Tk.D))), some (.d (I k)), none, none, o6', o7', none, none, none, none, none, none]) := by
  obtain ⟨r1, st1, T1, l1, u1, g1⟩ := f_take (many := 5) g (by omega) (by omega)
  obtain ⟨r2, st2, T2, l2, u2, g2⟩ := f_take (many := 3) g1 (by omega) (by omega)
  obtain ⟨p, hp, p1, p12, pd, pd24⟩ : ∃ p : Int, getI [D.int 2, .int 3, .int 4, .int 6, .int 12] r1 = some (.int p) ∧ 1 ≤ p ∧ p ≤ 12 ∧ p.toNat ∣ 12 ∧ p.toNat ∣ 24 := by
    have : r1 = 0 ∨ r1 = 1 ∨ r1 = 2 ∨ r1 = 3 ∨ r1 = 4 := by omega
    rcases this with rfl | rfl | rfl | rfl | rfl
    · exact ⟨2, rfl, by decide, by decide, by decide, by decide⟩
    · exact ⟨3, rfl, by decide, by decide, by decide, by decide⟩
    · exact ⟨4, rfl, by decide, by decide, by decide, by decide⟩
    · exact ⟨6, rfl, by decide, by decide, by decide, by decide⟩
    · exact ⟨12, rfl, by decide, by decide, by decide, by decide⟩
  obtain ⟨d, hd⟩ : ∃ d : Int, d = if p - r2 > 1 then p - r2 else 1 := ⟨_, rfl⟩
  obtain ⟨m, hm⟩ : ∃ m : Int, m = if d / 2 > 1 then d / 2 else 1 := ⟨_, rfl⟩
  have d1 : 1 ≤ d ∧ d ≤ p := by rw [hd]; split <;> omega
  have m1 : 1 ≤ m ∧ m ≤ d := by rw [hm]; split <;> omega
  obtain ⟨r3, st3, T3, l3, u3, g3⟩ := f_take (many := m) g2 (by omega) (by omega)
  refine ⟨st3, ⟨(1 + r3).toNat, d.toNat, p.toNat⟩, some (.d (.int d)), some (.d (.int p)), g3, ⟨by show 1 ≤ (1 + r3).toNat; omega, by show (1 + r3).toNat ≤ d.toNat; omega, by show d.toNat ≤ p.toNat; omega, by show p.toNat ≤ 12; omega, pd24⟩, pd, ?_⟩
  have eD : Tk.D ⟨(1 + r3).toNat, d.toNat, p.toNat⟩ = .tup [.int (1 + r3), .int d, .int p] := by
    unfold Tk.D
    simp only
    rw [Int.toNat_of_nonneg (by omega), Int.toNat_of_nonneg (by omega), Int.toNat_of_nonneg (by omega)]
  have z5 : 5 ≤ sizeLine := smallT (by decide)
  have z3 : 3 ≤ sizeLine := smallT (by decide)
  have zl : (ts.map Tk.D).length < sizeLine := by rw [List.length_map, h.len]; exact sizeLine_gt (by omega)
  have dv : ∀ n, divC n 2 = true := fun n => divC_of (by omega) (by omega)
  rw [List.map_append, List.map_cons, List.map_nil, eD]
  have M1 : oMax [.d (.int 1), .d (.int (p - r2))] = some (.d (.int d)) := by rw [oMax_2, ← hd]
  have M2 : oMax [.d (.int 1), .d (.int (d / 2))] = some (.d (.int m)) := by rw [oMax_2, ← hm]
  unfold lb1_law
  generalize fn__law_take = F at *
  generalize ts.map Tk.D = T at *
  clear hd hm
  simp -implicitDefEqProofs [-oMax_2, T1, T2, T3, hp, z5, z3, zl, dv, M1, M2]
abbrev le (s0 : S) (st : M) (ts : List Tk) (k : Nat) (told o5 o6 o7 o8 o9 o10 o11 o12 o13 : Option S) : En :=
  [some s0, some (.m st), some (.d (TD ts)), some (.d (I k)), told, o5, o6, o7, o8, o9, o10, o11, o12, o13]
abbrev TL (ts : List Tk) : Option S := some (.d (.tup (ansL ts ts.length)))
theorem shL {n : Nat} {o : Option Nat} : shD n (oD o) = true := shOD
theorem isN_oD {o : Option Nat} : isNon (.d (oD o)) = o.isNone := by cases o <;> rfl
theorem loop2 {s0 : S} {st : M} {ts : List Tk} {k : Nat} (hk : k < ts.length) (h4 : ts.length ≤ 4) {o5 o6 o7 o8 o9 o12 o13 : Option S} :
    ∃ e', forL (bName 9) lb2_law (rngL 0 (ts.length - 1)) (le s0 st ts k (TL ts) o5 o6 o7 o8 o9 (some (.d (TD (less ts k)))) (TL (less ts k)) o12 o13) = some (.nx e') ∧ ∃ o9 o13, e' = le s0 st ts k (TL ts) o5 o6 o7 o8 o9 (some (.d (TD (less ts k)))) (TL (less ts k)) o12 o13 := by
  refine for_rng (fun j e => ∃ o9 o13, e = le s0 st ts k (TL ts) o5 o6 o7 o8 o9 (some (.d (TD (less ts k)))) (TL (less ts k)) o12 o13) ⟨_, _, rfl⟩ ?_
  rintro j e hj ⟨o9, o13, rfl⟩
  have e0 : (0 + (j : Int)) = (j : Int) := Int.zero_add _
  rw [e0]
  have g4 := ansL_get (ts := ts) (n := ts.length) (j := j) (by omega)
  have g41 := ansL_get (ts := ts) (n := ts.length) (j := j + 1) (by omega)
  have g11 := ansL_get (ts := less ts k) (n := (less ts k).length) (j := j) (by rw [less_len hk]; omega)
  have g41' : getI (ansL ts ts.length) ((j : Int) + 1) = some (oD (ans (ts.take (j + 1)) (tk ts (j + 1)))) := by
    have e : ((j : Int) + 1) = ((j + 1 : Nat) : Int) := rfl
    rw [e, getI_nat, g41]
  have n1 : ∀ {o : Option Nat}, oNe (.d (oD o)) (.d (oD o)) = some (.d (.bl false)) := ne_self shOD
  by_cases z : j < k
  · have zi : (j : Int) < (k : Int) := by omega
    rw [ans_less1 hk z] at g11
    refine ⟨le s0 st ts k (TL ts) o5 o6 o7 o8 (some (.d (I j))) (some (.d (TD (less ts k)))) (TL (less ts k)) o12 o13, le s0 st ts k (TL ts) o5 o6 o7 o8 (some (.d (I j))) (some (.d (TD (less ts k)))) (TL (less ts k)) o12 (some (.d (oD (ans (ts.take j) (tk ts j))))), rfl, ?_, _, _, rfl⟩
    unfold lb2_law
    unfold le TL at *
    generalize ansL ts ts.length = L1 at *
    generalize ansL (less ts k) (less ts k).length = L2 at *
    generalize TD ts = T1 at *
    generalize TD (less ts k) = T2 at *
    clear g41 g41'
    generalize ans (ts.take j) (tk ts j) = q at *
    cases q with
    | none =>
      have n2 := n1 (o := none)
      unfold oD at g4 g11 n2 ⊢
      simp -implicitDefEqProofs [g4, g11, z, zi, n2]
    | some v =>
      have n2 := n1 (o := some v)
      unfold oD at g4 g11 n2 ⊢
      simp -implicitDefEqProofs [g4, g11, z, zi, n2]
  · have zi : ¬ (j : Int) < (k : Int) := by omega
    refine ⟨le s0 st ts k (TL ts) o5 o6 o7 o8 (some (.d (I j))) (some (.d (TD (less ts k)))) (TL (less ts k)) o12 o13, le s0 st ts k (TL ts) o5 o6 o7 o8 (some (.d (I j))) (some (.d (TD (less ts k)))) (TL (less ts k)) o12 (some (.d (oD (ans (ts.take (j + 1)) (tk ts (j + 1)))))), rfl, ?_, _, _, rfl⟩
    have hle := fun R => ans_less2 (R := R) hk (j := j) (by omega)
    unfold lb2_law
    unfold le TL at *
    generalize ansL ts ts.length = L1 at *
    generalize ansL (less ts k) (less ts k).length = L2 at *
    generalize TD ts = T1 at *
    generalize TD (less ts k) = T2 at *
    generalize ans (ts.take (j + 1)) (tk ts (j + 1)) = q at *
    cases q with
    | none =>
      unfold oD at g41'
      simp -implicitDefEqProofs [g41', g11, z, zi, oD]
    | some v =>
      obtain ⟨R', h1, h2⟩ := hle v rfl
      rw [h1] at g11
      have h3 : ¬ v < R' := by omega
      unfold oD at g41' g11
      simp -implicitDefEqProofs [g41', g11, z, zi, h3, oD]
theorem loop3 {s0 : S} {st : M} {ts : List Tk} {k : Nat} (hk : k < ts.length) (h4 : ts.length ≤ 4) {t : Tk} (hc : t.c ≤ (tk ts k).c) (hd : t.d = (tk ts k).d) (hp : t.p = (tk ts k).p) {o5 o6 o7 o8 o9 o10 o13 : Option S} :
    ∃ e', forL (bName 9) lb3_law (rngL 0 ts.length) (le s0 st ts k (TL ts) o5 o6 o7 o8 o9 o10 (TL (ts.set k t)) (some (.d (TD (ts.set k t)))) o13) = some (.nx e') ∧ ∃ o9, e' = le s0 st ts k (TL ts) o5 o6 o7 o8 o9 o10 (TL (ts.set k t)) (some (.d (TD (ts.set k t)))) o13 := by
  refine for_rng (fun j e => ∃ o9, e = le s0 st ts k (TL ts) o5 o6 o7 o8 o9 o10 (TL (ts.set k t)) (some (.d (TD (ts.set k t)))) o13) ⟨_, rfl⟩ ?_
  rintro j e hj ⟨o9, rfl⟩
  have e0 : (0 + (j : Int)) = (j : Int) := Int.zero_add _
  rw [e0]
  have g4 := ansL_get (ts := ts) (n := ts.length) (j := j) (by omega)
  have g11 := ansL_get (ts := ts.set k t) (n := (ts.set k t).length) (j := j) (by rw [List.length_set]; omega)
  have n1 : ∀ {o : Option Nat}, oNe (.d (oD o)) (.d (oD o)) = some (.d (.bl false)) := ne_self shOD
  refine ⟨le s0 st ts k (TL ts) o5 o6 o7 o8 (some (.d (I j))) o10 (TL (ts.set k t)) (some (.d (TD (ts.set k t)))) o13, _, rfl, ?_, some (.d (I j)), rfl⟩
  by_cases z : j < k
  · have zi : (j : Int) < (k : Int) := by omega
    rw [ans_set1 hk z] at g11
    unfold lb3_law
    unfold le TL at *
    generalize ansL ts ts.length = L1 at *
    generalize ansL (ts.set k t) (ts.set k t).length = L2 at *
    generalize TD ts = T1 at *
    generalize TD (ts.set k t) = T2 at *
    generalize ans (ts.take j) (tk ts j) = q at *
    cases q with
    | none =>
      unfold oD at g4 g11
      simp -implicitDefEqProofs [g4, g11, z, zi]
    | some v =>
      have n2 := n1 (o := some v)
      unfold oD at g4 g11 n2
      simp -implicitDefEqProofs [g4, g11, z, zi, n2]
  · have zi : ¬ (j : Int) < (k : Int) := by omega
    have hle := fun R => ans_short (R := R) hk hc hd hp (j := j)
    unfold lb3_law
    unfold le TL at *
    generalize ansL ts ts.length = L1 at *
    generalize ansL (ts.set k t) (ts.set k t).length = L2 at *
    generalize TD ts = T1 at *
    generalize TD (ts.set k t) = T2 at *
    generalize ans (ts.take j) (tk ts j) = q at *
    cases q with
    | none =>
      unfold oD at g4
      simp -implicitDefEqProofs [g4, g11, z, zi]
    | some v =>
      obtain ⟨R', h1, h2⟩ := hle v rfl
      rw [h1] at g11
      have h3 : ¬ v < R' := by omega
      unfold oD at g4 g11
      simp -implicitDefEqProofs [g4, g11, z, zi, h3]
theorem loop4 {s0 : S} {st : M} {ts : List Tk} {k : Nat} (h : LOk ts) (hk : k < ts.length) {t : Tk} (hc : t.c = (tk ts k).c) (hd : (tk ts k).d ≤ t.d) (hp : t.p = (tk ts k).p) (h' : TsOk (ts.set k t)) {o5 o6 o7 o9 o10 o11 o12 o13 : Option S} :
    ∃ e', forL (bName 9) lb4_law (rngL 0 ts.length) (le s0 st ts k (TL ts) o5 o6 o7 (some (.d (TD (ts.set k t)))) o9 o10 o11 o12 o13) = some (.nx e') ∧ ∃ o9, e' = le s0 st ts k (TL ts) o5 o6 o7 (some (.d (TD (ts.set k t)))) o9 o10 o11 o12 o13 := by
  have h4 := h.n4
  refine for_rng (fun j e => ∃ o9, e = le s0 st ts k (TL ts) o5 o6 o7 (some (.d (TD (ts.set k t)))) o9 o10 o11 o12 o13) ⟨_, rfl⟩ ?_
  rintro j e hj ⟨o9, rfl⟩
  have e0 : (0 + (j : Int)) = (j : Int) := Int.zero_add _
  rw [e0]
  have g4 := ansL_get (ts := ts) (n := ts.length) (j := j) (by omega)
  have g11 := ansL_get (ts := ts.set k t) (n := (ts.set k t).length) (j := j) (by rw [List.length_set]; omega)
  have n1 : ∀ {o : Option Nat}, oNe (.d (oD o)) (.d (oD o)) = some (.d (.bl false)) := ne_self shOD
  have hA := f_answers h'
  have hlong := fun R => ans_longer (R := R) hk hc hd hp (j := j)
  -- the first ones
  have hA2 : 0 < j → fn_answers [.d (.tup ((ts.map Tk.D).take j))] = some (.d (.tup ((ansL ts ts.length).take j)), [.d (.tup ((ts.map Tk.D).take j))]) := fun hj0 => by
    have := f_answers (ts := ts.take j) ⟨fun t ht => h.ok t (List.mem_of_mem_take ht), by simp; omega, by simp; omega⟩
    rw [List.length_take, Nat.min_eq_left (by omega), ansL_take (by omega)] at this
    rw [← List.map_take]
    exact this
  have hc1 : QL.cutD (ts.map Tk.D) none (some (j : Int)) = (ts.map Tk.D).take j := cutD_to (by simp; omega)
  have hc2 : QL.cutD (ansL ts ts.length) none (some (j : Int)) = (ansL ts ts.length).take j := cutD_to (by rw [ansL_len]; omega)
  have hne : oNe (.d (.tup ((ansL ts ts.length).take j))) (.d (.tup ((ansL ts ts.length).take j))) = some (.d (.bl false)) := by
    rw [← ansL_take (by omega)]
    exact ne_self (by rw [shD_tup]; exact shAns)
  refine ⟨le s0 st ts k (TL ts) o5 o6 o7 (some (.d (TD (ts.set k t)))) (some (.d (I j))) o10 o11 o12 o13, _, rfl, ?_, some (.d (I j)), rfl⟩
  unfold lb4_law
  unfold le TL TD at *
  generalize fn_answers = F at *
  generalize (ansL ts ts.length).take j = L3 at *
  generalize (ts.map Tk.D).take j = L4 at *
  generalize ansL ts ts.length = L1 at *
  generalize ansL (ts.set k t) (ts.set k t).length = L2 at *
  generalize ts.map Tk.D = T1 at *
  generalize (ts.set k t).map Tk.D = T2 at *
  generalize hq : ans (ts.take j) (tk ts j) = q at *
  cases q with
  | none =>
    unfold oD at g4
    by_cases z : j = 0
    · have z1 : ¬ 0 < j := by omega
      simp -implicitDefEqProofs [g4, z1]
    · have z1 : 0 < j := by omega
      have a := hA2 z1
      simp -implicitDefEqProofs [g4, z1, a, hc1, hc2, hne]
  | some v =>
    have l := hlong v rfl
    rw [l] at g11
    have n2 := n1 (o := some v)
    unfold oD at g4 g11 n2
    by_cases z : j = 0
    · have z1 : ¬ 0 < j := by omega
      simp -implicitDefEqProofs [g4, g11, hA, n2, z1]
    · have z1 : 0 < j := by omega
      have a := hA2 z1
      simp -implicitDefEqProofs [g4, g11, hA, n2, z1, a, hc1, hc2, hne]
end K39
end

section
set_option Elab.async false
set_option linter.all false
set_option maxRecDepth 100000
set_option maxHeartbeats 1000000
namespace K39
open PySem PySem.Spec PyProof.Rows L2 QL
theorem cutA {ts : List Tk} {k : Nat} (hk : k < ts.length) : QL.cutD (ts.map Tk.D) none (some (k : Int)) = (ts.map Tk.D).take k := cutD_to (by simp; omega)
theorem cutB {ts : List Tk} {k : Nat} (hk : k < ts.length) : QL.cutD (ts.map Tk.D) (some ((k : Int) + 1)) none = (ts.map Tk.D).drop (k + 1) := cutD_from (k := k + 1) (by simp; omega)
theorem joinL {ts : List Tk} {k : Nat} : (ts.map Tk.D).take k ++ (ts.map Tk.D).drop (k + 1) = (less ts k).map Tk.D := by unfold less; rw [List.map_append, List.map_take, List.map_drop]
theorem joinS {ts : List Tk} {k : Nat} (hk : k < ts.length) {t : Tk} : (ts.map Tk.D).take k ++ t.D :: (ts.map Tk.D).drop (k + 1) = (ts.set k t).map Tk.D := by
  rw [← set_eq hk, List.map_append, List.map_append, List.map_take, List.map_drop, List.append_assoc]
  rfl
theorem joinN {ts : List Tk} {k : Nat} (h : ts.length ≤ 4) : ((ts.map Tk.D).take k).length ≤ 4 ∧ ((ts.map Tk.D).drop (k + 1)).length ≤ 4 := by
  simp
  omega
noncomputable def S1 : FS := (sIf (fTB (fBin oGt (fOp oLen (fCons (fVar 2) fNil)) (fC (.int 1))))
  (sSeq (sSet 10 (fBin oAdd (fSl (fVar 2) fNo (fPart (fVar 3))) (fSl (fVar 2) (fPart (fBin oAdd (fVar 3) (fC (.int 1)))) fNo)))
  (sSeq (sSet 11 (fCall fn_answers (fCons (fVar 10) fNil)))
  (sSeq (sFor (itRng (fCons (fOp oLen (fCons (fVar 10) fNil)) fNil)) (bName 9)
  lb2_law)
  (sSeq (sIf (fAndT (fTB (fBin oIsN (fCall fn_by_deadline (fCons (fVar 2) fNil)) (fC .non))) (fTB (fBin oNotN (fCall fn_by_deadline (fCons (fVar 10) fNil)) (fC .non))))
  (sRet (fC (.bl false)))
  sNext)
  (sIf (fAndT (fTB (fBin oNotN (fCall fn_good_order (fCons (fVar 2) fNil)) (fC .non))) (fTB (fBin oIsN (fCall fn_good_order (fCons (fVar 10) fNil)) (fC .non))))
  (sRet (fC (.bl false)))
  sNext)))))
  sNext)
noncomputable def S2 : FS := (sIf (fTB (fBin oGt (fVar 5) (fC (.int 1))))
  (sSeq (sSet 12 (fBin oAdd (fBin oAdd (fSl (fVar 2) fNo (fPart (fVar 3))) (fOp oTup (fCons (fOp oTup (fCons (fBin oSub (fVar 5) (fC (.int 1))) (fCons (fVar 6) (fCons (fVar 7) fNil)))) fNil))) (fSl (fVar 2) (fPart (fBin oAdd (fVar 3) (fC (.int 1)))) fNo)))
  (sSeq (sSet 11 (fCall fn_answers (fCons (fVar 12) fNil)))
  (sFor (itRng (fCons (fOp oLen (fCons (fVar 2) fNil)) fNil)) (bName 9)
  lb3_law)))
  sNext)
theorem less_ok {ts : List Tk} {k : Nat} (h : LOk ts) (hk : k < ts.length) (hn : 1 < ts.length) : TsOk (less ts k) := ⟨fun t ht => h.ok t (less_sub.subset ht), by rw [less_len hk]; omega, by rw [less_len hk]; have := h.n4; omega⟩
theorem f_S1 {s0 : S} {st : M} {ts : List Tk} {k : Nat} (h : LOk ts) (hk : k < ts.length) {o6 o7 : Option S} :
    ∃ o9 o10 o11 o13, S1 (le s0 st ts k (TL ts) none o6 o7 none none none none none none) = some (.nx (le s0 st ts k (TL ts) none o6 o7 none o9 o10 o11 none o13)) := by
  have h4 := h.n4
  have zl : (ts.map Tk.D).length = ts.length := List.length_map ..
  by_cases hn : 1 < ts.length
  · have hL := less_ok h hk hn
    obtain ⟨e', lp, o9, o13, rfl⟩ := loop2 (s0 := s0) (st := st) hk h4 (o5 := none) (o6 := o6) (o7 := o7) (o8 := none) (o9 := none) (o12 := none) (o13 := none)
    have hA := f_answers hL
    obtain ⟨x1, hB1, hx1⟩ := f_by_deadline h.t
    obtain ⟨x2, hB2, hx2⟩ := f_by_deadline hL
    obtain ⟨y1, hG1, hy1⟩ := f_good_order h.t
    obtain ⟨y2, hG2, hy2⟩ := f_good_order hL
    have hx : isNon (.d x1) = true → isNon (.d x2) = true := fun q => by
      rcases hx1 with ⟨q1, rfl⟩ | ⟨q1, n1, rfl⟩
      · rcases hx2 with ⟨q2, rfl⟩ | ⟨q2, n2, rfl⟩
        · rfl
        · exact absurd (okBD_sub h.ok less_sub q1) q2
      · cases q
    have hy : isNon (.d y1) = false → isNon (.d y2) = false := fun q => by
      rcases hy1 with ⟨q1, rfl⟩ | ⟨r, hr, hg, rfl⟩
      · cases q
      · rcases hy2 with ⟨q2, rfl⟩ | ⟨r2, hr2, hg2, rfl⟩
        · obtain ⟨r', hr', hg'⟩ := good_less hk hr hg
          rw [less_len hk] at q2
          exact absurd hg' (q2 r' hr')
        · rfl
    have c1 := cutA hk
    have c2 := cutB hk
    have j := joinL (ts := ts) (k := k)
    obtain ⟨n1, n2⟩ := joinN (k := k) h4
    have zj : ((ts.map Tk.D).take k).length + ((ts.map Tk.D).drop (k + 1)).length ≤ sizeLine := smallT (by omega)
    have hll : ((less ts k).map Tk.D).length = ts.length - 1 := by rw [List.length_map, less_len hk]
    have hnn : 1 < (ts.map Tk.D).length := by rw [zl]; exact hn
    have sI : smallI ((((less ts k).map Tk.D).length : Nat) : Int) = true := smallI_of (by omega) (by omega)
    rw [← hll] at lp
    refine ⟨o9, some (.d (TD (less ts k))), TL (less ts k), o13, ?_⟩
    unfold S1
    unfold le TL TD at *
    clear hx1 hx2 hy1 hy2 hll
    generalize ansL (less ts k) (less ts k).length = L1 at *
    generalize ansL ts ts.length = L2 at *
    generalize (ts.map Tk.D).take k = A at *
    generalize (ts.map Tk.D).drop (k + 1) = B at *
    generalize (less ts k).map Tk.D = T2 at *
    generalize ts.map Tk.D = T1 at *
    generalize fn_answers = F1 at *
    generalize fn_by_deadline = F2 at *
    generalize fn_good_order = F3 at *
    have hni : (1 : Int) < (T1.length : Int) := by omega
    clear zl
    generalize hb1 : isNon (.d x1) = b1 at *
    generalize hb3 : isNon (.d y1) = b3 at *
    cases b1 with
    | false =>
      cases b3 with
      | false =>
        have hy := hy rfl
        simp -implicitDefEqProofs [hnn, hni, c1, c2, zj, j, hA, lp, sI, hB1, hB2, hG1, hG2, hb1, hb3, hy]
      | true => simp -implicitDefEqProofs [hnn, hni, c1, c2, zj, j, hA, lp, sI, hB1, hB2, hG1, hG2, hb1, hb3]
    | true =>
      have hx := hx rfl
      cases b3 with
      | false =>
        have hy := hy rfl
        simp -implicitDefEqProofs [hnn, hni, c1, c2, zj, j, hA, lp, sI, hB1, hB2, hG1, hG2, hb1, hb3, hx, hy]
      | true => simp -implicitDefEqProofs [hnn, hni, c1, c2, zj, j, hA, lp, sI, hB1, hB2, hG1, hG2, hb1, hb3, hx]
  · refine ⟨none, none, none, none, ?_⟩
    have hnn : ¬ 1 < (ts.map Tk.D).length := by rw [zl]; exact hn
    unfold S1
    unfold le TL TD
    generalize ansL ts ts.length = L2
    generalize ts.map Tk.D = T1 at *
    have hni : ¬ (1 : Int) < (T1.length : Int) := by omega
    simp -implicitDefEqProofs [hnn, hni]
theorem short_ok {ts : List Tk} {k : Nat} {t : Tk} (h : LOk ts) (ht : t.Ok) : TsOk (ts.set k t) := ⟨fun s hs => by
  rcases List.mem_or_eq_of_mem_set hs with hs | rfl
  · exact h.ok s hs
  · exact ht, by rw [List.length_set]; exact h.n1, by rw [List.length_set]; have := h.n4; omega⟩
theorem f_S2 {s0 : S} {st : M} {ts : List Tk} {k : Nat} (h : LOk ts) (hk : k < ts.length) {o9 o10 o11 o13 : Option S} :
    ∃ o9' o11' o12', S2 (le s0 st ts k (TL ts) (some (.d (I (tk ts k).c))) (some (.d (I (tk ts k).d))) (some (.d (I (tk ts k).p))) none o9 o10 o11 none o13) = some (.nx (le s0 st ts k (TL ts) (some (.d (I (tk ts k).c))) (some (.d (I (tk ts k).d))) (some (.d (I (tk ts k).p))) none o9' o10 o11' o12' o13)) := by
  have h4 := h.n4
  have zl : (ts.map Tk.D).length = ts.length := List.length_map ..
  have ok := (tk_ok h.ok hk).1
  by_cases hc : 1 < (tk ts k).c
  · have hS := short_ok (k := k) (t := ⟨(tk ts k).c - 1, (tk ts k).d, (tk ts k).p⟩) h ⟨by show 1 ≤ (tk ts k).c - 1; omega, by show (tk ts k).c - 1 ≤ (tk ts k).d; have := ok.cd; omega, ok.dp, ok.p12, ok.p24⟩
    obtain ⟨e', lp, o9', rfl⟩ := loop3 (s0 := s0) (st := st) hk h4 (t := ⟨(tk ts k).c - 1, (tk ts k).d, (tk ts k).p⟩) (Nat.sub_le _ _) rfl rfl (o5 := some (.d (I (tk ts k).c))) (o6 := some (.d (I (tk ts k).d))) (o7 := some (.d (I (tk ts k).p))) (o8 := none) (o9 := o9) (o10 := o10) (o13 := o13)
    have hA := f_answers hS
    have c1 := cutA hk
    have c2 := cutB hk
    have j := joinS hk (t := ⟨(tk ts k).c - 1, (tk ts k).d, (tk ts k).p⟩)
    have eD : Tk.D ⟨(tk ts k).c - 1, (tk ts k).d, (tk ts k).p⟩ = .tup [.int (((tk ts k).c : Int) - 1), I (tk ts k).d, I (tk ts k).p] := by
      unfold Tk.D
      simp only
      rw [show (((tk ts k).c - 1 : Nat) : Int) = ((tk ts k).c : Int) - 1 by omega]
    rw [eD] at j
    obtain ⟨n1, n2⟩ := joinN (k := k) h4
    have zj : ((ts.map Tk.D).take k).length + 1 + ((ts.map Tk.D).drop (k + 1)).length ≤ sizeLine := smallT (by omega)
    have zj2 : ((ts.map Tk.D).take k).length + 1 ≤ sizeLine := smallT (by omega)
    have z1 : 1 ≤ sizeLine := smallT (by decide)
    have z3 : 3 ≤ sizeLine := smallT (by decide)
    have sI : smallI (((ts.map Tk.D).length : Nat) : Int) = true := smallI_of (by omega) (by omega)
    rw [← zl] at lp
    refine ⟨o9', TL (ts.set k ⟨(tk ts k).c - 1, (tk ts k).d, (tk ts k).p⟩), some (.d (TD (ts.set k ⟨(tk ts k).c - 1, (tk ts k).d, (tk ts k).p⟩))), ?_⟩
    unfold S2
    unfold le TL TD at *
    generalize ansL (ts.set k ⟨(tk ts k).c - 1, (tk ts k).d, (tk ts k).p⟩) (ts.set k ⟨(tk ts k).c - 1, (tk ts k).d, (tk ts k).p⟩).length = L1 at *
    rw [zl] at lp
    generalize ansL ts ts.length = L2 at *
    rw [← zl] at lp
    generalize (ts.map Tk.D).take k = A at *
    generalize (ts.map Tk.D).drop (k + 1) = B at *
    generalize (ts.set k ⟨(tk ts k).c - 1, (tk ts k).d, (tk ts k).p⟩).map Tk.D = T2 at *
    generalize (tk ts k).c = c at *
    generalize (tk ts k).d = d at *
    generalize (tk ts k).p = p at *
    generalize ts.map Tk.D = T1 at *
    generalize fn_answers = F1 at *
    have hci : (1 : Int) < (c : Int) := by omega
    simp -implicitDefEqProofs [hc, hci, c1, c2, zj, zj2, z1, z3, j, hA, lp, sI]
  · refine ⟨o9, o11, none, ?_⟩
    unfold S2
    unfold le TL TD
    generalize ansL ts ts.length = L2
    generalize ts.map Tk.D = T1 at *
    generalize (tk ts k).c = c at *
    have hci : ¬ (1 : Int) < (c : Int) := by omega
    simp -implicitDefEqProofs [hc, hci]
end K39
end

section
set_option Elab.async false
set_option linter.all false
set_option maxRecDepth 100000
set_option maxHeartbeats 1000000
namespace K39
open PySem PySem.Spec PyProof.Rows L2 QL
theorem law_true : ∀ ns : List Int, ns.length ≤ 63 → ∃ fin, fn_law [.lk (.lst (ns.map D.int))] = some (.d (.bl true), fin) := by
  intro ns _
  have eB : b_law = (sSeq (sSet 1 (fCall fn__law_begin (fCons (fVar 0) fNil)))   (sSeq (sSet 2 (fOp oLst fNil))   (sSeq (sFor (itRng (fCons (fBin oAdd (fC (.int 1)) (fCall fn__law_take (fCons (fVar 1) (fCons (fC (.int 4)) fNil)))) fNil)) (bName 3)   lb1_law)   (sSeq (sSet 2 (fOp oTuple (fCons (fVar 2) fNil)))   (sSeq (sSet 4 (fCall fn_answers (fCons (fVar 2) fNil)))   (sSeq (sSet 3 (fCall fn__law_take (fCons (fVar 1) (fCons (fOp oLen (fCons (fVar 2) fNil)) fNil))))   (sSeq S1   (sSeq (sPat (bTup 3 (bCons (bName 5) (bCons (bName 6) (bCons (bName 7) bNil)))) (fBin oIx (fVar 2) (fVar 3)))   (sSeq S2   (sSeq (sSet 8 (fBin oAdd (fBin oAdd (fSl (fVar 2) fNo (fPart (fVar 3))) (fOp oTup (fCons (fOp oTup (fCons (fVar 5) (fCons (fVar 7) (fCons (fVar 7) fNil)))) fNil))) (fSl (fVar 2) (fPart (fBin oAdd (fVar 3) (fC (.int 1)))) fNo)))   (sSeq (sIf (fAndT (fTB (fBin oIsN (fCall fn_by_deadline (fCons (fVar 2) fNil)) (fC .non))) (fTB (fBin oNotN (fCall fn_by_deadline (fCons (fVar 8) fNil)) (fC .non))))   (sRet (fC (.bl false)))   sNext)   (sSeq (sFor (itRng (fCons (fOp oLen (fCons (fVar 2) fNil)) fNil)) (bName 9)   lb4_law)   (sRet (fCall fn__law_part1 (fCons (fVar 2) (fCons (fVar 6) fNil)))))))))))))))) := rfl
  simp only [fn_law, mkFn, A_law]
  rw [eB]
  obtain ⟨z, hB, g0⟩ := f_begin (ns := ns)
  generalize hs0 : S.lk (.lst (ns.map D.int)) = s0 at *
  generalize M.st ns 0 0 z = st0 at *
  obtain ⟨r1, st1, T1, l1, u1, g1⟩ := f_take (many := 4) g0 (by omega) (by omega)
  -- the drawing
  have draw : ∃ e', forL (bName 3) lb1_law (rngL 0 (1 + r1).toNat) [some s0, some (.m st1), some (.m (.lst [])), none, none, none, none, none, none, none, none, none, none, none] = some (.nx e') ∧
      ∃ st ts o3 o6 o7, GS st ∧ Dr ts (1 + r1).toNat ∧ e' = [some s0, some (.m st), some (.m (.lst (ts.map Tk.D))), o3, none, none, o6, o7, none, none, none, none, none, none] := by
    refine for_rng (fun i e => ∃ st ts o3 o6 o7, GS st ∧ Dr ts i ∧ e = [some s0, some (.m st), some (.m (.lst (ts.map Tk.D))), o3, none, none, o6, o7, none, none, none, none, none, none]) ⟨st1, [], none, none, none, g1, ⟨nofun, nofun, rfl⟩, rfl⟩ ?_
    rintro i e hi ⟨st, ts, o3, o6, o7, g, hD, rfl⟩
    obtain ⟨st', t, o6', o7', g', ok, hp, h1⟩ := draw1 (s0 := s0) (o6 := o6) (o7 := o7) g hD (by omega) (k := i)
    have e0 : (0 + (i : Int)) = (i : Int) := Int.zero_add _
    rw [e0]
    exact ⟨[some s0, some (.m st), some (.m (.lst (ts.map Tk.D))), some (.d (I i)), none, none, o6, o7, none, none, none, none, none, none], _, rfl, h1, st', _, some (.d (I i)), _, _, g', hD.snoc ok hp, rfl⟩
  obtain ⟨e', hdr, st2, ts, o3, o6, o7, g2, hD, rfl⟩ := draw
  have h : LOk ts := ⟨hD.ok, by rw [hD.len]; omega, by rw [hD.len]; omega, hD.p12⟩
  have n1 := h.n1
  have n4 := h.n4
  have hA := f_answers h.t
  have zl : (ts.map Tk.D).length = ts.length := List.length_map ..
  obtain ⟨r2, st3, T2, l2, u2, g3⟩ := f_take (many := ((ts.map Tk.D).length : Int)) g2 (by omega) (by omega)
  obtain ⟨k, rfl⟩ : ∃ k : Nat, r2 = (k : Int) := ⟨r2.toNat, by omega⟩
  have hk : k < ts.length := by omega
  obtain ⟨o9, o10, o11, o13, hS1⟩ := f_S1 (s0 := s0) (st := st3) h hk (o6 := o6) (o7 := o7)
  obtain ⟨o9', o11', o12', hS2⟩ := f_S2 (s0 := s0) (st := st3) h hk (o9 := o9) (o10 := o10) (o11 := o11) (o13 := o13)
  -- the longer deadline
  have ok := (tk_ok h.ok hk).1
  have hLo := short_ok (k := k) (t := ⟨(tk ts k).c, (tk ts k).p, (tk ts k).p⟩) h ⟨ok.c1, by show (tk ts k).c ≤ (tk ts k).p; have := ok.cd; have := ok.dp; omega, Nat.le_refl _, ok.p12, ok.p24⟩
  obtain ⟨e', hl4, o9'', rfl⟩ := loop4 (s0 := s0) (st := st3) h hk (t := ⟨(tk ts k).c, (tk ts k).p, (tk ts k).p⟩) rfl ok.dp rfl hLo (o5 := some (.d (I (tk ts k).c))) (o6 := some (.d (I (tk ts k).d))) (o7 := some (.d (I (tk ts k).p))) (o9 := o9') (o10 := o10) (o11 := o11') (o12 := o12') (o13 := o13)
  obtain ⟨x1, hB1, hx1⟩ := f_by_deadline h.t
  obtain ⟨x2, hB2, hx2⟩ := f_by_deadline hLo
  have hx : isNon (.d x1) = true → isNon (.d x2) = true := fun q => by
    rcases hx1 with ⟨q1, rfl⟩ | ⟨q1, n1, rfl⟩
    · rcases hx2 with ⟨q2, rfl⟩ | ⟨q2, n2, rfl⟩
      · rfl
      · exact absurd (okBD_set (t := ⟨(tk ts k).c, (tk ts k).p, (tk ts k).p⟩) h.ok q1 hk rfl rfl rfl hLo.ok) q2
    · cases q
  have hP := f_part1 h (x := I (tk ts k).d)
  have c1 := cutA hk
  have c2 := cutB hk
  have j := joinS hk (t := ⟨(tk ts k).c, (tk ts k).p, (tk ts k).p⟩)
  have eD : Tk.D ⟨(tk ts k).c, (tk ts k).p, (tk ts k).p⟩ = .tup [I (tk ts k).c, I (tk ts k).p, I (tk ts k).p] := rfl
  rw [eD] at j
  obtain ⟨n1, n2⟩ := joinN (k := k) n4
  have zj : ((ts.map Tk.D).take k).length + 1 + ((ts.map Tk.D).drop (k + 1)).length ≤ sizeLine := smallT (by omega)
  have zj2 : ((ts.map Tk.D).take k).length + 1 ≤ sizeLine := smallT (by omega)
  have z0 : 0 ≤ sizeLine := Nat.zero_le _
  have z1 : 1 ≤ sizeLine := smallT (by decide)
  have z3 : 3 ≤ sizeLine := smallT (by decide)
  have zT : (ts.map Tk.D).length ≤ sizeLine := smallT (by omega)
  have sI : smallI (((ts.map Tk.D).length : Nat) : Int) = true := smallI_of (by omega) (by omega)
  have sR : smallI (1 + r1) = true := smallI_of (by omega) (by omega)
  have hix := ix_tk hk
  have eK : (tk ts k).D = .tup [I (tk ts k).c, I (tk ts k).d, I (tk ts k).p] := rfl
  rw [eK] at hix
  unfold le TL TD at *
  generalize ansL ts ts.length = L1 at *
  rw [← zl] at hl4
  generalize (ts.map Tk.D).take k = A at *
  generalize (ts.map Tk.D).drop (k + 1) = B at *
  generalize (ts.set k ⟨(tk ts k).c, (tk ts k).p, (tk ts k).p⟩).map Tk.D = T3 at *
  generalize S1 = SS1 at *
  generalize S2 = SS2 at *
  generalize (tk ts k).c = c at *
  generalize (tk ts k).d = d at *
  generalize (tk ts k).p = p at *
  generalize ts.map Tk.D = T0 at *
  generalize fn_answers = F1 at *
  generalize fn_by_deadline = F2 at *
  generalize fn__law_begin = F3 at *
  generalize fn__law_take = F4 at *
  generalize fn__law_part1 = F5 at *
  clear hx1 hx2
  refine ⟨[s0], ?_⟩
  generalize hb1 : isNon (.d x1) = b1 at *
  cases b1 with
  | false =>
    subst hs0
    simp -implicitDefEqProofs [hB, T1, hdr, hA, T2, hS1, hS2, hl4, hB1, hB2, hP, c1, c2, j, zj, zj2, z0, z1, z3, zT, sI, sR, hix, hb1]
  | true =>
    have hx := hx rfl
    subst hs0
    simp -implicitDefEqProofs [hB, T1, hdr, hA, T2, hS1, hS2, hl4, hB1, hB2, hP, c1, c2, j, zj, zj2, z0, z1, z3, zT, sI, sR, hix, hb1, hx]
end K39
end

section
set_option maxRecDepth 100000
open PySem PySem.W PySem.Calls PyProof.Rows
theorem PySem.Challenge.cw_machinehall_k39_whole_deadlines_moved_holds : PySem.Challenge.rw_machinehall_k39_whole_deadlines_moved.Holds := by
  w_on; o_law
  refine HandSHeadRun.head_any (r := OpenLaw.row PySem.Challenge.rw_machinehall_k39_whole_deadlines_moved) (q := view (OpenLaw.row PySem.Challenge.rw_machinehall_k39_whole_deadlines_moved).prog [25]) (H := K39.hk) (ob := K39.ob) (M := 4000) (loose := K39.loose) (d := HandSHeadRun.topDef (OpenLaw.row PySem.Challenge.rw_machinehall_k39_whole_deadlines_moved).prog 25) (kwd := []) K39.ob_eq
    (by kernel_rfl) (fun s => by kernel_rfl) K39.run (by kernel_rfl) (by kernel_rfl) (by kernel_rfl) (by rfl) (by first | assumption | decide +kernel) (by decide +kernel) ⟨rfl, rfl, rfl, rfl, rfl, by decide +kernel⟩ ?hw ?hc
  case hw => w_witness2
  case hc =>
    refine L2.walk_ofE (l := PySem.Challenge.rw_machinehall_k39_whole_deadlines_moved) (n := 63) (k := 5) (x := "script") (CX := L2.CX0) rfl (by decide) (by kernel_rfl) ⟨rfl, by decide, by decide⟩ ?F (fun _ _ _ _ z => z)
    intro w mg fa h Y G hmg0
    obtain ⟨K, KX, c⟩ := Y
    have hmg : mg ("law" : PySem.Str) = some (.ref fa) := by
      have e : (HandSHeadRun.topDef (OpenLaw.row PySem.Challenge.rw_machinehall_k39_whole_deadlines_moved).prog 25).name = ("law" : PySem.Str) := by kernel_rfl
      rw [← e]
      exact hmg0
    obtain ⟨fd, hb, hF⟩ := K39.facts (P := (PySem.Challenge.rw_machinehall_k39_whole_deadlines_moved).prog) (w := w) KX G hmg c
    exact ⟨K, fd, QL.spF K 1 K39.fn_law, KX, hb, fun H a ns hl hO hS => QL.law_sp K39.law_true H a ns hl hO hS, hF⟩
end
