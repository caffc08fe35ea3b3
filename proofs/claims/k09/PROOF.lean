import PyProof.Rows.All
import Wide.All
import OpenK.AllK
import Wide.FinOn
import PySem.Challenge.RW_planestacks_k09_bare_rows
import HandS.ForSpec
import HandS.More
import HandS.Comp
import HandS.IsInst
import HandS.ExcIs
import HandS.HotCalls
import HandS.Wide
import HandS.EndBits
import HandS.WideBits
import HandS.Iter
import HandS.Deep
import HandS.TupAny
import HandS.ExcCtx
import HandS.Style
import HandS.Small
import HandS.ExcValue
import HandS.TryOnly
set_option Elab.async false
set_option linter.all false
set_option maxRecDepth 100000
set_option maxHeartbeats 4000000
/-! PD1: plain data over the hand layer: what a value stands for, what the names of a def hold, who owns a list. -/
namespace PD
open PySem PySem.Spec PyProof.Rows L2

abbrev D := PyData
abbrev Fg := PySem.W.Frag

/-- a list that is read: tracked and not among those at A, or laid (locked, written) -/
def LA (K : Fg) (A : Addr → Prop) (H : Hp) (a : Addr) (xs : List V) : Prop :=
  (¬ A a ∧ Rd H a (.lst xs)) ∨ (SqL K (fun _ => none) a xs)

/-- an exception that is held, told as data by its class's name -/
abbrev exD (n : Str) : D := .dict [(.str n, .none)]
/-- an exception of the class at D, at a -/
def Exo (D a : Addr) : HO := .ext fun h => ∃ (oe : Obj) (vs : Array Value), h.get? a = some oe ∧ L2N.Zn (.ref D) none oe ∧ oe.data = .fields vs
/-- a dict of whole numbers by rows of whole numbers -/
abbrev Dl := List (List Int × Int)
def dV (l : Dl) : List (List Key × V) := l.map fun p => (p.1.map Sum.inl, V.int p.2)
abbrev dD (l : Dl) : D := .dict (l.map fun p => (.tuple (p.1.map PyData.int), .int p.2))
mutual
/-- v stands for the data d in H; its lists are not at A -/
inductive Rp (K : Fg) (A : Addr → Prop) (H : Hp) : V → D → Prop
  | non : Rp K A H .non .none
  | bl (b : Bool) : Rp K A H (.bl b) (.bool b)
  | int (i : Int) : Rp K A H (.int i) (.int i)
  | str (x : Str) : Rp K A H (.str x) (.str x)
  | lst {a : Addr} {xs : List V} {ds : List D} : LA K A H a xs → RpAll K A H xs ds → Rp K A H (.ref a) (.list ds)
  | tup {a : Addr} {xs : List V} {ds : List D} : SqT K H a xs → RpAll K A H xs ds → Rp K A H (.ref a) (.tuple ds)
  | exc {a D : Addr} {n : Str} : PySem.W.nsIn K mainGlobals n = some (some (.ref D)) → H a = some (Exo D a) → Rp K A H (.ref a) (exD n)
  | dct {a : Addr} {l : Dl} : ¬ A a → Rd H a (.dT (dV l)) → Rp K A H (.ref a) (dD l)
inductive RpAll (K : Fg) (A : Addr → Prop) (H : Hp) : List V → List D → Prop
  | nil : RpAll K A H [] []
  | cons {v : V} {vs : List V} {d : D} {ds : List D} : Rp K A H v d → RpAll K A H vs ds → RpAll K A H (v :: vs) (d :: ds)
end

section
variable {K : Fg} {A A' : Addr → Prop} {H H' : Hp}

theorem LA.sq {a : Addr} {xs : List V} (h : LA K A H a xs) : SqL K H a xs := by
  rcases h with ⟨_, h⟩ | h
  · exact .inl h
  · rcases h with (h | ⟨o, h⟩) | h
    · cases h
    · cases h
    · exact .inr h

mutual
theorem Rp.dp : ∀ {v : V} {d : D}, Rp K A H v d → d.canLay0 = true → Dp K H v d
  | _, _, .non, _ => .non
  | _, _, .bl b, _ => .bl b
  | _, _, .int i, _ => .int i
  | _, _, .str x, _ => .str x
  | _, _, .lst h r, e => .lst h.sq (RpAll.dp r (by simpa [PyData.canLay0] using e))
  | _, _, .tup h r, e => .tup h (RpAll.dp r (by simpa [PyData.canLay0] using e))
  | _, _, .exc _ _, e => by simp [PyData.canLay0] at e
  | _, _, .dct _ _, e => by simp [PyData.canLay0] at e
theorem RpAll.dp : ∀ {vs : List V} {ds : List D}, RpAll K A H vs ds → PyData.canLayAll0 ds = true → DpAll K H vs ds
  | _, _, .nil, _ => .nil
  | _, _, .cons h r, e => by
    simp only [PyData.canLayAll0, Bool.and_eq_true] at e
    exact .cons (Rp.dp h e.1) (RpAll.dp r e.2)
end

/-- carried to another heap -/
structure Ca (K : Fg) (A A' : Addr → Prop) (H H' : Hp) : Prop where
  l : ∀ a xs, ¬ A a → Rd H a (.lst xs) → ¬ A' a ∧ Rd H' a (.lst xs)
  t : ∀ a xs, SqT K H a xs → SqT K H' a xs
  x : ∀ a φ, H a = some (.ext φ) → H' a = some (.ext φ)
  d : ∀ a kvs, ¬ A a → Rd H a (.dT kvs) → ¬ A' a ∧ Rd H' a (.dT kvs)
  tt : ∀ a xs, H a = some (.tup xs) → H' a = some (.tup xs)
theorem LA.ca {a : Addr} {xs : List V} (c : Ca K A A' H H') (h : LA K A H a xs) : LA K A' H' a xs := by
  rcases h with ⟨n, h⟩ | h
  · exact .inl (c.l _ _ n h)
  · exact .inr h
mutual
theorem Rp.ca (c : Ca K A A' H H') : ∀ {v : V} {d : D}, Rp K A H v d → Rp K A' H' v d
  | _, _, .non => .non
  | _, _, .bl b => .bl b
  | _, _, .int i => .int i
  | _, _, .str x => .str x
  | _, _, .lst h r => .lst (h.ca c) (RpAll.ca c r)
  | _, _, .tup h r => .tup (c.t _ _ h) (RpAll.ca c r)
  | _, _, .exc h e => .exc h (c.x _ _ e)
  | _, _, .dct n h => .dct (c.d _ _ n h).1 (c.d _ _ n h).2
theorem RpAll.ca (c : Ca K A A' H H') : ∀ {vs : List V} {ds : List D}, RpAll K A H vs ds → RpAll K A' H' vs ds
  | _, _, .nil => .nil
  | _, _, .cons h r => .cons (Rp.ca c h) (RpAll.ca c r)
end
theorem sqt_same {a : Addr} {xs : List V} (s : Same H H') (h : SqT K H a xs) : SqT K H' a xs := by
  rcases h with (h | ⟨o, h⟩) | h
  · exact .inl (.inl (s _ _ h))
  · exact .inl (.inr ⟨o, s _ _ h⟩)
  · exact .inr h
theorem rd_same {a : Addr} {u : HO} (s : Same H H') (h : Rd H a u) : Rd H' a u := by
  rcases h with h | ⟨o, h⟩
  · exact .inl (s _ _ h)
  · exact .inr ⟨o, s _ _ h⟩
/-- the heap grows, fewer are owned -/
theorem Ca.same (s : Same H H') (h : ∀ a, A' a → A a) : Ca K A A' H H' :=
  ⟨fun a xs n r => ⟨fun z => n (h a z), rd_same s r⟩, fun a xs r => sqt_same s r, fun a φ e => s _ _ e, fun a kvs n r => ⟨fun z => n (h a z), rd_same s r⟩, fun a xs e => s _ _ e⟩
theorem Ca.grow (s : Same H H') : Ca K A A H H' := Ca.same s fun _ h => h
theorem Ca.less (h : ∀ a, A' a → A a) : Ca K A A' H H := Ca.same (Same.refl H) h
/-- more are owned, all of them new -/
theorem rd_some {a : Addr} {u : HO} (h : Rd H a u) : H a ≠ none := fun q => by
  rcases h with h | ⟨o, h⟩
  · rw [q] at h; cases h
  · rw [q] at h; cases h
theorem Ca.more (s : Same H H') (h : ∀ a, A' a → A a ∨ H a = none) : Ca K A A' H H' :=
  ⟨fun a xs n r => ⟨fun z => (h a z).elim n (rd_some r), rd_same s r⟩, fun a xs r => sqt_same s r, fun a φ e => s _ _ e, fun a kvs n r => ⟨fun z => (h a z).elim n (rd_some r), rd_same s r⟩, fun a xs e => s _ _ e⟩
/-- an owned list is changed -/
theorem Ca.upd {a : Addr} {xs ys : List V} (ha : A a) (e : H a = some (.lst xs)) : Ca K A A H (upd H a (.lst ys)) :=
  ⟨fun b zs n r => ⟨n, by
    have hb : b ≠ a := fun z => n (z ▸ ha)
    rcases r with r | ⟨o, r⟩
    · exact .inl (by rw [upd_ne hb]; exact r)
    · exact .inr ⟨o, by rw [upd_ne hb]; exact r⟩⟩,
   fun b zs r => by
    rcases r with (r | ⟨o, r⟩) | r
    · have hb : b ≠ a := fun z => by rw [z, e] at r; cases r
      exact .inl (.inl (by rw [upd_ne hb]; exact r))
    · have hb : b ≠ a := fun z => by rw [z, e] at r; cases r
      exact .inl (.inr ⟨o, by rw [upd_ne hb]; exact r⟩)
    · exact .inr r,
   fun b φ r => by
    have hb : b ≠ a := fun z => by rw [z, e] at r; cases r
    rw [upd_ne hb]
    exact r,
   fun b zs n r => ⟨n, by
    have hb : b ≠ a := fun z => n (z ▸ ha)
    rcases r with r | ⟨o, r⟩
    · exact .inl (by rw [upd_ne hb]; exact r)
    · exact .inr ⟨o, by rw [upd_ne hb]; exact r⟩⟩,
   fun b xs r => by
    rw [upd_ne (fun z => by rw [z, e] at r; cases r)]
    exact r⟩
/-- an owned dict is changed -/
theorem Ca.updD {a : Addr} {xs ys : List (List Key × V)} (ha : A a) (e : H a = some (.dT xs)) : Ca K A A H (L2.upd H a (.dT ys)) :=
  ⟨fun b zs n r => ⟨n, by
    have hb : b ≠ a := fun z => n (z ▸ ha)
    rcases r with r | ⟨o, r⟩
    · exact .inl (by rw [upd_ne hb]; exact r)
    · exact .inr ⟨o, by rw [upd_ne hb]; exact r⟩⟩,
   fun b zs r => by
    rcases r with (r | ⟨o, r⟩) | r
    · have hb : b ≠ a := fun z => by rw [z, e] at r; cases r
      exact .inl (.inl (by rw [upd_ne hb]; exact r))
    · have hb : b ≠ a := fun z => by rw [z, e] at r; cases r
      exact .inl (.inr ⟨o, by rw [upd_ne hb]; exact r⟩)
    · exact .inr r,
   fun b φ r => by
    have hb : b ≠ a := fun z => by rw [z, e] at r; cases r
    rw [upd_ne hb]
    exact r,
   fun b zs n r => ⟨n, by
    have hb : b ≠ a := fun z => n (z ▸ ha)
    rcases r with r | ⟨o, r⟩
    · exact .inl (by rw [upd_ne hb]; exact r)
    · exact .inr ⟨o, by rw [upd_ne hb]; exact r⟩⟩,
   fun b xs r => by
    rw [upd_ne (fun z => by rw [z, e] at r; cases r)]
    exact r⟩
/-- a dict is locked, or unlocked -/
theorem Ca.lock {a : Addr} {kvs : List (List Key × V)} {od : Obj} (e : H a = some (.dT kvs)) : Ca K A A H (L2.upd H a (.frz od (.dT kvs))) :=
  ⟨fun b zs n r => ⟨n, by
    rcases r with r | ⟨o, r⟩
    · exact .inl (by rw [upd_ne (fun z => by rw [z, e] at r; cases r)]; exact r)
    · exact .inr ⟨o, by rw [upd_ne (fun z => by rw [z, e] at r; cases r)]; exact r⟩⟩,
   fun b zs r => by
    rcases r with (r | ⟨o, r⟩) | r
    · exact .inl (.inl (by rw [upd_ne (fun z => by rw [z, e] at r; cases r)]; exact r))
    · exact .inl (.inr ⟨o, by rw [upd_ne (fun z => by rw [z, e] at r; cases r)]; exact r⟩)
    · exact .inr r,
   fun b φ r => by
    rw [upd_ne (fun z => by rw [z, e] at r; cases r)]
    exact r,
   fun b zs n r => ⟨n, by
    by_cases hb : b = a
    · subst hb
      rcases r with r | ⟨o, r⟩
      · rw [e] at r; cases r
        exact .inr ⟨od, upd_same⟩
      · rw [e] at r; cases r
    · rcases r with r | ⟨o, r⟩
      · exact .inl (by rw [upd_ne hb]; exact r)
      · exact .inr ⟨o, by rw [upd_ne hb]; exact r⟩⟩,
   fun b xs r => by
    rw [upd_ne (fun z => by rw [z, e] at r; cases r)]
    exact r⟩
theorem Ca.unlock {a : Addr} {kvs : List (List Key × V)} {od : Obj} (e : H a = some (.frz od (.dT kvs))) : Ca K A A H (L2.upd H a (.dT kvs)) :=
  ⟨fun b zs n r => ⟨n, by
    rcases r with r | ⟨o, r⟩
    · exact .inl (by rw [upd_ne (fun z => by rw [z, e] at r; cases r)]; exact r)
    · exact .inr ⟨o, by rw [upd_ne (fun z => by rw [z, e] at r; cases r)]; exact r⟩⟩,
   fun b zs r => by
    rcases r with (r | ⟨o, r⟩) | r
    · exact .inl (.inl (by rw [upd_ne (fun z => by rw [z, e] at r; cases r)]; exact r))
    · exact .inl (.inr ⟨o, by rw [upd_ne (fun z => by rw [z, e] at r; cases r)]; exact r⟩)
    · exact .inr r,
   fun b φ r => by
    rw [upd_ne (fun z => by rw [z, e] at r; cases r)]
    exact r,
   fun b zs n r => ⟨n, by
    by_cases hb : b = a
    · subst hb
      rcases r with r | ⟨o, r⟩
      · rw [e] at r; cases r
      · rw [e] at r; cases r
        exact .inl upd_same
    · rcases r with r | ⟨o, r⟩
      · exact .inl (by rw [upd_ne hb]; exact r)
      · exact .inr ⟨o, by rw [upd_ne hb]; exact r⟩⟩,
   fun b xs r => by
    rw [upd_ne (fun z => by rw [z, e] at r; cases r)]
    exact r⟩
theorem same_upd {p : Addr} {o : HO} (h : H p = none) : Same H (upd H p o) := fun b x e => by
  rw [upd_ne (ne_of_none e h)]
  exact e

/-! ### data without lists -/
mutual
def lf : D → Bool
  | .list _ => false
  | .tuple ds => lfAll ds
  | .dict _ => false
  | _ => true
def lfAll : List D → Bool
  | [] => true
  | d :: ds => lf d && lfAll ds
end
mutual
theorem Rp.free (s : ∀ a xs, SqT K H a xs → SqT K H' a xs) : ∀ {v : V} {d : D}, Rp K A H v d → lf d = true → Rp K A' H' v d
  | _, _, .non, _ => .non
  | _, _, .bl b, _ => .bl b
  | _, _, .int i, _ => .int i
  | _, _, .str x, _ => .str x
  | _, _, .lst h r, e => by simp [lf] at e
  | _, _, .tup h r, e => .tup (s _ _ h) (RpAll.free s r (by simpa [lf] using e))
  | _, _, .exc _ _, e => by simp [lf] at e
  | _, _, .dct _ _, e => by simp [lf] at e
theorem RpAll.free (s : ∀ a xs, SqT K H a xs → SqT K H' a xs) : ∀ {vs : List V} {ds : List D}, RpAll K A H vs ds → lfAll ds = true → RpAll K A' H' vs ds
  | _, _, .nil, _ => .nil
  | _, _, .cons h r, e => by
    simp only [lfAll, Bool.and_eq_true] at e
    exact .cons (Rp.free s h e.1) (RpAll.free s r e.2)
end
theorem RpAll.length : ∀ {vs : List V} {ds : List D}, RpAll K A H vs ds → vs.length = ds.length
  | _, _, .nil => rfl
  | _, _, .cons _ r => by simp [RpAll.length r]
theorem RpAll.get : ∀ {vs : List V} {ds : List D} {i : Nat} {d : D}, RpAll K A H vs ds → ds[i]? = some d → ∃ v, vs[i]? = some v ∧ Rp K A H v d
  | _, _, _, _, .nil, e => by simp at e
  | _, _, 0, _, .cons r _, e => by simp at e; subst e; exact ⟨_, rfl, r⟩
  | _, _, i + 1, d, .cons _ t, e => by
    obtain ⟨u, h1, h2⟩ := RpAll.get (i := i) (d := d) t (by simpa using e)
    exact ⟨u, by simpa using h1, h2⟩
theorem RpAll.get' : ∀ {vs : List V} {ds : List D} {i : Nat} {v : V}, RpAll K A H vs ds → vs[i]? = some v → ∃ d, ds[i]? = some d ∧ Rp K A H v d
  | _, _, _, _, .nil, e => by simp at e
  | _, _, 0, _, .cons r _, e => by simp at e; subst e; exact ⟨_, rfl, r⟩
  | _, _, i + 1, d, .cons _ t, e => by
    obtain ⟨u, h1, h2⟩ := RpAll.get' (i := i) (v := d) t (by simpa using e)
    exact ⟨u, by simpa using h1, h2⟩
theorem RpAll.append : ∀ {vs ws : List V} {ds es : List D}, RpAll K A H vs ds → RpAll K A H ws es → RpAll K A H (vs ++ ws) (ds ++ es)
  | _, _, _, _, .nil, s => s
  | _, _, _, _, .cons r t, s => .cons r (RpAll.append t s)
theorem RpAll.take : ∀ {vs : List V} {ds : List D} (n : Nat), RpAll K A H vs ds → RpAll K A H (vs.take n) (ds.take n)
  | _, _, 0, _ => .nil
  | _, _, _ + 1, .nil => .nil
  | _, _, n + 1, .cons r t => .cons r (RpAll.take n t)
theorem RpAll.drop : ∀ {vs : List V} {ds : List D} (n : Nat), RpAll K A H vs ds → RpAll K A H (vs.drop n) (ds.drop n)
  | _, _, 0, r => r
  | _, _, _ + 1, .nil => .nil
  | _, _, n + 1, .cons _ t => RpAll.drop n t
theorem RpAll.set {v : V} {d : D} (r : Rp K A H v d) : ∀ {vs : List V} {ds : List D} (i : Nat), RpAll K A H vs ds → RpAll K A H (vs.set i v) (ds.set i d)
  | _, _, _, .nil => .nil
  | _, _, 0, .cons _ t => .cons r t
  | _, _, i + 1, .cons q t => .cons q (RpAll.set r i t)
theorem RpAll.dropLast {vs : List V} {ds : List D} (h : RpAll K A H vs ds) : RpAll K A H vs.dropLast ds.dropLast := by
  rw [List.dropLast_eq_take, List.dropLast_eq_take, h.length]
  exact h.take _
theorem RpAll.rep {v : V} {d : D} (r : Rp K A H v d) : ∀ n, RpAll K A H (List.replicate n v) (List.replicate n d)
  | 0 => .nil
  | n + 1 => .cons r (RpAll.rep r n)
theorem RpAll.flat {vs : List V} {ds : List D} (r : RpAll K A H vs ds) : ∀ n, RpAll K A H (List.replicate n vs).flatten (List.replicate n ds).flatten
  | 0 => .nil
  | n + 1 => by
    rw [List.replicate_succ, List.replicate_succ, List.flatten_cons, List.flatten_cons]
    exact r.append (RpAll.flat r n)
theorem RpAll.ints : ∀ ns : List Int, RpAll K A H (ns.map V.int) (ns.map PyData.int)
  | [] => .nil
  | n :: ns => .cons (.int n) (RpAll.ints ns)
end

/-! ### values of expressions, names -/
inductive Val where
  | cl (d : D)
  | nw (ds : List D)
  | br (i : Nat) (ds : List D)
  | nd (l : Dl)
  | bd (i : Nat) (l : Dl)
/-- keys at hand: a tuple of whole numbers that may be put in a dict, a list of such -/
inductive Sk where
  | tk (k : List Int)
  | lk (ks : List (List Int))
inductive Sl where
  | sh (d : D)
  | ow (ds : List D)
  | od (l : Dl)
  | kk (k : Sk)
def Sl.own : Sl → Bool
  | .ow _ => true
  | .od _ => true
  | _ => false
def TkR (H : Hp) (v : V) (k : List Int) : Prop := ∃ a, v = .ref a ∧ H a = some (.tup (k.map V.int))
def LkR (H : Hp) : List V → List (List Int) → Prop
  | [], [] => True
  | v :: vs, k :: ks => TkR H v k ∧ LkR H vs ks
  | _, _ => False
def KkR (A : Addr → Prop) (H : Hp) (v : V) : Sk → Prop
  | .tk k => TkR H v k
  | .lk ks => ∃ a vs, v = .ref a ∧ ¬ A a ∧ Rd H a (.lst vs) ∧ LkR H vs ks
theorem TkR.ca {K : Fg} {A A' : Addr → Prop} {H H' : Hp} (c : Ca K A A' H H') {v : V} {k : List Int} (r : TkR H v k) : TkR H' v k := by
  obtain ⟨a, e, h⟩ := r
  exact ⟨a, e, c.tt _ _ h⟩
theorem LkR.ca {K : Fg} {A A' : Addr → Prop} {H H' : Hp} (c : Ca K A A' H H') : ∀ {vs : List V} {ks : List (List Int)}, LkR H vs ks → LkR H' vs ks
  | [], [], _ => trivial
  | v :: vs, k :: ks, r => ⟨r.1.ca c, LkR.ca c r.2⟩
  | [], _ :: _, r => r.elim
  | _ :: _, [], r => r.elim
theorem KkR.ca {K : Fg} {A A' : Addr → Prop} {H H' : Hp} (c : Ca K A A' H H') {v : V} : ∀ {k : Sk}, KkR A H v k → KkR A' H' v k
  | .tk k, r => TkR.ca c r
  | .lk ks, ⟨a, vs, e, n, h, r⟩ => ⟨a, vs, e, (c.l _ _ n h).1, (c.l _ _ n h).2, r.ca c⟩
theorem TkR.rp {K : Fg} {A : Addr → Prop} {H : Hp} {v : V} {k : List Int} (r : TkR H v k) : Rp K A H v (.tuple (k.map PyData.int)) := by
  obtain ⟨a, rfl, h⟩ := r
  exact .tup (SqT.of h) (RpAll.ints k)
theorem LkR.rp {K : Fg} {A : Addr → Prop} {H : Hp} : ∀ {vs : List V} {ks : List (List Int)}, LkR H vs ks → RpAll K A H vs (ks.map fun k => .tuple (k.map PyData.int))
  | [], [], _ => .nil
  | v :: vs, k :: ks, r => .cons r.1.rp (LkR.rp r.2)
  | [], _ :: _, r => r.elim
  | _ :: _, [], r => r.elim
def Sk.d : Sk → D
  | .tk k => .tuple (k.map PyData.int)
  | .lk ks => .list (ks.map fun k => .tuple (k.map PyData.int))
theorem KkR.rp {K : Fg} {A : Addr → Prop} {H : Hp} {v : V} : ∀ {k : Sk}, KkR A H v k → Rp K A H v k.d
  | .tk k, r => TkR.rp r
  | .lk ks, ⟨a, vs, e, n, h, r⟩ => by
    subst e
    exact .lst (.inl ⟨n, h⟩) r.rp
def Val.d : Val → D
  | .cl d => d
  | .nw ds => .list ds
  | .br _ ds => .list ds
  | .nd l => dD l
  | .bd _ l => dD l
abbrev Env := List (Option Sl)
abbrev Ow := Nat → Option Addr
def Own (O : Ow) (B : Addr → Prop) : Addr → Prop := fun a => (∃ i, O i = some a) ∨ B a

/-- the entry: its heap, and what is kept beside the names -/
structure Old where
  hp : Hp
  gv : List V
  gd : List D
section
variable (K : Fg) (B : Addr → Prop) (old : Old)
def SlR (A : Addr → Prop) (O : Ow) (H : Hp) (σ : L2.St) (i : Nat) : Sl → Prop
  | .sh d => ∃ v, σ[i]? = some (some v) ∧ Rp K A H v d
  | .ow ds => ∃ a vs, O i = some a ∧ σ[i]? = some (some (.ref a)) ∧ H a = some (.lst vs) ∧ RpAll K A H vs ds
  | .od l => ∃ a, O i = some a ∧ σ[i]? = some (some (.ref a)) ∧ H a = some (.dT (dV l))
  | .kk k => ∃ v, σ[i]? = some (some v) ∧ KkR A H v k
/-- the names hold η; O tells who owns which list; old: the heap at the entry; B: lists in the making -/
structure ER (O : Ow) (H : Hp) (σ : L2.St) (η : Env) : Prop where
  len : σ.length = η.length
  sl : ∀ i s, η[i]? = some (some s) → SlR K (Own O B) O H σ i s
  dom : ∀ i a, O i = some a → ∃ s, η[i]? = some (some s) ∧ s.own = true
  inj : ∀ i j a, O i = some a → O j = some a → i = j
  disj : ∀ i a, O i = some a → ¬ B a
  fr : ∀ i a, O i = some a → old.hp a = none
  same : Same old.hp H
  bt : ∀ a, B a → H a ≠ none
  gh : RpAll K (Own O B) H old.gv old.gd
/-- a value: H0 the heap ahead of the expression, H behind it -/
def VR (O : Ow) (H0 H : Hp) (v : V) : Val → Prop
  | .cl d => Rp K (Own O B) H v d
  | .nw ds => ∃ a vs, v = .ref a ∧ H0 a = none ∧ H a = some (.lst vs) ∧ RpAll K (fun b => Own O B b ∨ b = a) H vs ds
  | .br i ds => ∃ a vs, O i = some a ∧ v = .ref a ∧ H a = some (.lst vs) ∧ RpAll K (Own O B) H vs ds
  | .nd l => ∃ a, v = .ref a ∧ H0 a = none ∧ H a = some (.dT (dV l))
  | .bd i l => ∃ a, O i = some a ∧ v = .ref a ∧ H a = some (.dT (dV l))
end

section
variable {K : Fg} {B : Addr → Prop} {old : Old} {O : Ow} {H H' H'' : Hp} {σ : L2.St} {η : Env}
theorem own_old (h : ∀ i a, O i = some a → H a ≠ none) (s : Same H H') : ∀ i a, O i = some a → H' a ≠ none := fun i a e z => h i a e (s.free z)
/-- the heap grows -/
theorem ER.ext (r : ER K B old O H σ η) (s : Same H H') : ER K B old O H' σ η where
  len := r.len
  sl := fun i x e => by
    have q := r.sl i x e
    cases x with
    | sh d =>
      obtain ⟨v, h1, h2⟩ := q
      exact ⟨v, h1, h2.ca (Ca.grow (K := K) s)⟩
    | ow ds =>
      obtain ⟨a, vs, h1, h2, h3, h4⟩ := q
      exact ⟨a, vs, h1, h2, s _ _ h3, h4.ca (Ca.grow s)⟩
    | od l =>
      obtain ⟨a, h1, h2, h3⟩ := q
      exact ⟨a, h1, h2, s _ _ h3⟩
    | kk k =>
      obtain ⟨v, h1, h2⟩ := q
      exact ⟨v, h1, h2.ca (Ca.grow (K := K) s)⟩
  dom := r.dom
  inj := r.inj
  disj := r.disj
  fr := r.fr
  same := r.same.trans s
  bt := fun a h z => r.bt a h (s.free z)
  gh := r.gh.ca (Ca.grow s)
theorem ER.lst (r : ER K B old O H σ η) {i : Nat} {a : Addr} (e : O i = some a) : H a ≠ none := by
  obtain ⟨s, h, hs⟩ := r.dom i a e
  have q := r.sl i _ h
  cases s with
  | sh d => cases hs
  | ow ds =>
    obtain ⟨b, vs, h1, h2, h3, h4⟩ := q
    rw [e] at h1
    cases h1
    rw [h3]
    exact fun z => nomatch z
  | od l =>
    obtain ⟨b, h1, h2, h3⟩ := q
    rw [e] at h1
    cases h1
    rw [h3]
    exact fun z => nomatch z
  | kk k => cases hs
theorem VR.ext {v : V} {x : Val} (r : VR K B O H H' v x) (s : Same H' H'') : VR K B O H H'' v x := by
  cases x with
  | cl d => exact Rp.ca (Ca.grow s) r
  | nw ds =>
    obtain ⟨a, vs, h1, h2, h3, h4⟩ := r
    exact ⟨a, vs, h1, h2, s _ _ h3, h4.ca (Ca.grow s)⟩
  | br i ds =>
    obtain ⟨a, vs, h1, h2, h3, h4⟩ := r
    exact ⟨a, vs, h1, h2, s _ _ h3, h4.ca (Ca.grow s)⟩
  | nd l =>
    obtain ⟨a, h1, h2, h3⟩ := r
    exact ⟨a, h1, h2, s _ _ h3⟩
  | bd i l =>
    obtain ⟨a, h1, h2, h3⟩ := r
    exact ⟨a, h1, h2, s _ _ h3⟩
/-- what stood ahead of it -/
theorem VR.back {v : V} {x : Val} {H0 : Hp} (s : Same H0 H) (r : VR K B O H H' v x) : VR K B O H0 H' v x := by
  cases x with
  | cl d => exact r
  | nw ds =>
    obtain ⟨a, vs, h1, h2, h3, h4⟩ := r
    exact ⟨a, vs, h1, s.free h2, h3, h4⟩
  | br i ds => exact r
  | nd l =>
    obtain ⟨a, h1, h2, h3⟩ := r
    exact ⟨a, h1, s.free h2, h3⟩
  | bd i l => exact r
/-- as data, whoever owns it -/
theorem VR.any {v : V} {x : Val} (r : VR K B O H H' v x) : Rp K (fun _ => False) H' v x.d := by
  cases x with
  | cl d => exact Rp.ca (Ca.less fun _ z => z.elim) r
  | nw ds =>
    obtain ⟨a, vs, rfl, h2, h3, h4⟩ := r
    exact .lst (.inl ⟨id, .inl h3⟩) (h4.ca (Ca.less fun _ z => z.elim))
  | br i ds =>
    obtain ⟨a, vs, h1, rfl, h3, h4⟩ := r
    exact .lst (.inl ⟨id, .inl h3⟩) (h4.ca (Ca.less fun _ z => z.elim))
  | nd l =>
    obtain ⟨a, rfl, h2, h3⟩ := r
    exact .dct id (.inl h3)
  | bd i l =>
    obtain ⟨a, h1, rfl, h3⟩ := r
    exact .dct id (.inl h3)
/-- a new or an unowned value, told to be shared -/
def Val.sh : Val → Option D
  | .cl d => some d
  | .nw ds => some (.list ds)
  | .br _ _ => none
  | .nd l => some (dD l)
  | .bd _ _ => none
theorem VR.shared {v : V} {x : Val} {d : D} (hO : ∀ i a, O i = some a → H a ≠ none) (hB : ∀ a, B a → H a ≠ none) (r : VR K B O H H' v x) (e : x.sh = some d) : Rp K (Own O B) H' v d := by
  cases x with
  | cl d' => cases e; exact r
  | nw ds =>
    obtain ⟨a, vs, rfl, h2, h3, h4⟩ := r
    cases e
    refine .lst (.inl ⟨fun z => ?_, .inl h3⟩) (h4.ca (Ca.less fun _ z => .inl z))
    rcases z with ⟨i, z⟩ | z
    · exact hO i a z h2
    · exact hB a z h2
  | br i ds => cases e
  | nd l =>
    obtain ⟨a, rfl, h2, h3⟩ := r
    cases e
    refine .dct (fun z => ?_) (.inl h3)
    rcases z with ⟨i, z⟩ | z
    · exact hO i a z h2
    · exact hB a z h2
  | bd i l => cases e
end
end PD

/-! PD2: expressions as data, what they are worth, how they stand in the text. -/
namespace PD
open PySem PySem.Spec PyProof.Rows L2

inductive Res (α : Type) where
  | ok (a : α)
  | ex (c : Nat)
  | st
def Res.bind {α β : Type} (r : Res α) (f : α → Res β) : Res β := match r with
  | .ok a => f a
  | .ex c => .ex c
  | .st => .st
def Res.map {α β : Type} (f : α → β) (r : Res α) : Res β := r.bind fun a => .ok (f a)

inductive Bo where
  | add | sub | mul | fdiv | mod | pow
  deriving DecidableEq
inductive Co where
  | lt | le | gt | ge | eq | ne | isN | notN | inC | niC
  deriving DecidableEq
inductive Bi where
  | len | abs | max2 | min2 | int1 | tuple1 | list1 | all1 | any1 | max1
  deriving DecidableEq
inductive Ty where
  | int | bool | str | tuple | list
  deriving DecidableEq

/-- expressions, lists of them, tests (t..), things that are walked (i..) -/
inductive E where
  | var (i : Nat)
  | glob (g : Nat)
  | int (n : Int)
  | bl (b : Bool)
  | non
  | str (s : Str)
  | tup (es : E)
  | lst (es : E)
  | nil
  | cons (e es : E)
  | bin (o : Bo) (a b : E)
  | neg (a : E)
  | not (a : E)
  | bop (k : Bool) (a r : E)
  | bone (k : Bool) (a : E)
  | cmp (o : Co) (a b : E)
  | ite (c a b : E)
  | idx (a i : E)
  | sl (a lo hi : E)
  | rev (a : E)
  | nop
  | sop (a : E)
  | call (f : Nat) (es : E)
  | bi (b : Bi) (es : E)
  | isi (a : E) (t : Ty)
  | isx (a : E) (j : Nat)
  | isv (a : E)
  | dnew
  | dis (ks : List (List Int)) (vs : E)
  | dget (a k d : E)
  | dat (a k : E)
  | comp (v : Nat) (it c e : E)
  | comp2 (v w : Nat) (it e : E)
  | tst (e : E)
  | tcmp (o : Co) (a b : E)
  | tnot (t : E)
  | tbop (k : Bool) (t r : E)
  | tbone (k : Bool) (t : E)
  | itv (e : E)
  | ir1 (a : E)
  | ir2 (a b : E)
  | ir3 (a b : E) (c : Int)

/-! ### what they are worth -/
def big : Nat := 16777216
/-- the bounds, as statements that nothing reckons -/
def Sm (n : Nat) : Prop := n ≤ big
noncomputable instance (n : Nat) : Decidable (Sm n) := Classical.propDecidable _
def RepOk (n : Nat) (k : Int) : Prop := -(2 ^ 63) ≤ k ∧ k < 2 ^ 63 ∧ n * k.toNat ≤ big
noncomputable instance (n : Nat) (k : Int) : Decidable (RepOk n k) := Classical.propDecidable _
def PowOk (i j : Int) : Prop := 0 ≤ j ∧ j ≤ 1000000 ∧ i.natAbs < 2 ^ 64
noncomputable instance (i j : Int) : Decidable (PowOk i j) := Classical.propDecidable _
def MuOk (i j : Int) : Prop := i.natAbs.log2 + j.natAbs.log2 < 134000000
noncomputable instance (i j : Int) : Decidable (MuOk i j) := Classical.propDecidable _
def DivOk (_i j : Int) : Prop := j ≠ 0
noncomputable instance (i j : Int) : Decidable (DivOk i j) := Classical.propDecidable _
def small (i : Int) : Prop := -(2 ^ 62) ≤ i ∧ i < 2 ^ 62
noncomputable instance (i : Int) : Decidable (small i) := Classical.propDecidable _
def Val.ls : Val → Option (List D)
  | .nw ds => some ds
  | .br _ ds => some ds
  | _ => none
def D.seq : D → Option (List D)
  | .list ds => some ds
  | .tuple ds => some ds
  | _ => none
noncomputable def catV (x y : Val) : Res Val := match x.ls, y.ls with
  | some ds, some es => if Sm (ds.length + es.length) then .ok (.nw (ds ++ es)) else .st
  | _, _ => match x, y with
    | .cl (.tuple ds), .cl (.tuple es) => if Sm (ds.length + es.length) ∧ ds ≠ [] then .ok (.cl (.tuple (ds ++ es))) else .st
    | _, _ => .st
noncomputable def repV (x : Val) (k : Int) : Res Val := match x.ls with
  | some ds => if RepOk ds.length k then .ok (.nw (List.replicate k.toNat ds).flatten) else .st
  | none => .st
noncomputable def addV (x y : Val) : Res Val := match x, y with
  | .cl (.int i), .cl (.int j) => .ok (.cl (.int (i + j)))
  | .cl (.str s), .cl (.str t) => if Sm (s.length + t.length) then .ok (.cl (.str (s ++ t))) else .st
  | x, y => catV x y
def subV (x y : Val) : Res Val := match x, y with
  | .cl (.int i), .cl (.int j) => .ok (.cl (.int (i - j)))
  | _, _ => .st
noncomputable def mulV (x y : Val) : Res Val := match x, y with
  | .cl (.int i), .cl (.int j) => if MuOk i j then .ok (.cl (.int (i * j))) else .st
  | x, .cl (.int k) => repV x k
  | _, _ => .st
noncomputable def fdivV (x y : Val) : Res Val := match x, y with
  | .cl (.int i), .cl (.int j) => if DivOk i j then .ok (.cl (.int (i.fdiv j))) else .st
  | _, _ => .st
def modV (x y : Val) : Res Val := match x, y with
  | .cl (.int i), .cl (.int j) => if j = 0 then .st else .ok (.cl (.int (i.fmod j)))
  | _, _ => .st
noncomputable def powV (x y : Val) : Res Val := match x, y with
  | .cl (.int i), .cl (.int j) => if PowOk i j then .ok (.cl (.int (i ^ j.toNat))) else .st
  | _, _ => .st
noncomputable def binV : Bo → Val → Val → Res Val
  | .add => addV
  | .sub => subV
  | .mul => mulV
  | .fdiv => fdivV
  | .mod => modV
  | .pow => powV
def negV : Val → Res Val
  | .cl (.int i) => .ok (.cl (.int (-i)))
  | _ => .st
def eqD (d e : D) : Res Bool := match d, e with
  | .int i, .int j => .ok (decide (i = j))
  | .str i, .str j => .ok (decide (i = j))
  | d, e => if SeqAt.shaped d = true ∧ SeqAt.shaped e = true then .ok (PyData.eqv d e) else .st
/-- among the things of a list or a tuple -/
def memD (d e : D) : Res Bool := match e with
  | .list ds => if SeqAt.shaped d = true ∧ SeqAt.shaped (.list ds) = true then .ok (ds.any fun z => PyData.eqv z d) else .st
  | .tuple ds => if SeqAt.shaped d = true ∧ SeqAt.shaped (.tuple ds) = true then .ok (ds.any fun z => PyData.eqv z d) else .st
  | _ => .st
def cmpV : Co → Val → Val → Res Bool
  | .lt, .cl (.int i), .cl (.int j) => .ok (decide (i < j))
  | .le, .cl (.int i), .cl (.int j) => .ok (decide (i ≤ j))
  | .gt, .cl (.int i), .cl (.int j) => .ok (decide (j < i))
  | .ge, .cl (.int i), .cl (.int j) => .ok (decide (j ≤ i))
  | .eq, x, y => eqD x.d y.d
  | .ne, x, y => (eqD x.d y.d).map (!·)
  | .inC, x, y => memD x.d y.d
  | .niC, x, y => (memD x.d y.d).map (!·)
  | .isN, x, .cl .none => .ok (match x.d with | .none => true | _ => false)
  | .notN, x, .cl .none => .ok (match x.d with | .none => false | _ => true)
  | .isN, x, .cl (.bool b) => .ok (match x.d with | .bool a => a == b | _ => false)
  | .notN, x, .cl (.bool b) => .ok (match x.d with | .bool a => !(a == b) | _ => true)
  | _, _, _ => .st
noncomputable def truD : D → Res Bool
  | .none => .ok false
  | .bool b => .ok b
  | .int i => .ok (i != 0)
  | .str s => if Sm s.length then .ok ((s.length : Int) != 0) else .st
  | .list ds => .ok (!ds.isEmpty)
  | .tuple ds => .ok (!ds.isEmpty)
  | .dict _ => .st
def oOk {α : Type} : Option α → Res α
  | some a => .ok a
  | none => .st
def idxV (x i : Val) : Res Val := match x.d.seq, i with
  | some ds, .cl (.int k) => (oOk (atI ds k)).map .cl
  | _, _ => .st
def cutD (xs : List D) (lo hi : Option Int) : List D := (xs.drop (HT.sIx xs.length 0 lo)).take (HT.sIx xs.length xs.length hi - HT.sIx xs.length 0 lo)
def revV (x : Val) : Res Val := match x.d with
  | .list ds => .ok (.nw ds.reverse)
  | .tuple ds => .ok (.cl (.tuple ds.reverse))
  | _ => .st
def slV (x : Val) (lo hi : Option Int) : Res Val := match x.d with
  | .list ds => .ok (.nw (cutD ds lo hi))
  | .tuple ds => .ok (.cl (.tuple (cutD ds lo hi)))
  | _ => .st
def intsOf : List D → Option (List Int)
  | [] => some []
  | .int i :: r => (intsOf r).map (i :: ·)
  | _ :: _ => none
def maxL : List Int → Option Int
  | [] => none
  | i :: r => some (r.foldl max i)
theorem maxL_foldl : ∀ (r : List Int) (i : Int), (r.foldl max i = i ∨ r.foldl max i ∈ r) ∧ i ≤ r.foldl max i ∧ ∀ a ∈ r, a ≤ r.foldl max i
  | [], i => ⟨.inl rfl, Int.le_refl _, fun _ h => (List.not_mem_nil h).elim⟩
  | x :: r, i => by
    obtain ⟨h1, h2, h3⟩ := maxL_foldl r (max i x)
    rw [List.foldl_cons]
    refine ⟨?_, by omega, fun a ha => ?_⟩
    · rcases h1 with h1 | h1
      · rcases Int.le_total i x with h | h
        · right
          rw [h1, Int.max_eq_right h]
          exact List.mem_cons_self
        · left
          rw [h1, Int.max_eq_left h]
      · exact .inr (List.mem_cons_of_mem _ h1)
    · rcases List.mem_cons.mp ha with e | ha
      · subst e
        omega
      · exact h3 a ha
theorem maxL_uniq {ns : List Int} {m M : Int} (h : maxL ns = some m) (h1 : M ∈ ns) (h2 : ∀ a ∈ ns, a ≤ M) : M = m := by
  cases ns with
  | nil => cases h
  | cons i r =>
    cases h
    obtain ⟨k1, k2, k3⟩ := maxL_foldl r i
    have hm : M ≤ r.foldl max i := by
      rcases List.mem_cons.mp h1 with e | e
      · rw [e]; exact k2
      · exact k3 M e
    have hm2 : r.foldl max i ≤ M := by
      rcases k1 with e | e
      · rw [e]; exact h2 i List.mem_cons_self
      · exact h2 _ (List.mem_cons_of_mem _ e)
    omega
def boolsOf : List D → Option (List Bool)
  | [] => some []
  | .bool b :: r => (boolsOf r).map (b :: ·)
  | _ :: _ => none
noncomputable def biV : Bi → List Val → Res Val
  | .len, [x] => match x.d with
    | .list ds => .ok (.cl (.int ds.length))
    | .tuple ds => .ok (.cl (.int ds.length))
    | .str s => if Sm s.length then .ok (.cl (.int s.length)) else .st
    | _ => .st
  | .abs, [.cl (.int i)] => .ok (.cl (.int i.natAbs))
  | .max2, [.cl (.int i), .cl (.int j)] => .ok (.cl (.int (max i j)))
  | .min2, [.cl (.int i), .cl (.int j)] => .ok (.cl (.int (min i j)))
  | .int1, [.cl (.int i)] => .ok (.cl (.int i))
  | .int1, [.cl (.bool b)] => .ok (.cl (.int (if b = true then 1 else 0)))
  | .tuple1, [x] => match x, x.d with
    | .cl (.tuple ds), _ => .ok (.cl (.tuple ds))
    | _, .list ds => .ok (.cl (.tuple ds))
    | _, _ => .st
  | .list1, [x] => (oOk x.d.seq).map .nw
  | .all1, [x] => match x.d with
    | .list ds => (oOk (boolsOf ds)).map fun bs => .cl (.bool (bs.all id))
    | _ => .st
  | .any1, [x] => match x.d with
    | .list ds => (oOk (boolsOf ds)).map fun bs => .cl (.bool (bs.any id))
    | _ => .st
  | .max1, [x] => match x.d with
    | .list ds => (oOk (intsOf ds)).bind fun ns => (oOk (maxL ns)).map fun m => .cl (.int m)
    | _ => .st
  | _, _ => .st
def isiD : D → Ty → Res Bool
  | .none, _ => .ok false
  | .bool _, t => .ok (match t with | .bool => true | .int => true | _ => false)
  | .int _, t => .ok (match t with | .int => true | _ => false)
  | .str _, t => .ok (match t with | .str => true | _ => false)
  | .list _, t => .ok (match t with | .list => true | _ => false)
  | .tuple _, t => .ok (match t with | .tuple => true | _ => false)
  | .dict _, _ => .st
/-- a dict's pairs -/
def keyOf : D → Option (List Int)
  | .tuple ds => intsOf ds
  | _ => none
def dctL : List (D × D) → Option Dl
  | [] => some []
  | (k, .int v) :: r => (keyOf k).bind fun k => (dctL r).map ((k, v) :: ·)
  | _ :: _ => none
def D.dct : D → Option Dl
  | .dict kvs => dctL kvs
  | _ => none
theorem intsOf_map : ∀ l : List Int, intsOf (l.map PyData.int) = some l
  | [] => rfl
  | i :: l => by
    rw [List.map_cons, intsOf, intsOf_map l]
    rfl
theorem dctL_map : ∀ l : Dl, dctL (l.map fun p => (.tuple (p.1.map PyData.int), .int p.2)) = some l
  | [] => rfl
  | (k, v) :: l => by
    rw [List.map_cons, dctL, dctL_map l]
    show (intsOf (k.map PyData.int)).bind _ = _
    rw [intsOf_map]
    rfl
@[simp] theorem dct_dD (l : Dl) : D.dct (dD l) = some l := dctL_map l
theorem intsOf_inv : ∀ {ds : List D} {l : List Int}, intsOf ds = some l → ds = l.map PyData.int
  | [], l, h => by cases h; rfl
  | d :: ds, l, h => by
    cases d with
    | int i =>
      unfold intsOf at h
      cases e : intsOf ds with
      | none => rw [e] at h; cases h
      | some k =>
        rw [e] at h
        cases h
        rw [intsOf_inv e]
        rfl
    | _ => unfold intsOf at h; cases h
theorem dctL_inv : ∀ {kvs : List (D × D)} {l : Dl}, dctL kvs = some l → kvs = l.map fun p => (.tuple (p.1.map PyData.int), .int p.2)
  | [], l, h => by cases h; rfl
  | (k, d) :: kvs, l, h => by
    cases d with
    | int i =>
      unfold dctL at h
      cases e : keyOf k with
      | none => rw [e] at h; cases h
      | some q =>
        rw [e] at h
        cases e2 : dctL kvs with
        | none => rw [e2] at h; cases h
        | some w =>
          rw [e2] at h
          cases h
          rw [dctL_inv e2]
          cases k with
          | tuple ds =>
            rw [intsOf_inv (show intsOf ds = some q from e)]
            rfl
          | _ => cases e
    | _ => unfold dctL at h; cases h
theorem dct_inv {d : D} {l : Dl} (h : D.dct d = some l) : d = dD l := by
  cases d with
  | dict kvs => rw [dctL_inv (show dctL kvs = some l from h)]
  | _ => cases h
def retV : D → Val
  | .list ds => .nw ds
  | .dict kvs => match dctL kvs with
    | some l => .nd l
    | none => .cl (.dict kvs)
  | d => .cl d
/-- what the dict holds at k -/
def lookL (l : Dl) (k : List Int) : Option Int := (l.find? fun p => decide (p.1 = k)).map (·.2)
/-- d[k] = v -/
def putL (l : Dl) (k : List Int) (v : Int) : Dl := if (l.any fun p => decide (p.1 = k)) = true then l.map (fun p => if p.1 = k then (p.1, v) else p) else l ++ [(k, v)]
theorem inl_inj {k k' : List Int} : (k.map Sum.inl : List Key) = k'.map Sum.inl ↔ k = k' :=
  ⟨fun h => (List.map_inj_right fun a b e => Sum.inl.inj e).mp h, fun h => by rw [h]⟩
theorem valV_dV (k : List Int) : ∀ l : Dl, valV (dV l) (k.map Sum.inl) = (lookL l k).map V.int
  | [] => rfl
  | p :: l => by
    have e : dV (p :: l) = (p.1.map Sum.inl, V.int p.2) :: dV l := rfl
    rw [e]
    by_cases h : p.1 = k
    · rw [valV_pos (inl_inj.mpr h), lookL, List.find?_cons, decide_eq_true h]
      rfl
    · rw [valV_neg (fun z => h (inl_inj.mp z)), valV_dV k l, lookL, lookL, List.find?_cons, decide_eq_false h]
theorem any_dV (k : List Int) (l : Dl) : ((dV l).any fun kv => decide (kv.1 = k.map Sum.inl)) = l.any fun p => decide (p.1 = k) := by
  unfold dV
  rw [List.any_map]
  congr 1
  funext p
  show decide ((p.1.map Sum.inl : List Key) = k.map Sum.inl) = decide (p.1 = k)
  by_cases h : p.1 = k
  · rw [decide_eq_true h, decide_eq_true (inl_inj.mpr h)]
  · rw [decide_eq_false h, decide_eq_false (fun z => h (inl_inj.mp z))]
theorem dV_put (l : Dl) (k : List Int) (v : Int) : dV (putL l k v) = putK (dV l) (k.map Sum.inl) (.int v) := by
  unfold putK putL
  rw [any_dV]
  split
  · unfold dV
    rw [List.map_map, List.map_map]
    refine List.map_congr_left fun p _ => ?_
    show (((if p.1 = k then (p.1, v) else p) : List Int × Int).1.map Sum.inl, V.int ((if p.1 = k then (p.1, v) else p) : List Int × Int).2) = if (p.1.map Sum.inl : List Key) = k.map Sum.inl then (p.1.map Sum.inl, V.int v) else (p.1.map Sum.inl, V.int p.2)
    by_cases h : p.1 = k
    · rw [if_pos h, if_pos (inl_inj.mpr h)]
    · rw [if_neg h, if_neg (fun z => h (inl_inj.mp z))]
  · unfold dV
    rw [List.map_append]
    rfl
theorem putL_len (l : Dl) (k : List Int) (v : Int) : (putL l k v).length ≤ l.length + 1 := by
  unfold putL
  split
  · rw [List.length_map]
    omega
  · rw [List.length_append]
    exact Nat.le_refl _
def disL : Dl → List (List Int) → List Int → Option Dl
  | l, [], [] => some l
  | l, k :: ks, v :: vs => disL (putL l k v) ks vs
  | _, _, _ => none
def shAll : List Val → Option (List D)
  | [] => some []
  | x :: xs => match x.sh, shAll xs with
    | some d, some ds => some (d :: ds)
    | _, _ => none
def bitOf : Val → Res Bool
  | .cl (.bool b) => .ok b
  | _ => .st
def intOf : Val → Res Int
  | .cl (.int i) => .ok i
  | _ => .st
def rngD (lo : Int) (n : Nat) : List D := (List.range n).map fun (k : Nat) => .int (lo + k)
def slotV (η : Env) (i : Nat) : Res Val := match η[i]? with
  | some (some (.sh d)) => .ok (.cl d)
  | some (some (.ow ds)) => .ok (.br i ds)
  | some (some (.od l)) => .ok (.bd i l)
  | some (some (.kk k)) => .ok (.cl k.d)
  | _ => .st
def freeS (η : Env) (i : Nat) : Bool := match η[i]? with
  | some (some (.ow _)) => false
  | some (some (.od _)) => false
  | some _ => true
  | none => false
/-- a walked thing -/
inductive Wk where
  | v (x : Val)
  | r (lo : Int) (n : Nat)
  | c (lo c : Int) (n : Nat)
def rngC (lo c : Int) (n : Nat) : List D := (List.range n).map fun (k : Nat) => .int (lo + (k : Int) * c)
open Classical in
noncomputable def rgV (i j c : Int) : Res Wk := if h : ∃ n, RgC i j c n then .ok (.c i c (Classical.choose h)) else .st
theorem rgV_of {i j c : Int} {n : Nat} (h : RgC i j c n) : rgV i j c = .ok (.c i c n) := by
  have hx : ∃ n, RgC i j c n := ⟨n, h⟩
  unfold rgV
  rw [dif_pos hx]
  have h2 := Classical.choose_spec hx
  have e : Classical.choose hx = n := by
    have a := h.2.2.2
    have b := h2.2.2.2
    omega
  rw [e]
def Wk.ds : Wk → List D
  | .v x => x.d.seq.getD []
  | .r lo n => rngD lo n
  | .c lo s n => rngC lo s n
/-- the items of a comprehension, one after another -/
noncomputable def compF (t : D → Res Bool) (f : D → Res Val) : List D → List D → Res (List D)
  | [], acc => .ok acc
  | d :: ds, acc => (t d).bind fun b => if b = true then (f d).bind fun x => (oOk x.sh).bind fun y => if Sm (acc.length + 1) then compF t f ds (acc ++ [y]) else .st
    else compF t f ds acc

/-- the parts of a pair -/
def two2 (d : D) (f : D → D → Res Val) : Res Val := match d with
  | .tuple [a, b] => f a b
  | _ => .st
def compR : Res (List D) → Res Val
  | .ok ys => .ok (.nw ys)
  | _ => .st
/-- the def's table, the constants -/
structure Tb where
  G : Nat → List D → Res D
  gl : Nat → Option D
  ex : List Str
/-- the class c stands under x (0: the base of all) -/
def subX (c x : Nat) : Bool := x == 0 || c == x
/-- an exception's class, by its name -/
def exIx : List Str → Str → Option Nat
  | [], _ => none
  | m :: l, n => if m = n then some 0 else (exIx l n).map (· + 1)
theorem exIx_get : ∀ {l : List Str} {n : Str} {c : Nat}, exIx l n = some c → l[c]? = some n
  | [], _, _, h => by cases h
  | m :: l, n, c, h => by
    unfold exIx at h
    split at h
    · rename_i e
      cases h
      rw [e]
      rfl
    · cases e : exIx l n with
      | none => rw [e] at h; cases h
      | some k =>
        rw [e] at h
        cases h
        have := exIx_get e
        simpa using this
def exN (l : List Str) : D → Option Nat
  | .dict [(.str n, .none)] => exIx l n
  | _ => none

section
variable (T : Tb)
mutual
noncomputable def ev : E → Env → Res Val
  | .var i, η => slotV η i
  | .glob g, _ => (oOk (T.gl g)).map .cl
  | .int n, _ => .ok (.cl (.int n))
  | .bl b, _ => .ok (.cl (.bool b))
  | .non, _ => .ok (.cl .none)
  | .str s, _ => .ok (.cl (.str s))
  | .tup es, η => (evs es η).bind fun xs => (oOk (shAll xs)).map fun ds => .cl (.tuple ds)
  | .lst es, η => (evs es η).bind fun xs => (oOk (shAll xs)).map .nw
  | .bin o a b, η => (ev a η).bind fun x => (ev b η).bind fun y => binV o x y
  | .neg a, η => (ev a η).bind negV
  | .not a, η => (ev a η).bind fun x => (bitOf x).map fun b => .cl (.bool (!b))
  | .bop k a r, η => (ev a η).bind fun x => (bitOf x).bind fun b => if b = k then ev r η else .ok (.cl (.bool b))
  | .bone _ a, η => ev a η
  | .cmp o a b, η => (ev a η).bind fun x => (ev b η).bind fun y => (cmpV o x y).map fun c => .cl (.bool c)
  | .ite c a b, η => (evt c η).bind fun c => if c = true then ev a η else ev b η
  | .idx a i, η => (ev a η).bind fun x => (ev i η).bind fun y => idxV x y
  | .sl a lo hi, η => (ev a η).bind fun x => (evo lo η).bind fun l => (evo hi η).bind fun h => slV x l h
  | .rev a, η => (ev a η).bind revV
  | .call f es, η => (evs es η).bind fun xs => (T.G f (xs.map Val.d)).map retV
  | .bi b es, η => (evs es η).bind fun xs => biV b xs
  | .isi a t, η => (ev a η).bind fun x => (isiD x.d t).map fun b => .cl (.bool b)
  | .isx a j, η => (ev a η).bind fun x => (oOk (exN T.ex x.d)).map fun c => .cl (.bool (subX c j))
  | .dnew, _ => .ok (.nd [])
  | .dis ks vs, η => (evs vs η).bind fun xs => (oOk (intsOf (xs.map Val.d))).bind fun ns => (oOk (disL [] ks ns)).map .nd
  | .dget a k d, η => (ev a η).bind fun x => (oOk x.d.dct).bind fun _ => (ev k η).bind fun y => (ev d η).bind fun z => (oOk x.d.dct).bind fun l => (oOk (keyOf y.d)).bind fun k => (intOf z).map fun n => .cl (.int ((lookL l k).getD n))
  | .dat a k, η => (ev a η).bind fun x => (ev k η).bind fun y => (oOk x.d.dct).bind fun l => (oOk (keyOf y.d)).bind fun k => (oOk (lookL l k)).map fun n => .cl (.int n)
  | .isv a, η => (ev a η).bind fun x => (oOk (exN T.ex x.d)).map fun _ => .cl (.bool true)
  | .comp v it c e, η => if freeS η v = true then (evi it η).bind fun w =>
      compR (compF (fun d => match c with | .nop => .ok true | c => evt c (η.set v (some (.sh d)))) (fun d => ev e (η.set v (some (.sh d)))) w.ds []) else .st
  | .comp2 v u it e, η => if freeS η v = true ∧ freeS η u = true ∧ v ≠ u then (evi it η).bind fun w =>
      compR (compF (fun _ => .ok true) (fun d => two2 d fun a b => ev e ((η.set v (some (.sh a))).set u (some (.sh b)))) w.ds []) else .st
  | _, _ => .st
noncomputable def evs : E → Env → Res (List Val)
  | .nil, _ => .ok []
  | .cons e es, η => (ev e η).bind fun x => (evs es η).bind fun xs => .ok (x :: xs)
  | _, _ => .st
noncomputable def evt : E → Env → Res Bool
  | .tst e, η => (ev e η).bind fun x => truD x.d
  | .tcmp o a b, η => (ev a η).bind fun x => (ev b η).bind fun y => cmpV o x y
  | .tnot t, η => (evt t η).map (!·)
  | .tbop k t r, η => (evt t η).bind fun c => if c = k then evt r η else .ok c
  | .tbone _ t, η => evt t η
  | _, _ => .st
noncomputable def evi : E → Env → Res Wk
  | .itv e, η => (ev e η).bind fun x => (oOk x.d.seq).map fun _ => .v x
  | .ir1 a, η => (ev a η).bind fun x => (intOf x).bind fun n => if small n then .ok (.r 0 n.toNat) else .st
  | .ir2 a b, η => (ev a η).bind fun x => (ev b η).bind fun y => (intOf x).bind fun i => (intOf y).bind fun j => if small i ∧ small j then .ok (.r i (j - i).toNat) else .st
  | .ir3 a b c, η => (ev a η).bind fun x => (ev b η).bind fun y => (intOf x).bind fun i => (intOf y).bind fun j => rgV i j c
  | _, _ => .st
noncomputable def evo : E → Env → Res (Option Int)
  | .nop, _ => .ok none
  | .sop e, η => (ev e η).bind fun x => (intOf x).map some
  | _, _ => .st
end
end

/-! ### how they stand in the text -/
/-- the names: of the defs (with how many parameters), the constants -/
structure Nm where
  fn : Nat → Option (Str × Nat)
  gl : Nat → Option Str
  ex : Nat → Option Str
  hx : Bool
def boP : Bo → Operator
  | .add => .Add
  | .sub => .Sub
  | .mul => .Mult
  | .fdiv => .FloorDiv
  | .mod => .Mod
  | .pow => .Pow
def coP : Co → CmpOp
  | .lt => .Lt
  | .le => .LtE
  | .gt => .Gt
  | .ge => .GtE
  | .eq => .Eq
  | .ne => .NotEq
  | .isN => .Is
  | .notN => .IsNot
  | .inC => .In
  | .niC => .NotIn
def biN : Bi → Str
  | .len => "len"
  | .abs => "abs"
  | .max2 => "max"
  | .min2 => "min"
  | .int1 => "int"
  | .tuple1 => "tuple"
  | .list1 => "list"
  | .all1 => "all"
  | .any1 => "any"
  | .max1 => "max"
def tyN : Ty → Str
  | .int => "int"
  | .bool => "bool"
  | .str => "str"
  | .tuple => "tuple"
  | .list => "list"
def bltNames : List Str := ["len", "abs", "max", "min", "int", "tuple", "list", "all", "any", "bool", "str", "isinstance", "range"]
def visB (sc : Scope) (x : Str) : Bool := match sc.names.lookup x with
  | some .local => true
  | some .cell => true
  | some .free => true
  | _ => false
def glB (sc : Scope) (x : Str) : Bool := match sc.names.lookup x with
  | some .globalImplicit => true
  | _ => false
def okName (x : Str) : Bool := !(x == ("__debug__" : Str)) && !(x == ("__classdict__" : Str))
def lenE : E → Nat
  | .cons _ es => lenE es + 1
  | _ => 0

def intsB : List Expr → List Int → Bool
  | [], [] => true
  | .Constant (.int i) _ _ :: r, j :: js => decide (i = j) && intsB r js
  | _, _ => false
def keysB : List (Option Expr) → List (List Int) → Bool
  | [], [] => true
  | some (.Tuple es _ _) :: r, k :: ks => intsB es k && decide (k.length ≤ 1000) && keysB r ks
  | _, _ => false
section
variable (M : Nm)
mutual
def okE (N : List Str) (sc : Scope) (e : Expr) : E → Bool
  | .var i => match e with
    | .Name x _ => decide (N[i]? = some x) && visB sc x && okName x
    | _ => false
  | .glob g => match e with
    | .Name x _ => decide (M.gl g = some x) && glB sc x && okName x
    | _ => false
  | .int n => match e with
    | .Constant (.int i) _ _ => decide (i = n)
    | _ => false
  | .bl b => match e with
    | .Constant (.bool c) _ _ => decide (b = c)
    | _ => false
  | .non => match e with
    | .Constant .none _ _ => true
    | _ => false
  | .str s => match e with
    | .Constant (.str x) _ _ => decide (x = s)
    | _ => false
  | .tup es => match e with
    | .Tuple xs _ _ => okEs N sc xs es && decide (lenE es ≤ 1000)
    | _ => false
  | .lst es => match e with
    | .List xs _ => okEs N sc xs es && decide (lenE es ≤ 1000)
    | _ => false
  | .bin o a b => match e with
    | .BinOp x p y _ => decide (p = boP o) && okE N sc x a && okE N sc y b
    | _ => false
  | .neg a => match e with
    | .UnaryOp .USub x _ => okE N sc x a
    | _ => false
  | .not a => match e with
    | .UnaryOp .Not x _ => okE N sc x a
    | _ => false
  | .bop k a r => match e with
    | .BoolOp .And (x :: y :: xs) p => k && okE N sc x a && okE N sc (.BoolOp .And (y :: xs) p) r
    | .BoolOp .Or (x :: y :: xs) p => !k && okE N sc x a && okE N sc (.BoolOp .Or (y :: xs) p) r
    | _ => false
  | .bone k a => match e with
    | .BoolOp .And [x] _ => k && okE N sc x a
    | .BoolOp .Or [x] _ => !k && okE N sc x a
    | _ => false
  | .cmp o a b => match e with
    | .Compare x [p] [y] _ => decide (p = coP o) && okE N sc x a && okE N sc y b
    | _ => false
  | .ite c a b => match e with
    | .IfExp t x y _ => okT N sc t c && okE N sc x a && okE N sc y b
    | _ => false
  | .idx a i => match e with
    | .Subscript x y _ => okE N sc x a && okE N sc y i
    | _ => false
  | .sl a lo hi => match e with
    | .Subscript x (.Slice l h none _) _ => okE N sc x a && okO N sc l lo && okO N sc h hi
    | _ => false
  | .rev a => match e with
    | .Subscript x (.Slice none none (some (.UnaryOp .USub (.Constant (.int 1) _ _) _)) _) _ => okE N sc x a
    | _ => false
  | .call f es => match e with
    | .Call (.Name x _) (a :: as) [] _ => (match M.fn f with | some (y, n) => decide (y = x) && decide (as.length + 1 = n) | none => false) && glB sc x && okName x && okEs N sc (a :: as) es
    | _ => false
  | .bi b es => match e with
    | .Call (.Name x _) (a :: as) [] _ => decide (x = biN b) && glB sc x && okEs N sc (a :: as) es
    | _ => false
  | .isi a t => match e with
    | .Call (.Name x _) [y, .Name z _] [] _ => decide (x = "isinstance") && glB sc x && decide (z = tyN t) && glB sc z && okE N sc y a
    | _ => false
  | .dnew => match e with
    | .Dict [] [] _ => true
    | _ => false
  | .dis ks vs => match e with
    | .Dict keys values _ => keysB keys ks && okEs N sc values vs && decide (keys.length ≤ 15) && !keys.isEmpty && decide (keys.length = values.length)
    | _ => false
  | .dget a k d => match e with
    | .Call (.Attribute (.Name o p) m ap) [x, y] [] cp => decide (m = "get") && okE N sc (.Name o p) a && okE N sc x k && okE N sc y d && decide (ap.endLine = cp.line)
    | _ => false
  | .dat a k => match e with
    | .Subscript x y _ => okE N sc x a && okE N sc y k
    | _ => false
  | .isx a j => match e with
    | .Call (.Name x _) [y, .Name z _] [] _ => M.hx && decide (x = "isinstance") && glB sc x && decide (M.ex j = some z) && glB sc z && okName z && okE N sc y a
    | _ => false
  | .isv a => match e with
    | .Call (.Name x _) [y, .Name z _] [] _ => M.hx && decide (x = "isinstance") && glB sc x && decide (z = "ValueError") && glB sc z && okE N sc y a
    | _ => false
  | .comp2 v u it e' => match e with
    | .ListComp elt [⟨.Tuple [.Name y _, .Name z _] _ _, iter, [], 0⟩] scope _ => decide (N[v]? = some y) && decide (N[u]? = some z) && blkC N sc scope [(y, v), (z, u)] && okI N sc iter it
        && (match scope.names.lookup y with | some .cell => true | some .local => true | _ => false)
        && (match scope.names.lookup z with | some .cell => true | some .local => true | _ => false) && okE N (relS scope sc) elt e'
    | _ => false
  | .comp v it c e' => match e with
    | .ListComp elt [⟨.Name y _, iter, ifs, 0⟩] scope _ => decide (N[v]? = some y) && blkC N sc scope [(y, v)] && okI N sc iter it && visB (relS scope sc) y
        && (match scope.names.lookup y with | some .cell => true | some .local => true | _ => false)
        && (match ifs, c with | [], .nop => true | [t], c => okT N (relS scope sc) t c | _, _ => false) && okE N (relS scope sc) elt e'
    | _ => false
  | _ => false
def okEs (N : List Str) (sc : Scope) (es : List Expr) : E → Bool
  | .nil => match es with
    | [] => true
    | _ => false
  | .cons a as => match es with
    | x :: xs => okE N sc x a && okEs N sc xs as
    | _ => false
  | _ => false
def okT (N : List Str) (sc : Scope) (e : Expr) : E → Bool
  | .tst a => okE N sc e a && (match e with | .UnaryOp .Not _ _ => false | .BoolOp .. => false | .IfExp .. => false | .Compare .. => false | _ => true)
  | .tcmp o a b => match e with
    | .Compare x [p] [y] _ => decide (p = coP o) && okE N sc x a && okE N sc y b
    | _ => false
  | .tnot t => match e with
    | .UnaryOp .Not x _ => okT N sc x t
    | _ => false
  | .tbop k a r => match e with
    | .BoolOp .And (x :: y :: xs) p => k && okT N sc x a && okT N sc (.BoolOp .And (y :: xs) p) r
    | .BoolOp .Or (x :: y :: xs) p => !k && okT N sc x a && okT N sc (.BoolOp .Or (y :: xs) p) r
    | _ => false
  | .tbone k a => match e with
    | .BoolOp .And [x] _ => k && okT N sc x a
    | .BoolOp .Or [x] _ => !k && okT N sc x a
    | _ => false
  | _ => false
def okI (N : List Str) (sc : Scope) (e : Expr) : E → Bool
  | .itv a => okE N sc e a && (match e with | .Set .. => false | _ => true)
  | .ir1 a => match e with
    | .Call (.Name x _) [y] [] _ => decide (x = "range") && glB sc x && okE N sc y a
    | _ => false
  | .ir2 a b => match e with
    | .Call (.Name x _) [y, z] [] _ => decide (x = "range") && glB sc x && okE N sc y a && okE N sc z b
    | _ => false
  | .ir3 a b c => match e with
    | .Call (.Name x _) [y, z, .Constant (.int k) _ _] [] _ => decide (x = "range") && glB sc x && okE N sc y a && okE N sc z b && decide (k = c)
    | .Call (.Name x _) [y, z, .UnaryOp .USub (.Constant (.int k) _ _) _] [] _ => decide (x = "range") && glB sc x && okE N sc y a && okE N sc z b && decide (-k = c)
    | _ => false
  | _ => false
def okO (N : List Str) (sc : Scope) (e : Option Expr) : E → Bool
  | .nop => match e with
    | none => true
    | _ => false
  | .sop a => match e with
    | some x => okE N sc x a
    | none => false
  | _ => false
end
end
end PD

/-! PD3: expressions: what stands in the text runs as told. -/
namespace PD
open PySem PySem.Spec PyProof.Rows L2

/-! ### what a def promises -/
def RetR (K : Fg) (H H' : Hp) (v : V) (d : D) : Prop :=
  (lf d = true ∧ Rp K (fun _ => False) H' v d) ∨
    (∃ ds a vs, d = .list ds ∧ lfAll ds = true ∧ v = .ref a ∧ H a = none ∧ H' a = some (.lst vs) ∧ RpAll K (fun _ => False) H' vs ds) ∨
    ∃ l a, d = dD l ∧ v = .ref a ∧ H a = none ∧ H' a = some (.dT (dV l))
def spD (K : Fg) (xa : Nat → Addr) (n : Nat) (g : List D → Res D) : Sp := fun vs H Q E =>
  vs.length = n ∧ ∃ ds, RpAll K (fun _ => False) H vs ds ∧ match g ds with
    | .ok d => ∀ v H', Same H H' → RetR K H H' v d → Q v H'
    | .ex c => ∀ H', Same H H' → E (.ref (xa c)) none H'
    | .st => False
/-- what a division of great numbers wants of the frame -/
structure PyG (X : Cx) : Prop where
  ns : X.base.NoSeer
  tr : X.prog.given.tree = none
  dp : X.A.depth + 100 < recursionLimit
  stk : ∃ e l, X.stack = e :: l ∧ e.scope.isGenerator = false ∧ e.scope.isCoroutine = false ∧ e.builtins = builtinsNs ∧ e.globals = mainGlobals
theorem PyG.room {X : Cx} (p : PyG X) {pins : List (Addr × Obj)} {σ : L2.St} {H : Hp} {s : Shared} (I : Inv X pins σ H s) : PySem.PylongRoom (model X.prog X.w) X.A s := by
  obtain ⟨e, l, h1, h2, h3, h4, h5⟩ := p.stk
  exact PySem.PylongRoom.of I.nolimit p.dp (PySem.SeerAt.of (p.ns.keeps I.bk) p.tr (by rw [I.ok.frames, h1]) h2 h3 h4 h5)
structure GX (T : Tb) (M : Nm) (xa : Nat → Addr) (X : Cx) (W : WX) : Prop where
  calm : X.calm = true
  nd : X.N.Nodup
  blt : ∀ x ∈ bltNames, X.mg x = none
  lv : ∃ k, Room k X.A ∧ 3 ≤ k ∧ ∀ f y n, M.fn f = some (y, n) → ∃ a fd ps, X.mg y = some (.ref a) ∧ PySem.W.keepIn X.K (.ref a) = true ∧ L2.Binds X.K fd ps [] ∧
    FnOk X.prog X.w X.K X.mg X.base (L2N.CX X.prog X.w) k a fd ps (spD X.K xa n (T.G f))
  gl : ∀ g y, M.gl g = some y → ∃ v u d, X.mg y = some u ∧ RelV v u ∧ T.gl g = some d ∧ ∀ A H, Rp X.K A H v d
  tk : L2N.Takes X W
  py : PyG X
  hx : M.hx = true → X.mg "ValueError" = none ∧ ∀ c, ExcC X.K (xa c) ∧ PySem.W.kitOne X.K (.ref (xa c)) (.type "ValueError") = some true ∧ ∀ j y, M.ex j = some y → PySem.W.kitOne X.K (.ref (xa c)) (.ref (xa j)) = some (subX c j)
  exm : ∀ j y, M.ex j = some y → X.mg y = some (.ref (xa j))
  exn : ∀ (c : Nat) (n : Str), T.ex[c]? = some n → PySem.W.nsIn X.K mainGlobals n = some (some (.ref (xa c)))

/-! ### readings -/
def Rs {α : Type} (xc : Nat → Prop) (k : α → Prop) : Res α → Prop
  | .ok a => k a
  | .ex c => xc c
  | .st => False
theorem Rs.bind {α β : Type} {xc : Nat → Prop} {k : β → Prop} {r : Res α} {f : α → Res β} (h : Rs xc k (r.bind f)) : Rs xc (fun a => Rs xc k (f a)) r := by
  cases r <;> exact h
theorem Rs.imp {α : Type} {xc : Nat → Prop} {k k' : α → Prop} {r : Res α} (h : Rs xc k r) (f : ∀ a, k a → k' a) : Rs xc k' r := by
  cases r with
  | ok a => exact f a h
  | ex c => exact h
  | st => exact h
def XH (K : Fg) (xa : Nat → Addr) (W : WX) (B : Addr → Prop) (old : Old) (η : Env) (c : Nat) : Prop := ∀ O σ H, ER K B old O H σ η → W (.ref (xa c)) none σ H
section
variable (T : Tb) (M : Nm) (xa : Nat → Addr) (X : Cx) (W : WX)
def Snd (t : TE) (f : Env → Res Val) : Prop := ∀ B old O σ H η Q, ER X.K B old O H σ η →
  Rs (XH X.K xa W B old η) (fun x => ∀ v H', Same H H' → VR X.K B O H H' v x → Q v H') (f η) → t σ H Q
def VRs (K : Fg) (B : Addr → Prop) (O : Ow) (H H' : Hp) : List V → List Val → Prop
  | [], [] => True
  | v :: vs, x :: xs => VR K B O H H' v x ∧ VRs K B O H H' vs xs
  | _, _ => False
def SndA (t : TA) (f : Env → Res (List Val)) : Prop := ∀ B old O σ H η Q, ER X.K B old O H σ η →
  Rs (XH X.K xa W B old η) (fun xs => ∀ vs H', Same H H' → VRs X.K B O H H' vs xs → Q vs H') (f η) → t σ H Q
def SndT (t : TT) (f : Env → Res Bool) : Prop := ∀ B old O σ H η Q, ER X.K B old O H σ η →
  Rs (XH X.K xa W B old η) (fun b => ∀ H', Same H H' → Q b H') (f η) → t σ H Q
def SndO (t : TO) (f : Env → Res (Option Int)) : Prop := ∀ B old O σ H η Q, ER X.K B old O H σ η →
  Rs (XH X.K xa W B old η) (fun b => ∀ H', Same H H' → Q b H') (f η) → t σ H Q
def WkR (K : Fg) (B : Addr → Prop) (O : Ow) (H H' : Hp) (J : It) : Wk → Prop
  | .v x => ∃ a, VR K B O H H' (.ref a) x ∧ ((∃ ds, x.d = .list ds ∧ J = Itl K a) ∨ (∃ ds, x.d = .tuple ds ∧ J = Itt K a))
  | .r lo n => J = Itr lo n
  | .c lo s n => J = Itc lo s n
def SndI (t : TI) (f : Env → Res Wk) : Prop := ∀ B old O σ H η R, ER X.K B old O H σ η →
  Rs (XH X.K xa W B old η) (fun w => ∀ J H', Same H H' → WkR X.K B O H H' J w → R J H') (f η) → t σ H R
end

/-! ### operations by values -/
structure OB (O : Ow) (B : Addr → Prop) (H : Hp) : Prop where
  l : ∀ i a, O i = some a → H a ≠ none
  b : ∀ a, B a → H a ≠ none
section
variable {K : Fg} {B : Addr → Prop} {old : Old} {O : Ow} {H H0 H1 H' H'' : Hp} {σ : L2.St} {η : Env}
theorem ER.ob (r : ER K B old O H σ η) : OB O B H := ⟨fun _ _ e => r.lst e, r.bt⟩
theorem OB.ext (r : OB O B H) (s : Same H H') : OB O B H' := ⟨own_old r.l s, fun a h z => r.b a h (s.free z)⟩
/-- a new list of what is at hand -/
theorem mkNew {p : Addr} {vs : List V} {ds : List D} (s : Same H0 H) (hp : H p = none) (r : RpAll K (Own O B) H vs ds) : VR K B O H0 (upd H p (.lst vs)) (.ref p) (.nw ds) :=
  ⟨p, vs, rfl, s.free hp, upd_same, r.ca (Ca.more (same_upd hp) fun a z => z.elim .inl fun q => .inr (q ▸ hp))⟩
theorem mkTup {p : Addr} {vs : List V} {ds : List D} (hp : H p = none) (r : RpAll K (Own O B) H vs ds) : VR K B O H0 (upd H p (.tup vs)) (.ref p) (.cl (.tuple ds)) :=
  .tup (SqT.of upd_same) (r.ca (Ca.grow (same_upd hp)))
/-- a new or an owned list -/
theorem VR.lsD {v : V} {x : Val} {ds : List D} (r : VR K B O H0 H v x) (e : x.ls = some ds) : ∃ a vs, v = .ref a ∧ H a = some (.lst vs) ∧ RpAll K (Own O B) H vs ds := by
  cases x with
  | cl d => cases e
  | nw es =>
    cases e
    obtain ⟨a, vs, h1, h2, h3, h4⟩ := r
    exact ⟨a, vs, h1, h3, h4.ca (Ca.less fun _ z => .inl z)⟩
  | br i es =>
    cases e
    obtain ⟨a, vs, h1, h2, h3, h4⟩ := r
    exact ⟨a, vs, h2, h3, h4⟩
  | nd l => cases e
  | bd i l => cases e
/-- its items, whatever it is -/
theorem VR.seqD {v : V} {x : Val} {ds : List D} (r : VR K B O H0 H v x) (e : x.d.seq = some ds) : ∃ a vs, v = .ref a ∧ RpAll K (Own O B) H vs ds ∧
    ((x.d = .list ds ∧ SqL K H a vs) ∨ (x.d = .tuple ds ∧ x = .cl (.tuple ds) ∧ SqT K H a vs)) := by
  cases x with
  | cl d =>
    cases d with
    | list es =>
      cases e
      cases r with
      | lst h q => exact ⟨_, _, rfl, q, .inl ⟨rfl, h.sq⟩⟩
    | tuple es =>
      cases e
      cases r with
      | tup h q => exact ⟨_, _, rfl, q, .inr ⟨rfl, rfl, h⟩⟩
    | none => cases e
    | bool b => cases e
    | int i => cases e
    | str s => cases e
    | dict kvs => cases e
  | nw es =>
    cases e
    obtain ⟨a, vs, h1, h3, h4⟩ := VR.lsD r rfl
    exact ⟨a, vs, h1, h4, .inl ⟨rfl, SqL.of h3⟩⟩
  | br i es =>
    cases e
    obtain ⟨a, vs, h1, h3, h4⟩ := VR.lsD r rfl
    exact ⟨a, vs, h1, h4, .inl ⟨rfl, SqL.of h3⟩⟩
  | nd l => cases e
  | bd i l => cases e
theorem VR.int {v : V} {i : Int} (r : VR K B O H0 H v (.cl (.int i))) : v = .int i := by cases r; rfl
theorem VR.bool {v : V} {i : Bool} (r : VR K B O H0 H v (.cl (.bool i))) : v = .bl i := by cases r; rfl
theorem VR.str {v : V} {i : Str} (r : VR K B O H0 H v (.cl (.str i))) : v = .str i := by cases r; rfl
theorem VR.non {v : V} (r : VR K B O H0 H v (.cl .none)) : v = .non := by cases r; rfl
theorem VR.mkInt (i : Int) : VR K B O H0 H (.int i) (.cl (.int i)) := Rp.int i
theorem VR.mkBool (i : Bool) : VR K B O H0 H (.bl i) (.cl (.bool i)) := Rp.bl i
theorem VR.mkStr (i : Str) : VR K B O H0 H (.str i) (.cl (.str i)) := Rp.str i

/-- a two-place rule that does what g tells -/
def R2S (K : Fg) (g : Val → Val → Res Val) (r : R2) : Prop := ∀ B O H0 H x y vx vy Q (xc : Nat → Prop), OB O B H0 → Same H0 H → VR K B O H0 H vx x → VR K B O H0 H vy y →
  Rs xc (fun z => ∀ v H', Same H H' → VR K B O H0 H' v z → Q v H') (g x y) → r vx vy H Q
end
theorem OpR.or {X : Cx} {f : Value → Value → Sem Value} {r r' : R2} (h : OpR X f r) (h' : OpR X f r') : OpR X f (fun x y H Q => r x y H Q ∨ r' x y H Q) := by
  intro pins s σ H x y v u Q I rx ry q
  rcases q with q | q
  · exact h pins s σ H x y v u Q I rx ry q
  · exact h' pins s σ H x y v u Q I rx ry q
theorem sz : sizeLine = big := by rw [sizeLine_eq]; rfl
section
variable {X : Cx}
def CDivG (_i j : Int) : Prop := j ≠ 0
theorem op_fdivG (p : PyG X) : OpR X (binaryOp .FloorDiv) (rI CDivG fun i j => .int (i.fdiv j)) := by
  intro pins s σ H x y v u Q I rx ry h
  obtain ⟨i, j, rfl, rfl, hc, q⟩ := h
  obtain ⟨t, rfl⟩ := rx
  obtain ⟨t', rfl⟩ := ry
  exact floordiv_int hc ⟨.int (i.fdiv j), H, I.tok _, ⟨_, rfl⟩, q⟩ (.inr (p.room I))
def rAddG (K : Fg) : R2 := fun x y H Q => (rI0 (fun i j => .int (i + j)) x y H Q ∨ (fun x y H Q => ∃ i j, x = V.str i ∧ y = V.str j ∧ i.length + j.length ≤ sizeLine ∧ Q (.str (i ++ j)) H) x y H Q) ∨ (rCat x y H Q ∨ rCatT K x y H Q)
theorem op_addG : OpR X (binaryOp .Add) (rAddG X.K) := OpR.or (OpR.or op_add op_add_str) (OpR.or op_cat op_catT)
theorem mu_ok {i j : Int} (h : MuOk i j) : IntMulOk i j := by
  have b : ∀ x : Int, Builtin.Int.intBits x ≤ x.natAbs.log2 + 1 := fun x => by
    unfold Builtin.Int.intBits
    split
    · exact Nat.zero_le _
    · exact Nat.le_refl _
  have h1 := b i
  have h2 := b j
  unfold MuOk at h
  exact CMulX.ok (show (Builtin.Int.intBits i : Int) + (Builtin.Int.intBits j : Int) ≤ 134217728 by omega)
theorem op_mulB : OpR X (binaryOp .Mult) (rI MuOk fun i j => .int (i * j)) := opI fun _ _ _ _ _ _ _ hc q => mul_int q (mu_ok hc)
def rMulG : R2 := fun x y H Q => rI MuOk (fun i j => .int (i * j)) x y H Q ∨ rRep x y H Q
theorem op_mulG : OpR X (binaryOp .Mult) rMulG := OpR.or op_mulB op_rep
end
def rBo (K : Fg) : Bo → R2
  | .add => rAddG K
  | .sub => rI0 fun i j => .int (i - j)
  | .mul => rMulG
  | .fdiv => rI CDivG fun i j => .int (i.fdiv j)
  | .mod => rI (fun _ j => j ≠ 0) fun i j => .int (i.fmod j)
  | .pow => rI CPow fun i j => .int (i ^ j.toNat)
theorem op_bo {X : Cx} (p : PyG X) : ∀ o : Bo, OpR X (binaryOp (boP o)) (rBo X.K o)
  | .add => op_addG
  | .sub => op_sub
  | .mul => op_mulG
  | .fdiv => op_fdivG p
  | .mod => op_modN
  | .pow => op_pow
section
variable {K : Fg}
theorem catV_ok : R2S K catV (rAddG K) := by
  intro B O H0 H x y vx vy Q xc ob s rx ry q
  unfold catV at q
  split at q
  · rename_i ds es h1 h2
    split at q
    · rename_i hz
      obtain ⟨a, vs, rfl, ha, ra⟩ := rx.lsD h1
      obtain ⟨b, ws, rfl, hb, rb⟩ := ry.lsD h2
      refine .inr (.inl ⟨a, b, vs, ws, rfl, rfl, ha, hb, ?_, fun p hp => q _ _ (same_upd hp) (mkNew s hp (ra.append rb))⟩)
      rw [ra.length, rb.length, sz]
      exact hz
    · exact q.elim
  · split at q
    · rename_i ds es _
      split at q
      · rename_i hz
        cases rx with
        | tup hx ra =>
          cases ry with
          | tup hy rb =>
            rename_i a vs b ws
            have hv : vs ≠ [] := fun z => hz.2 (by
              have := ra.length
              rw [z] at this
              exact List.eq_nil_of_length_eq_zero this.symm)
            refine .inr (.inr ⟨a, b, vs, ws, rfl, rfl, hx, hy, hv, ?_, fun hw => ?_, fun hw p hp => ?_⟩)
            · rw [ra.length, rb.length, sz]
              exact hz.1
            · subst hw
              cases rb
              rw [List.append_nil] at q
              exact q _ _ (Same.refl H) (Rp.tup hx ra)
            · exact q _ _ (same_upd hp) (mkTup hp (ra.append rb))
      · exact q.elim
    · exact q.elim
theorem bo_ok : ∀ o : Bo, R2S K (binV o) (rBo K o)
  | .add => by
    intro B O H0 H x y vx vy Q xc ob s rx ry q
    change Rs xc _ (addV x y) at q
    unfold addV at q
    split at q
    · cases rx.int; cases ry.int
      exact .inl (.inl ⟨_, _, rfl, rfl, q _ _ (Same.refl H) (VR.mkInt _)⟩)
    · split at q
      · rename_i hz
        cases rx.str; cases ry.str
        exact .inl (.inr ⟨_, _, rfl, rfl, by rw [sz]; exact hz, q _ _ (Same.refl H) (VR.mkStr _)⟩)
      · exact q.elim
    · exact catV_ok _ _ _ _ _ _ _ _ _ _ ob s rx ry q
  | .sub => by
    intro B O H0 H x y vx vy Q xc ob s rx ry q
    change Rs xc _ (subV x y) at q
    unfold subV at q
    split at q
    · cases rx.int; cases ry.int
      exact ⟨_, _, rfl, rfl, q _ _ (Same.refl H) (VR.mkInt _)⟩
    · exact q.elim
  | .mul => by
    intro B O H0 H x y vx vy Q xc ob s rx ry q
    change Rs xc _ (mulV x y) at q
    unfold mulV at q
    split at q
    · split at q
      · rename_i hz
        cases rx.int; cases ry.int
        exact .inl ⟨_, _, rfl, rfl, hz, q _ _ (Same.refl H) (VR.mkInt _)⟩
      · exact q.elim
    · unfold repV at q
      split at q
      · rename_i ds h1
        split at q
        · rename_i hz
          obtain ⟨a, vs, rfl, ha, ra⟩ := rx.lsD h1
          cases ry.int
          exact .inr ⟨a, _, vs, rfl, rfl, ha, hz.1, hz.2.1, by rw [ra.length, sz]; exact hz.2.2, fun p hp => q _ _ (same_upd hp) (mkNew s hp (ra.flat _))⟩
        · exact q.elim
      · exact q.elim
    · exact q.elim
  | .fdiv => by
    intro B O H0 H x y vx vy Q xc ob s rx ry q
    change Rs xc _ (fdivV x y) at q
    unfold fdivV at q
    split at q
    · split at q
      · rename_i hz
        cases rx.int; cases ry.int
        exact ⟨_, _, rfl, rfl, hz, q _ _ (Same.refl H) (VR.mkInt _)⟩
      · exact q.elim
    · exact q.elim
  | .mod => by
    intro B O H0 H x y vx vy Q xc ob s rx ry q
    change Rs xc _ (modV x y) at q
    unfold modV at q
    split at q
    · split at q
      · exact q.elim
      · rename_i hz
        cases rx.int; cases ry.int
        exact ⟨_, _, rfl, rfl, hz, q _ _ (Same.refl H) (VR.mkInt _)⟩
    · exact q.elim
  | .pow => by
    intro B O H0 H x y vx vy Q xc ob s rx ry q
    change Rs xc _ (powV x y) at q
    unfold powV at q
    split at q
    · split at q
      · rename_i hz
        cases rx.int; cases ry.int
        exact ⟨_, _, rfl, rfl, hz, q _ _ (Same.refl H) (VR.mkInt _)⟩
      · exact q.elim
    · exact q.elim

/-! ### comparisons -/
def R2B (K : Fg) (g : Val → Val → Res Bool) (r : R2) : Prop := ∀ B O H0 H x y vx vy Q (xc : Nat → Prop), OB O B H0 → Same H0 H → VR K B O H0 H vx x → VR K B O H0 H vy y →
  Rs xc (fun b => Q (.bl b) H) (g x y) → r vx vy H Q
/-- is a truth -/
def rIsX (n : Bool) : R2 := fun x y H Q => ∃ b, y = .bl b ∧ Q (.bl (if n = true then !decide (x = .bl b) else decide (x = .bl b))) H
theorem op_isX {X : Cx} : OpR X (compareOp .Is) (rIsX false) := by
  intro pins s σ H x y v u Q I rx ry h
  obtain ⟨b, rfl, q⟩ := h
  cases (show u = Value.bool b from ry)
  rw [if_neg Bool.false_ne_true] at q
  by_cases e : x = .bl b
  · subst e
    cases (show v = Value.bool b from rx)
    exact wpAny_is_self rfl ⟨.bl true, H, I, rfl, by simpa using q⟩
  · rw [decide_eq_false e] at q
    have ne : v ≠ Value.bool b := fun z => e (by have := rx.abs; rw [z] at this; exact (Option.some.inj this).symm)
    refine wpAny_is_other ?_ ne ⟨.bl false, H, I, rfl, q⟩
    cases x <;> first
      | (cases rx; rfl)
      | (obtain ⟨t, rfl⟩ := rx; rfl)
theorem op_isnotX {X : Cx} : OpR X (compareOp .IsNot) (rIsX true) := by
  intro pins s σ H x y v u Q I rx ry h
  obtain ⟨b, rfl, q⟩ := h
  cases (show u = Value.bool b from ry)
  rw [if_pos rfl] at q
  by_cases e : x = .bl b
  · subst e
    cases (show v = Value.bool b from rx)
    exact wpAny_isNot_self rfl ⟨.bl false, H, I, rfl, by simpa using q⟩
  · rw [decide_eq_false e] at q
    have ne : v ≠ Value.bool b := fun z => e (by have := rx.abs; rw [z] at this; exact (Option.some.inj this).symm)
    refine wpAny_isNot_other ?_ ne ⟨.bl true, H, I, rfl, q⟩
    cases x <;> first
      | (cases rx; rfl)
      | (obtain ⟨t, rfl⟩ := rx; rfl)
def rInT (K : Fg) : R2 := fun x y H Q => ∃ d ds, Dp K H x d ∧ Dp K H y (.tuple ds) ∧ SeqAt.shaped d = true ∧ SeqAt.shaped (.tuple ds) = true ∧ Q (.bl (ds.any fun z => PyData.eqv z d)) H
def rNotInT (K : Fg) : R2 := fun x y H Q => ∃ d ds, Dp K H x d ∧ Dp K H y (.tuple ds) ∧ SeqAt.shaped d = true ∧ SeqAt.shaped (.tuple ds) = true ∧ Q (.bl (!ds.any fun z => PyData.eqv z d)) H
theorem room_in_tuple {A : Around} {ds : List D} {d : D} (hu : A.units + 65 < cLine) (h : SeqAt.shaped d = true) : A.units + 1 + min (PyData.depthAll ds) d.depth < cLine := by
  unfold SeqAt.shaped at h
  simp only [Bool.and_eq_true, decide_eq_true_eq] at h
  have := Nat.min_le_right (PyData.depthAll ds) d.depth
  omega
theorem op_inT {X : Cx} (hu : X.A.units + 65 < cLine) : OpR X (compareOp .In) (rInT X.K) := by
  intro pins s σ H x y v u Q I rx ry h
  obtain ⟨d, ds, hd, he, sd, se, q⟩ := h
  obtain ⟨as, r1⟩ := Dp.reads I d x v hd rx
  obtain ⟨bs, r2⟩ := Dp.reads I (.tuple ds) y u he ry
  exact SeqAt.in_tuple_reads r2 r1 (by have := SeqAt.canLay_of_shaped se; simpa [PyData.canLay0] using this) (SeqAt.canLay_of_shaped sd) (room_in_tuple hu sd) ⟨.bl _, H, I, rfl, q⟩
theorem op_notInT {X : Cx} (hu : X.A.units + 65 < cLine) : OpR X (compareOp .NotIn) (rNotInT X.K) := by
  intro pins s σ H x y v u Q I rx ry h
  obtain ⟨d, ds, hd, he, sd, se, q⟩ := h
  obtain ⟨as, r1⟩ := Dp.reads I d x v hd rx
  obtain ⟨bs, r2⟩ := Dp.reads I (.tuple ds) y u he ry
  exact SeqAt.notIn_tuple_reads r2 r1 (by have := SeqAt.canLay_of_shaped se; simpa [PyData.canLay0] using this) (SeqAt.canLay_of_shaped sd) (room_in_tuple hu sd) ⟨.bl _, H, I, rfl, q⟩
def rCo (K : Fg) : Co → R2
  | .inC => fun x y H Q => rInD K x y H Q ∨ rInT K x y H Q
  | .niC => fun x y H Q => rNotInD K x y H Q ∨ rNotInT K x y H Q
  | .lt => rI0 fun i j => .bl (decide (i < j))
  | .le => rI0 fun i j => .bl (decide (i ≤ j))
  | .gt => rI0 fun i j => .bl (decide (j < i))
  | .ge => rI0 fun i j => .bl (decide (j ≤ i))
  | .eq => fun x y H Q => rEq x y H Q ∨ rEqD K x y H Q
  | .ne => fun x y H Q => rNe x y H Q ∨ rNeD K x y H Q
  | .isN => fun x y H Q => (fun x y H Q => y = V.non ∧ Q (.bl (decide (x = V.non))) H) x y H Q ∨ rIsX false x y H Q
  | .notN => fun x y H Q => (fun x y H Q => y = V.non ∧ Q (.bl (!decide (x = V.non))) H) x y H Q ∨ rIsX true x y H Q
theorem op_co {X : Cx} (hu : X.A.units + 65 < cLine) : ∀ o : Co, OpR X (compareOp (coP o)) (rCo X.K o)
  | .inC => OpR.or (op_inD hu) (op_inT hu)
  | .niC => OpR.or (op_notInD hu) (op_notInT hu)
  | .lt => op_lt
  | .le => op_le
  | .gt => op_gt
  | .ge => op_ge
  | .eq => OpR.or op_eq (op_eqD (by omega))
  | .ne => OpR.or op_ne (op_neD (by omega))
  | .isN => OpR.or op_isN op_isX
  | .notN => OpR.or op_notN op_isnotX
theorem VR.dpA {B : Addr → Prop} {O : Ow} {H0 H : Hp} {v : V} {x : Val} (r : VR K B O H0 H v x) (e : SeqAt.shaped x.d = true) : Dp K H v x.d := r.any.dp (SeqAt.canLay_of_shaped e)
theorem VR.isNon {B : Addr → Prop} {O : Ow} {H0 H : Hp} {v : V} {x : Val} (r : VR K B O H0 H v x) : decide (v = .non) = (match x.d with | .none => true | _ => false) := by
  have q := r.any
  generalize x.d = d at q
  cases q <;> simp
theorem VR.isBl {B : Addr → Prop} {O : Ow} {H0 H : Hp} {v : V} {x : Val} {b : Bool} (r : VR K B O H0 H v x) : decide (v = .bl b) = (match x.d with | .bool a => a == b | _ => false) := by
  have q := r.any
  generalize x.d = d at q
  cases q with
  | bl a => cases a <;> cases b <;> rfl
  | _ => simp
theorem eqD_ok {B : Addr → Prop} {O : Ow} {H0 H : Hp} {x y : Val} {vx vy : V} {k : Bool → Prop} {xc : Nat → Prop} (rx : VR K B O H0 H vx x) (ry : VR K B O H0 H vy y) (q : Rs xc k (eqD x.d y.d)) :
    (scal vx vy = true ∧ k (decide (vx = vy))) ∨ (∃ d e, Dp K H vx d ∧ Dp K H vy e ∧ SeqAt.shaped d = true ∧ SeqAt.shaped e = true ∧ k (PyData.eqv d e)) := by
  unfold eqD at q
  split at q
  · rename_i i j h1 h2
    have a1 := rx.any
    have a2 := ry.any
    rw [h1] at a1
    rw [h2] at a2
    cases a1; cases a2
    refine .inl ⟨rfl, ?_⟩
    have e : decide (V.int i = V.int j) = decide (i = j) := by
      by_cases z : i = j
      · subst z; simp
      · rw [decide_eq_false z, decide_eq_false (fun w => z (V.int.inj w))]
    rw [e]
    exact q
  · rename_i i j h1 h2
    have a1 := rx.any
    have a2 := ry.any
    rw [h1] at a1
    rw [h2] at a2
    cases a1; cases a2
    refine .inl ⟨rfl, ?_⟩
    have e : decide (V.str i = V.str j) = decide (i = j) := by
      by_cases z : i = j
      · subst z; simp
      · rw [decide_eq_false z, decide_eq_false (fun w => z (V.str.inj w))]
    rw [e]
    exact q
  · split at q
    · rename_i hz
      exact .inr ⟨_, _, rx.dpA hz.1, ry.dpA hz.2, hz.1, hz.2, q⟩
    · exact q.elim
theorem memD_ok {B : Addr → Prop} {O : Ow} {H0 H : Hp} {x y : Val} {vx vy : V} {k : Bool → Prop} {xc : Nat → Prop} (rx : VR K B O H0 H vx x) (ry : VR K B O H0 H vy y) (q : Rs xc k (memD x.d y.d)) :
    (∃ d ds, Dp K H vx d ∧ Dp K H vy (.list ds) ∧ SeqAt.shaped d = true ∧ SeqAt.shaped (.list ds) = true ∧ k (ds.any fun z => PyData.eqv z d)) ∨
    (∃ d ds, Dp K H vx d ∧ Dp K H vy (.tuple ds) ∧ SeqAt.shaped d = true ∧ SeqAt.shaped (.tuple ds) = true ∧ k (ds.any fun z => PyData.eqv z d)) := by
  unfold memD at q
  split at q
  · rename_i ds e
    split at q
    · rename_i hz
      exact .inl ⟨_, ds, rx.dpA hz.1, by rw [← e]; exact ry.dpA (by rw [e]; exact hz.2), hz.1, hz.2, q⟩
    · exact q.elim
  · rename_i ds e
    split at q
    · rename_i hz
      exact .inr ⟨_, ds, rx.dpA hz.1, by rw [← e]; exact ry.dpA (by rw [e]; exact hz.2), hz.1, hz.2, q⟩
    · exact q.elim
  · exact q.elim
theorem co_ok : ∀ o : Co, R2B K (cmpV o) (rCo K o) := by
  intro o B O H0 H x y vx vy Q xc ob s rx ry q
  unfold cmpV at q
  split at q
  · cases rx.int; cases ry.int
    exact ⟨_, _, rfl, rfl, q⟩
  · cases rx.int; cases ry.int
    exact ⟨_, _, rfl, rfl, q⟩
  · cases rx.int; cases ry.int
    exact ⟨_, _, rfl, rfl, q⟩
  · cases rx.int; cases ry.int
    exact ⟨_, _, rfl, rfl, q⟩
  · rcases eqD_ok rx ry q with h | h
    · exact .inl h
    · exact .inr h
  · unfold Res.map at q
    rcases eqD_ok rx ry q.bind with h | h
    · exact .inl h
    · exact .inr h
  · rcases memD_ok rx ry q with h | h
    · exact .inl h
    · exact .inr h
  · unfold Res.map at q
    rcases memD_ok rx ry q.bind with h | h
    · exact .inl h
    · exact .inr h
  · cases ry.non
    refine .inl ⟨rfl, ?_⟩
    rw [rx.isNon]
    exact q
  · cases ry.non
    refine .inl ⟨rfl, ?_⟩
    rw [rx.isNon]
    have e : (!(match x.d with | .none => true | _ => false)) = (match x.d with | .none => false | _ => true) := by cases x.d <;> rfl
    rw [e]
    exact q
  · cases ry.bool
    refine .inr ⟨_, rfl, ?_⟩
    rw [rx.isBl]
    exact q
  · cases ry.bool
    refine .inr ⟨_, rfl, ?_⟩
    rw [rx.isBl]
    have e : ∀ b : Bool, (if true = true then !(match x.d with | .bool a => a == b | _ => false) else (match x.d with | .bool a => a == b | _ => false)) = (match x.d with | .bool a => !(a == b) | _ => true) := fun b => by cases x.d <;> rfl
    rw [e]
    exact q
  · exact q.elim

/-! ### places, cuts -/
theorem atI_rp {A : Addr → Prop} {H : Hp} {vs : List V} {ds : List D} {i : Int} {d : D} (r : RpAll K A H vs ds) (h : atI ds i = some d) : ∃ v, atI vs i = some v ∧ Rp K A H v d := by
  unfold atI at h ⊢
  rw [r.length]
  cases e : ixN ds.length i with
  | none => rw [e] at h; cases h
  | some j =>
    rw [e] at h
    exact r.get h
theorem oOk_ok {α : Type} {k : α → Prop} {xc : Nat → Prop} {o : Option α} (q : Rs xc k (oOk o)) : ∃ a, o = some a ∧ k a := by
  cases o with
  | none => exact q.elim
  | some a => exact ⟨a, rfl, q⟩
theorem idx_ok : R2S K idxV (fun x y H Q => rIx K x y H Q) := by
  intro B O H0 H x y vx vy Q xc ob s rx ry q
  unfold idxV at q
  split at q
  · rename_i ds k h1
    obtain ⟨d, e, q⟩ := oOk_ok q.bind
    cases ry.int
    obtain ⟨a, vs, rfl, ra, hk⟩ := rx.seqD h1
    obtain ⟨v, e2, rv⟩ := atI_rp ra e
    have q' := q _ _ (Same.refl H) rv
    rcases hk with ⟨_, hs⟩ | ⟨_, _, hs⟩
    · exact .inl ⟨a, vs, k, v, rfl, rfl, hs, e2, q'⟩
    · exact .inr (.inl ⟨a, vs, k, v, rfl, rfl, hs, e2, q'⟩)
  · exact q.elim
theorem cut_rp {A : Addr → Prop} {H : Hp} {vs : List V} {ds : List D} (r : RpAll K A H vs ds) (lo hi : Option Int) : RpAll K A H (cutV vs lo hi) (cutD ds lo hi) := by
  unfold cutV cutD
  rw [r.length]
  exact (r.drop _).take _
def SlS (K : Fg) (g : Val → Option Int → Option Int → Res Val) (r : V → Option Int → Option Int → Hp → VK → Prop) : Prop := ∀ B O H0 H x vx lo hi Q (xc : Nat → Prop), OB O B H0 → Same H0 H → VR K B O H0 H vx x →
  Rs xc (fun z => ∀ v H', Same H H' → VR K B O H0 H' v z → Q v H') (g x lo hi) → r vx lo hi H Q
def rSlG (K : Fg) : V → Option Int → Option Int → Hp → VK → Prop := fun x lo hi H Q => rSlL K x lo hi H Q ∨ rSlA K x lo hi H Q
theorem sl_g {X : Cx} : L2.SlR X (rSlG X.K) := L2.SlR.or sl_list sl_tupA
theorem sl_ok : SlS K slV (rSlG K) := by
  intro B O H0 H x vx lo hi Q xc ob s rx q
  unfold slV at q
  split at q
  · rename_i ds h1
    obtain ⟨a, vs, rfl, ra, hk⟩ := rx.seqD (ds := ds) (by rw [h1]; rfl)
    rcases hk with ⟨_, hs⟩ | ⟨h2, _, hs⟩
    · exact .inl ⟨a, vs, rfl, hs, fun p hp => q _ _ (same_upd hp) (mkNew s hp (cut_rp ra lo hi))⟩
    · rw [h1] at h2; cases h2
  · rename_i ds h1
    obtain ⟨a, vs, rfl, ra, hk⟩ := rx.seqD (ds := ds) (by rw [h1]; rfl)
    rcases hk with ⟨h2, hs⟩ | ⟨_, _, hs⟩
    · rw [h1] at h2; cases h2
    · refine .inr ⟨a, vs, rfl, hs, fun hw => q _ _ (Same.refl H) ?_, fun _ p hp => q _ _ (same_upd hp) (mkTup hp (cut_rp ra lo hi))⟩
      have e : cutD ds lo hi = ds := by
        rw [ra.length] at hw
        unfold cutD
        rw [hw.1, hw.2]
        simp
      rw [e]
      exact .tup hs ra
  · exact q.elim

/-! ### truth, isinstance -/
theorem tru_ok' {A : Addr → Prop} {H : Hp} {v : V} {d : D} {k : Bool → Prop} {xc : Nat → Prop} (r : Rp K A H v d) (q : Rs xc k (truD d)) : ∃ b, TruV K v H b ∧ k b := by
  cases r with
  | non => exact ⟨_, rfl, q⟩
  | bl b => exact ⟨_, rfl, q⟩
  | int i => exact ⟨_, rfl, q⟩
  | str x =>
    unfold truD at q
    dsimp only at q
    split at q
    · rename_i hz
      exact ⟨_, ⟨by rw [sz]; exact hz, rfl⟩, q⟩
    · exact q.elim
  | lst h ra =>
    rename_i a vs ds
    refine ⟨_, .inl ⟨vs, h.sq, rfl⟩, ?_⟩
    have e : vs.isEmpty = ds.isEmpty := by cases ra <;> rfl
    rw [e]
    exact q
  | tup h ra =>
    rename_i a vs ds
    refine ⟨_, .inr (.inl ⟨vs, h, rfl⟩), ?_⟩
    have e : vs.isEmpty = ds.isEmpty := by cases ra <;> rfl
    rw [e]
    exact q
  | exc h e => exact q.elim
  | dct n h => exact q.elim
def tyS : Ty → String
  | .int => "int"
  | .bool => "bool"
  | .str => "str"
  | .tuple => "tuple"
  | .list => "list"
theorem kit_none : ∀ t : Ty, kitB "NoneType" (tyS t) = some false := by
  intro t
  cases t <;> decide +kernel
theorem kit_bool : ∀ t : Ty, kitB "bool" (tyS t) = some (match t with | .bool => true | .int => true | _ => false) := by
  intro t
  cases t <;> decide +kernel
theorem kit_int : ∀ t : Ty, kitB "int" (tyS t) = some (match t with | .int => true | _ => false) := by
  intro t
  cases t <;> decide +kernel
theorem kit_str : ∀ t : Ty, kitB "str" (tyS t) = some (match t with | .str => true | _ => false) := by
  intro t
  cases t <;> decide +kernel
theorem kit_list : ∀ t : Ty, kitB "list" (tyS t) = some (match t with | .list => true | _ => false) := by
  intro t
  cases t <;> decide +kernel
theorem kit_tuple : ∀ t : Ty, kitB "tuple" (tyS t) = some (match t with | .tuple => true | _ => false) := by
  intro t
  cases t <;> decide +kernel
theorem tyx_l {H : Hp} {a : Addr} {xs : List V} (h : SqL K H a xs) : TyX K H (.ref a) (.type "list") := by
  rcases h with (h | ⟨o, h⟩) | ⟨o, _, _, h, c, _⟩
  · exact .base (.lst h)
  · exact .base (.frz h)
  · exact .kList h c
theorem tyx_t {H : Hp} {a : Addr} {xs : List V} (h : SqT K H a xs) : TyX K H (.ref a) (.type "tuple") := by
  rcases h with (h | ⟨o, h⟩) | ⟨o, _, _, h, c, _⟩
  · exact .base (.tup h)
  · exact .fTuple h
  · exact .kTuple h c
theorem isi_ok {A : Addr → Prop} {H : Hp} {v : V} {d : D} {t : Ty} {Q : VK} {xc : Nat → Prop} (r : Rp K A H v d) (q : Rs xc (fun b => Q (.bl b) H) (isiD d t)) : rIsi K [v, .ty (tyS t)] H Q := by
  cases r with
  | non => exact ⟨_, _, _, _, _, rfl, .ty _, .base .non, kit_ty (kit_none t), q⟩
  | bl b => exact ⟨_, _, _, _, _, rfl, .ty _, .base (.bl b), kit_ty (kit_bool t), q⟩
  | int i => exact ⟨_, _, _, _, _, rfl, .ty _, .base (.int i), kit_ty (kit_int t), q⟩
  | str x => exact ⟨_, _, _, _, _, rfl, .ty _, .base (.str x), kit_ty (kit_str t), q⟩
  | lst h ra => exact ⟨_, _, _, _, _, rfl, .ty _, tyx_l h.sq, kit_ty (kit_list t), q⟩
  | tup h ra => exact ⟨_, _, _, _, _, rfl, .ty _, tyx_t h, kit_ty (kit_tuple t), q⟩
  | exc h e => exact q.elim
  | dct n h => exact q.elim

/-! ### built-ins -/
def BiS (K : Fg) (g : List Val → Res Val) (r : List V → Hp → VK → Prop) : Prop := ∀ B O H0 H xs vs Q (xc : Nat → Prop), OB O B H0 → Same H0 H → VRs K B O H0 H vs xs →
  Rs xc (fun z => ∀ v H', Same H H' → VR K B O H0 H' v z → Q v H') (g xs) → r vs H Q
def rBi (K : Fg) : Bi → List V → Hp → VK → Prop
  | .len => fun xs H Q => (∃ p ys, xs = [.ref p] ∧ (SqL K H p ys ∨ SqT K H p ys) ∧ Q (.int ys.length) H) ∨ ∃ z, xs = [.str z] ∧ z.length ≤ sizeLine ∧ Q (.int z.length) H
  | .abs => fun xs H Q => ∃ i, xs = [.int i] ∧ Q (.int (if i < 0 then -i else i)) H
  | .max2 => fun xs H Q => ∃ i j, xs = [.int i, .int j] ∧ Q (.int (if j > i then j else i)) H
  | .min2 => fun xs H Q => ∃ i j, xs = [.int i, .int j] ∧ Q (.int (if j < i then j else i)) H
  | .int1 => fun xs H Q => (∃ i, xs = [.int i] ∧ Q (.int i) H) ∨ ∃ k, xs = [.bl k] ∧ Q (.int (if k then 1 else 0)) H
  | .tuple1 => fun xs H Q => ∃ a ys, xs = [.ref a] ∧ ((SqL K H a ys ∧ ∀ l, H l = none → Q (.ref l) (upd H l (.tup ys))) ∨ (SqT K H a ys ∧ Q (.ref a) H))
  | .list1 => fun xs H Q => ∃ p ys, xs = [.ref p] ∧ (SqL K H p ys ∨ SqT K H p ys) ∧ ∀ l, H l = none → Q (.ref l) (upd H l (.lst ys))
  | .all1 => rAll K
  | .any1 => rAny K
  | .max1 => rMax K
def biVal : Bi → Value
  | .len => .builtin "len"
  | .abs => .builtin "abs"
  | .max2 => .builtin "max"
  | .min2 => .builtin "min"
  | .int1 => .type "int"
  | .tuple1 => .type "tuple"
  | .list1 => .type "list"
  | .all1 => .builtin "all"
  | .any1 => .builtin "any"
  | .max1 => .builtin "max"
theorem bi_call {X : Cx} (hc : X.calm = true) : ∀ b : Bi, CallR X (biVal b) (rBi X.K b)
  | .len => CallR.or call_len_seq call_len_str
  | .abs => call_abs
  | .max2 => call_max2 hc
  | .min2 => call_min2 hc
  | .int1 => call_int1
  | .tuple1 => call_tuple_of
  | .list1 => call_list_of
  | .all1 => cr_all hc
  | .any1 => cr_any hc
  | .max1 => cr_max hc
theorem bools_vals {A : Addr → Prop} {H : Hp} : ∀ {vs : List V} {ds : List D} {bs : List Bool}, RpAll K A H vs ds → boolsOf ds = some bs → vs = bs.map V.bl
  | _, _, _, .nil, e => by
    unfold boolsOf at e
    cases e
    rfl
  | _, _, bs, .cons r t, e => by
    cases r with
    | bl b =>
      unfold boolsOf at e
      rename_i vs ds
      cases z : boolsOf ds with
      | none => rw [z] at e; cases e
      | some cs =>
        rw [z] at e
        cases e
        rw [bools_vals t z]
        rfl
    | _ => unfold boolsOf at e; cases e
theorem ints_of {A : Addr → Prop} {H : Hp} : ∀ {vs : List V} {ds : List D} {ns : List Int}, RpAll K A H vs ds → intsOf ds = some ns → vs = ns.map V.int
  | _, _, _, .nil, e => by
    unfold intsOf at e
    cases e
    rfl
  | _, _, ns, .cons r t, e => by
    cases r with
    | int i =>
      unfold intsOf at e
      rename_i vs ds
      cases z : intsOf ds with
      | none => rw [z] at e; cases e
      | some cs =>
        rw [z] at e
        cases e
        rw [ints_of t z]
        rfl
    | _ => unfold intsOf at e; cases e
theorem VRs.one {B : Addr → Prop} {O : Ow} {H0 H : Hp} {vs : List V} {x : Val} (r : VRs K B O H0 H vs [x]) : ∃ v, vs = [v] ∧ VR K B O H0 H v x := by
  cases vs with
  | nil => exact r.elim
  | cons v vs =>
    cases vs with
    | nil => exact ⟨v, rfl, r.1⟩
    | cons w ws => exact r.2.elim
theorem VRs.two {B : Addr → Prop} {O : Ow} {H0 H : Hp} {vs : List V} {x y : Val} (r : VRs K B O H0 H vs [x, y]) : ∃ v w, vs = [v, w] ∧ VR K B O H0 H v x ∧ VR K B O H0 H w y := by
  cases vs with
  | nil => exact r.elim
  | cons v vs =>
    obtain ⟨w, e, h⟩ := VRs.one r.2
    exact ⟨v, w, by rw [e], r.1, h⟩
theorem bi_ok : ∀ b : Bi, BiS K (biV b) (rBi K b) := by
  intro b B O H0 H xs vs Q xc ob s r q
  unfold biV at q
  split at q
  · obtain ⟨v, rfl, rx⟩ := r.one
    split at q
    · rename_i ds h1
      obtain ⟨a, ws, rfl, ra, hk⟩ := rx.seqD (ds := ds) (by rw [h1]; rfl)
      refine .inl ⟨a, ws, rfl, ?_, ?_⟩
      · rcases hk with ⟨_, h⟩ | ⟨_, _, h⟩
        · exact .inl h
        · exact .inr h
      · rw [ra.length]
        exact q _ _ (Same.refl H) (VR.mkInt _)
    · rename_i ds h1
      obtain ⟨a, ws, rfl, ra, hk⟩ := rx.seqD (ds := ds) (by rw [h1]; rfl)
      refine .inl ⟨a, ws, rfl, ?_, ?_⟩
      · rcases hk with ⟨_, h⟩ | ⟨_, _, h⟩
        · exact .inl h
        · exact .inr h
      · rw [ra.length]
        exact q _ _ (Same.refl H) (VR.mkInt _)
    · rename_i z h1
      split at q
      · rename_i hz
        have a1 := rx.any
        rw [h1] at a1
        cases a1
        exact .inr ⟨z, rfl, by rw [sz]; exact hz, q _ _ (Same.refl H) (VR.mkInt _)⟩
      · exact q.elim
    · exact q.elim
  · obtain ⟨v, rfl, rx⟩ := r.one
    cases rx.int
    rename_i i
    refine ⟨i, rfl, ?_⟩
    have e : (if i < 0 then -i else i) = (i.natAbs : Int) := by split <;> omega
    rw [e]
    exact q _ _ (Same.refl H) (VR.mkInt _)
  · obtain ⟨v, w, rfl, rx, ry⟩ := r.two
    cases rx.int; cases ry.int
    rename_i i j
    refine ⟨i, j, rfl, ?_⟩
    have e : (if j > i then j else i) = max i j := by rw [Int.max_def]; split <;> split <;> omega
    rw [e]
    exact q _ _ (Same.refl H) (VR.mkInt _)
  · obtain ⟨v, w, rfl, rx, ry⟩ := r.two
    cases rx.int; cases ry.int
    rename_i i j
    refine ⟨i, j, rfl, ?_⟩
    have e : (if j < i then j else i) = min i j := by rw [Int.min_def]; split <;> split <;> omega
    rw [e]
    exact q _ _ (Same.refl H) (VR.mkInt _)
  · obtain ⟨v, rfl, rx⟩ := r.one
    cases rx.int
    exact .inl ⟨_, rfl, q _ _ (Same.refl H) (VR.mkInt _)⟩
  · obtain ⟨v, rfl, rx⟩ := r.one
    cases rx.bool
    exact .inr ⟨_, rfl, q _ _ (Same.refl H) (VR.mkInt _)⟩
  · obtain ⟨v, rfl, rx⟩ := r.one
    split at q
    · cases rx with
      | tup h ra => exact ⟨_, _, rfl, .inr ⟨h, q _ _ (Same.refl H) (Rp.tup h ra)⟩⟩
    · rename_i ds h0 h1
      obtain ⟨a, ws, rfl, ra, hk⟩ := rx.seqD (ds := ds) (by rw [h1]; rfl)
      rcases hk with ⟨_, h⟩ | ⟨h2, _, h⟩
      · exact ⟨a, ws, rfl, .inl ⟨h, fun l hl => q _ _ (same_upd hl) (mkTup hl ra)⟩⟩
      · rw [h1] at h2; cases h2
    · exact q.elim
  · obtain ⟨v, rfl, rx⟩ := r.one
    obtain ⟨ds, h1, q⟩ := oOk_ok q.bind
    obtain ⟨a, ws, rfl, ra, hk⟩ := rx.seqD h1
    refine ⟨a, ws, rfl, ?_, fun l hl => q _ _ (same_upd hl) (mkNew s hl ra)⟩
    rcases hk with ⟨_, h⟩ | ⟨_, _, h⟩
    · exact .inl h
    · exact .inr h
  · obtain ⟨v, rfl, rx⟩ := r.one
    split at q
    · rename_i ds h1
      obtain ⟨bs, h2, q⟩ := oOk_ok q.bind
      obtain ⟨a, ws, rfl, ra, hk⟩ := rx.seqD (ds := ds) (by rw [h1]; rfl)
      rcases hk with ⟨_, h⟩ | ⟨h3, _, h⟩
      · rw [bools_vals ra h2] at h
        exact ⟨a, bs, rfl, h, q _ _ (Same.refl H) (VR.mkBool _)⟩
      · rw [h1] at h3; cases h3
    · exact q.elim
  · obtain ⟨v, rfl, rx⟩ := r.one
    split at q
    · rename_i ds h1
      obtain ⟨bs, h2, q⟩ := oOk_ok q.bind
      obtain ⟨a, ws, rfl, ra, hk⟩ := rx.seqD (ds := ds) (by rw [h1]; rfl)
      rcases hk with ⟨_, h⟩ | ⟨h3, _, h⟩
      · rw [bools_vals ra h2] at h
        exact ⟨a, bs, rfl, h, q _ _ (Same.refl H) (VR.mkBool _)⟩
      · rw [h1] at h3; cases h3
    · exact q.elim
  · obtain ⟨v, rfl, rx⟩ := r.one
    split at q
    · rename_i ds h1
      obtain ⟨ns, h2, q⟩ := oOk_ok q.bind
      obtain ⟨m, h3, q⟩ := oOk_ok q.bind
      obtain ⟨a, ws, rfl, ra, hk⟩ := rx.seqD (ds := ds) (by rw [h1]; rfl)
      rcases hk with ⟨_, h⟩ | ⟨h4, _, h⟩
      · rw [ints_of ra h2] at h
        refine ⟨a, ns, rfl, h, ?_, fun M m1 m2 => ?_⟩
        · cases ns with
          | nil => cases h3
          | cons i l => exact Nat.succ_pos _
        · rw [maxL_uniq h3 m1 m2]
          exact q _ _ (Same.refl H) (VR.mkInt _)
      · rw [h1] at h4; cases h4
    · exact q.elim
  · exact q.elim
end
end PD

/-! PDT: a[::-1], a *= b. -/
namespace PD
open PySem PySem.Spec PyProof.Rows L2 PyProof
section
variable {prog : Program} {w : World} {A : Around} {E : Value → Shared → Prop} {s : Shared}
theorem adjust_rev (n : Nat) : Builtin.Slice.sliceAdjust none none (-1) (n : Int) = ((n : Int) - 1, -1) := by
  unfold Builtin.Slice.sliceAdjust
  rfl
theorem places_rev (n : Nat) : Builtin.Slice.slicePlaces ((n : Int) - 1) (-1) (-1) = n := by
  unfold Builtin.Slice.slicePlaces
  have h1 : ¬ ((-1 : Int) > 0) := by omega
  have e : ((n : Int) - 1 - -1 - 1) / (- -1) = (n : Int) - 1 := by
    rw [show (- -1 : Int) = 1 by decide, Int.ediv_one]
    omega
  simp only [h1, if_false, e]
  split <;> omega
theorem sliceApplied_rev {sl : Addr} {vl vu vs : Value} {n : Nat} {Q : Int × Int × Nat → Shared → Prop} (hs : s.heap.IsSliceOf sl vl vu vs) (pl : IsPart vl none) (pu : IsPart vu none) (ps : IsPart vs (some (-1)))
    (h : Q ((n : Int) - 1, -1, n) s) : wpAny (model prog w) A (Builtin.Slice.sliceApplied (.ref sl) (pure (n : Int))) Q E s := by
  obtain ⟨os, hos, hcs, hds⟩ := id hs
  unfold Builtin.Slice.sliceApplied Builtin.Slice.sliceFields
  refine wpAny_bind (wpAny_bind (wpAny_field hos hds (x := vl) rfl (wpAny_bind (wpAny_field hos hds (x := vu) rfl (wpAny_bind (wpAny_field hos hds (x := vs) rfl (wpAny_pure ?_)))))))
  refine wpAny_bind (HT.slicePart_ ps ?_)
  show wpAny _ _ (if ((-1 : Int) == 0) = true then _ else _) _ _ s
  rw [if_neg (by decide)]
  refine wpAny_bind (HT.slicePart_ pl (wpAny_bind (HT.slicePart_ pu (wpAny_bind (wpAny_pure ?_)))))
  show wpAny _ _ (match Builtin.Slice.sliceAdjust none none (-1) (n : Int) with | (lo, hi) => pure (lo, (-1 : Int), Builtin.Slice.slicePlaces lo hi (-1))) _ _ s
  rw [adjust_rev n]
  show wpAny _ _ (pure ((n : Int) - 1, (-1 : Int), Builtin.Slice.slicePlaces ((n : Int) - 1) (-1) (-1))) _ _ s
  rw [places_rev]
  exact wpAny_pure h
theorem pick_rev (xs : Array Value) : ((List.range xs.size).filterMap fun (m : Nat) => xs[(((xs.size : Nat) : Int) - 1 + (m : Int) * (-1)).toNat]?).toArray = xs.toList.reverse.toArray := by
  have e : (fun (m : Nat) => xs[(((xs.size : Nat) : Int) - 1 + (m : Int) * (-1)).toNat]?) = fun m => xs[xs.size - 1 - m]? := by
    funext m
    have : (((xs.size : Nat) : Int) - 1 + (m : Int) * (-1)).toNat = xs.size - 1 - m := by omega
    rw [this]
  rw [e]
  have h : (List.range xs.size).filterMap (fun m => xs[xs.size - 1 - m]?) = ((List.range xs.size).map fun k => xs.size - 1 - k).filterMap (xs[·]?) := by
    rw [List.filterMap_map]
    rfl
  rw [h, PySem.W.krv_range, List.filterMap_reverse, PySem.W.krv_all]
theorem getItem_tuple_rev {t sl : Addr} {items : Array Value} {vl vu vs : Value} {Q : Value → Shared → Prop} (ht : IsTup s.heap t items) (hs : s.heap.IsSliceOf sl vl vu vs) (pl : IsPart vl none) (pu : IsPart vu none) (ps : IsPart vs (some (-1)))
    (h : Q (.ref s.heap.objs.size) { s with heap := s.heap.push { cls := .type "tuple", data := .seq items.toList.reverse.toArray } })
    (hsz : items.size ≤ sizeLine) : wpAny (model prog w) A (getItem (.ref t) (.ref sl)) Q E s := by
  have htake : sizeOk (.seq items.toList.reverse.toArray) := by
    show items.toList.reverse.toArray.size ≤ sizeLine
    simpa using hsz
  obtain ⟨os, hos, hcs, hds⟩ := id hs
  have hTs : s.TypeIs (.ref sl) "slice" := ⟨os, hos, hcs⟩
  unfold getItem
  try with_reducible refine wpAny_holding ?_
  first | refine wpAny_bind (wpAny_pure ?_) | skip
  refine wpAny_bind (wpAny_sequenceKey ht.typeIs (by decide) ?_)
  refine wpAny_bind (wpAny_callSpecial?_slot (name := Str.ofString "__getitem__") ht.typeIs PyProof.Rows.slot_tuple_getitem
    (wpAny_call_entry PyProof.Rows.slot_tuple_getitem ht.typeIs entry_tuple_getitem ?_ (args_tuple_getitem _ _)))
  show wpAny _ _ (Builtin.Tuple.tupleItemsOf (.ref t) >>= _) _ _ s
  refine wpAny_bind (tupleItemsOf_ ht ?_)
  refine wpAny_bind (wpAny_typeOf hTs ?_)
  rw [if_pos (by decide)]
  refine wpAny_bind (sliceApplied_rev hs pl pu ps ?_)
  have hno : ¬ ((((items.size : Int) - 1) == 0 && (-1 : Int) == 1 && items.size == items.size) = true) := by
    intro q
    rw [Bool.and_eq_true, Bool.and_eq_true] at q
    exact absurd q.1.2 (by decide)
  show wpAny _ _ (if ((((items.size : Int) - 1) == 0 && (-1 : Int) == 1 && items.size == items.size) = true) then _ else _) _ _ s
  rw [if_neg hno, pick_rev]
  first
    | exact wpAny_bind (m := Builtin.Tuple.tupleExact _) (wpAny_newObj_type (wpAny_pure ⟨_, rfl, wpAny_pure h⟩) htake)
    | exact wpAny_bind (m := Builtin.Tuple.tupleExact _) (wpAny_newObj_type (wpAny_bind (wpAny_pure (wpAny_pure ⟨_, rfl, wpAny_pure h⟩))) htake)
    | exact wpAny_bind (wpAny_bind (m := Builtin.Tuple.tupleExact _) (wpAny_newObj_type (wpAny_pure (wpAny_pure ⟨_, rfl, wpAny_pure h⟩)) htake))
    | exact wpAny_bind (wpAny_bind (m := Builtin.Tuple.tupleExact _) (wpAny_newObj_type (wpAny_pure ⟨_, rfl, wpAny_pure h⟩) htake))
end
section
variable {X : Cx}
/-- a[::-1] of a tuple or a list -/
def tRevG (K : PySem.W.Frag) (te : TE) : TE := fun σ H Q => te σ H fun x H1 => (∃ a xs, x = .ref a ∧ SqL K H1 a xs ∧ ∀ p, H1 p = none → Q (.ref p) (upd H1 p (.lst xs.reverse))) ∨
  (∃ a xs, x = .ref a ∧ SqT K H1 a xs ∧ ∀ p, H1 p = none → Q (.ref p) (upd H1 p (.tup xs.reverse)))
theorem pe_revG {e : Expr} {te : TE} {k : Nat} {p1 p2 p3 pos : Pos} (he : PE X e te) : PE X (.Subscript e (.Slice none none (some (.UnaryOp .USub (.Constant (.int 1) k p1) p2)) p3) pos) (tRevG X.K te) := by
  refine ⟨fun pins s σ H Q I h => ?_⟩
  refine Subscript_ (thn (he.run pins s σ H _ I h) fun v s1 ⟨x, H1, I1, r1, q1⟩ => ?_)
  have hst : PO X (some (.UnaryOp .USub (.Constant (.int 1) k p1) p2)) (tPart (tUn (rU fun i => .int (-i)) (tC (.int 1)))) := po_some (pe_un un_neg pe_int)
  have key : ∀ (a : Addr), v = .ref a → (∀ (s4 : Shared) (vl vu vs : Value), Inv X pins σ H1 s4 → s4.heap.IsSliceOf (s4.heap.objs.size - 1) vl vu vs → IsPart vl none → IsPart vu none → IsPart vs (some (-1)) →
      wpAny (model X.prog X.w) X.A (subscriptTail e (.Slice none none (some (.UnaryOp .USub (.Constant (.int 1) k p1) p2)) p3) (.ref a) (.ref (s4.heap.objs.size - 1))) (EP X pins σ Q) X.xe s4) →
      wpAny (model X.prog X.w) X.A (eval (.Slice none none (some (.UnaryOp .USub (.Constant (.int 1) k p1) p2)) p3) X.env) (fun u s' => wpAny (model X.prog X.w) X.A (subscriptTail e (.Slice none none (some (.UnaryOp .USub (.Constant (.int 1) k p1) p2)) p3) v u) (EP X pins σ Q) X.xe s') X.xe s1 := by
    intro a ea hk
    subst ea
    refine wpAny_Slice (thn (po_none.run pins s1 σ H1 (fun o H2 => o = none ∧ H2 = H1) I1 ⟨rfl, rfl⟩) fun vl s2 ⟨l, H2, I2, pl, el, e2⟩ => ?_)
    subst el e2
    refine thn (po_none.run pins s2 σ H2 (fun o H3 => o = none ∧ H3 = H2) I2 ⟨rfl, rfl⟩) fun vu s3 ⟨u, H3, I3, pu, eu, e3⟩ => ?_
    subst eu e3
    refine thn (hst.run pins s3 σ H3 (fun o H4 => o = some (-1) ∧ H4 = H3) I3 ⟨1, rfl, -1, rfl, rfl, rfl⟩) fun vs s4 ⟨o, H4, I4, ps, eo, e4⟩ => ?_
    subst eo e4
    have I5 : Inv X pins σ H4 { s4 with heap := s4.heap.push { cls := .type "slice", data := .fields #[vl, vu, vs] } } := I4.kept (t' := s4.toks) fun b ob q => Heap.get?_push_of_some _ q
    have := hk _ vl vu vs I5 (by
      have := Heap.IsSliceOf.new s4.heap vl vu vs
      simpa using this) pl pu ps
    simpa using this
  rcases q1 with ⟨a, xs, ex, hx, q⟩ | ⟨a, xs, ex, hx, q⟩
  · subst ex
    cases r1
    refine key a rfl fun s4 vl vu vs I5 hsl pl pu ps => ?_
    obtain ⟨its, r, ht, hz⟩ := I5.list hx
    have hlen := r.length
    refine tail_any (ops := [.ref a, .ref (s4.heap.objs.size - 1)]) ht.isList.typeIs (PySem.slot_list_getitem.lookup) ?_ (by with_unfolding_all rfl)
    refine wpAny_getItem_list_slice ht.isList hsl pl pu ps (by decide) ?_ (by rw [List.size_toArray]; omega)
    rw [PySem.W.krv_pick]
    refine ⟨.ref _, _, I5.laid (t' := s4.toks) (o := .lst xs.reverse) (fun b ob q => Heap.get?_push_of_some _ q) (Nat.le_refl _) ?_, rfl, q _ (I5.hok.fresh (Nat.le_refl _))⟩
    exact ⟨by rw [List.length_reverse]; exact hz, _, 0, r.reverse, Heap.get?_push_size _ rfl⟩
  · subst ex
    cases r1
    refine key a rfl fun s4 vl vu vs I5 hsl pl pu ps => ?_
    obtain ⟨its, r, ht, hz⟩ := I5.tuple hx
    have hlen : its.toArray.size = xs.length := by rw [List.size_toArray]; exact r.length.symm
    refine tail_any (ops := [.ref a, .ref (s4.heap.objs.size - 1)]) ht.typeIs (PyProof.Rows.slot_tuple_getitem.lookup) ?_ (by with_unfolding_all rfl)
    refine getItem_tuple_rev ht hsl pl pu ps ?_ (by rw [hlen]; exact hz)
    refine ⟨.ref s4.heap.objs.size, _, I5.laid (t' := s4.toks) (o := .tup xs.reverse) (fun b ob q => Heap.get?_push_of_some _ q) (Nat.le_refl _) ?_, rfl, q _ (I5.hok.fresh (Nat.le_refl _))⟩
    exact ⟨by rw [List.length_reverse]; exact hz, _, r.reverse, IsTup.new _ _⟩
/-- ints, *= -/
def ipM : TIp := fun x y H Q => ∃ i j : Int, x = .int i ∧ y = .int j ∧ MuOk i j ∧ Q (.int (i * j)) H
theorem ip_mul : PIp X .Mult ipM := by
  intro pins s σ H x y v u Q I r1 r2 h
  obtain ⟨i, j, e1, e2, hm, q⟩ := h
  subst e1; subst e2
  obtain ⟨t, rfl⟩ := r1
  obtain ⟨t', rfl⟩ := r2
  exact imul_int ⟨.int _, H, I.tok _, ⟨_, rfl⟩, q⟩ (mu_ok hm)
end
section
variable {X : Cx}
/-- isinstance(e, c), e an exception that is held -/
def rIsT (K : Fg) : List V → Hp → VK → Prop := fun xs H Q => ∃ (a D : Addr) (c : V) (cv : Value) (b : Bool), xs = [.ref a, c] ∧ H a = some (Exo D a) ∧ ExcC K D ∧ (∀ u, RelV c u → u = cv) ∧ PySem.W.kitOne K (.ref D) cv = some b ∧ Q (.bl b) H
theorem call_isT : CallR X (.builtin "isinstance") (rIsT X.K) := by
  intro pins s σ H xs us Q I r h
  obtain ⟨a, D, c, cv, b, rfl, ha, C, hcv, e, q⟩ := h
  cases r with
  | cons rx rr =>
    cases rr with
    | cons rt rr =>
      cases rr
      cases rx
      have ec := hcv _ rt
      subst ec
      obtain ⟨⟨oe, vs, hget, hz, hv⟩, _, _⟩ := I.hok a _ ha
      have J : PySem.W.InstAt s.heap a oe D none := by
        obtain ⟨oc, od, oda, osl⟩ := oe
        obtain ⟨h1, h2, _⟩ := hz
        dsimp only at h1 h2 hv
        subst h1 h2 hv
        exact ⟨hget, rfl, rfl, trivial⟩
      exact PySem.W.kia_one (PySem.W.handS_kitx_exc C.hg C.hk C.hs C.hd C.ha C.hn C.ht C.hm) I.kIn J e (fun z => nomatch z) fun tk => ⟨.bl b, H, I.kept (t' := tk) fun _ _ z => z, rfl, q⟩
theorem exN_ok {l : List Str} {A : Addr → Prop} {H : Hp} {K : Fg} {v : V} {d : D} {c : Nat} (r : Rp K A H v d) (e : exN l d = some c) : ∃ a D n, v = .ref a ∧ l[c]? = some n ∧ PySem.W.nsIn K mainGlobals n = some (some (.ref D)) ∧ H a = some (Exo D a) := by
  cases r with
  | exc h1 h2 => exact ⟨_, _, _, rfl, exIx_get e, h1, h2⟩
  | dct n h =>
    rename_i l'
    cases l' <;> cases e
  | _ => cases e
end
/-- a[::-1] -/
theorem rev_rp {K : Fg} {A : Addr → Prop} {H : Hp} : ∀ {vs : List V} {ds : List D}, RpAll K A H vs ds → RpAll K A H vs.reverse ds.reverse
  | _, _, .nil => .nil
  | _, _, .cons r rs => by
    rw [List.reverse_cons, List.reverse_cons]
    exact (rev_rp rs).append (.cons r .nil)
theorem rev_ok {K : Fg} {B : Addr → Prop} {O : Ow} {H0 H : Hp} {x : Val} {vx : V} {Q : VK} {xc : Nat → Prop} (s : Same H0 H) (rx : VR K B O H0 H vx x)
    (q : Rs xc (fun z => ∀ v H', Same H H' → VR K B O H0 H' v z → Q v H') (revV x)) :
    (∃ a xs, vx = .ref a ∧ SqL K H a xs ∧ ∀ p, H p = none → Q (.ref p) (upd H p (.lst xs.reverse))) ∨ (∃ a xs, vx = .ref a ∧ SqT K H a xs ∧ ∀ p, H p = none → Q (.ref p) (upd H p (.tup xs.reverse))) := by
  unfold revV at q
  split at q
  · rename_i ds h1
    obtain ⟨a, vs, rfl, ra, hk⟩ := rx.seqD (ds := ds) (by rw [h1]; rfl)
    rcases hk with ⟨_, hs⟩ | ⟨h2, _, hs⟩
    · exact .inl ⟨a, vs, rfl, hs, fun p hp => q _ _ (same_upd hp) (mkNew s hp (rev_rp ra))⟩
    · rw [h1] at h2; cases h2
  · rename_i ds h1
    obtain ⟨a, vs, rfl, ra, hk⟩ := rx.seqD (ds := ds) (by rw [h1]; rfl)
    rcases hk with ⟨h2, hs⟩ | ⟨_, _, hs⟩
    · rw [h1] at h2; cases h2
    · exact .inr ⟨a, vs, rfl, hs, fun p hp => q _ _ (same_upd hp) (mkTup hp (rev_rp ra))⟩
  · exact q.elim
end PD

/-! PDD: dicts by rows of whole numbers: reads, stores, displays, walks. -/
namespace PD
open PySem PySem.Spec PyProof.Rows L2
section
variable {X : Cx} {pins : List (Addr × Obj)} {σ : L2.St} {H : Hp} {s : Shared}
/-- a key at hand, wherever its tuple stands -/
theorem key_sq {K : Fg} {b : Addr} {k : List Key} (hK : X.K = K) (I : Inv X pins σ H s) (e : SqT K H b (k.map kV)) : (tupleKind (mixKind X.prog X.w)).is s.heap k b := by
  subst hK
  obtain ⟨its, r, ⟨o, h1, h2, n, h3⟩, _⟩ := I.tuple e
  exact ⟨o, its.toArray, n, h1, h2, h3, by simpa using items_are r⟩
/-- what the dict holds at a key, the key's tuple anywhere -/
def DGq (K : Fg) (H : Hp) (a : Addr) (y : V) (r : Option V) : Prop := ∃ kvs k b, Rd H a (.dT kvs) ∧ y = .ref b ∧ SqT K H b (k.map kV) ∧ r = valV kvs k
def rIxQ (K : Fg) : R2 := fun x y H Q => ∃ a v, x = .ref a ∧ DGq K H a y (some v) ∧ Q v H
theorem ix_dq (hu : X.A.units + 1 < cLine) : IxR X (rIxQ X.K) := by
  intro value slice pins s σ H x y v u Q I rx ry h hs
  obtain ⟨a, v0, rfl, ⟨kvs, k, b, e, rfl, eb, l⟩, q⟩ := h
  obtain rfl : v = Value.ref a := rx
  obtain rfl : u = Value.ref b := ry
  obtain ⟨z, hd, xs, rel, dd⟩ := dt_rd I.hok e
  obtain ⟨w', hw, rw'⟩ := RelO.some_of (v := v0) (o := (atKey xs k).map (·.2)) (by rw [l]; exact rel.val k)
  obtain ⟨p, hp, hp2⟩ := Option.map_eq_some_iff.mp hw
  refine tail_any (ops := [.ref a, .ref b]) dd.typeIs PySem.F.slot_dict_getitem.lookup ?_ hs
  refine wpAny_getItem_heap (tupleKind_room_in1 hu) (key_sq rfl I eb) dd hp ?_
  rw [hp2]
  exact ⟨_, H, I.tok _, rw', q⟩
/-- d.get(k, x) -/
def tDGq (K : Fg) (td ty tx : TE) : TE := fun σ H Q => td σ H fun x H1 => ∃ a kvs, x = .ref a ∧ Rd H1 a (.dT kvs) ∧ ty σ H1 fun y H2 => tx σ H2 fun z H3 => ∃ o, DGq K H3 a y o ∧ Q (o.getD z) H3
theorem pe_dgq {o e f : Expr} {apos cpos : Pos} {td ty tx : TE} (hu : X.A.units + 1 < cLine) (ho : PE X o td) (he : PE X e ty) (hf : PE X f tx) (m : M2 X o "get" apos e f cpos) : PE X (.Call (.Attribute o "get" apos) [e, f] [] cpos) (tDGq X.K td ty tx) := by
  refine ⟨fun pins s σ H Q I h => ?_⟩
  refine wpAny_Call_method m.base m.few m.line PySem.F.plainAttrs_dict PySem.F.slot_dict_get PySem.F.type_dict_get (thn (ho.run pins s σ H _ I h) fun u s1 ⟨x, H1, I1, rx, a, kvs0, ex, d, q1⟩ => ?_)
  subst ex
  obtain rfl : u = Value.ref a := rx
  obtain ⟨t1, t2, _⟩ := isD_at I1 (.inr ⟨kvs0, d⟩)
  refine ⟨t1, t2, ?_⟩
  rw [m.trees]
  refine Calls.callWith_builtin rfl (Calls.evalArgs_plain (Calls.spliced_cons (thn (he.run pins s1 σ H1 _ I1 q1) fun iv s2 ⟨y, H2, I2, ry, q2⟩ =>
    Calls.spliced_cons (thn (hf.run pins s2 σ H2 _ I2 q2) fun fv s3 ⟨z, H3, I3, rz, ov, g, q3⟩ => Calls.spliced_nil ?_))))
  obtain ⟨kvs, k, b, e, ey, eb, l⟩ := g
  subst ey
  obtain rfl : iv = Value.ref b := ry
  obtain ⟨_, hd, xs, rel, dd⟩ := dt_rd I3.hok e
  refine call_meetsIn PySem.F.slot_dict_get dd.typeIs PySem.F.entry_dict_get (PySem.F.args_dict_get_3 _ _ _) (meetsH_dict_get_default (tupleKind (mixKind X.prog X.w)) a b hd fv) ⟨tupleKind_room_in1 hu, k, xs, key_sq rfl I3 eb, dd, ⟨_, H3, I3.tok _, ?_, q3⟩⟩
  rw [l]
  exact (rel.val k).getD rz
/-- pairs at hand, as a display's -/
def PsR (H : Hp) : List (V × V) → Dl → Prop
  | [], [] => True
  | p :: ps, q :: l => TkR H p.1 q.1 ∧ p.2 = .int q.2 ∧ PsR H ps l
  | _, _ => False
theorem PsR.ext {H H' : Hp} (s : ∀ a xs, H a = some (.tup xs) → H' a = some (.tup xs)) : ∀ {ps : List (V × V)} {l : Dl}, PsR H ps l → PsR H' ps l
  | [], [], _ => trivial
  | p :: ps, q :: l, ⟨⟨b, e, h⟩, e2, r⟩ => ⟨⟨b, e, s _ _ h⟩, e2, PsR.ext s r⟩
  | [], _ :: _, r => r.elim
  | _ :: _, [], r => r.elim
def putAll (acc : Dl) : Dl → Dl
  | [] => acc
  | q :: l => putAll (putL acc q.1 q.2) l
theorem putAll_len : ∀ (l acc : Dl), (putAll acc l).length ≤ acc.length + l.length
  | [], acc => Nat.le_refl _
  | q :: l, acc => by
    have h1 := putAll_len l (putL acc q.1 q.2)
    have h2 := putL_len acc q.1 q.2
    rw [List.length_cons]
    show (putAll (putL acc q.1 q.2) l).length ≤ _
    omega
theorem kv_map (k : List Int) : ((k.map Sum.inl : List Key).map kV) = k.map V.int := by
  rw [List.map_map]
  rfl
theorem store_one {p : Addr} {E : Value → Shared → Prop} {R : Unit → Shared → Prop} {H : Hp} {s : Shared} {acc : Dl} {k : List Int} {v : Int} {b : Addr} {u r : Value} (hu : X.A.units < cLine) (I : Inv X pins σ H s) (e : H p = some (.dT (dV acc)))
    (eb : H b = some (.tup (k.map V.int))) (rx : RelV (.ref b) u) (ry : RelV (.int v) r) (hz : acc.length < sizeLine) (q : ∀ s', Inv X pins σ (upd H p (.dT (dV (putL acc k v)))) s' → R () s') : wpAny (model X.prog X.w) X.A (dictSet p u r) R E s := by
  obtain rfl : u = Value.ref b := rx
  rw [← kv_map] at eb
  obtain ⟨z, hd, xs, rel, dd⟩ := dt_of I.hok e
  have hzx : xs.length ≤ sizeLine := by rw [← Paired.length rel]; exact z
  have hl : (putK (dV acc) (k.map Sum.inl) (.int v)).length ≤ sizeLine := by
    have h1 := length_putK (dV acc) (k.map Sum.inl) (.int v)
    have h2 : (dV acc).length = acc.length := List.length_map _
    omega
  refine wpAny_dictSet_heap (hsz := hzx) (knd := tupleKind (mixKind X.prog X.w)) hu (key_of I.hok eb) dd fun h' dd' hs => q _ ?_
  obtain ⟨ob, es, ep, hq, h2, h3, h4, _, h5⟩ := dd'
  rw [dV_put]
  exact d_write I (by rw [e]; exact True.intro) hs ⟨ob, hq⟩ ⟨hl, hd, _, (rel.put (k.map Sum.inl) eb ry).keeps fun c ys ec => by rw [upd_ne (ne_of ec e (fun z => nomatch z))]; exact ec, ob, es, ep, hq, h2, h3, h4, h5⟩
theorem store_all {p : Addr} {E : Value → Shared → Prop} {Q : PUnit → Shared → Prop} (hu : X.A.units < cLine) (l : Dl) : ∀ (acc : Dl) (ps : List (V × V)) (vs : List (Value × Value)) (H : Hp) (s : Shared), Inv X pins σ H s → H p = some (.dT (dV acc)) → VV ps vs → PsR H ps l → acc.length + l.length < sizeLine →
    (∀ s', Inv X pins σ (upd H p (.dT (dV (putAll acc l)))) s' → Q PUnit.unit s') →
    wpAny (model X.prog X.w) X.A (forIn vs PUnit.unit fun (x : Value × Value) (_ : PUnit) => (do dictSet p x.1 x.2; pure (ForInStep.yield PUnit.unit) : Sem (ForInStep PUnit))) Q E s := by
  induction l with
  | nil =>
    intro acc ps vs H s I e rv rp _ q
    cases ps with
    | cons x ps => exact rp.elim
    | nil =>
      cases rv
      rw [List.forIn_nil]
      refine wpAny_pure (q s ?_)
      have : upd H p (.dT (dV (putAll acc []))) = H := by
        funext b
        by_cases hb : b = p
        · rw [hb, upd_same]
          exact e.symm
        · rw [upd_ne hb]
      rw [this]
      exact I
  | cons a l ih =>
    intro acc ps vs H s I e rv rp hz q
    cases ps with
    | nil => exact rp.elim
    | cons x ps =>
      obtain ⟨x, y⟩ := x
      obtain ⟨k, v⟩ := a
      cases rv with
      | @cons _ w _ ws hr rv =>
        obtain ⟨u, r⟩ := w
        obtain ⟨⟨b, ex, eb⟩, ey, rp⟩ := rp
        have ex : x = .ref b := ex
        have ey : y = .int v := ey
        subst ex ey
        rw [List.length_cons] at hz
        rw [List.forIn_cons]
        refine wpAny_bind (wpAny_bind (store_one hu I e eb hr.1 hr.2 (by omega) fun s1 I1 => wpAny_pure ?_))
        refine ih (putL acc k v) ps ws _ s1 I1 upd_same rv (rp.ext fun a ys ea => by rw [upd_ne (ne_of ea e (fun z => nomatch z))]; exact ea) (by
          have := putL_len acc k v
          omega) fun s' J => q s' ?_
        rw [upd_upd] at J
        exact J
/-- {k: v, ..}, the keys tuples of whole numbers -/
def tDisT (trs : List (TE × TE)) : TE := fun σ H Q => ∀ p, H p = none → tPairs trs σ (upd H p (.dT [])) fun ps H2 => H2 p = some (.dT []) ∧ ∃ l : Dl, PsR H2 ps l ∧ Q (.ref p) (upd H2 p (.dT (dV (putAll [] l))))
theorem pe_disT {pos : Pos} {keys : List (Option Expr)} {values : List Expr} {trs : List (TE × TE)} (hu : X.A.units < cLine) (h : PPs X pos keys values trs) (hall : keys.all (·.isSome) = true) (hl : keys.length = values.length) (h0 : keys ≠ [])
    (h15 : keys.length ≤ 15) : PE X (.Dict keys values pos) (tDisT trs) := by
  refine ⟨fun pins s σ H Q I q => ?_⟩
  have hn := I.hok.fresh (Nat.le_refl s.heap.objs.size)
  have I1 := I.laid (a := s.heap.objs.size) (o := .dT []) (h' := s.heap.push { cls := .type "dict", data := .dict #[] }) (t' := s.toks) (fun _ _ q => Heap.get?_push_of_some _ q) (Nat.le_refl _) (dt_empty s.heap I.big)
  have hlen := pairTrees_length keys values X.env pos hall hl
  have hne : pairTrees keys values X.env pos ≠ [] := fun z => by
    rw [z] at hlen
    exact h0 (List.length_eq_zero_iff.mp hlen.symm)
  rw [arm_eval_Dict, zip_pairTrees keys values X.env pos hall hl, dictDisplay_pairs _ hne (by omega)]
  refine wpAny_bind (wpAny_standAt (wpAny_bind ?_))
  unfold subDict
  refine wpAny_bind (wpAny_alloc ?_)
  refine wpAny_bind (wpAny_holding ?_)
  rw [if_pos (by omega)]
  refine wpAny_bind (wpAny_mono (wpAny_evalPairs_len (h.run pins _ σ _ _ I1 (q _ hn))) (fun vs s2 h2 => ?_) fun _ _ e => e)
  obtain ⟨hvl, ps, H2, I2, rel, e, l, rp, q2⟩ := h2
  have hpl : ∀ (ps : List (V × V)) (l : Dl), PsR H2 ps l → l.length = ps.length := by
    intro ps
    induction ps with
    | nil => intro l r; cases l with
      | nil => rfl
      | cons a l => exact r.elim
    | cons p ps ih => intro l r; cases l with
      | nil => exact r.elim
      | cons a l => rw [List.length_cons, List.length_cons, ih l r.2.2]
  have h1 := hpl ps l rp
  have h2 : ps.length = vs.length := Paired.length rel
  refine wpAny_holding (wpAny_bind (store_all hu l [] ps vs H2 s2 I2 e rel rp (by rw [sizeLine_eq, List.length_nil]; omega) fun s3 I3 => wpAny_pure (wpAny_pure (wpAny_pure ⟨.ref s.heap.objs.size, _, I3, rfl, q2⟩))))
/-- either reading -/
theorem ps_or {st : Stmt} {t u : TS} (h1 : PS X st t) (h2 : PS X st u) : PS X st (fun D σ H => t D σ H ∨ u D σ H) :=
  ⟨fun pins s σ H D I h => h.elim (h1.run pins s σ H D I) (h2.run pins s σ H D I)⟩
end
end PD

/-! PD4: expressions: what stands in the text runs as told. -/
namespace PD
open PySem PySem.Spec PyProof.Rows L2

section
variable {T : Tb} {M : Nm} {xa : Nat → Addr} {X : Cx} {W : WX}
theorem okE_star {N : List Str} {sc : Scope} {a : Expr} {p : Pos} (x : E) : okE M N sc (.Starred a p) x = false := by cases x <;> rfl
theorem okE_slice {N : List Str} {sc : Scope} {a b c : Option Expr} {p : Pos} (x : E) : okE M N sc (.Slice a b c p) x = false := by cases x <;> rfl
theorem okE_set {N : List Str} {sc : Scope} {a : List Expr} {k : Nat} {p : Pos} (x : E) : okE M N sc (.Set a k p) x = false := by cases x <;> rfl
theorem star_of {N : List Str} {sc : Scope} {e : Expr} {x : E} (h : okE M N sc e x = true) (es : List Expr) (env : PySem.Env) : starEach (e :: es) env = (false, eval e env) :: starEach es env := by
  cases e <;> first | rfl | (rw [okE_star] at h; cases h)
theorem plain_of {N : List Str} {sc : Scope} {e : Expr} {x : E} (h : okE M N sc e x = true) : PlainIx e := by
  cases e <;> first | (exact fun _ _ => rfl) | (rw [okE_slice] at h; cases h)
theorem marks_of {N : List Str} {sc : Scope} {e : Expr} {x : E} (op : CmpOp) (h : okE M N sc e x = true) : behindInMarks op e = false := by
  cases e <;> first | rfl | (rw [okE_set] at h; cases h)
theorem vis_of {sc : Scope} {x : Str} (h : visB sc x = true) : L2.Vis sc x := by
  unfold visB at h
  split at h
  · rename_i e; exact .inl e
  · rename_i e; exact .inr (.inl e)
  · rename_i e; exact .inr (.inr e)
  · cases h
theorem gl_of {x : Str} (h : glB X.env.scope x = true) : Gl X x := by
  unfold glB at h
  split at h
  · rename_i e; exact e
  · cases h
theorem name_of {x : Str} (h : okName x = true) : (x == ("__debug__" : Str)) = false ∧ (x == ("__classdict__" : Str)) = false := by
  unfold okName at h
  simpa using h

variable {K : Fg} {B : Addr → Prop} {old : Old} {O : Ow} {H H0 H1 H' H'' : Hp} {σ : L2.St} {η : Env}
theorem Rs.shift {xc : Nat → Prop} {Q : VK} {r : Res Val} (s : Same H H1) (h : Rs xc (fun x => ∀ v H', Same H H' → VR K B O H H' v x → Q v H') r) :
    Rs xc (fun x => ∀ v H', Same H1 H' → VR K B O H1 H' v x → Q v H') r := h.imp fun x q v H' s' vr => q v H' (s.trans s') (vr.back s)
theorem Snd.run {t : TE} {f : Env → Res Val} (h : Snd xa X W t f) (r : ER X.K B old O H σ η) {β : Type} {g : Val → Res β} {kk : β → Prop} {Q : VK}
    (hq : Rs (XH X.K xa W B old η) kk ((f η).bind g)) (hk : ∀ x v H', Same H H' → VR X.K B O H H' v x → Rs (XH X.K xa W B old η) kk (g x) → Q v H') : t σ H Q :=
  h B old O σ H η Q r (hq.bind.imp fun x hx v H' s vr => hk x v H' s vr hx)
theorem SndT.run {t : TT} {f : Env → Res Bool} (h : SndT xa X W t f) (r : ER X.K B old O H σ η) {β : Type} {g : Bool → Res β} {kk : β → Prop} {Q : Bool → Hp → Prop}
    (hq : Rs (XH X.K xa W B old η) kk ((f η).bind g)) (hk : ∀ x H', Same H H' → Rs (XH X.K xa W B old η) kk (g x) → Q x H') : t σ H Q :=
  h B old O σ H η Q r (hq.bind.imp fun x hx H' s => hk x H' s hx)
theorem snd2 {ta tb : TE} {fa fb : Env → Res Val} {g : Val → Val → Res Val} {r : R2} (ha : Snd xa X W ta fa) (hb : Snd xa X W tb fb) (hr : R2S X.K g r) :
    Snd xa X W (tOp r ta tb) (fun η => (fa η).bind fun x => (fb η).bind fun y => g x y) := by
  intro B old O σ H η Q rr q
  refine ha.run rr q fun x v H1 s1 vx q1 => ?_
  refine hb.run (rr.ext s1) q1 fun y w H2 s2 vy q2 => ?_
  exact hr _ _ _ _ _ _ _ _ _ _ rr.ob (s1.trans s2) (vx.ext s2) (vy.back s1) (q2.imp fun z k v' H' s' vr => k v' H' ((s1.trans s2).trans s') vr)
/-- an answer that is a truth -/
theorem Rs.toBool {xc : Nat → Prop} {Q : VK} {r : Res Bool} (h : Rs xc (fun x => ∀ v H', Same H H' → VR K B O H H' v x → Q v H') (r.map fun c => .cl (.bool c))) :
    Rs xc (fun b => ∀ H', Same H H' → Q (.bl b) H') r := h.bind.imp fun b q H' s => q (.bl b) H' s (VR.mkBool b)
theorem snd2b {ta tb : TE} {fa fb : Env → Res Val} {g : Val → Val → Res Bool} {r : R2} (ha : Snd xa X W ta fa) (hb : Snd xa X W tb fb) (hr : R2B X.K g r) :
    Snd xa X W (tOp r ta tb) (fun η => (fa η).bind fun x => (fb η).bind fun y => (g x y).map fun c => .cl (.bool c)) := by
  intro B old O σ H η Q rr q
  refine ha.run rr q fun x v H1 s1 vx q1 => ?_
  refine hb.run (rr.ext s1) q1 fun y w H2 s2 vy q2 => ?_
  exact hr _ _ _ _ _ _ _ _ _ _ rr.ob (s1.trans s2) (vx.ext s2) (vy.back s1) (q2.toBool.imp fun b k => k H2 (s1.trans s2))
theorem snd2t {ta tb : TE} {fa fb : Env → Res Val} {g : Val → Val → Res Bool} {r : R2} (ha : Snd xa X W ta fa) (hb : Snd xa X W tb fb) (hr : R2B X.K g r) :
    SndT xa X W (tTest (tOp r ta tb)) (fun η => (fa η).bind fun x => (fb η).bind fun y => g x y) := by
  intro B old O σ H η Q rr q
  refine ha.run rr q fun x v H1 s1 vx q1 => ?_
  refine hb.run (rr.ext s1) q1 fun y w H2 s2 vy q2 => ?_
  exact hr _ _ _ _ _ _ _ _ _ _ rr.ob (s1.trans s2) (vx.ext s2) (vy.back s1) (q2.imp fun b k => ⟨b, rfl, k H2 (s1.trans s2)⟩)
theorem VRs.any {vs : List V} {xs : List Val} (r : VRs K B O H H' vs xs) : RpAll K (fun _ => False) H' vs (xs.map Val.d) := by
  induction xs generalizing vs with
  | nil =>
    cases vs with
    | nil => exact .nil
    | cons v vs => exact r.elim
  | cons x xs ih =>
    cases vs with
    | nil => exact r.elim
    | cons v vs => exact .cons r.1.any (ih r.2)
theorem VRs.shared {vs : List V} {xs : List Val} {ds : List D} (ob : OB O B H) (r : VRs K B O H H' vs xs) (e : shAll xs = some ds) : RpAll K (Own O B) H' vs ds := by
  induction xs generalizing vs ds with
  | nil =>
    cases vs with
    | nil => cases e; exact .nil
    | cons v vs => exact r.elim
  | cons x xs ih =>
    cases vs with
    | nil => exact r.elim
    | cons v vs =>
      unfold shAll at e
      split at e
      · rename_i d es h1 h2
        cases e
        exact .cons (r.1.shared ob.l ob.b h1) (ih r.2 h2)
      · cases e
theorem VRs.len {vs : List V} {xs : List Val} (r : VRs K B O H H' vs xs) : vs.length = xs.length := by
  have := r.any.length
  simpa using this
theorem VRs.ext {vs : List V} {xs : List Val} (r : VRs K B O H H' vs xs) (s : Same H' H'') : VRs K B O H H'' vs xs := by
  induction xs generalizing vs with
  | nil =>
    cases vs with
    | nil => trivial
    | cons v vs => exact r.elim
  | cons x xs ih =>
    cases vs with
    | nil => exact r
    | cons v vs => exact ⟨r.1.ext s, ih r.2⟩
theorem VRs.back {vs : List V} {xs : List Val} (s : Same H0 H) (r : VRs K B O H H' vs xs) : VRs K B O H0 H' vs xs := by
  induction xs generalizing vs with
  | nil =>
    cases vs with
    | nil => trivial
    | cons v vs => exact r.elim
  | cons x xs ih =>
    cases vs with
    | nil => exact r
    | cons v vs => exact ⟨r.1.back s, ih r.2⟩
theorem evs_len : ∀ (es : E) {η : Env} {xs : List Val}, evs T es η = .ok xs → xs.length = lenE es := by
  intro es
  induction es with
  | nil => intro η xs h; cases h; rfl
  | cons e es _ ih =>
    intro η xs h
    unfold evs at h
    cases h1 : ev T e η with
    | ok x =>
      rw [h1] at h
      cases h2 : evs T es η with
      | ok ys =>
        have h : (evs T es η).bind (fun xs => Res.ok (x :: xs)) = .ok xs := h
        rw [h2] at h
        cases h
        show ys.length + 1 = lenE es + 1
        rw [ih h2]
      | ex c =>
        have h : (evs T es η).bind (fun xs => Res.ok (x :: xs)) = .ok xs := h
        rw [h2] at h; cases h
      | st =>
        have h : (evs T es η).bind (fun xs => Res.ok (x :: xs)) = .ok xs := h
        rw [h2] at h; cases h
    | ex c => rw [h1] at h; cases h
    | st => rw [h1] at h; cases h
  | _ => intro η xs h; cases h
theorem star_all {N : List Str} {sc : Scope} {env : PySem.Env} : ∀ (es : E) {l : List Expr}, okEs M N sc l es = true → starEach l env = l.map fun e => (false, eval e env) := by
  intro es
  induction es with
  | nil =>
    intro l h
    cases l with
    | nil => rfl
    | cons a l => exact absurd h (by simp [okEs])
  | cons e es _ ih =>
    intro l h
    cases l with
    | nil => exact absurd h (by simp [okEs])
    | cons a l =>
      simp only [okEs, Bool.and_eq_true] at h
      rw [star_of h.1, ih h.2]
      rfl
  | _ => intro l h; exact absurd h (by simp [okEs])
theorem any_all (pos : Pos) (env : PySem.Env) (l : List Expr) : (backTo pos (l.map fun e => (false, eval e env))).any (·.1) = false := by
  unfold backTo
  rw [List.map_map, List.any_map]
  exact List.any_eq_false.mpr fun x _ => by simp
theorem calls_of {N : List Str} {sc : Scope} {env : PySem.Env} {es : E} {a : Expr} {as : List Expr} (pos : Pos) (h : okEs M N sc (a :: as) es = true) :
    starEach (a :: as) env = (false, eval a env) :: starEach as env ∧ (backTo pos (starEach as env)).any (·.1) = false := by
  cases es with
  | cons c cs =>
    simp only [okEs, Bool.and_eq_true] at h
    exact ⟨star_of h.1 _ _, by rw [star_all cs h.2]; exact any_all _ _ _⟩
  | _ => exact absurd h (by simp [okEs])
theorem okEs_len {N : List Str} {sc : Scope} : ∀ (es : E) {l : List Expr}, okEs M N sc l es = true → l.length = lenE es := by
  intro es
  induction es with
  | nil =>
    intro l h
    cases l with
    | nil => rfl
    | cons a l => exact absurd h (by simp [okEs])
  | cons e es _ ih =>
    intro l h
    cases l with
    | nil => exact absurd h (by simp [okEs])
    | cons a l =>
      simp only [okEs, Bool.and_eq_true] at h
      show l.length + 1 = lenE es + 1
      rw [ih h.2]
  | _ => intro l h; exact absurd h (by simp [okEs])
@[simp] theorem retV_dD (l : Dl) : retV (dD l) = .nd l := by
  show (match dctL (l.map fun p => (.tuple (p.1.map PyData.int), .int p.2)) with
    | some l => Val.nd l
    | none => .cl (dD l)) = .nd l
  rw [dctL_map]
theorem RetR.vr {v : V} {d : D} (s : Same H H1) (ob : OB O B H) (r : RetR K H1 H' v d) : VR K B O H H' v (retV d) := by
  rcases r with ⟨e, r⟩ | ⟨ds, a, vs, rfl, e, rfl, h1, h2, h3⟩ | ⟨l, a, rfl, rfl, h1, h2⟩
  rotate_left 2
  · rw [retV_dD]
    exact ⟨a, rfl, s.free h1, h2⟩
  · have q : Rp K (Own O B) H' v d := r.free (fun _ _ h => h) e
    cases d with
    | list ds => simp [lf] at e
    | dict kvs => simp [lf] at e
    | _ => exact q
  · exact ⟨a, vs, rfl, s.free h1, h2, h3.free (fun _ _ h => h) e⟩

/-! ### the theorem, shape by shape -/
variable (T M xa) in
def SE (x : E) : Prop := ∀ X W e, GX T M xa X W → okE M X.N X.env.scope e x = true → ∃ t, PE X e t ∧ Snd xa X W t (ev T x)
variable (T M xa) in
def SA (x : E) : Prop := ∀ X W es, GX T M xa X W → okEs M X.N X.env.scope es x = true → ∃ t, PA X es t ∧
  ∀ B old O σ H η Q, ER X.K B old O H σ η → Rs (XH X.K xa W B old η) (fun xs => evs T x η = .ok xs → ∀ vs H', Same H H' → VRs X.K B O H H' vs xs → Q vs H') (evs T x η) → t σ H Q
variable (T M xa) in
def ST (x : E) : Prop := ∀ X W e, GX T M xa X W → okT M X.N X.env.scope e x = true → ∃ t, PT X e t ∧ SndT xa X W t (evt T x)
variable (T M xa) in
def SI (x : E) : Prop := ∀ X W tg e, GX T M xa X W → okI M X.N X.env.scope e x = true → (∃ t, PI X tg e t ∧ SndI xa X W t (evi T x)) ∧ ∀ y, foldedSetIterable e X.env y = pure y
variable (T M xa) in
def SO (x : E) : Prop := ∀ X W e, GX T M xa X W → okO M X.N X.env.scope e x = true → ∃ t, PO X e t ∧ SndO xa X W t (evo T x)
variable (T M xa) in
def SX (x : E) : Prop := SE T M xa x ∧ SA T M xa x ∧ ST T M xa x ∧ SI T M xa x ∧ SO T M xa x
theorem sxE {x : E} (h : SE T M xa x) (h1 : ∀ N sc es, okEs M N sc es x = false) (h2 : ∀ N sc es, okT M N sc es x = false) (h3 : ∀ N sc es, okI M N sc es x = false) (h4 : ∀ N sc es, okO M N sc es x = false) : SX T M xa x :=
  ⟨h, fun X W e g k => (by rw [h1] at k; cases k), fun X W e g k => (by rw [h2] at k; cases k), fun X W tg e g k => (by rw [h3] at k; cases k), fun X W e g k => (by rw [h4] at k; cases k)⟩
theorem sxA {x : E} (h : SA T M xa x) (h1 : ∀ N sc es, okE M N sc es x = false) (h2 : ∀ N sc es, okT M N sc es x = false) (h3 : ∀ N sc es, okI M N sc es x = false) (h4 : ∀ N sc es, okO M N sc es x = false) : SX T M xa x :=
  ⟨fun X W e g k => (by rw [h1] at k; cases k), h, fun X W e g k => (by rw [h2] at k; cases k), fun X W tg e g k => (by rw [h3] at k; cases k), fun X W e g k => (by rw [h4] at k; cases k)⟩
theorem sxT {x : E} (h : ST T M xa x) (h1 : ∀ N sc es, okE M N sc es x = false) (h2 : ∀ N sc es, okEs M N sc es x = false) (h3 : ∀ N sc es, okI M N sc es x = false) (h4 : ∀ N sc es, okO M N sc es x = false) : SX T M xa x :=
  ⟨fun X W e g k => (by rw [h1] at k; cases k), fun X W e g k => (by rw [h2] at k; cases k), h, fun X W tg e g k => (by rw [h3] at k; cases k), fun X W e g k => (by rw [h4] at k; cases k)⟩
theorem sxI {x : E} (h : SI T M xa x) (h1 : ∀ N sc es, okE M N sc es x = false) (h2 : ∀ N sc es, okEs M N sc es x = false) (h3 : ∀ N sc es, okT M N sc es x = false) (h4 : ∀ N sc es, okO M N sc es x = false) : SX T M xa x :=
  ⟨fun X W e g k => (by rw [h1] at k; cases k), fun X W e g k => (by rw [h2] at k; cases k), fun X W e g k => (by rw [h3] at k; cases k), h, fun X W e g k => (by rw [h4] at k; cases k)⟩
theorem sxO {x : E} (h : SO T M xa x) (h1 : ∀ N sc es, okE M N sc es x = false) (h2 : ∀ N sc es, okEs M N sc es x = false) (h3 : ∀ N sc es, okT M N sc es x = false) (h4 : ∀ N sc es, okI M N sc es x = false) : SX T M xa x :=
  ⟨fun X W e g k => (by rw [h1] at k; cases k), fun X W e g k => (by rw [h2] at k; cases k), fun X W e g k => (by rw [h3] at k; cases k), fun X W tg e g k => (by rw [h4] at k; cases k), h⟩

theorem s_var (i : Nat) : SE T M xa (.var i) := by
  intro X W e g h
  unfold okE at h
  split at h
  · rename_i x p
    simp only [Bool.and_eq_true, decide_eq_true_eq] at h
    obtain ⟨⟨h1, h2⟩, h3⟩ := h
    refine ⟨_, pe_var h1 (vis_of h2) (name_of h3).1 (name_of h3).2, fun B old O σ H η Q r q => ?_⟩
    unfold ev slotV at q
    split at q
    · rename_i d hs
      obtain ⟨v, e1, e2⟩ := r.sl i _ hs
      exact ⟨v, e1, q v H (Same.refl H) e2⟩
    · rename_i ds hs
      obtain ⟨a, vs, e0, e1, e2, e3⟩ := r.sl i _ hs
      exact ⟨_, e1, q _ H (Same.refl H) ⟨a, vs, e0, rfl, e2, e3⟩⟩
    · rename_i l hs
      obtain ⟨a, e0, e1, e2⟩ := r.sl i _ hs
      exact ⟨_, e1, q _ H (Same.refl H) ⟨a, e0, rfl, e2⟩⟩
    · rename_i k hs
      obtain ⟨v, e1, e2⟩ := r.sl i _ hs
      exact ⟨v, e1, q v H (Same.refl H) e2.rp⟩
    · exact q.elim
  · cases h
theorem s_glob (i : Nat) : SE T M xa (.glob i) := by
  intro X W e g h
  unfold okE at h
  split at h
  · rename_i x p
    simp only [Bool.and_eq_true, decide_eq_true_eq] at h
    obtain ⟨⟨h1, h2⟩, h3⟩ := h
    obtain ⟨v, u, d, m1, m2, m3, m4⟩ := g.gl i x h1
    refine ⟨_, pe_glob (gl_of h2) m1 m2 (name_of h3).1, fun B old O σ H η Q r q => ?_⟩
    unfold ev at q
    rw [m3] at q
    exact q v H (Same.refl H) (m4 _ _)
  · cases h
theorem s_int (n : Int) : SE T M xa (.int n) := by
  intro X W e g h
  unfold okE at h
  split at h
  · have h := of_decide_eq_true h
    subst h
    exact ⟨_, pe_int, fun B old O σ H η Q r q => q _ H (Same.refl H) (VR.mkInt _)⟩
  · cases h
theorem s_bl (n : Bool) : SE T M xa (.bl n) := by
  intro X W e g h
  unfold okE at h
  split at h
  · have h := of_decide_eq_true h
    subst h
    exact ⟨_, pe_bl, fun B old O σ H η Q r q => q _ H (Same.refl H) (VR.mkBool _)⟩
  · cases h
theorem s_non : SE T M xa .non := by
  intro X W e g h
  unfold okE at h
  split at h
  · exact ⟨_, pe_non, fun B old O σ H η Q r q => q _ H (Same.refl H) (Rp.non)⟩
  · cases h
theorem s_str (n : Str) : SE T M xa (.str n) := by
  intro X W e g h
  unfold okE at h
  split at h
  · have h := of_decide_eq_true h
    subst h
    exact ⟨_, pe_str, fun B old O σ H η Q r q => q _ H (Same.refl H) (VR.mkStr _)⟩
  · cases h
theorem len_ok {n : Nat} (h : n ≤ 1000) : n ≤ sizeLine := Nat.le_of_lt (small1000 h)
theorem s_tup {es : E} (ih : SA T M xa es) : SE T M xa (.tup es) := by
  intro X W e g h
  unfold okE at h
  split at h
  · rename_i xs k p
    simp only [Bool.and_eq_true, decide_eq_true_eq] at h
    obtain ⟨t, ht, hq⟩ := ih X W xs g h.1
    refine ⟨_, pe_tup ht, fun B old O σ H η Q r q => hq B old O σ H η _ r ?_⟩
    unfold ev at q
    refine q.bind.imp fun ys k ey vs H' s vr => ?_
    obtain ⟨ds, e1, k⟩ := oOk_ok k.bind
    refine ⟨len_ok (by rw [vr.len, evs_len es ey]; exact h.2), fun p hp => k _ _ (s.trans (same_upd hp)) (mkTup hp (vr.shared r.ob e1))⟩
  · cases h
theorem s_lst {es : E} (ih : SA T M xa es) : SE T M xa (.lst es) := by
  intro X W e g h
  unfold okE at h
  split at h
  · rename_i xs p
    simp only [Bool.and_eq_true, decide_eq_true_eq] at h
    obtain ⟨t, ht, hq⟩ := ih X W xs g h.1
    refine ⟨_, pe_lst ht, fun B old O σ H η Q r q => hq B old O σ H η _ r ?_⟩
    unfold ev at q
    refine q.bind.imp fun ys k ey vs H' s vr => ?_
    obtain ⟨ds, e1, k⟩ := oOk_ok k.bind
    refine ⟨len_ok (by rw [vr.len, evs_len es ey]; exact h.2), fun p hp => k _ _ (s.trans (same_upd hp)) (mkNew s hp (vr.shared r.ob e1))⟩
  · cases h
theorem s_bin {o : Bo} {a b : E} (iha : SE T M xa a) (ihb : SE T M xa b) : SE T M xa (.bin o a b) := by
  intro X W e g h
  unfold okE at h
  split at h
  · rename_i x p y pos
    simp only [Bool.and_eq_true, decide_eq_true_eq] at h
    obtain ⟨⟨h1, h2⟩, h3⟩ := h
    subst h1
    obtain ⟨ta, pa, sa⟩ := iha X W x g h2
    obtain ⟨tb, pb, sb⟩ := ihb X W y g h3
    exact ⟨_, pe_op (op_bo g.py o) pa pb, snd2 sa sb (bo_ok o)⟩
  · cases h
theorem s_neg {a : E} (iha : SE T M xa a) : SE T M xa (.neg a) := by
  intro X W e g h
  unfold okE at h
  split at h
  · rename_i x pos
    obtain ⟨ta, pa, sa⟩ := iha X W x g h
    refine ⟨_, pe_un un_neg pa, fun B old O σ H η Q r q => ?_⟩
    unfold ev at q
    refine sa.run r q fun x v H1 s1 vx q1 => ?_
    unfold negV at q1
    split at q1
    · cases vx.int
      exact ⟨_, rfl, q1 _ H1 s1 (VR.mkInt _)⟩
    · exact q1.elim
  · cases h
theorem bit_ok {xc : Nat → Prop} {k : Bool → Prop} {v : V} {x : Val} (r : VR K B O H H' v x) (q : Rs xc k (bitOf x)) : ∃ b, v = .bl b ∧ x = .cl (.bool b) ∧ k b := by
  unfold bitOf at q
  split at q
  · cases r.bool
    exact ⟨_, rfl, rfl, q⟩
  · exact q.elim
theorem int_ok {xc : Nat → Prop} {k : Int → Prop} {v : V} {x : Val} (r : VR K B O H H' v x) (q : Rs xc k (intOf x)) : ∃ b, v = .int b ∧ x = .cl (.int b) ∧ k b := by
  unfold intOf at q
  split at q
  · cases r.int
    exact ⟨_, rfl, rfl, q⟩
  · exact q.elim
theorem s_not {a : E} (iha : SE T M xa a) : SE T M xa (.not a) := by
  intro X W e g h
  unfold okE at h
  split at h
  · rename_i x pos
    obtain ⟨ta, pa, sa⟩ := iha X W x g h
    refine ⟨_, pe_not pa, fun B old O σ H η Q r q => ?_⟩
    unfold ev at q
    refine sa.run r q fun x v H1 s1 vx q1 => ?_
    obtain ⟨b, e1, _, k⟩ := bit_ok vx q1.bind
    exact ⟨b, e1, k _ H1 s1 (VR.mkBool _)⟩
  · cases h
theorem s_bop {k : Bool} {a b : E} (iha : SE T M xa a) (ihb : SE T M xa b) : SE T M xa (.bop k a b) := by
  intro X W e g h
  unfold okE at h
  split at h
  · rename_i x y xs p
    simp only [Bool.and_eq_true] at h
    obtain ⟨⟨h1, h2⟩, h3⟩ := h
    subst h1
    obtain ⟨ta, pa, sa⟩ := iha X W x g h2
    obtain ⟨tb, pb, sb⟩ := ihb X W _ g h3
    refine ⟨_, pe_and pa pb, fun B old O σ H η Q r q => ?_⟩
    unfold ev at q
    refine sa.run r q fun x v H1 s1 vx q1 => ?_
    obtain ⟨b, e1, _, k⟩ := bit_ok vx q1.bind
    refine ⟨b, e1, ?_⟩
    cases b with
    | true => exact iteT (sb _ _ _ _ _ _ _ (r.ext s1) (Rs.shift s1 k))
    | false => exact iteF (k _ H1 s1 (VR.mkBool _))
  · rename_i x y xs p
    simp only [Bool.and_eq_true, Bool.not_eq_true'] at h
    obtain ⟨⟨h1, h2⟩, h3⟩ := h
    subst h1
    obtain ⟨ta, pa, sa⟩ := iha X W x g h2
    obtain ⟨tb, pb, sb⟩ := ihb X W _ g h3
    refine ⟨_, pe_or pa pb, fun B old O σ H η Q r q => ?_⟩
    unfold ev at q
    refine sa.run r q fun x v H1 s1 vx q1 => ?_
    obtain ⟨b, e1, _, k⟩ := bit_ok vx q1.bind
    refine ⟨b, e1, ?_⟩
    cases b with
    | true => exact iteT (k _ H1 s1 (VR.mkBool _))
    | false => exact iteF (sb _ _ _ _ _ _ _ (r.ext s1) (Rs.shift s1 k))
  · cases h
theorem s_bone {k : Bool} {a : E} (iha : SE T M xa a) : SE T M xa (.bone k a) := by
  intro X W e g h
  unfold okE at h
  split at h
  · simp only [Bool.and_eq_true] at h
    obtain ⟨ta, pa, sa⟩ := iha X W _ g h.2
    exact ⟨_, pe_one pa, sa⟩
  · simp only [Bool.and_eq_true] at h
    obtain ⟨ta, pa, sa⟩ := iha X W _ g h.2
    exact ⟨_, pe_one pa, sa⟩
  · cases h
theorem s_cmp {o : Co} {a b : E} (iha : SE T M xa a) (ihb : SE T M xa b) : SE T M xa (.cmp o a b) := by
  intro X W e g h
  unfold okE at h
  split at h
  · rename_i x p y pos
    simp only [Bool.and_eq_true, decide_eq_true_eq] at h
    obtain ⟨⟨h1, h2⟩, h3⟩ := h
    subst h1
    obtain ⟨ta, pa, sa⟩ := iha X W x g h2
    obtain ⟨tb, pb, sb⟩ := ihb X W y g h3
    obtain ⟨k, room, _⟩ := g.lv
    exact ⟨_, pe_cmpR (op_co (by have := room.un; omega) o) pa pb (marks_of _ h3), snd2b sa sb (co_ok o)⟩
  · cases h
theorem s_ite {c a b : E} (ihc : ST T M xa c) (iha : SE T M xa a) (ihb : SE T M xa b) : SE T M xa (.ite c a b) := by
  intro X W e g h
  unfold okE at h
  split at h
  · rename_i t x y pos
    simp only [Bool.and_eq_true] at h
    obtain ⟨⟨h1, h2⟩, h3⟩ := h
    obtain ⟨tc, pc, sc⟩ := ihc X W t g h1
    obtain ⟨ta, pa, sa⟩ := iha X W x g h2
    obtain ⟨tb, pb, sb⟩ := ihb X W y g h3
    refine ⟨_, pe_ifExp pc pa pb, fun B old O σ H η Q r q => ?_⟩
    unfold ev at q
    refine sc.run r q fun c H1 s1 q1 => ?_
    cases c with
    | true => exact iteT (sa _ _ _ _ _ _ _ (r.ext s1) (Rs.shift s1 q1))
    | false => exact iteF (sb _ _ _ _ _ _ _ (r.ext s1) (Rs.shift s1 q1))
  · cases h
theorem s_idx {a b : E} (iha : SE T M xa a) (ihb : SE T M xa b) : SE T M xa (.idx a b) := by
  intro X W e g h
  unfold okE at h
  split at h
  · rename_i x y pos
    simp only [Bool.and_eq_true] at h
    obtain ⟨ta, pa, sa⟩ := iha X W x g h.1
    obtain ⟨tb, pb, sb⟩ := ihb X W y g h.2
    exact ⟨_, pe_ix ix_seq pa pb (plain_of h.2), snd2 sa sb idx_ok⟩
  · cases h
theorem s_sl {a lo hi : E} (iha : SE T M xa a) (ihl : SO T M xa lo) (ihh : SO T M xa hi) : SE T M xa (.sl a lo hi) := by
  intro X W e g h
  unfold okE at h
  split at h
  · rename_i x l hh p1 pos
    simp only [Bool.and_eq_true] at h
    obtain ⟨⟨h1, h2⟩, h3⟩ := h
    obtain ⟨ta, pa, sa⟩ := iha X W x g h1
    obtain ⟨tl, pl, sl⟩ := ihl X W l g h2
    obtain ⟨th, ph, sh⟩ := ihh X W hh g h3
    refine ⟨_, pe_slice sl_g pa pl ph, fun B old O σ H η Q r q => ?_⟩
    unfold ev at q
    refine sa.run r q fun x v H1 s1 vx q1 => ?_
    refine sl _ _ _ _ _ _ _ (r.ext s1) (q1.bind.imp fun l q2 H2 s2 => ?_)
    refine sh _ _ _ _ _ _ _ ((r.ext s1).ext s2) (q2.bind.imp fun u q3 H3 s3 => ?_)
    exact sl_ok _ _ _ _ _ _ _ _ _ _ r.ob ((s1.trans s2).trans s3) ((vx.ext s2).ext s3) (q3.imp fun z k v' H' s' vr => k v' H' (((s1.trans s2).trans s3).trans s') vr)
  · cases h
theorem s_rev {a : E} (iha : SE T M xa a) : SE T M xa (.rev a) := by
  intro X W e g h
  unfold okE at h
  split at h
  · obtain ⟨ta, pa, sa⟩ := iha X W _ g h
    refine ⟨_, pe_revG pa, fun B old O σ H η Q r q => ?_⟩
    unfold ev at q
    refine sa.run r q fun x v H1 s1 vx q1 => ?_
    exact rev_ok s1 vx (q1.imp fun z k v' H' s' vr => k v' H' (s1.trans s') vr)
  · cases h
theorem s_call {f : Nat} {es : E} (ih : SA T M xa es) : SE T M xa (.call f es) := by
  intro X W e g h
  unfold okE at h
  split at h
  · rename_i x p1 a as p2
    simp only [Bool.and_eq_true] at h
    obtain ⟨⟨⟨h0, h1⟩, h2⟩, h3⟩ := h
    split at h0
    · rename_i y n hf
      simp only [Bool.and_eq_true, decide_eq_true_eq] at h0
      obtain ⟨e1, e2⟩ := h0
      subst e1
      obtain ⟨k, room, _, fns⟩ := g.lv
      obtain ⟨ad, fd, ps, m1, m2, m3, m4⟩ := fns f y n hf
      obtain ⟨t, ht, hq⟩ := ih X W _ g h3
      have hst := (calls_of (env := X.env) p2 h3).1
      have hpl := (calls_of (env := X.env) p2 h3).2
      refine ⟨_, pe_callS (E := WE W) m4 room (gl_of h1) m1 m2 m3 (fun σ => L2N.passAt g.tk σ) ht (name_of h2).1 hst hpl, fun B old O σ H η Q r q => hq B old O σ H η _ r ?_⟩
      unfold ev at q
      refine q.bind.imp fun ys k ey vs H' s vr => ?_
      refine ⟨by rw [vr.len, evs_len es ey, ← okEs_len es h3, ← e2]; rfl, _, vr.any, ?_⟩
      have k := k.bind
      revert k
      cases T.G f (ys.map Val.d) with
      | ok d => exact fun k v H2 s2 rr => k v H2 (s.trans s2) (rr.vr s r.ob)
      | ex c => exact fun k H2 s2 => k O σ H2 (r.ext (s.trans s2))
      | st => exact fun k => k
    · cases h0
  · cases h

theorem blt_ok {x : Str} (g : GX T M xa X W) (h : x ∈ bltNames) : X.mg x = none := g.blt x h
theorem s_bi {b : Bi} {es : E} (ih : SA T M xa es) : SE T M xa (.bi b es) := by
  intro X W e g h
  unfold okE at h
  split at h
  · rename_i x p1 a as p2
    simp only [Bool.and_eq_true, decide_eq_true_eq] at h
    obtain ⟨⟨h0, h1⟩, h3⟩ := h
    subst h0
    obtain ⟨t, ht, hq⟩ := ih X W _ g h3
    have hst := (calls_of (env := X.env) p2 h3).1
    have hpl := (calls_of (env := X.env) p2 h3).2
    refine ⟨tCB (rBi X.K b) t, ?_, fun B old O σ H η Q r q => hq B old O σ H η _ r ?_⟩
    · have hm : X.mg (biN b) = none := g.blt _ (by cases b <;> decide)
      have hc := bi_call g.calm b
      cases b with
      | int1 => exact pe_callTy hc (gl_of h1) hm (by decide +kernel) ht (by decide) (by decide) hst hpl
      | tuple1 => exact pe_callTy hc (gl_of h1) hm (by decide +kernel) ht (by decide) (by decide) hst hpl
      | list1 => exact pe_callTy hc (gl_of h1) hm (by decide +kernel) ht (by decide) (by decide) hst hpl
      | len => exact pe_callB hc (gl_of h1) hm (by decide +kernel) ht (by decide) (by decide) hst hpl
      | abs => exact pe_callB hc (gl_of h1) hm (by decide +kernel) ht (by decide) (by decide) hst hpl
      | max2 => exact pe_callB hc (gl_of h1) hm (by decide +kernel) ht (by decide) (by decide) hst hpl
      | min2 => exact pe_callB hc (gl_of h1) hm (by decide +kernel) ht (by decide) (by decide) hst hpl
      | all1 => exact pe_callB hc (gl_of h1) hm (by decide +kernel) ht (by decide) (by decide) hst hpl
      | any1 => exact pe_callB hc (gl_of h1) hm (by decide +kernel) ht (by decide) (by decide) hst hpl
      | max1 => exact pe_callB hc (gl_of h1) hm (by decide +kernel) ht (by decide) (by decide) hst hpl
    · unfold ev at q
      refine q.bind.imp fun ys k ey vs H' s vr => ?_
      exact bi_ok b _ _ _ _ _ _ _ _ r.ob s vr (k.imp fun z k v' H'' s' vr => k v' H'' (s.trans s') vr)
  · cases h
theorem s_isi {a : E} {ty : Ty} (ih : SE T M xa a) : SE T M xa (.isi a ty) := by
  intro X W e g h
  unfold okE at h
  split at h
  · rename_i x p1 y z p2 p3
    simp only [Bool.and_eq_true, decide_eq_true_eq] at h
    obtain ⟨⟨⟨⟨h0, h1⟩, h2⟩, h3⟩, h4⟩ := h
    subst h0
    subst h2
    obtain ⟨t, ht, hq⟩ := ih X W _ g h4
    have hm : X.mg (tyN ty) = none := g.blt _ (by cases ty <;> decide)
    have hz : PE X (.Name (tyN ty) p2) (tC (.ty (tyS ty))) := by
      cases ty with
      | int => exact pe_bltn (gl_of h3) hm (by decide +kernel) rfl (by decide) (by decide)
      | bool => exact pe_bltn (gl_of h3) hm (by decide +kernel) rfl (by decide) (by decide)
      | str => exact pe_bltn (gl_of h3) hm (by decide +kernel) rfl (by decide) (by decide)
      | tuple => exact pe_bltn (gl_of h3) hm (by decide +kernel) rfl (by decide) (by decide)
      | list => exact pe_bltn (gl_of h3) hm (by decide +kernel) rfl (by decide) (by decide)
    have hst : starEach (y :: [.Name (tyN ty) p2]) X.env = (false, eval y X.env) :: starEach [.Name (tyN ty) p2] X.env := star_of h4 _ _
    refine ⟨tCB (rIsi X.K) (tCons t (tCons (tC (.ty (tyS ty))) tNil)), pe_callB call_isi (gl_of h1) (g.blt _ (by decide)) (by decide +kernel) (pa_cons ht (pa_cons hz pa_nil) hst) (by decide) (by decide) hst (by rfl), fun B old O σ H η Q r q => ?_⟩
    unfold ev at q
    refine hq.run r q fun x v H1 s1 vx q1 => ?_
    exact isi_ok vx.any (q1.toBool.imp fun b k => k H1 s1)
  · cases h
/-! dicts -/
theorem VR.dct {v : V} {x : Val} {l : Dl} (r : VR K B O H H' v x) (e : x.d.dct = some l) : ∃ a, v = .ref a ∧ Rd H' a (.dT (dV l)) := by
  have q := r.any
  rw [dct_inv e] at q
  generalize hd : dD l = d at q
  cases q with
  | dct n h =>
    rename_i a l'
    have e1 : dctL (l.map fun p => (.tuple (p.1.map PyData.int), .int p.2)) = dctL (l'.map fun p => (.tuple (p.1.map PyData.int), .int p.2)) := by
      rw [PyData.dict.inj hd]
    rw [dctL_map, dctL_map] at e1
    cases e1
    exact ⟨a, rfl, h⟩
  | exc h1 h2 =>
    cases l with
    | nil => cases hd
    | cons p l => cases hd
  | _ => cases hd
theorem ints_vals {A : Addr → Prop} : ∀ {vs : List V} {k : List Int}, RpAll K A H vs (k.map PyData.int) → vs = k.map V.int
  | [], [], _ => rfl
  | [], _ :: _, r => by cases r
  | v :: vs, [], r => by cases r
  | v :: vs, i :: k, r => by
    rw [List.map_cons] at r
    cases r with
    | cons h t =>
      cases h
      rw [ints_vals t]
      rfl
theorem VR.key {v : V} {x : Val} {k : List Int} (r : VR K B O H H' v x) (e : keyOf x.d = some k) : ∃ b, v = .ref b ∧ SqT K H' b (k.map V.int) := by
  have q := r.any
  revert e
  generalize x.d = d at q
  intro e
  cases q with
  | tup h ra =>
    rw [intsOf_inv (show intsOf _ = some k from e)] at ra
    rw [ints_vals ra] at h
    exact ⟨_, rfl, h⟩
  | _ => cases e
theorem key_kV (k : List Int) : ((k.map Sum.inl : List Key).map kV) = k.map V.int := by
  rw [List.map_map]
  rfl
theorem dgq_of {a b : Addr} {l : Dl} {k : List Int} (h : Rd H a (.dT (dV l))) (hb : SqT K H b (k.map V.int)) : DGq K H a (.ref b) ((lookL l k).map V.int) :=
  ⟨dV l, k.map Sum.inl, b, h, rfl, by rw [key_kV]; exact hb, (valV_dV k l).symm⟩
theorem s_dnew : SE T M xa .dnew := by
  intro X W e g h
  unfold okE at h
  split at h
  · refine ⟨_, pe_dnewT, fun B old O σ H η Q r q p hp => ?_⟩
    unfold ev at q
    exact q _ _ (same_upd hp) ⟨p, rfl, hp, upd_same⟩
  · cases h
theorem s_dat {a k : E} (iha : SE T M xa a) (ihk : SE T M xa k) : SE T M xa (.dat a k) := by
  intro X W e g h
  unfold okE at h
  split at h
  · rename_i x y pos
    simp only [Bool.and_eq_true] at h
    obtain ⟨ta, pa, sa⟩ := iha X W x g h.1
    obtain ⟨tb, pb, sb⟩ := ihk X W y g h.2
    obtain ⟨n, room, _⟩ := g.lv
    have hu : X.A.units + 1 < cLine := by
      have := room.units
      omega
    refine ⟨_, pe_ix (ix_dq hu) pa pb (plain_of h.2), fun B old O σ H η Q r q => ?_⟩
    unfold ev at q
    refine sa.run r q fun x v H1 s1 vx q1 => ?_
    refine sb.run (r.ext s1) q1 fun y u H2 s2 vy q2 => ?_
    obtain ⟨l, e1, q3⟩ := oOk_ok q2.bind
    obtain ⟨k, e2, q4⟩ := oOk_ok q3.bind
    obtain ⟨m, e3, q5⟩ := oOk_ok q4.bind
    obtain ⟨a, rfl, h1⟩ := vx.dct e1
    obtain ⟨b, rfl, h2⟩ := vy.key e2
    have dg := dgq_of (rd_same s2 h1) h2
    rw [e3] at dg
    exact ⟨a, _, rfl, dg, q5 _ H2 (s1.trans s2) (VR.mkInt _)⟩
  · cases h
theorem s_dget {a k d : E} (iha : SE T M xa a) (ihk : SE T M xa k) (ihd : SE T M xa d) : SE T M xa (.dget a k d) := by
  intro X W e g h
  unfold okE at h
  split at h
  · rename_i o p m ap x y cp
    simp only [Bool.and_eq_true, decide_eq_true_eq] at h
    obtain ⟨⟨⟨⟨h0, h1⟩, h2⟩, h3⟩, h4⟩ := h
    subst h0
    obtain ⟨ta, pa, sa⟩ := iha X W _ g h1
    obtain ⟨tb, pb, sb⟩ := ihk X W x g h2
    obtain ⟨tc, pc, sc⟩ := ihd X W y g h3
    obtain ⟨n, room, _⟩ := g.lv
    have hu : X.A.units + 1 < cLine := by
      have := room.units
      omega
    have hst : starEach [x, y] X.env = [(false, eval x X.env), (false, eval y X.env)] := by
      rw [star_of h2, star_of h3]
      rfl
    refine ⟨_, pe_dgq hu pa pb pc ⟨rfl, by rw [hst]; rfl, by rw [h4]; simp, by rw [hst]; rfl⟩, fun B old O σ H η Q r q => ?_⟩
    unfold ev at q
    refine sa.run r q fun x v H1 s1 vx q1 => ?_
    obtain ⟨l0, e0, q1⟩ := oOk_ok q1.bind
    obtain ⟨a, rfl, h1⟩ := vx.dct e0
    refine ⟨a, _, rfl, h1, ?_⟩
    refine sb.run (r.ext s1) q1 fun y u H2 s2 vy q2 => ?_
    refine sc.run ((r.ext s1).ext s2) q2 fun z w H3 s3 vz q3 => ?_
    obtain ⟨l, e1, q4⟩ := oOk_ok q3.bind
    rw [e0] at e1
    cases e1
    obtain ⟨k, e2, q5⟩ := oOk_ok q4.bind
    obtain ⟨b, rfl, h2⟩ := vy.key e2
    unfold intOf at q5
    split at q5
    rotate_left
    · exact q5.elim
    rename_i n
    have q6 := q5
    have ez := vz.int
    subst ez
    refine ⟨_, dgq_of (rd_same (s2.trans s3) h1) (sqt_same s3 h2), ?_⟩
    have e : ((lookL l0 k).map V.int).getD (.int n) = .int ((lookL l0 k).getD n) := by cases lookL l0 k <;> rfl
    rw [e]
    exact q6 _ H3 ((s1.trans s2).trans s3) (VR.mkInt _)
  · cases h
variable (T M xa) in
def SEs : E → Prop
  | .cons e es => SE T M xa e ∧ SEs es
  | _ => True
theorem pa_ints {X : Cx} : ∀ {es : List Expr} {k : List Int}, intsB es k = true → ∃ t, PA X es t ∧ ∀ σ H Q, Q (k.map V.int) H → t σ H Q
  | [], [], _ => ⟨_, pa_nil, fun σ H Q q => q⟩
  | .Constant (.int i) a b :: es, j :: k, h => by
    simp only [intsB, Bool.and_eq_true, decide_eq_true_eq] at h
    obtain ⟨rfl, h⟩ := h
    obtain ⟨t, pt, q⟩ := pa_ints h
    exact ⟨_, pa_cons pe_int pt, fun σ H Q w => q σ H _ w⟩
  | [], _ :: _, h => by cases h
theorem dis_ok {X : Cx} {W : WX} (g : GX T M xa X W) (pos : Pos) (vs : E) : ∀ (keys : List (Option Expr)) (values : List Expr) (ks : List (List Int)), SEs T M xa vs → keysB keys ks = true → okEs M X.N X.env.scope values vs = true → keys.length = values.length →
    ∃ trs, PPs X pos keys values trs ∧ ∀ B old O σ H η Q, ER X.K B old O H σ η → Rs (XH X.K xa W B old η) (fun (xs : List Val) => ∃ ns, intsOf (xs.map Val.d) = some ns ∧ ns.length = ks.length ∧ ∀ ps H', Same H H' → PsR H' ps (ks.zip ns) → Q ps H') (evs T vs η) → tPairs trs σ H Q := by
  induction vs with
  | nil =>
    intro keys values ks _ hk hv hl
    cases values with
    | cons a l => exact absurd hv (by simp [okEs])
    | nil =>
      cases keys with
      | cons a l => cases hl
      | nil =>
        cases ks with
        | cons a l => cases hk
        | nil =>
          refine ⟨[], pps_nil, fun B old O σ H η Q r q => ?_⟩
          unfold evs at q
          obtain ⟨ns, e, hl, q⟩ := q
          cases e
          exact q [] H (Same.refl H) trivial
  | cons e es _ ih =>
    intro keys values ks hs hk hv hl
    cases values with
    | nil => exact absurd hv (by simp [okEs])
    | cons v vl =>
      simp only [okEs, Bool.and_eq_true] at hv
      cases keys with
      | nil => cases hl
      | cons kk kl =>
        cases ks with
        | nil => cases kk <;> first | cases hk | (rename_i w; cases w <;> cases hk)
        | cons k ks =>
          obtain ⟨es', kn, p1, rfl, hk1, hk3, hk2⟩ : ∃ es' kn p1, kk = some (.Tuple es' kn p1) ∧ intsB es' k = true ∧ k.length ≤ 1000 ∧ keysB kl ks = true := by
            cases kk with
            | none => cases hk
            | some w =>
              cases w with
              | Tuple es' kn p1 =>
                simp only [keysB, Bool.and_eq_true, decide_eq_true_eq] at hk
                exact ⟨_, _, _, rfl, hk.1.1, hk.1.2, hk.2⟩
              | _ => cases hk
          obtain ⟨tk, pk, qk⟩ := pa_ints (X := X) hk1
          obtain ⟨tv, pv', sv⟩ := hs.1 X W v g hv.1
          obtain ⟨trs, pt, qt⟩ := ih _ _ _ hs.2 hk2 hv.2 (by simpa using hl)
          refine ⟨_, pps_cons (pe_tup pk) pv' pt, fun B old O σ H η Q r q => ?_⟩
          refine qk σ H _ ⟨len_ok (by rw [List.length_map]; exact hk3), fun p hp => ?_⟩
          have e0 : evs T (.cons e es) η = (ev T e η).bind fun x => (evs T es η).bind fun xs => .ok (x :: xs) := by rw [evs]
          rw [e0] at q
          refine sv.run (r.ext (same_upd hp)) q fun x v H1 s1 vx q1 => ?_
          refine qt _ _ _ _ _ _ _ ((r.ext (same_upd hp)).ext s1) (q1.bind.imp fun xs q2 => ?_)
          obtain ⟨ns, en, hln, q3⟩ := q2
          rw [List.map_cons] at en
          have ex : ∃ i ns', x.d = .int i ∧ ns = i :: ns' ∧ intsOf (xs.map Val.d) = some ns' := by
            revert en
            generalize x.d = d
            intro en
            cases d with
            | int i =>
              unfold intsOf at en
              cases e2 : intsOf (xs.map Val.d) with
              | none => rw [e2] at en; cases en
              | some ns' =>
                rw [e2] at en
                cases en
                exact ⟨i, ns', rfl, rfl, rfl⟩
            | _ => unfold intsOf at en; cases en
          obtain ⟨i, ns', exd, rfl, en'⟩ := ex
          have rv := vx.any
          rw [exd] at rv
          cases rv
          refine ⟨ns', en', by simpa using hln, fun ps H' s' rp => ?_⟩
          refine q3 _ H' (((same_upd hp).trans s1).trans s') ⟨⟨p, rfl, s' _ _ (s1 _ _ upd_same)⟩, rfl, rp⟩
  | _ => intro keys values ks _ _ hv; exact absurd hv (by simp [okEs])
theorem disL_zip : ∀ (ks : List (List Int)) (ns : List Int) (acc : Dl), ns.length = ks.length → disL acc ks ns = some (putAll acc (ks.zip ns))
  | [], [], acc, _ => rfl
  | k :: ks, n :: ns, acc, h => by
    rw [disL, disL_zip ks ns _ (by simpa using h)]
    rfl
  | [], _ :: _, _, h => by cases h
  | _ :: _, [], _, h => by cases h
theorem disL_len : ∀ (ks : List (List Int)) (ns : List Int) (acc l : Dl), disL acc ks ns = some l → ns.length = ks.length
  | [], [], _, _, _ => rfl
  | k :: ks, n :: ns, acc, l, h => by
    rw [disL] at h
    rw [List.length_cons, List.length_cons, disL_len ks ns _ _ h]
  | [], _ :: _, _, _, h => by cases h
  | _ :: _, [], _, _, h => by cases h
theorem s_dis {ks : List (List Int)} {vs : E} (ih : SEs T M xa vs) : SE T M xa (.dis ks vs) := by
  intro X W e g h
  unfold okE at h
  split at h
  · rename_i keys values pos
    simp only [Bool.and_eq_true, decide_eq_true_eq, Bool.not_eq_true', List.isEmpty_eq_false_iff] at h
    obtain ⟨⟨⟨⟨h1, h2⟩, h3⟩, h4⟩, h5⟩ := h
    obtain ⟨n, room, _⟩ := g.lv
    have hu : X.A.units < cLine := by
      have := room.units
      omega
    obtain ⟨trs, pt, qt⟩ := dis_ok g pos vs keys values ks ih h1 h2 h5
    have hall : ∀ (keys : List (Option Expr)) (ks : List (List Int)), keysB keys ks = true → keys.all (·.isSome) = true := by
      intro keys
      induction keys with
      | nil => intro _ _; rfl
      | cons k keys ih =>
        intro ks hk
        cases ks with
        | nil => cases k <;> first | cases hk | (rename_i w; cases w <;> cases hk)
        | cons k2 ks =>
          cases k with
          | none => cases hk
          | some w =>
            cases w with
            | Tuple es kn p =>
              simp only [keysB, Bool.and_eq_true] at hk
              rw [List.all_cons, ih ks hk.2]
              rfl
            | _ => cases hk
    refine ⟨_, pe_disT hu pt (hall keys ks h1) h5 h4 h3, fun B old O σ H η Q r q p hp => ?_⟩
    unfold ev at q
    refine qt _ _ _ _ _ _ _ (r.ext (same_upd hp)) (q.bind.imp fun xs q1 => ?_)
    obtain ⟨ns, en, q2⟩ := oOk_ok q1.bind
    obtain ⟨l, el, q3⟩ := oOk_ok q2.bind
    have hl := disL_len _ _ _ _ el
    rw [disL_zip _ _ _ hl] at el
    cases el
    refine ⟨ns, en, hl, fun ps H' s' rp => ⟨s' _ _ upd_same, _, rp, ?_⟩⟩
    have e2 : H' p = some (.dT []) := s' _ _ upd_same
    refine q3 _ _ (fun b o e => ?_) ⟨p, rfl, hp, upd_same⟩
    have nb : b ≠ p := fun z => by rw [z, hp] at e; cases e
    rw [upd_ne nb]
    exact s' _ _ (by rw [upd_ne nb]; exact e)
  · cases h
theorem s_isx {a : E} {j : Nat} (ih : SE T M xa a) : SE T M xa (.isx a j) := by
  intro X W e g h
  unfold okE at h
  split at h
  · rename_i x p1 y z p2 p3
    simp only [Bool.and_eq_true, decide_eq_true_eq] at h
    obtain ⟨⟨⟨⟨⟨⟨hh, h0⟩, h1⟩, h2⟩, h3⟩, h5⟩, h4⟩ := h
    subst h0
    obtain ⟨t, ht, hq⟩ := ih X W _ g h4
    have hm := g.exm j z h2
    have hz : PE X (.Name z p2) (tC (.ref (xa j))) := pe_glob (gl_of h3) hm (show RelV (.ref (xa j)) (.ref (xa j)) from rfl) (name_of h5).1
    have hst : starEach (y :: [.Name z p2]) X.env = (false, eval y X.env) :: starEach [.Name z p2] X.env := star_of h4 _ _
    refine ⟨tCB (rIsT X.K) (tCons t (tCons (tC (.ref (xa j))) tNil)), pe_callB call_isT (gl_of h1) (g.blt _ (by decide)) (by decide +kernel) (pa_cons ht (pa_cons hz pa_nil) hst) (by decide) (by decide) hst (by rfl), fun B old O σ H η Q r q => ?_⟩
    unfold ev at q
    refine hq.run r q fun x v H1 s1 vx q1 => ?_
    obtain ⟨c, e1, q2⟩ := oOk_ok q1.bind
    obtain ⟨a, D, n, rfl, e2, e3, e4⟩ := exN_ok vx.any e1
    have e5 := g.exn c n e2
    rw [e3] at e5
    cases e5
    obtain ⟨_, hc⟩ := g.hx hh
    obtain ⟨C, _, k⟩ := hc c
    exact ⟨a, _, _, .ref (xa j), _, rfl, e4, C, fun u r => r, k j z h2, q2 _ H1 s1 (VR.mkBool _)⟩
  · cases h
theorem s_isv {a : E} (ih : SE T M xa a) : SE T M xa (.isv a) := by
  intro X W e g h
  unfold okE at h
  split at h
  · rename_i x p1 y z p2 p3
    simp only [Bool.and_eq_true, decide_eq_true_eq] at h
    obtain ⟨⟨⟨⟨⟨hh, h0⟩, h1⟩, h2⟩, h3⟩, h4⟩ := h
    subst h0
    subst h2
    obtain ⟨hve, hc⟩ := g.hx hh
    obtain ⟨t, ht, hq⟩ := ih X W _ g h4
    have hz : PE X (.Name "ValueError" p2) (tC (.ty "ValueError")) := pe_bltn (gl_of h3) hve (by decide +kernel) rfl (by decide) (by decide)
    have hst : starEach (y :: [.Name "ValueError" p2]) X.env = (false, eval y X.env) :: starEach [.Name "ValueError" p2] X.env := star_of h4 _ _
    refine ⟨tCB (rIsT X.K) (tCons t (tCons (tC (.ty "ValueError")) tNil)), pe_callB call_isT (gl_of h1) (g.blt _ (by decide)) (by decide +kernel) (pa_cons ht (pa_cons hz pa_nil) hst) (by decide) (by decide) hst (by rfl), fun B old O σ H η Q r q => ?_⟩
    unfold ev at q
    refine hq.run r q fun x v H1 s1 vx q1 => ?_
    obtain ⟨c, e1, q2⟩ := oOk_ok q1.bind
    obtain ⟨a, D, n, rfl, e2, e3, e4⟩ := exN_ok vx.any e1
    have e5 := g.exn c n e2
    rw [e3] at e5
    cases e5
    obtain ⟨C, k, _⟩ := hc c
    exact ⟨a, _, _, .type "ValueError", _, rfl, e4, C, fun u r => r, k, q2 _ H1 s1 (VR.mkBool _)⟩
  · cases h
theorem s_nil : SA T M xa .nil := by
  intro X W es g h
  cases es with
  | nil => exact ⟨_, pa_nil, fun B old O σ H η Q r q => q rfl [] H (Same.refl H) trivial⟩
  | cons a l => exact absurd h (by simp [okEs])
theorem s_cons {a as : E} (iha : SE T M xa a) (ihs : SA T M xa as) : SA T M xa (.cons a as) := by
  intro X W es g h
  cases es with
  | nil => exact absurd h (by simp [okEs])
  | cons x l =>
    simp only [okEs, Bool.and_eq_true] at h
    obtain ⟨ta, pa, sa⟩ := iha X W x g h.1
    obtain ⟨ts, ps, ss⟩ := ihs X W l g h.2
    refine ⟨_, pa_cons pa ps (star_of h.1 _ _), fun B old O σ H η Q r q => ?_⟩
    have e0 : evs T (.cons a as) η = (ev T a η).bind fun x => (evs T as η).bind fun xs => .ok (x :: xs) := by rw [evs]
    rw [e0] at q
    cases e1 : ev T a η with
    | ok x =>
      rw [e1] at q
      refine sa B old O σ H η _ r ?_
      rw [e1]
      intro v H1 s1 vx
      refine ss B old O σ H1 η _ (r.ext s1) ?_
      have q := Rs.bind (r := evs T as η) q
      refine q.imp fun xs k exs vs H2 s2 vr => ?_
      refine k ?_ (v :: vs) H2 (s1.trans s2) ⟨vx.ext s2, vr.back s1⟩
      show (evs T as η).bind (fun xs => Res.ok (x :: xs)) = _
      rw [exs]
      rfl
    | ex c =>
      rw [e1] at q
      refine sa B old O σ H η _ r ?_
      rw [e1]
      exact q
    | st =>
      rw [e1] at q
      exact q.elim
theorem t_tst {a : E} (iha : SE T M xa a) : ST T M xa (.tst a) := by
  intro X W e g h
  simp only [okT, Bool.and_eq_true] at h
  obtain ⟨ta, pa, sa⟩ := iha X W e g h.1
  refine ⟨_, pt_truth pa (fun wh => ?_), fun B old O σ H η Q r q => ?_⟩
  · have h2 := h.2
    cases e with
    | UnaryOp o x p =>
      cases o <;> first | rfl | (cases h2)
    | BoolOp => cases h2
    | IfExp => cases h2
    | Compare => cases h2
    | _ => rfl
  · unfold evt at q
    refine sa.run r q fun x v H1 s1 vx q1 => ?_
    obtain ⟨b, k1, k2⟩ := tru_ok' (K := X.K) (k := fun b => ∀ H', Same H H' → Q b H') vx.any q1
    exact ⟨b, k1, k2 H1 s1⟩
theorem t_cmp {o : Co} {a b : E} (iha : SE T M xa a) (ihb : SE T M xa b) : ST T M xa (.tcmp o a b) := by
  intro X W e g h
  unfold okT at h
  split at h
  · rename_i x p y pos
    simp only [Bool.and_eq_true, decide_eq_true_eq] at h
    obtain ⟨⟨h1, h2⟩, h3⟩ := h
    subst h1
    obtain ⟨ta, pa, sa⟩ := iha X W x g h2
    obtain ⟨tb, pb, sb⟩ := ihb X W y g h3
    obtain ⟨k, room, _⟩ := g.lv
    exact ⟨_, pt_cmpR (op_co (by have := room.un; omega) o) pa pb (marks_of _ h3), snd2t sa sb (co_ok o)⟩
  · cases h
theorem t_not {a : E} (iha : ST T M xa a) : ST T M xa (.tnot a) := by
  intro X W e g h
  unfold okT at h
  split at h
  · obtain ⟨ta, pa, sa⟩ := iha X W _ g h
    refine ⟨_, pt_not pa, fun B old O σ H η Q r q => ?_⟩
    unfold evt at q
    exact sa.run r q fun c H1 s1 q1 => q1 H1 s1
  · cases h
theorem pw_bop_and {x y : Expr} {xs : List Expr} {p : Pos} (h : ∃ t, PT X (.BoolOp .And (y :: xs) p) t) : True := trivial
variable (T M xa) in
/-- and, or stand as a test whatever their whole is -/
def SW (x : E) : Prop := ∀ X W op l p, GX T M xa X W → okT M X.N X.env.scope (.BoolOp op l p) x = true → ∃ t, PW X (.BoolOp op l p) t ∧ SndT xa X W t (evt T x)
theorem w_bone {k : Bool} {a : E} (iha : ST T M xa a) : SW T M xa (.tbone k a) := by
  intro X W op l p g h
  unfold okT at h
  split at h
  · rename_i e1
    cases e1
    simp only [Bool.and_eq_true] at h
    obtain ⟨ta, pa, sa⟩ := iha X W _ g h.2
    exact ⟨_, pw_and1 pa, sa⟩
  · rename_i e1
    cases e1
    simp only [Bool.and_eq_true] at h
    obtain ⟨ta, pa, sa⟩ := iha X W _ g h.2
    exact ⟨_, pw_or1 pa, sa⟩
  · cases h
theorem w_bop {k : Bool} {a r : E} (iha : ST T M xa a) (ihr : SW T M xa r) : SW T M xa (.tbop k a r) := by
  intro X W op l p g h
  unfold okT at h
  split at h
  · rename_i e1
    cases e1
    simp only [Bool.and_eq_true] at h
    obtain ⟨⟨h1, h2⟩, h3⟩ := h
    subst h1
    obtain ⟨ta, pa, sa⟩ := iha X W _ g h2
    obtain ⟨tr, pr, sr⟩ := ihr X W _ _ _ g h3
    refine ⟨_, pw_and pa pr, fun B old O σ H η Q rr q => ?_⟩
    unfold evt at q
    refine sa.run rr q fun c H1 s1 q1 => ?_
    cases c with
    | true => exact iteT (sr _ _ _ _ _ _ _ (rr.ext s1) (q1.imp fun b k H2 s2 => k H2 (s1.trans s2)))
    | false => exact iteF (q1 H1 s1)
  · rename_i e1
    cases e1
    simp only [Bool.and_eq_true, Bool.not_eq_true'] at h
    obtain ⟨⟨h1, h2⟩, h3⟩ := h
    subst h1
    obtain ⟨ta, pa, sa⟩ := iha X W _ g h2
    obtain ⟨tr, pr, sr⟩ := ihr X W _ _ _ g h3
    refine ⟨_, pw_or pa pr, fun B old O σ H η Q rr q => ?_⟩
    unfold evt at q
    refine sa.run rr q fun c H1 s1 q1 => ?_
    cases c with
    | true => exact iteT (q1 H1 s1)
    | false => exact iteF (sr _ _ _ _ _ _ _ (rr.ext s1) (q1.imp fun b k H2 s2 => k H2 (s1.trans s2)))
  · cases h
end
end PD

/-! PD5: comprehensions, walked things, the theorem on expressions. -/
namespace PD
open PySem PySem.Spec PyProof.Rows L2
section
variable {T : Tb} {M : Nm} {xa : Nat → Addr} {X : Cx} {W : WX}
variable {K : Fg} {B : Addr → Prop} {old : Old} {O : Ow} {H H0 H1 H' H'' : Hp} {σ : L2.St} {η : Env}
theorem o_nop : SO T M xa .nop := by
  intro X W e g h
  cases e with
  | none => exact ⟨_, po_none, fun B old O σ H η Q r q => q H (Same.refl H)⟩
  | some e => cases h
theorem o_sop {a : E} (iha : SE T M xa a) : SO T M xa (.sop a) := by
  intro X W e g h
  cases e with
  | none => cases h
  | some e =>
    obtain ⟨ta, pa, sa⟩ := iha X W e g h
    refine ⟨_, po_some pa, fun B old O σ H η Q r q => ?_⟩
    unfold evo at q
    refine sa.run r q fun x v H1 s1 vx q1 => ?_
    obtain ⟨i, e1, _, k⟩ := int_ok vx q1.bind
    exact ⟨i, e1, k H1 s1⟩
theorem small_of {i : Int} (h : small i) : -(2 ^ 62) ≤ i ∧ i < 2 ^ 62 := h
theorem i_r1 {a : E} (iha : SE T M xa a) : SI T M xa (.ir1 a) := by
  intro X W tg e g h
  unfold okI at h
  split at h
  · rename_i x p y pos
    simp only [Bool.and_eq_true, decide_eq_true_eq] at h
    obtain ⟨⟨h1, h2⟩, h3⟩ := h
    subst h1
    obtain ⟨ta, pa, sa⟩ := iha X W y g h3
    refine ⟨⟨_, pi_range1 (gl_of h2) (g.blt _ (by decide)) (pa_cons pa pa_nil (star_of h3 _ _)) (star_of h3 _ _), fun B old O σ H η R r q => ?_⟩, fun _ => rfl⟩
    unfold evi at q
    refine sa.run r q fun x v H1 s1 vx q1 => ?_
    obtain ⟨i, e1, _, k⟩ := int_ok vx q1.bind
    split at k
    · rename_i hs
      obtain ⟨b1, b2⟩ := small_of hs
      exact ⟨i, by rw [e1], b1, b2, k _ H1 s1 rfl⟩
    · exact k.elim
  · cases h
theorem i_r2 {a b : E} (iha : SE T M xa a) (ihb : SE T M xa b) : SI T M xa (.ir2 a b) := by
  intro X W tg e g h
  unfold okI at h
  split at h
  · rename_i x p y z pos
    simp only [Bool.and_eq_true, decide_eq_true_eq] at h
    obtain ⟨⟨⟨h1, h2⟩, h3⟩, h4⟩ := h
    subst h1
    obtain ⟨ta, pa, sa⟩ := iha X W y g h3
    obtain ⟨tb, pb, sb⟩ := ihb X W z g h4
    have e2 : starEach [z] X.env = [(false, eval z X.env)] := star_of h4 _ _
    have e1 : starEach [y, z] X.env = [(false, eval y X.env), (false, eval z X.env)] := by rw [star_of h3, e2]
    refine ⟨⟨_, pi_range2 (gl_of h2) (g.blt _ (by decide)) (pa_cons pa (pa_cons pb pa_nil (star_of h4 _ _)) (star_of h3 _ _)) e1 e2, fun B old O σ H η R r q => ?_⟩, fun _ => rfl⟩
    unfold evi at q
    refine sa.run r q fun x v H1 s1 vx q1 => ?_
    refine sb.run (r.ext s1) q1 fun y w H2 s2 vy q2 => ?_
    obtain ⟨i, e3, _, k⟩ := int_ok vx q2.bind
    obtain ⟨j, e4, _, k⟩ := int_ok vy k.bind
    split at k
    · rename_i hs
      obtain ⟨b1, b2⟩ := small_of hs.1
      obtain ⟨b3, b4⟩ := small_of hs.2
      exact ⟨i, j, by rw [e3, e4], ⟨b1, b2, b3, b4⟩, k _ H2 (s1.trans s2) rfl⟩
    · exact k.elim
  · cases h
theorem i_v {a : E} (iha : SE T M xa a) : SI T M xa (.itv a) := by
  intro X W tg e g h
  simp only [okI, Bool.and_eq_true] at h
  obtain ⟨ta, pa, sa⟩ := iha X W e g h.1
  refine ⟨⟨fun σ H R => iList X.K ta σ H R ∨ iTup X.K ta σ H R, ⟨fun pins s σ H R I q => ?_⟩, fun B old O σ H η R r q => ?_⟩, fun y => ?_⟩
  · rcases q with q | q
    · exact (pi_list pa).run pins s σ H R I q
    · exact (pi_tup pa).run pins s σ H R I q
  · unfold evi at q
    cases e1 : ev T a η with
    | ok x =>
      rw [e1] at q
      obtain ⟨ds, h1, k⟩ := oOk_ok (Rs.bind (r := oOk x.d.seq) q)
      cases h2 : x.d with
      | list es =>
        refine .inl (sa B old O σ H η _ r ?_)
        rw [e1]
        intro v H1 s1 vx
        obtain ⟨a, vs, rfl, ra, hk⟩ := vx.seqD h1
        rcases hk with ⟨h3, hs⟩ | ⟨h3, _, hs⟩
        · exact ⟨a, rfl, ⟨vs, hs⟩, k _ H1 s1 ⟨a, vx, .inl ⟨_, h3, rfl⟩⟩⟩
        · rw [h2] at h3; cases h3
      | tuple es =>
        refine .inr (sa B old O σ H η _ r ?_)
        rw [e1]
        intro v H1 s1 vx
        obtain ⟨a, vs, rfl, ra, hk⟩ := vx.seqD h1
        rcases hk with ⟨h3, hs⟩ | ⟨h3, _, hs⟩
        · rw [h2] at h3; cases h3
        · exact ⟨a, rfl, ⟨vs, hs⟩, k _ H1 s1 ⟨a, vx, .inr ⟨_, h3, rfl⟩⟩⟩
      | _ => rw [h2] at h1; cases h1
    | ex c =>
      rw [e1] at q
      refine .inl (sa B old O σ H η _ r ?_)
      rw [e1]
      exact q
    | st => rw [e1] at q; exact q.elim
  · have h2 := h.2
    cases e with
    | Set => cases h2
    | _ => rfl

/-! ### readings without a term -/
def can (K : Fg) (xa : Nat → Addr) (W : WX) (f : Env → Res Val) : TE := fun σ H Q => ∃ B old O η, ER K B old O H σ η ∧
  Rs (XH K xa W B old η) (fun x => ∀ v H', Same H H' → VR K B O H H' v x → Q v H') (f η)
def canT (K : Fg) (xa : Nat → Addr) (W : WX) (f : Env → Res Bool) : TT := fun σ H Q => ∃ B old O η, ER K B old O H σ η ∧
  Rs (XH K xa W B old η) (fun x => ∀ H', Same H H' → Q x H') (f η)
theorem SE.can {x : E} (h : SE T M xa x) {e : Expr} (g : GX T M xa X W) (k : okE M X.N X.env.scope e x = true) : PE X e (can X.K xa W (ev T x)) := by
  obtain ⟨t, pt, st⟩ := h X W e g k
  refine ⟨fun pins s σ H Q I hq => ?_⟩
  obtain ⟨B, old, O, η, r, q⟩ := hq
  exact pt.run pins s σ H Q I (st B old O σ H η Q r q)
theorem i_r3 {a b : E} {c : Int} (iha : SE T M xa a) (ihb : SE T M xa b) : SI T M xa (.ir3 a b c) := by
  intro X W tg e g h
  have go : ∀ (x : Str) (p : Pos) (y z k : Expr) (pos : Pos), x = "range" → glB X.env.scope x = true → okE M X.N X.env.scope y a = true → okE M X.N X.env.scope z b = true → PE X k (tC (.int c)) → starEach [k] X.env = [(false, eval k X.env)] →
      (∃ t, PI X tg (.Call (.Name x p) [y, z, k] [] pos) t ∧ SndI xa X W t (evi T (.ir3 a b c))) := by
    intro x p y z k pos h1 h2 h3 h4 pk e3
    subst h1
    obtain ⟨ta, pa, sa⟩ := iha X W y g h3
    obtain ⟨tb, pb, sb⟩ := ihb X W z g h4
    have e2 : starEach [z, k] X.env = [(false, eval z X.env), (false, eval k X.env)] := by rw [star_of h4, e3]
    have e1 : starEach [y, z, k] X.env = (false, eval y X.env) :: starEach [z, k] X.env := by rw [star_of h3]
    refine ⟨_, pi_range3 (gl_of h2) (g.blt _ (by decide)) (pa_cons pa (pa_cons pb (pa_cons pk pa_nil (by rw [e3]; rfl)) (star_of h4 _ _)) (star_of h3 _ _)) e1 (by rw [e2]; rfl), fun B old O σ H η R r q => ?_⟩
    unfold evi at q
    refine sa.run r q fun x v H1 s1 vx q1 => ?_
    refine sb.run (r.ext s1) q1 fun y w H2 s2 vy q2 => ?_
    obtain ⟨i, e3, _, k⟩ := int_ok vx q2.bind
    obtain ⟨j, e4, _, k⟩ := int_ok vy k.bind
    unfold rgV at k
    split at k
    · rename_i hs
      exact ⟨i, j, c, _, by rw [e3, e4], Classical.choose_spec hs, k _ H2 (s1.trans s2) rfl⟩
    · exact k.elim
  unfold okI at h
  split at h
  · rename_i x p y z k k1 k2 pos
    simp only [Bool.and_eq_true, decide_eq_true_eq] at h
    obtain ⟨⟨⟨⟨h1, h2⟩, h3⟩, h4⟩, h5⟩ := h
    subst h5
    exact ⟨go x p y z _ pos h1 h2 h3 h4 pe_int rfl, fun _ => rfl⟩
  · rename_i x p y z k k1 k2 k3 pos
    simp only [Bool.and_eq_true, decide_eq_true_eq] at h
    obtain ⟨⟨⟨⟨h1, h2⟩, h3⟩, h4⟩, h5⟩ := h
    subst h5
    refine ⟨go x p y z _ pos h1 h2 h3 h4 ?_ rfl, fun _ => rfl⟩
    exact ⟨fun pins s σ H Q I w => (pe_un un_neg (show PE X (.Constant (.int k) _ _) (tC (.int k)) from pe_int)).run pins s σ H Q I ⟨k, rfl, w⟩⟩
  · cases h
theorem ST.can {x : E} (h : ST T M xa x) {e : Expr} (g : GX T M xa X W) (k : okT M X.N X.env.scope e x = true) : PT X e (canT X.K xa W (evt T x)) := by
  obtain ⟨t, pt, st⟩ := h X W e g k
  refine ⟨fun pins s σ H Q I hq => ?_⟩
  obtain ⟨B, old, O, η, r, q⟩ := hq
  exact pt.run pins s σ H Q I (st B old O σ H η Q r q)

/-- what is walked yields its items, as long as the heap only grows -/
theorem WkR.step {J : It} {w : Wk} {i : Nat} (r : WkR K B O H0 H1 J w) (hw : ∀ x, w = .v x → x.d.seq ≠ none) (s : Same H1 H) :
    (w.ds.length ≤ i → J.stop i H) ∧ ∀ d, w.ds[i]? = some d → J.go i H ∧ ∀ x H', J.yld i H x H' → H' = H ∧ Rp K (Own O B) H1 x d := by
  cases w with
  | v x =>
    obtain ⟨a, vx, hj⟩ := r
    cases h1 : x.d.seq with
    | none => exact absurd h1 (hw x rfl)
    | some ds =>
      have eds : (Wk.v x).ds = ds := by
        show x.d.seq.getD [] = ds
        rw [h1]
        rfl
      rw [eds]
      obtain ⟨a', vs, ea, ra, hk⟩ := vx.seqD h1
      cases ea
      rcases hj with ⟨es, h2, rfl⟩ | ⟨es, h2, rfl⟩
      · rcases hk with ⟨_, hs⟩ | ⟨h3, _, _⟩
        · have hs' := s.seq hs
          refine ⟨fun hl => ⟨vs, hs', by rw [ra.length]; exact hl⟩, fun d hd => ?_⟩
          obtain ⟨v, e1, e2⟩ := ra.get hd
          refine ⟨⟨vs, v, hs', e1⟩, fun x' H' y => ⟨y.1, ?_⟩⟩
          have := y.2 vs hs'
          rw [e1] at this
          cases this
          exact e2
        · rw [h2] at h3; cases h3
      · rcases hk with ⟨h3, _⟩ | ⟨h3, _, hs⟩
        · rw [h2] at h3; cases h3
        · have hs' := sqt_same s hs
          refine ⟨fun hl => ⟨vs, hs', by rw [ra.length]; exact hl⟩, fun d hd => ?_⟩
          obtain ⟨v, e1, e2⟩ := ra.get hd
          refine ⟨⟨vs, v, hs', e1⟩, fun x' H' y => ⟨y.1, ?_⟩⟩
          have := y.2 vs hs'
          rw [e1] at this
          cases this
          exact e2
  | r lo n =>
    cases r
    have el : (Wk.r lo n).ds.length = n := by simp [Wk.ds, rngD]
    refine ⟨fun hl => by rw [el] at hl; exact hl, fun d hd => ?_⟩
    have hi : i < n := by
      have := (List.getElem?_eq_some_iff.mp hd).1
      rw [el] at this
      exact this
    have ed : d = .int (lo + i) := by
      simp only [Wk.ds, rngD, List.getElem?_map, List.getElem?_range hi, Option.map_some, Option.some.injEq] at hd
      exact hd.symm
    subst ed
    exact ⟨hi, fun x H' y => ⟨y.1, by rw [y.2]; exact .int _⟩⟩
  | c lo c n =>
    cases r
    have el : (Wk.c lo c n).ds.length = n := by simp [Wk.ds, rngC]
    refine ⟨fun hl => by rw [el] at hl; exact hl, fun d hd => ?_⟩
    have hi : i < n := by
      have := (List.getElem?_eq_some_iff.mp hd).1
      rw [el] at this
      exact this
    have ed : d = .int (lo + (i : Int) * c) := by
      simp only [Wk.ds, rngC, List.getElem?_map, List.getElem?_range hi, Option.map_some, Option.some.injEq] at hd
      exact hd.symm
    subst ed
    exact ⟨hi, fun x H' y => ⟨y.1, by rw [y.2]; exact .int _⟩⟩
theorem rgV_nv {i j c : Int} {y : Val} : rgV i j c ≠ .ok (.v y) := by
  unfold rgV
  split
  · exact fun z => by cases z
  · exact fun z => by cases z
theorem evi_seq {x : E} {w : Wk} (h : evi T x η = .ok w) : ∀ y, w = .v y → y.d.seq ≠ none := by
  intro y e z
  subst e
  cases x with
  | itv a =>
    unfold evi at h
    cases e1 : ev T a η with
    | ok x =>
      rw [e1] at h
      have h : (oOk x.d.seq).map (fun _ => Wk.v x) = .ok (.v y) := h
      cases e2 : x.d.seq with
      | none => rw [e2] at h; cases h
      | some ds =>
        rw [e2] at h
        cases h
        rw [e2] at z; cases z
    | ex c => rw [e1] at h; cases h
    | st => rw [e1] at h; cases h
  | ir1 a =>
    unfold evi at h
    cases e1 : ev T a η with
    | ok x =>
      rw [e1] at h
      have h : (intOf x).bind (fun n => if small n then Res.ok (Wk.r 0 n.toNat) else .st) = Res.ok (Wk.v y) := h
      cases e2 : intOf x with
      | ok n =>
        rw [e2] at h
        have h : (if small n then Res.ok (Wk.r 0 n.toNat) else .st) = .ok (.v y) := h
        split at h <;> cases h
      | ex c => rw [e2] at h; cases h
      | st => rw [e2] at h; cases h
    | ex c => rw [e1] at h; cases h
    | st => rw [e1] at h; cases h
  | ir2 a b =>
    unfold evi at h
    cases e1 : ev T a η with
    | ok x =>
      rw [e1] at h
      have h : ((ev T b η).bind fun y => (intOf x).bind fun i => (intOf y).bind fun j => if small i ∧ small j then Res.ok (Wk.r i (j - i).toNat) else .st) = .ok (.v y) := h
      cases e2 : ev T b η with
      | ok z =>
        rw [e2] at h
        have h : ((intOf x).bind fun i => (intOf z).bind fun j => if small i ∧ small j then Res.ok (Wk.r i (j - i).toNat) else .st) = .ok (.v y) := h
        cases e3 : intOf x with
        | ok i =>
          rw [e3] at h
          have h : ((intOf z).bind fun j => if small i ∧ small j then Res.ok (Wk.r i (j - i).toNat) else .st) = .ok (.v y) := h
          cases e4 : intOf z with
          | ok j =>
            rw [e4] at h
            have h : (if small i ∧ small j then Res.ok (Wk.r i (j - i).toNat) else .st) = .ok (.v y) := h
            split at h <;> cases h
          | ex c => rw [e4] at h; cases h
          | st => rw [e4] at h; cases h
        | ex c => rw [e3] at h; cases h
        | st => rw [e3] at h; cases h
      | ex c => rw [e2] at h; cases h
      | st => rw [e2] at h; cases h
    | ex c => rw [e1] at h; cases h
    | st => rw [e1] at h; cases h
  | ir3 a b c =>
    unfold evi at h
    cases e1 : ev T a η with
    | ok x =>
      rw [e1] at h
      have h : ((ev T b η).bind fun y => (intOf x).bind fun i => (intOf y).bind fun j => rgV i j c) = .ok (.v y) := h
      cases e2 : ev T b η with
      | ok z =>
        rw [e2] at h
        have h : ((intOf x).bind fun i => (intOf z).bind fun j => rgV i j c) = .ok (.v y) := h
        cases e3 : intOf x with
        | ok i =>
          rw [e3] at h
          have h : ((intOf z).bind fun j => rgV i j c) = .ok (.v y) := h
          cases e4 : intOf z with
          | ok j =>
            rw [e4] at h
            exact absurd h rgV_nv
          | ex c => rw [e4] at h; cases h
          | st => rw [e4] at h; cases h
        | ex c => rw [e3] at h; cases h
        | st => rw [e3] at h; cases h
      | ex c => rw [e2] at h; cases h
      | st => rw [e2] at h; cases h
    | ex c => rw [e1] at h; cases h
    | st => rw [e1] at h; cases h
  | _ => cases h

/-! ### comprehensions -/
abbrev W0 : WX := fun _ _ _ _ => False
theorem takes_noneN {X : Cx} : L2N.Takes X (fun _ _ _ _ => False) := fun _ _ ⟨_, _, _, _, _, _, _, _, _, _, _, _, _, _, _, _, w⟩ => w.elim
theorem GX.blk (g : GX T M xa X W) (s : Shared) (H : Hp) (scope : Scope) (ce : PySem.Env) (fp : List Addr) : GX T M xa (X.blk s H scope ce fp) W0 where
  calm := g.calm
  nd := g.nd
  blt := g.blt
  lv := g.lv
  gl := g.gl
  tk := takes_noneN
  py := ⟨g.py.ns, g.py.tr, g.py.dp, g.py.stk⟩
  hx := g.hx
  exm := g.exm
  exn := g.exn
theorem freeS_lt {v : Nat} (h : freeS η v = true) : v < η.length := by
  unfold freeS at h
  split at h
  · cases h
  · cases h
  · rename_i e
    exact (List.getElem?_eq_some_iff.mp e).1
  · cases h
theorem freeS_no {v : Nat} {a : Addr} (h : freeS η v = true) (r : ER K B old O H σ η) : O v ≠ some a := by
  intro e
  obtain ⟨s, q, hs⟩ := r.dom v a e
  unfold freeS at h
  rw [q] at h
  cases s <;> first | (cases hs; done) | (cases h; done)
/-- the names within a comprehension's turn -/
theorem ER.blk {v : Nat} {D : Addr} {x : V} {d : PyData} {vs : List V} (r : ER K B old O H σ η) (hv : freeS η v = true) (s : Same H H1) (hD : H1 D = none) (s' : Same H1 H') (hD' : H' D = some (.lst vs)) (rx : Rp K (Own O B) H1 x d) :
    ER K (fun a => B a ∨ a = D) old O H' (σ.set v (some x)) (η.set v (some (.sh d))) where
  len := by rw [List.length_set, List.length_set]; exact r.len
  sl := fun i z e => by
    have c : Ca K (Own O B) (Own O fun a => B a ∨ a = D) H H' := Ca.more (s.trans s') fun a q => by
      rcases q with q | q | q
      · exact .inl (.inl q)
      · exact .inl (.inr q)
      · exact .inr (q ▸ s.free hD)
    have hl : v < η.length := freeS_lt hv
    by_cases hi : v = i
    · subst hi
      rw [List.getElem?_set_self hl] at e
      cases e
      refine ⟨x, List.getElem?_set_self (by rw [r.len]; exact hl), rx.ca (Ca.more s' fun a q => ?_)⟩
      rcases q with q | q | q
      · exact .inl (.inl q)
      · exact .inl (.inr q)
      · exact .inr (q ▸ hD)
    · rw [List.getElem?_set_ne hi] at e
      have q := r.sl i z e
      cases z with
      | sh d =>
        obtain ⟨w, q1, q2⟩ := q
        exact ⟨w, by rw [List.getElem?_set_ne hi]; exact q1, q2.ca c⟩
      | ow ds =>
        obtain ⟨a, ws, q0, q1, q2, q3⟩ := q
        exact ⟨a, ws, q0, by rw [List.getElem?_set_ne hi]; exact q1, s' _ _ (s _ _ q2), q3.ca c⟩
      | od l =>
        obtain ⟨a, q0, q1, q2⟩ := q
        exact ⟨a, q0, by rw [List.getElem?_set_ne hi]; exact q1, s' _ _ (s _ _ q2)⟩
      | kk k =>
        obtain ⟨w, q1, q2⟩ := q
        exact ⟨w, by rw [List.getElem?_set_ne hi]; exact q1, q2.ca c⟩
  dom := fun i a e => by
    obtain ⟨ds, q, hs⟩ := r.dom i a e
    have hi : v ≠ i := fun z => freeS_no hv r (z ▸ e)
    exact ⟨ds, by rw [List.getElem?_set_ne hi]; exact q, hs⟩
  inj := r.inj
  disj := fun i a e z => by
    rcases z with z | z
    · exact r.disj i a e z
    · exact r.lst e (by rw [z]; exact s.free hD)
  fr := r.fr
  same := (r.same.trans s).trans s'
  bt := fun a z q => by
    rcases z with z | z
    · exact r.bt a z (s.free (s'.free q))
    · rw [z, hD'] at q; cases q
  gh := r.gh.ca (Ca.more (s.trans s') fun a q => by
      rcases q with q | q | q
      · exact .inl (.inl q)
      · exact .inl (.inr q)
      · exact .inr (q ▸ s.free hD))
noncomputable def tcond (T : Tb) (c : E) (η : Env) : Res Bool := match c with | .nop => .ok true | c => evt T c η
theorem wipe1 (σ : L2.St) (v : Nat) : wipe σ [v] = σ.set v none := rfl
variable (T M xa) in
/-- a comprehension, also stored on its line -/
def SL (x : E) : Prop := ∀ X W e, GX T M xa X W → okE M X.N X.env.scope e x = true → ∃ t, PE X e t ∧ Snd xa X W t (ev T x) ∧
  ∀ i y (py : Pos) (spos : Pos), X.N[i]? = some y → X.env.scope.names.lookup y = some .local → swapsWith e (some (.Name y py)) spos.line X.env = pure true → PS X (.Assign [.Name y py] e spos) (tAsg t (gName i))
theorem s_compL {v : Nat} {it c x : E} (ihi : SI T M xa it) (ihc : ST T M xa c) (ihx : SE T M xa x) : SL T M xa (.comp v it c x) := by
  intro X W e g h
  unfold okE at h
  split at h
  · rename_i elt y py iter ifs scope pos
    simp only [Bool.and_eq_true, decide_eq_true_eq] at h
    obtain ⟨⟨⟨⟨⟨⟨h1, h2⟩, h3⟩, h4⟩, h5⟩, h6⟩, h7⟩ := h
    obtain ⟨⟨wi, pi, si⟩, hf⟩ := ihi X W (.Name y py) iter g h3
    have hk : scope.names.lookup y = some .cell ∨ scope.names.lookup y = some .local := by
      revert h5
      split
      · rename_i e; exact fun _ => .inl e
      · rename_i e; exact fun _ => .inr e
      · intro z; cases z
    have hloc : ∀ (s : Shared) (H : Hp) (C : Addr) (cl : List (Str × Addr)) (fp : List Addr), PG (X.blk s H scope (compEnvC scope cl C X.env) fp) (.Name y py) (gName v) := fun s H C cl fp => by
      have hl : L2.Loc (relS scope X.env.scope) y := by
        rcases hk with hk | hk
        · exact .inr (lookup_relS_keep (by decide) hk)
        · exact .inl (lookup_relS_keep (by decide) hk)
      refine pg_name (X := X.blk s H scope (compEnvC scope cl C X.env) fp) g.nd h1 hl ?_
      rcases hk with hk | hk
      · left
        show (scope.names.lookup y == some .cell) = true
        rw [hk]
        rfl
      · right
        exact lookup_relS_keep (by decide) hk
    obtain ⟨tt, htt, hct⟩ : ∃ tt : TT, (∀ (s : Shared) (H : Hp) (C : Addr) (cl : List (Str × Addr)) (fp : List Addr), PTs (X.blk s H scope (compEnvC scope cl C X.env) fp) ifs tt) ∧
        (∀ B old O σ H η Q, ER X.K B old O H σ η → Rs (XH X.K xa W0 B old η) (fun b => ∀ H', Same H H' → Q b H') (tcond T c η) → tt σ H Q) := by
      cases ifs with
      | nil =>
        have ec : c = .nop := by
          cases c <;> first | rfl | (cases h6)
        subst ec
        exact ⟨tYes, fun _ _ _ _ _ => pts_nil, fun B old O σ H η Q r q => q H (Same.refl H)⟩
      | cons t l =>
        cases l with
        | nil =>
          have h6 : okT M X.N (relS scope X.env.scope) t c = true := h6
          refine ⟨canT X.K xa W0 (evt T c), fun s H C cl fp => pts_one (ihc.can (g.blk s H scope (compEnvC scope cl C X.env) fp) h6), fun B old O σ H η Q r q => ⟨B, old, O, η, r, ?_⟩⟩
          have e : tcond T c η = evt T c η := by
            cases c <;> first | rfl | (exact absurd h6 (by simp [okT]))
          rw [← e]
          exact q
        | cons t2 l => cases h6
    have hx : ∀ (s : Shared) (H : Hp) (C : Addr) (cl : List (Str × Addr)) (fp : List Addr), PE (X.blk s H scope (compEnvC scope cl C X.env) fp) elt (can X.K xa W0 (ev T x)) := fun s H C cl fp => ihx.can (e := elt) (g.blk s H scope (compEnvC scope cl C X.env) fp) h7
    refine ⟨_, pe_lc (own := [(y, v)]) g.calm g.nd pi (blkOk_by h2) hloc htt hx hf, fun B old O σ H η Q r q => ?_, fun i y' py' spos hy hyl hsw => ps_setLc (own := [(y, v)]) g.calm g.nd hy hyl hsw pi (blkOk_by h2) hloc htt hx hf⟩
    unfold ev at q
    split at q
    · rename_i hv
      refine si B old O σ H η _ r ?_
      have q := q.bind
      cases ew : evi T it η with
      | st => rw [ew] at q; exact q.elim
      | ex cc => rw [ew] at q; exact q
      | ok w =>
        rw [ew] at q
        intro J H1 s1 hw D hD
        have q : Rs (XH X.K xa W B old η) (fun x => ∀ (v : V) (H' : Hp), Same H H' → VR X.K B O H H' v x → Q v H') (compR (compF (fun d => tcond T c (η.set v (some (.sh d)))) (fun d => ev T x (η.set v (some (.sh d)))) w.ds [])) := q
        cases ec : compF (fun d => tcond T c (η.set v (some (.sh d)))) (fun d => ev T x (η.set v (some (.sh d)))) w.ds [] with
        | st => rw [ec] at q; exact q.elim
        | ex cc => rw [ec] at q; exact q.elim
        | ok ys =>
          rw [ec] at q
          refine ⟨fun i m Hi => m = w.ds.length - i ∧ i ≤ w.ds.length ∧ Same H1 Hi ∧ ∃ acc vs, Hi D = some (.lst vs) ∧ RpAll X.K (fun a => Own O B a ∨ a = D) Hi vs acc ∧
            compF (fun d => tcond T c (η.set v (some (.sh d)))) (fun d => ev T x (η.set v (some (.sh d)))) (w.ds.drop i) acc = .ok ys,
            ⟨w.ds.length, rfl, Nat.zero_le _, same_upd hD, [], [], upd_same, .nil, ec⟩, fun i m Hi hW => ?_⟩
          obtain ⟨rfl, hi, sm, acc, vs, eD, rA, eC⟩ := hW
          have stp := hw.step (i := i) (evi_seq ew) sm
          by_cases hlt : i < w.ds.length
          · right
            have ei : w.ds[i]? = some w.ds[i] := List.getElem?_eq_getElem hlt
            obtain ⟨go, yl⟩ := stp.2 _ ei
            rw [List.drop_eq_getElem_cons hlt] at eC
            refine ⟨go, fun H' => Same H1 H' ∧ ∃ acc vs, H' D = some (.lst vs) ∧ RpAll X.K (fun a => Own O B a ∨ a = D) H' vs acc ∧
              compF (fun d => tcond T c (η.set v (some (.sh d)))) (fun d => ev T x (η.set v (some (.sh d)))) (w.ds.drop (i + 1)) acc = .ok ys, fun H' hN => ⟨w.ds.length - (i + 1), by omega, rfl, hlt, hN⟩, fun z H' hy => ?_⟩
            obtain ⟨rfl, rz⟩ := yl z H' hy
            refine ⟨?_, ?_⟩
            · show ((wipe σ [v]).set v (some z)).set v none = σ.set v none
              rw [wipe1, List.set_set, List.set_set]
            have e2 : (wipe σ (List.map (·.2) [(y, v)])).set v (some z) = σ.set v (some z) := by
              show (wipe σ [v]).set v (some z) = _
              rw [wipe1, List.set_set]
            rw [e2]
            have rb := r.blk hv s1 hD sm eD rz
            unfold compF at eC
            refine hct _ _ _ _ _ _ _ rb ?_
            cases et : tcond T c (η.set v (some (.sh w.ds[i]))) with
            | st => rw [et] at eC; cases eC
            | ex cc => rw [et] at eC; cases eC
            | ok b =>
              rw [et] at eC
              intro H3 s3
              cases b with
              | false =>
                refine iteF ⟨sm.trans s3, acc, vs, s3 _ _ eD, rA.ca (Ca.grow s3), ?_⟩
                exact eC
              | true =>
                refine iteT ⟨_, _, _, _, rb.ext s3, ?_⟩
                have eC : ((ev T x (η.set v (some (.sh w.ds[i])))).bind fun z => (oOk z.sh).bind fun y => if Sm (acc.length + 1) then compF _ _ (w.ds.drop (i + 1)) (acc ++ [y]) else .st) = .ok ys := eC
                cases ee : ev T x (η.set v (some (.sh w.ds[i]))) with
                | st => rw [ee] at eC; cases eC
                | ex cc => rw [ee] at eC; cases eC
                | ok z2 =>
                  rw [ee] at eC
                  intro y H4 s4 vy
                  have eC : ((oOk z2.sh).bind fun y => if Sm (acc.length + 1) then compF _ _ (w.ds.drop (i + 1)) (acc ++ [y]) else .st) = .ok ys := eC
                  cases es : z2.sh with
                  | none => rw [es] at eC; cases eC
                  | some d2 =>
                    rw [es] at eC
                    have eC : (if Sm (acc.length + 1) then compF _ _ (w.ds.drop (i + 1)) (acc ++ [d2]) else .st) = .ok ys := eC
                    split at eC
                    · rename_i hb
                      have rob := (rb.ext s3).ob
                      have ry := vy.shared rob.l rob.b es
                      have s34 := s3.trans s4
                      refine ⟨vs, s34 _ _ eD, by rw [rA.length, sz]; exact hb, ?_, acc ++ [d2], vs ++ [y], upd_same, ?_, eC⟩
                      · intro b o e
                        have nb : b ≠ D := fun z => by rw [z, hD] at e; cases e
                        rw [upd_ne nb]
                        exact s34 _ _ (sm _ _ e)
                      · have c1 : Ca X.K (fun a => Own O B a ∨ a = D) (fun a => Own O B a ∨ a = D) H4 (upd H4 D (.lst (vs ++ [y]))) := Ca.upd (.inr rfl) (s34 _ _ eD)
                        refine (RpAll.append (rA.ca (Ca.grow s34)) (.cons (ry.ca (Ca.less fun a z => ?_)) .nil)).ca c1
                        rcases z with (z | z) | z
                        · exact .inl z
                        · exact .inr (.inl z)
                        · exact .inr (.inr z)
                    · cases eC
          · left
            have e : i = w.ds.length := by omega
            subst e
            rw [List.drop_length] at eC
            cases eC
            refine ⟨stp.1 (Nat.le_refl _), q _ Hi ?_ ⟨D, vs, rfl, s1.free hD, eD, rA⟩⟩
            exact s1.trans sm
    · exact q.elim
  · cases h

theorem s_comp {v : Nat} {it c x : E} (ihi : SI T M xa it) (ihc : ST T M xa c) (ihx : SE T M xa x) : SE T M xa (.comp v it c x) := fun X W e g h => by
  obtain ⟨t, h1, h2, _⟩ := s_compL ihi ihc ihx X W e g h
  exact ⟨t, h1, h2⟩

/-- a name that holds no object of its own is given a thing -/
theorem ER.put {v : Nat} {x : V} {d : PyData} (r : ER K B old O H σ η) (hv : freeS η v = true) (rx : Rp K (Own O B) H x d) :
    ER K B old O H (σ.set v (some x)) (η.set v (some (.sh d))) where
  len := by rw [List.length_set, List.length_set]; exact r.len
  sl := fun i z e => by
    have hl : v < η.length := freeS_lt hv
    by_cases hi : v = i
    · subst hi
      rw [List.getElem?_set_self hl] at e
      cases e
      exact ⟨x, List.getElem?_set_self (by rw [r.len]; exact hl), rx⟩
    · rw [List.getElem?_set_ne hi] at e
      have q := r.sl i z e
      cases z with
      | sh d =>
        obtain ⟨w, q1, q2⟩ := q
        exact ⟨w, by rw [List.getElem?_set_ne hi]; exact q1, q2⟩
      | ow ds =>
        obtain ⟨a, ws, q0, q1, q2, q3⟩ := q
        exact ⟨a, ws, q0, by rw [List.getElem?_set_ne hi]; exact q1, q2, q3⟩
      | od l =>
        obtain ⟨a, q0, q1, q2⟩ := q
        exact ⟨a, q0, by rw [List.getElem?_set_ne hi]; exact q1, q2⟩
      | kk k =>
        obtain ⟨w, q1, q2⟩ := q
        exact ⟨w, by rw [List.getElem?_set_ne hi]; exact q1, q2⟩
  dom := fun i a e => by
    obtain ⟨ds, q, hs⟩ := r.dom i a e
    have hi : v ≠ i := fun z => freeS_no hv r (z ▸ e)
    exact ⟨ds, by rw [List.getElem?_set_ne hi]; exact q, hs⟩
  inj := r.inj
  disj := r.disj
  fr := r.fr
  same := r.same
  bt := r.bt
  gh := r.gh
theorem s_comp2L {v u : Nat} {it x : E} (ihi : SI T M xa it) (ihx : SE T M xa x) : SL T M xa (.comp2 v u it x) := by
  intro X W e g h
  unfold okE at h
  split at h
  · rename_i elt y py z pz kt pt iter scope pos
    simp only [Bool.and_eq_true, decide_eq_true_eq] at h
    obtain ⟨⟨⟨⟨⟨⟨h1, h1z⟩, h2⟩, h3⟩, h5⟩, h5z⟩, h7⟩ := h
    obtain ⟨⟨wi, pi, si⟩, hf⟩ := ihi X W (.Tuple [.Name y py, .Name z pz] kt pt) iter g h3
    have hloc : ∀ (n : Nat) (y : Str) (py : Pos), X.N[n]? = some y → (match scope.names.lookup y with | some .cell => true | some .local => true | _ => false) = true → ∀ (s : Shared) (H : Hp) (C : Addr) (cl : List (Str × Addr)) (fp : List Addr), PG (X.blk s H scope (compEnvC scope cl C X.env) fp) (.Name y py) (gName n) := fun n y py h1 h5 s H C cl fp => by
      have hk : scope.names.lookup y = some .cell ∨ scope.names.lookup y = some .local := by
        revert h5
        split
        · rename_i e; exact fun _ => .inl e
        · rename_i e; exact fun _ => .inr e
        · intro z; cases z
      have hl : L2.Loc (relS scope X.env.scope) y := by
        rcases hk with hk | hk
        · exact .inr (lookup_relS_keep (by decide) hk)
        · exact .inl (lookup_relS_keep (by decide) hk)
      refine pg_name (X := X.blk s H scope (compEnvC scope cl C X.env) fp) g.nd h1 hl ?_
      rcases hk with hk | hk
      · left
        show (scope.names.lookup y == some .cell) = true
        rw [hk]
        rfl
      · right
        exact lookup_relS_keep (by decide) hk
    have hloc2 : ∀ (s : Shared) (H : Hp) (C : Addr) (cl : List (Str × Addr)) (fp : List Addr), PG (X.blk s H scope (compEnvC scope cl C X.env) fp) (.Tuple [.Name y py, .Name z pz] kt pt) (gTup X.K 2 (gCons (gName v) (gCons (gName u) gNil))) := fun s H C cl fp =>
      pg_tup (X := X.blk s H scope (compEnvC scope cl C X.env) fp) g.calm (pgs_cons (hloc v y py h1 h5 s H C cl fp) (pgs_cons (hloc u z pz h1z h5z s H C cl fp) pgs_nil))
    have hx : ∀ (s : Shared) (H : Hp) (C : Addr) (cl : List (Str × Addr)) (fp : List Addr), PE (X.blk s H scope (compEnvC scope cl C X.env) fp) elt (can X.K xa W0 (ev T x)) := fun s H C cl fp => ihx.can (e := elt) (g.blk s H scope (compEnvC scope cl C X.env) fp) h7
    refine ⟨_, pe_lc (own := [(y, v), (z, u)]) g.calm g.nd pi (blkOk_by h2) hloc2 (fun _ _ _ _ _ => pts_nil) hx hf, fun B old O σ H η Q r q => ?_, fun i y' py' spos hy hyl hsw => ps_setLc (own := [(y, v), (z, u)]) g.calm g.nd hy hyl hsw pi (blkOk_by h2) hloc2 (fun _ _ _ _ _ => pts_nil) hx hf⟩
    unfold ev at q
    split at q
    · rename_i hvu
      obtain ⟨hv, hu, hne⟩ := hvu
      have fu : ∀ o : Option Sl, freeS (η.set v o) u = true := fun o => by
        unfold freeS at hu ⊢
        rw [List.getElem?_set_ne hne]
        exact hu
      refine si B old O σ H η _ r ?_
      have q := q.bind
      cases ew : evi T it η with
      | st => rw [ew] at q; exact q.elim
      | ex cc => rw [ew] at q; exact q
      | ok w =>
        rw [ew] at q
        intro J H1 s1 hw D hD
        generalize hF : (fun d => two2 d fun a b => ev T x ((η.set v (some (.sh a))).set u (some (.sh b)))) = F at q
        have q : Rs (XH X.K xa W B old η) (fun x => ∀ (v : V) (H' : Hp), Same H H' → VR X.K B O H H' v x → Q v H') (compR (compF (fun _ => .ok true) F w.ds [])) := q
        cases ec : compF (fun _ => .ok true) F w.ds [] with
        | st => rw [ec] at q; exact q.elim
        | ex cc => rw [ec] at q; exact q.elim
        | ok ys =>
          rw [ec] at q
          refine ⟨fun i m Hi => m = w.ds.length - i ∧ i ≤ w.ds.length ∧ Same H1 Hi ∧ ∃ acc vs, Hi D = some (.lst vs) ∧ RpAll X.K (fun a => Own O B a ∨ a = D) Hi vs acc ∧
            compF (fun _ => .ok true) F (w.ds.drop i) acc = .ok ys,
            ⟨w.ds.length, rfl, Nat.zero_le _, same_upd hD, [], [], upd_same, .nil, ec⟩, fun i m Hi hW => ?_⟩
          obtain ⟨rfl, hi, sm, acc, vs, eD, rA, eC⟩ := hW
          have stp := hw.step (i := i) (evi_seq ew) sm
          by_cases hlt : i < w.ds.length
          · right
            have ei : w.ds[i]? = some w.ds[i] := List.getElem?_eq_getElem hlt
            obtain ⟨go, yl⟩ := stp.2 _ ei
            rw [List.drop_eq_getElem_cons hlt] at eC
            generalize w.ds[i] = dd at eC yl ei
            refine ⟨go, fun H' => Same H1 H' ∧ ∃ acc vs, H' D = some (.lst vs) ∧ RpAll X.K (fun a => Own O B a ∨ a = D) H' vs acc ∧
              compF (fun _ => .ok true) F (w.ds.drop (i + 1)) acc = .ok ys, fun H' hN => ⟨w.ds.length - (i + 1), by omega, rfl, hlt, hN⟩, fun z H' hy => ?_⟩
            obtain ⟨rfl, rz⟩ := yl z H' hy
            unfold compF at eC
            rw [← hF] at eC
            have eC : ((two2 dd fun a b => ev T x ((η.set v (some (.sh a))).set u (some (.sh b)))).bind fun z => (oOk z.sh).bind fun y => if Sm (acc.length + 1) then compF _ _ (w.ds.drop (i + 1)) (acc ++ [y]) else .st) = .ok ys := eC
            have hdd : ∃ d1 d2, dd = .tuple [d1, d2] := by
              unfold two2 at eC
              split at eC
              · exact ⟨_, _, rfl⟩
              · cases eC
            obtain ⟨d1, d2, rfl⟩ := hdd
            have eC : ((ev T x ((η.set v (some (.sh d1))).set u (some (.sh d2)))).bind fun z => (oOk z.sh).bind fun y => if Sm (acc.length + 1) then compF _ _ (w.ds.drop (i + 1)) (acc ++ [y]) else .st) = .ok ys := eC
            · have hlen : True := trivial
              cases rz with
              | tup ht ra =>
                rename_i ad xs2
                cases ra with
                | cons r1 ra =>
                cases ra with
                | cons r2 ra =>
                cases ra
                rename_i x1 x2
                refine ⟨ad, [x1, x2], rfl, sqt_same sm ht, rfl, x1, [x2], rfl, x2, [], rfl, rfl, ?_, ?_⟩
                · show ((((wipe σ [v, u]).set v (some x1)).set u (some x2)).set u none).set v none = (σ.set u none).set v none
                  show (((((σ.set u none).set v none).set v (some x1)).set u (some x2)).set u none).set v none = (σ.set u none).set v none
                  rw [List.set_set, List.set_set, List.set_comm _ _ hne, List.set_set, List.set_set]
                have e2 : (((wipe σ (List.map (·.2) [(y, v), (z, u)])).set v (some x1)).set u (some x2)) = ((σ.set v (some x1)).set u (some x2)) := by
                  show ((((σ.set u none).set v none).set v (some x1)).set u (some x2)) = _
                  rw [List.set_set, List.set_comm _ _ (Ne.symm hne), List.set_set, List.set_comm _ _ hne]
                rw [e2]
                unfold tYes
                show (if true = true then _ else _)
                have rb := (r.blk hv s1 hD sm eD r1).put (v := u) (x := x2) (d := d2) (fu _) (r2.ca (Ca.more sm fun a q => by
                  rcases q with q | q | q
                  · exact .inl (.inl q)
                  · exact .inl (.inr q)
                  · exact .inr (q ▸ hD)))
                refine iteT ⟨_, _, _, _, rb, ?_⟩
                cases ee : ev T x ((η.set v (some (.sh d1))).set u (some (.sh d2))) with
                | st => rw [ee] at eC; cases eC
                | ex cc => rw [ee] at eC; cases eC
                | ok z2 =>
                  rw [ee] at eC
                  intro y H4 s4 vy
                  have eC : ((oOk z2.sh).bind fun y => if Sm (acc.length + 1) then compF _ _ (w.ds.drop (i + 1)) (acc ++ [y]) else .st) = .ok ys := eC
                  cases es : z2.sh with
                  | none => rw [es] at eC; cases eC
                  | some d3 =>
                    rw [es] at eC
                    have eC : (if Sm (acc.length + 1) then compF _ _ (w.ds.drop (i + 1)) (acc ++ [d3]) else .st) = .ok ys := eC
                    split at eC
                    · rename_i hb
                      have ry := vy.shared rb.ob.l rb.ob.b es
                      refine ⟨vs, s4 _ _ eD, by rw [rA.length, sz]; exact hb, ?_, acc ++ [d3], vs ++ [y], upd_same, ?_, by rw [← hF]; exact eC⟩
                      · intro b o e
                        have nb : b ≠ D := fun z => by rw [z, hD] at e; cases e
                        rw [upd_ne nb]
                        exact s4 _ _ (sm _ _ e)
                      · have c1 : Ca X.K (fun a => Own O B a ∨ a = D) (fun a => Own O B a ∨ a = D) H4 (upd H4 D (.lst (vs ++ [y]))) := Ca.upd (.inr rfl) (s4 _ _ eD)
                        refine (RpAll.append (rA.ca (Ca.grow s4)) (.cons (ry.ca (Ca.less fun a z => ?_)) .nil)).ca c1
                        rcases z with (z | z) | z
                        · exact .inl z
                        · exact .inr (.inl z)
                        · exact .inr (.inr z)
                    · cases eC
          · left
            have e : i = w.ds.length := by omega
            subst e
            rw [List.drop_length] at eC
            cases eC
            refine ⟨stp.1 (Nat.le_refl _), q _ Hi ?_ ⟨D, vs, rfl, s1.free hD, eD, rA⟩⟩
            exact s1.trans sm
    · exact q.elim
  · cases h
theorem s_comp2 {v u : Nat} {it x : E} (ihi : SI T M xa it) (ihx : SE T M xa x) : SE T M xa (.comp2 v u it x) := fun X W e g h => by
  obtain ⟨t, h1, h2, _⟩ := s_comp2L ihi ihx X W e g h
  exact ⟨t, h1, h2⟩
/-! ### all shapes -/
variable (T M xa) in
def SXX (x : E) : Prop := SX T M xa x ∧ SW T M xa x ∧ SEs T M xa x
theorem noW {x : E} (h : ∀ N sc op l p, okT M N sc (.BoolOp op l p) x = false) : SW T M xa x := fun X W op l p g k => (by rw [h] at k; cases k)
theorem fE {x : E} (h : SE T M xa x) (h1 : ∀ N sc es, okEs M N sc es x = false) (h2 : ∀ N sc es, okT M N sc es x = false) (h3 : ∀ N sc es, okI M N sc es x = false) (h4 : ∀ N sc es, okO M N sc es x = false) (h5 : SEs T M xa x := by trivial) : SXX T M xa x :=
  ⟨sxE h h1 h2 h3 h4, noW fun N sc op l p => h2 N sc _, h5⟩
theorem exprs : ∀ x : E, SXX T M xa x := by
  intro x
  induction x with
  | var i => exact fE (s_var i) (fun _ _ _ => rfl) (fun _ _ _ => rfl) (fun _ _ _ => rfl) (fun _ _ _ => rfl)
  | glob i => exact fE (s_glob i) (fun _ _ _ => rfl) (fun _ _ _ => rfl) (fun _ _ _ => rfl) (fun _ _ _ => rfl)
  | int n => exact fE (s_int n) (fun _ _ _ => rfl) (fun _ _ _ => rfl) (fun _ _ _ => rfl) (fun _ _ _ => rfl)
  | bl b => exact fE (s_bl b) (fun _ _ _ => rfl) (fun _ _ _ => rfl) (fun _ _ _ => rfl) (fun _ _ _ => rfl)
  | non => exact fE s_non (fun _ _ _ => rfl) (fun _ _ _ => rfl) (fun _ _ _ => rfl) (fun _ _ _ => rfl)
  | str s => exact fE (s_str s) (fun _ _ _ => rfl) (fun _ _ _ => rfl) (fun _ _ _ => rfl) (fun _ _ _ => rfl)
  | tup es ih => exact fE (s_tup ih.1.2.1) (fun _ _ _ => rfl) (fun _ _ _ => rfl) (fun _ _ _ => rfl) (fun _ _ _ => rfl)
  | lst es ih => exact fE (s_lst ih.1.2.1) (fun _ _ _ => rfl) (fun _ _ _ => rfl) (fun _ _ _ => rfl) (fun _ _ _ => rfl)
  | nil => exact ⟨sxA s_nil (fun _ _ _ => rfl) (fun _ _ _ => rfl) (fun _ _ _ => rfl) (fun _ _ _ => rfl), noW (fun _ _ _ _ _ => rfl), trivial⟩
  | cons e es ih1 ih2 => exact ⟨sxA (s_cons ih1.1.1 ih2.1.2.1) (fun _ _ _ => rfl) (fun _ _ _ => rfl) (fun _ _ _ => rfl) (fun _ _ _ => rfl), noW (fun _ _ _ _ _ => rfl), ih1.1.1, ih2.2.2⟩
  | bin o a b ih1 ih2 => exact fE (s_bin ih1.1.1 ih2.1.1) (fun _ _ _ => rfl) (fun _ _ _ => rfl) (fun _ _ _ => rfl) (fun _ _ _ => rfl)
  | neg a ih => exact fE (s_neg ih.1.1) (fun _ _ _ => rfl) (fun _ _ _ => rfl) (fun _ _ _ => rfl) (fun _ _ _ => rfl)
  | not a ih => exact fE (s_not ih.1.1) (fun _ _ _ => rfl) (fun _ _ _ => rfl) (fun _ _ _ => rfl) (fun _ _ _ => rfl)
  | bop k a r ih1 ih2 => exact fE (s_bop ih1.1.1 ih2.1.1) (fun _ _ _ => rfl) (fun _ _ _ => rfl) (fun _ _ _ => rfl) (fun _ _ _ => rfl)
  | bone k a ih => exact fE (s_bone ih.1.1) (fun _ _ _ => rfl) (fun _ _ _ => rfl) (fun _ _ _ => rfl) (fun _ _ _ => rfl)
  | cmp o a b ih1 ih2 => exact fE (s_cmp ih1.1.1 ih2.1.1) (fun _ _ _ => rfl) (fun _ _ _ => rfl) (fun _ _ _ => rfl) (fun _ _ _ => rfl)
  | ite c a b ih0 ih1 ih2 => exact fE (s_ite ih0.1.2.2.1 ih1.1.1 ih2.1.1) (fun _ _ _ => rfl) (fun _ _ _ => rfl) (fun _ _ _ => rfl) (fun _ _ _ => rfl)
  | idx a i ih1 ih2 => exact fE (s_idx ih1.1.1 ih2.1.1) (fun _ _ _ => rfl) (fun _ _ _ => rfl) (fun _ _ _ => rfl) (fun _ _ _ => rfl)
  | sl a lo hi ih1 ih2 ih3 => exact fE (s_sl ih1.1.1 ih2.1.2.2.2.2 ih3.1.2.2.2.2) (fun _ _ _ => rfl) (fun _ _ _ => rfl) (fun _ _ _ => rfl) (fun _ _ _ => rfl)
  | rev a ih => exact fE (s_rev ih.1.1) (fun _ _ _ => rfl) (fun _ _ _ => rfl) (fun _ _ _ => rfl) (fun _ _ _ => rfl)
  | nop => exact ⟨sxO o_nop (fun _ _ _ => rfl) (fun _ _ _ => rfl) (fun _ _ _ => rfl) (fun _ _ _ => rfl), noW (fun _ _ _ _ _ => rfl), trivial⟩
  | sop a ih => exact ⟨sxO (o_sop ih.1.1) (fun _ _ _ => rfl) (fun _ _ _ => rfl) (fun _ _ _ => rfl) (fun _ _ _ => rfl), noW (fun _ _ _ _ _ => rfl), trivial⟩
  | call f es ih => exact fE (s_call ih.1.2.1) (fun _ _ _ => rfl) (fun _ _ _ => rfl) (fun _ _ _ => rfl) (fun _ _ _ => rfl)
  | bi b es ih => exact fE (s_bi ih.1.2.1) (fun _ _ _ => rfl) (fun _ _ _ => rfl) (fun _ _ _ => rfl) (fun _ _ _ => rfl)
  | isi a t ih => exact fE (s_isi ih.1.1) (fun _ _ _ => rfl) (fun _ _ _ => rfl) (fun _ _ _ => rfl) (fun _ _ _ => rfl)
  | isx a j ih => exact fE (s_isx ih.1.1) (fun _ _ _ => rfl) (fun _ _ _ => rfl) (fun _ _ _ => rfl) (fun _ _ _ => rfl)
  | dnew => exact fE s_dnew (fun _ _ _ => rfl) (fun _ _ _ => rfl) (fun _ _ _ => rfl) (fun _ _ _ => rfl)
  | dis ks vs ih => exact fE (s_dis ih.2.2) (fun _ _ _ => rfl) (fun _ _ _ => rfl) (fun _ _ _ => rfl) (fun _ _ _ => rfl)
  | dget a k d ih1 ih2 ih3 => exact fE (s_dget ih1.1.1 ih2.1.1 ih3.1.1) (fun _ _ _ => rfl) (fun _ _ _ => rfl) (fun _ _ _ => rfl) (fun _ _ _ => rfl)
  | dat a k ih1 ih2 => exact fE (s_dat ih1.1.1 ih2.1.1) (fun _ _ _ => rfl) (fun _ _ _ => rfl) (fun _ _ _ => rfl) (fun _ _ _ => rfl)
  | isv a ih => exact fE (s_isv ih.1.1) (fun _ _ _ => rfl) (fun _ _ _ => rfl) (fun _ _ _ => rfl) (fun _ _ _ => rfl)
  | comp v it c e ih1 ih2 ih3 => exact fE (s_comp ih1.1.2.2.2.1 ih2.1.2.2.1 ih3.1.1) (fun _ _ _ => rfl) (fun _ _ _ => rfl) (fun _ _ _ => rfl) (fun _ _ _ => rfl)
  | comp2 v u it e ih1 ih2 => exact fE (s_comp2 ih1.1.2.2.2.1 ih2.1.1) (fun _ _ _ => rfl) (fun _ _ _ => rfl) (fun _ _ _ => rfl) (fun _ _ _ => rfl)
  | tst e ih =>
    exact ⟨sxT (t_tst ih.1.1) (fun _ _ _ => rfl) (fun _ _ _ => rfl) (fun _ _ _ => rfl) (fun _ _ _ => rfl), noW (fun N sc op l p => by simp [okT]), trivial⟩
  | tcmp o a b ih1 ih2 => exact ⟨sxT (t_cmp ih1.1.1 ih2.1.1) (fun _ _ _ => rfl) (fun _ _ _ => rfl) (fun _ _ _ => rfl) (fun _ _ _ => rfl), noW (fun _ _ _ _ _ => rfl), trivial⟩
  | tnot t ih => exact ⟨sxT (t_not ih.1.2.2.1) (fun _ _ _ => rfl) (fun _ _ _ => rfl) (fun _ _ _ => rfl) (fun _ _ _ => rfl), noW (fun _ _ _ _ _ => rfl), trivial⟩
  | tbop k t r ih1 ih2 =>
    have w : SW T M xa (.tbop k t r) := w_bop ih1.1.2.2.1 ih2.2.1
    refine ⟨sxT (fun X W e g h => ?_) (fun _ _ _ => rfl) (fun _ _ _ => rfl) (fun _ _ _ => rfl) (fun _ _ _ => rfl), w, trivial⟩
    cases e with
    | BoolOp op l p =>
      obtain ⟨t, pt, st⟩ := w X W op l p g h
      exact ⟨t, pt.pt, st⟩
    | _ => cases h
  | tbone k t ih =>
    have w : SW T M xa (.tbone k t) := w_bone ih.1.2.2.1
    refine ⟨sxT (fun X W e g h => ?_) (fun _ _ _ => rfl) (fun _ _ _ => rfl) (fun _ _ _ => rfl) (fun _ _ _ => rfl), w, trivial⟩
    cases e with
    | BoolOp op l p =>
      obtain ⟨t, pt, st⟩ := w X W op l p g h
      exact ⟨t, pt.pt, st⟩
    | _ => cases h
  | itv e ih => exact ⟨sxI (i_v ih.1.1) (fun _ _ _ => rfl) (fun _ _ _ => rfl) (fun _ _ _ => rfl) (fun _ _ _ => rfl), noW (fun _ _ _ _ _ => rfl), trivial⟩
  | ir1 a ih => exact ⟨sxI (i_r1 ih.1.1) (fun _ _ _ => rfl) (fun _ _ _ => rfl) (fun _ _ _ => rfl) (fun _ _ _ => rfl), noW (fun _ _ _ _ _ => rfl), trivial⟩
  | ir2 a b ih1 ih2 => exact ⟨sxI (i_r2 ih1.1.1 ih2.1.1) (fun _ _ _ => rfl) (fun _ _ _ => rfl) (fun _ _ _ => rfl) (fun _ _ _ => rfl), noW (fun _ _ _ _ _ => rfl), trivial⟩
  | ir3 a b c ih1 ih2 => exact ⟨sxI (i_r3 ih1.1.1 ih2.1.1) (fun _ _ _ => rfl) (fun _ _ _ => rfl) (fun _ _ _ => rfl) (fun _ _ _ => rfl), noW (fun _ _ _ _ _ => rfl), trivial⟩
theorem exE {x : E} {e : Expr} (g : GX T M xa X W) (h : okE M X.N X.env.scope e x = true) : ∃ t, PE X e t ∧ Snd xa X W t (ev T x) := (exprs x).1.1 X W e g h
theorem exT {x : E} {e : Expr} (g : GX T M xa X W) (h : okT M X.N X.env.scope e x = true) : ∃ t, PT X e t ∧ SndT xa X W t (evt T x) := (exprs x).1.2.2.1 X W e g h
theorem exL {v : Nat} {it c x : E} {e : Expr} (g : GX T M xa X W) (h : okE M X.N X.env.scope e (.comp v it c x) = true) : ∃ t, PE X e t ∧ Snd xa X W t (ev T (.comp v it c x)) ∧
    ∀ i y (py : Pos) (spos : Pos), X.N[i]? = some y → X.env.scope.names.lookup y = some .local → swapsWith e (some (.Name y py)) spos.line X.env = pure true → PS X (.Assign [.Name y py] e spos) (tAsg t (gName i)) :=
  s_compL (exprs it).1.2.2.2.1 (exprs c).1.2.2.1 (exprs x).1.1 X W e g h
theorem exL2 {v u : Nat} {it x : E} {e : Expr} (g : GX T M xa X W) (h : okE M X.N X.env.scope e (.comp2 v u it x) = true) : ∃ t, PE X e t ∧ Snd xa X W t (ev T (.comp2 v u it x)) ∧
    ∀ i y (py : Pos) (spos : Pos), X.N[i]? = some y → X.env.scope.names.lookup y = some .local → swapsWith e (some (.Name y py)) spos.line X.env = pure true → PS X (.Assign [.Name y py] e spos) (tAsg t (gName i)) :=
  s_comp2L (exprs it).1.2.2.2.1 (exprs x).1.1 X W e g h
theorem exA {x : E} {es : List Expr} (g : GX T M xa X W) (h : okEs M X.N X.env.scope es x = true) : ∃ t, PA X es t ∧
    ∀ B old O σ H η Q, ER X.K B old O H σ η → Rs (XH X.K xa W B old η) (fun xs => evs T x η = .ok xs → ∀ vs H', Same H H' → VRs X.K B O H H' vs xs → Q vs H') (evs T x η) → t σ H Q := (exprs x).1.2.1 X W es g h
theorem exI {x : E} {e tg : Expr} (g : GX T M xa X W) (h : okI M X.N X.env.scope e x = true) : (∃ t, PI X tg e t ∧ SndI xa X W t (evi T x)) ∧ ∀ y, foldedSetIterable e X.env y = pure y := (exprs x).1.2.2.2.1 X W tg e g h
end
end PD

/-! PDH: a list made over range(n) within an except suite, by the library's words for loops there (TurnH) and for blocks (block_start). -/
namespace PDH
open PySem PySem.Spec PyProof.Rows L2 HotX L2H
section
variable {X : Cx} {pins : List (Addr × Obj)} {σ : L2.St} {H : Hp} {s : Shared}
/-- the block's context, the handled exception pinned -/
abbrev pnd (Y : Cx) (p : Addr × Obj) : Cx := { Y with pn := [p] }
theorem ok_pnd {Y : Cx} {p : Addr × Obj} (ok : Y.Ok) : (pnd Y p).Ok :=
  ⟨ok.mod, ok.kind, ok.glob, ok.blt, ok.above, ok.inj, ok.has, ok.cab, ok.hd, ok.frames, ok.stk, ok.exf, ok.bs, ok.bsz, ok.noex, ok.exfs, ok.funs, ok.frf⟩
theorem ok_unpnd {Y : Cx} {p : Addr × Obj} (ok : (pnd Y p).Ok) : Y.Ok :=
  ⟨ok.mod, ok.kind, ok.glob, ok.blt, ok.above, ok.inj, ok.has, ok.cab, ok.hd, ok.frames, ok.stk, ok.exf, ok.bs, ok.bsz, ok.noex, ok.exfs, ok.funs, ok.frf⟩
theorem to_pnd {Y : Cx} {p : Addr × Obj} (hp : Y.pn = []) {pl : List (Addr × Obj)} (I : Inv Y (p :: pl) σ H s) : Inv (pnd Y p) pl σ H s :=
  ⟨ok_pnd I.ok, I.os, I.bare, I.base, I.loc, I.cell, I.free, I.freeC, fun q hq => I.pin q (by rw [hp]; simpa using hq), I.hok, I.len⟩
theorem of_pnd {Y : Cx} {p : Addr × Obj} (hp : Y.pn = []) {pl : List (Addr × Obj)} (I : Inv (pnd Y p) pl σ H s) : Inv Y (p :: pl) σ H s :=
  ⟨ok_unpnd I.ok, I.os, I.bare, I.base, I.loc, I.cell, I.free, I.freeC, fun q hq => I.pin q (by rw [hp] at hq; simpa using hq), I.hok, I.len⟩
/-- [elt for name in range(..)] within a suite, elt by pure words: f tells its values -/
def tRl (wi : TI) (te : TE) (v : Nat) : TE := fun σ H Q => wi σ H fun J H1 => ∃ (j : Nat) (f : Nat → V), J = Itr 0 j ∧ j < 1000 ∧
  (∀ i, i < j → ∀ H', (∀ b o, H1 b = some o → H' b = some o) → ∀ (R : VK), R (f i) H' → te ((wipe σ [v]).set v (some (.int (i : Int)))) H' R) ∧
  ∀ D, H1 D = none → Q (.ref D) (upd H1 D (.lst ((List.range j).map f)))
theorem pe_rl {elt iter : Expr} {y : Str} {v : Nat} {py pos : Pos} {scope : Scope} {wi : TI} {te : TE} (hc : HotC X) (hN : X.N.Nodup) (hi : PIH X (.Name y py) iter wi)
    (ok : BlkOk X.N X.env.scope scope [(y, v)])
    (hy : ∀ (s : Shared) (H : Hp) (C : Addr) (cl : List (Str × Addr)) (fp : List Addr), PG (X.blk s H scope (compEnvC scope cl C X.env) fp) (.Name y py) (fun x σ H Q => Q (σ.set v (some x)) H))
    (he : ∀ (s : Shared) (H : Hp) (C : Addr) (cl : List (Str × Addr)) (fp : List Addr), PE (X.blk s H scope (compEnvC scope cl C X.env) fp) elt te)
    (hs : ∀ x, foldedSetIterable iter X.env x = pure x := by intro _; rfl) :
    PE X (.ListComp elt [⟨.Name y py, iter, [], 0⟩] scope pos) (tRl wi te v) := by
  refine ⟨fun pins s σ H Q I h => ?_⟩
  rw [eval_ListComp]
  have hfree : ∀ z ∈ scope.names, z.2 = .free → ∃ c, X.env.cells.lookup z.1 = some c := fun z hz e => by
    rcases ok.free z hz e with k | k
    · exact I.ok.has _ (.inl k)
    · exact I.ok.has _ (.inr k)
  obtain ⟨q0, hot, hq0⟩ := id hc
  refine wpAny_comprehension_free (use := none) rfl hs (closure_ok hfree) ok.kind (fun z hz e => by rw [ok.uniq z hz, e])
    (thn (hi.run pins s σ H _ I h) fun xv s1 hx => thn hx fun itv s2 h2 => ?_)
  obtain ⟨it, fp, tn, J, H2, e, I2, T, st2, f2, j, f, eJ, hj, hel, hq⟩ := h2
  subst e eJ
  refine wpAny_newObj_type (newEnv_comp ?_) (by show 0 ≤ sizeLine; decide)
  generalize hD : s2.heap.objs.size = D
  have hDn : H2 D = none := I2.hok.fresh (Nat.le_of_eq hD)
  -- the list, told for i turns
  have L : ∀ (n : Nat), n < j + 1 → n < sizeLine := fun n hn => Nat.lt_of_lt_of_le (show n < 1000 by omega) (by decide)
  generalize hs3 : ({ s2 with heap := s2.heap.push { cls := .type "list", data := .seq ([] : List Value).toArray } } : Shared) = s3
  have I3 : Inv X pins σ (upd H2 D (.lst [])) s3 := by
    rw [← hs3]
    refine I2.laid (t' := s2.toks) (fun b o e => Heap.get?_push_of_some _ e) (Nat.le_of_eq hD) ⟨Nat.zero_le _, [], 0, .nil, ?_⟩
    rw [← hD]
    exact Heap.get?_push_size _ rfl
  have h3 : s3.heap = s2.heap.push { cls := .type "list", data := .seq ([] : List Value).toArray } := by rw [← hs3]
  have f3 : ∀ b ∈ fp, FpOk X pins (upd H2 D (.lst [])) b ∧ b < s3.heap.objs.size := fun b hb => by
    obtain ⟨o, e, _⟩ := T.obj _ _ st2 b hb
    have hlt := Heap.lt_size e
    refine ⟨⟨?_, (f2 b hb).2⟩, by rw [h3, Heap.size_push]; exact Nat.lt_succ_of_lt hlt⟩
    rw [upd_ne (by rw [← hD]; exact Nat.ne_of_lt hlt)]
    exact (f2 b hb).1
  have neD : ∀ b ∈ fp, b ≠ D := fun b hb => by
    obtain ⟨o, e, _⟩ := T.obj _ _ st2 b hb
    rw [← hD]
    exact Nat.ne_of_lt (Heap.lt_size e)
  have I4 := block_start I3 ok hN f3
  have q3 := I3.pin q0 (List.mem_append_left _ hq0)
  have qf : q0.1 ∉ frs X.stack := fun hm => (List.mem_cons.mp (I3.stkSub q0.1 hm)).elim q3.2.2.1 q3.2.2.2.1
  have pg := hy s3 (upd H2 D (.lst [])) s3.heap.objs.size (cellsFrom (s3.heap.objs.size + 1) scope.names (cloFrom X.env.cells scope.names [])) fp
  have pe := he s3 (upd H2 D (.lst [])) s3.heap.objs.size (cellsFrom (s3.heap.objs.size + 1) scope.names (cloFrom X.env.cells scope.names [])) fp
  show codeAny _ _ (.compStart (.ListComp elt [⟨.Name y py, iter, [], 0⟩] scope pos) 0 (.ref it) (.ref D) (compEnvC scope (cellsFrom (s3.heap.objs.size + 1) scope.names (cloFrom X.env.cells scope.names [])) s3.heap.objs.size X.env)) (compPost (model X.prog X.w) X.A X.xe none _ (.ref D) s3.heap.objs.size) { s3 with heap := pushCells (s3.heap.push { cls := .type "dict", data := .dict #[] }) scope.names }
  generalize hce : compEnvC scope (cellsFrom (s3.heap.objs.size + 1) scope.names (cloFrom X.env.cells scope.names [])) s3.heap.objs.size X.env = ce at I4 pg pe ⊢
  have cL : ce.locals = s3.heap.objs.size := by subst hce; rfl
  have kp : ∀ b o, s3.heap.get? b = some o → (pushCells (s3.heap.push { cls := .type "dict", data := .dict #[] }) scope.names).get? b = some o := fun b o e => pushCells_keeps _ _ _ _ (Heap.get?_push_of_some _ e)
  have I4 : Inv (X.blk s3 (upd H2 D (.lst [])) scope ce fp) [q0] (wipe σ [v]) (upd H2 D (.lst [])) { s3 with heap := pushCells (s3.heap.push { cls := .type "dict", data := .dict #[] }) scope.names } := I4.pins_of fun p hp => by
    have e : p = q0 := by simpa using hp
    subst e
    exact ⟨kp _ _ q3.1, q3.2.1, by rw [show (X.blk s3 (upd H2 D (.lst [])) scope ce fp).env.locals = ce.locals from rfl, cL]; exact Nat.ne_of_lt (Heap.lt_size q3.1), qf, q3.2.2.2.2⟩
  have st4 : tn 0 (pushCells (s3.heap.push { cls := .type "dict", data := .dict #[] }) scope.names) := T.keep _ _ _ st2 fun b _ o e => kp _ _ (by rw [h3]; exact Heap.get?_push_of_some _ e)
  generalize hs4 : ({ s3 with heap := pushCells (s3.heap.push { cls := .type "dict", data := .dict #[] }) scope.names } : Shared) = s4 at I4 ⊢
  have st4 : tn 0 s4.heap := by rw [← hs4]; exact st4
  have hotP : HotC (pnd (X.blk s3 (upd H2 D (.lst [])) scope ce fp) q0) := ⟨q0, hot, List.mem_cons_self⟩
  have nfp : ∀ (xs : List V), ∀ b ∈ fp, (upd H2 D (.lst xs)) b = none := fun xs b hb => by
    rw [upd_ne (neD b hb)]
    exact (f2 b hb).1
  have stat : ∀ {σ' : L2.St} {H' : Hp} {s' : Shared}, Inv (pnd (X.blk s3 (upd H2 D (.lst [])) scope ce fp) q0) [] σ' H' s' → (∀ b ∈ fp, H' b = none) → ∀ b ∈ fp, FpOk (pnd (X.blk s3 (upd H2 D (.lst [])) scope ce fp) q0) [] H' b := fun {σ' H' s'} I' hn b hb =>
    ⟨hn b hb, (I'.ok.exf b hb).1, I'.ok.exfs b hb, .inl hb, fun x c e => (I'.ok.exf b hb).2 x c e, fun p hp => by
      have e : p = q0 := by simpa using hp
      subst e
      exact (f3 b hb).1.2.2.2.2.2 p (List.mem_append_left _ hq0)⟩
  have loop : codeAny (model X.prog X.w) X.A (.compLoop (.ListComp elt [⟨.Name y py, iter, [], 0⟩] scope pos) 0 (.ref it) (.ref D) ce) (compPost (model X.prog X.w) X.A X.xe none (EP X pins σ Q) (.ref D) s3.heap.objs.size) s4 := by
    refine compLoop_any (fun n s' => ∃ i, i + n = j ∧ Inv (X.blk s3 (upd H2 D (.lst [])) scope ce fp) [q0] (wipe σ [v]) (upd H2 D (.lst ((List.range i).map f))) s' ∧ tn i s'.heap) ?_ j ⟨0, by omega, I4, st4⟩
    rintro n s5 ⟨i, hn, I5, st5⟩
    have I5p := to_pnd (pl := []) rfl I5
    by_cases hij : i < j
    · refine thnF (T.item (pnd (X.blk s3 (upd H2 D (.lst [])) scope ce fp) q0) rfl rfl rfl hotP i [] s5 _ _ (fun _ _ => False) I5p (stat I5p (nfp _)) st5 (show i < j from hij)) fun r s6 ⟨u, hr, h6⟩ => ?_
      subst hr
      refine thnF h6 fun _ s7 ⟨x, H7, I7, r7, y7, st7, n7⟩ => ?_
      obtain ⟨e7, ex⟩ := y7
      subst e7 ex
      have I8 : Inv (X.blk s3 (upd H2 D (.lst [])) scope ce fp) (q0 :: pinsAt fp s7.heap) (wipe σ [v]) (upd H2 D (.lst ((List.range i).map f))) s7 := of_pnd (pl := pinsAt fp s7.heap) rfl (I7.pinned (stat I7 n7) (T.obj _ _ st7))
      refine thnF (pg.run _ s7 _ _ _ u (fun σ8 H8 => σ8 = (wipe σ [v]).set v (some (.int (i : Int))) ∧ H8 = upd H2 D (.lst ((List.range i).map f))) I8 r7 ⟨by rw [Int.zero_add], rfl⟩) fun _ s8 ⟨σ8, H8, I8, e8, e9⟩ => ?_
      subst e8 e9
      rw [List.forIn_nil]
      refine wpAny_pure ?_
      rw [if_pos rfl]
      have mono : ∀ b o, H2 b = some o → (upd H2 D (.lst ((List.range i).map f))) b = some o := fun b o e => by
        rw [upd_ne fun z => by rw [z, hDn] at e; cases e]
        exact e
      refine thnF (pe.run _ s8 _ _ _ I8 (hel i hij _ mono (fun y9 H9 => y9 = f i ∧ H9 = upd H2 D (.lst ((List.range i).map f))) ⟨rfl, rfl⟩)) fun z s9 ⟨yv, H9, I9, r9, e10, e11⟩ => ?_
      subst e10 e11
      refine app_ok (X := X.blk s3 (upd H2 D (.lst [])) scope ce fp) I9 (show (upd H2 D (.lst ((List.range i).map f))) D = some (.lst ((List.range i).map f)) from upd_same) (by rw [List.length_map, List.length_range]; exact L i (by omega)) r9 fun s11 I11 => ⟨n - 1, by omega, i + 1, by omega, ?_, T.keep _ _ _ st7 fun b hb o e => (I11.pin (b, o) (List.mem_append_right _ (List.mem_cons_of_mem _ (mem_pinsAt hb e)))).1⟩
      have e12 : upd (upd H2 D (.lst ((List.range i).map f))) D (.lst ((List.range i).map f ++ [f i])) = upd H2 D (.lst ((List.range (i + 1)).map f)) := by
        rw [List.range_succ, List.map_append]
        funext b
        unfold upd
        split <;> rfl
      rw [e12] at I11
      refine (I11.unpinned (pins := [q0])).weak (by rw [List.length_set]) fun k w e => ?_
      have hk : v ≠ k := fun z => (wipe_some e).2 (by simp [z])
      rw [List.getElem?_set_ne hk]
      exact e
    · refine thnF (T.done (pnd (X.blk s3 (upd H2 D (.lst [])) scope ce fp) q0) rfl rfl rfl hotP i [] s5 _ _ (fun _ _ => False) I5p (stat I5p (nfp _)) st5 (show j ≤ i by omega)) fun r s6 ⟨hr, I6p⟩ => ?_
      subst hr
      have I6 := of_pnd (pl := []) rfl I6p
      have ej : i = j := by omega
      subst ej
      have I7 : Inv X pins σ (upd H2 D (.lst ((List.range i).map f))) s6 := I3.call' (ch := fp) I6.os I6.base I6.hok I6.bare fun b hb => ⟨(f3 b hb).1.2.2.2.1, (f3 b hb).1.2.1, (f3 b hb).1.2.2.2.2.1, (f3 b hb).1.2.2.2.2.2⟩
      have nC : (upd H2 D (.lst ((List.range i).map f))) s3.heap.objs.size = none := by
        have z : (upd H2 D (.lst ((List.range i).map f))) ce.locals = none := I6.free
        rw [cL] at z
        exact z
      obtain ⟨m, hn, _⟩ := I6.loc
      have hn : s6.heap.Ns ce.locals m := hn
      rw [cL] at hn
      obtain ⟨g0, g1, g2, g3, g4, g5⟩ := I3.fpOk (Nat.le_refl _) nC
      exact ⟨m, hn, fun h'' sb => ⟨.ref D, _, I7.turned (t' := s6.toks) (fun b o hb e => (sb.2 b hb).trans e) g0 g1 g3 g4 g5, rfl, hq D hDn⟩⟩
  exact codeAny_compStart_list loop (T.self X.A 0 _ _ _ st4 loop)
end
end PDH

/-! PDO: what is asked of an exception within its suite: isinstance, and the laws' own def that asks all kinds. -/
namespace PD
open PySem PySem.Spec PyProof.Rows L2
section
variable {X : Cx}
/-- isinstance(e, c), e pinned -/
theorem call_isP {D : Addr} {p : Addr × Obj} (hp : p ∈ X.pn) (C : ExcC X.K D) (hz : Zc (.ref D) none p.2) (hf : ∃ vs, p.2.data = .fields vs) : CallR X (.builtin "isinstance") (rIsE X.K D p.1) := by
  intro pins s σ H xs us Q I r h
  obtain ⟨c, cv, b, rfl, hcv, e, q⟩ := h
  cases r with
  | cons rx rr =>
    cases rr with
    | cons rt rr =>
      cases rr
      cases rx
      have ec := hcv _ rt
      subst ec
      have hget := (I.pin p (List.mem_append_left _ hp)).1
      obtain ⟨vs, hv⟩ := hf
      have J : PySem.W.InstAt s.heap p.1 p.2 D none := by
        obtain ⟨a, oc, od, oda, osl⟩ := p
        obtain ⟨h1, h2⟩ := hz
        dsimp only at h1 h2 hv
        subst h1 h2 hv
        exact ⟨hget, rfl, rfl, trivial⟩
      exact PySem.W.kia_one (PySem.W.handS_kitx_exc C.hg C.hk C.hs C.hd C.ha C.hn C.ht C.hm) I.kIn J e (fun z => nomatch z) fun tk => ⟨.bl b, H, I.kept (t' := tk) fun _ _ z => z, rfl, q⟩
/-- name i is the exception at a -/
abbrev At (i : Nat) (a : Addr) (σ : L2.St) : Prop := σ[i]? = some (some (.ref a))
/-- a test of the exception whose answer is b -/
def PB (X : Cx) (i : Nat) (a : Addr) (e : Expr) (b : Bool) : Prop := PE X e fun σ H Q => At i a σ ∧ Q (.bl b) H
theorem PB.mk {i : Nat} {a : Addr} {e : Expr} {b : Bool} {t : TE} (h : PE X e t) (f : ∀ σ H Q, At i a σ → Q (.bl b) H → t σ H Q) : PB X i a e b :=
  ⟨fun pins s σ H Q I w => h.run pins s σ H Q I (f σ H Q w.1 w.2)⟩
theorem kit_of {K : Fg} {c d : Addr} {b : Bool} (hd : PySem.W.hasDictIn K d = true) (ht : PySem.W.typeIn K (.ref d) = some (.type "type")) (hs : PySem.W.subIn K (.ref c) (.ref d) = some b) (hr : c = d → b = true) : PySem.W.kitOne K (.ref c) (.ref d) = some b := by
  unfold PySem.W.kitOne
  by_cases e : c = d
  · subst e
    rw [if_pos (beq_iff_eq.mpr rfl), hr rfl]
  · have : ¬ (Value.ref c == Value.ref d) = true := fun z => e (Value.ref.inj (beq_iff_eq.mp z))
    rw [if_neg this]
    obtain ⟨cd, hc, _⟩ := PySem.W.any_some hd
    have e2 : ((PySem.W.clsIn K d).isSome && PySem.W.typeIn K (.ref d) == some (.type "type")) = true := by rw [hc, ht] <;> rfl
    show (if ((PySem.W.clsIn K d).isSome && PySem.W.typeIn K (.ref d) == some (.type "type")) = true then PySem.W.subIn K (.ref c) (.ref d) else none) = some b
    rw [if_pos e2]
    exact hs
theorem kit_self {K : Fg} {c : Addr} : PySem.W.kitOne K (.ref c) (.ref c) = some true := by
  unfold PySem.W.kitOne
  rw [if_pos (beq_iff_eq.mpr rfl)]
theorem kit_ty {K : Fg} {c : Addr} {n : String} {b : Bool} (hm : PySem.W.kitMeta n = true) (hs : PySem.W.subIn K (.ref c) (.type n) = some b) : PySem.W.kitOne K (.ref c) (.type n) = some b := by
  unfold PySem.W.kitOne
  have hne : ¬ (Value.ref c == Value.type n) = true := fun z => Value.noConfusion (beq_iff_eq.mp z)
  rw [if_neg hne]
  show (if PySem.W.kitMeta n = true then PySem.W.subIn K (.ref c) (.type n) else none) = some b
  rw [if_pos hm]
  exact hs
/-- isinstance(name, class) -/
theorem pb_is {i : Nat} {x y : Str} {p0 p1 p2 pos : Pos} {D d : Addr} {p : Addr × Obj} {b : Bool} (hp : p ∈ X.pn) (C : ExcC X.K D) (hz : Zc (.ref D) none p.2) (hf : ∃ vs, p.2.data = .fields vs)
    (hx : X.N[i]? = some x) (hv : Vis X.env.scope x) (hn : okName x = true) (hgi : Gl X "isinstance") (hmi : X.mg "isinstance" = none) (hg : Gl X y) (hm : X.mg y = some (.ref d)) (hy : okName y = true) (k : PySem.W.kitOne X.K (.ref D) (.ref d) = some b) :
    PB X i p.1 (.Call (.Name "isinstance" p0) [.Name x p1, .Name y p2] [] pos) b :=
  .mk (pe_callB (call_isP hp C hz hf) hgi hmi (by decide +kernel) (pa_cons (pe_var hx hv (name_of hn).1 (name_of hn).2) (pa_cons (pe_glob hg hm (show RelV (.ref d) (.ref d) from rfl) (name_of hy).1) pa_nil)) (by decide) (by decide))
    fun σ H Q h q => ⟨_, h, .ref d, .ref d, b, rfl, fun u r => r, k, q⟩
/-- isinstance(name, ValueError) -/
theorem pb_ve {i : Nat} {x : Str} {p0 p1 p2 pos : Pos} {D : Addr} {p : Addr × Obj} {b : Bool} (hp : p ∈ X.pn) (C : ExcC X.K D) (hz : Zc (.ref D) none p.2) (hf : ∃ vs, p.2.data = .fields vs)
    (hx : X.N[i]? = some x) (hv : Vis X.env.scope x) (hn : okName x = true) (hgi : Gl X "isinstance") (hmi : X.mg "isinstance" = none) (hg : Gl X "ValueError") (hm : X.mg "ValueError" = none) (k : PySem.W.kitOne X.K (.ref D) (.type "ValueError") = some b) :
    PB X i p.1 (.Call (.Name "isinstance" p0) [.Name x p1, .Name "ValueError" p2] [] pos) b :=
  .mk (pe_callB (call_isP hp C hz hf) hgi hmi (by decide +kernel) (pa_cons (pe_var hx hv (name_of hn).1 (name_of hn).2) (pa_cons (pe_bltn (v := .ty "ValueError") hg hm (by decide +kernel) rfl (by decide) (by decide)) pa_nil)) (by decide) (by decide))
    fun σ H Q h q => ⟨_, h, .ty "ValueError", .type "ValueError", b, rfl, fun u r => r, k, q⟩
end
end PD

/-! PDP: the laws' def that asks an exception for all its kinds, in a suite. -/
namespace PD
open PySem PySem.Spec PyProof.Rows L2
section
variable {X : Cx}
/-- tests of the exception whose answers are bs -/
def PAB (X : Cx) (i : Nat) (a : Addr) (es : List Expr) (bs : List Bool) : Prop := PA X es fun σ H Q => At i a σ ∧ Q (bs.map V.bl) H
theorem pab_nil {i : Nat} {a : Addr} : PAB X i a [] [] := ⟨fun pos pins s σ H Q I w => pa_nil.run pos pins s σ H Q I w.2⟩
theorem pab_cons {i : Nat} {a : Addr} {e : Expr} {b : Bool} {es : List Expr} {bs : List Bool} (h : PB X i a e b) (r : PAB X i a es bs) (hs : starEach (e :: es) X.env = (false, eval e X.env) :: starEach es X.env) : PAB X i a (e :: es) (b :: bs) :=
  ⟨fun pos pins s σ H Q I w => (pa_cons h r hs).run pos pins s σ H Q I ⟨w.1, w.1, w.2⟩⟩
/-- a list of such tests -/
theorem pe_tests {i : Nat} {a : Addr} {es : List Expr} {bs : List Bool} {pos : Pos} (h : PAB X i a es bs) (hl : bs.length ≤ 100) : PE X (.List es pos) fun σ H Q => At i a σ ∧ ∀ p, H p = none → Q (.ref p) (upd H p (.lst (bs.map V.bl))) :=
  ⟨fun pins s σ H Q I w => (pe_lst h).run pins s σ H Q I ⟨w.1, Nat.le_trans (by rw [List.length_map]; exact hl) (by decide), w.2⟩⟩
/-! ### lists of truths -/
def bls (bs : List Bool) : List D := bs.map PyData.bool
theorem rp_bls {K : Fg} {A : Addr → Prop} {H : Hp} : ∀ bs : List Bool, RpAll K A H (bs.map V.bl) (bls bs)
  | [] => .nil
  | b :: bs => .cons (.bl b) (rp_bls bs)
theorem canLay_bls (bs : List Bool) : PyData.canLayAll0 (bls bs) = true := by
  induction bs with
  | nil => rfl
  | cons b bs ih =>
    show (PyData.canLay0 (.bool b) && PyData.canLayAll0 (bls bs)) = true
    rw [ih]
    rfl
theorem depth_bls (bs : List Bool) : PyData.depthAll (bls bs) = 0 := by
  induction bs with
  | nil => rfl
  | cons b bs ih =>
    show max (PyData.depth (.bool b)) (PyData.depthAll (bls bs)) = 0
    rw [ih]
    rfl
theorem shaped_bls (bs : List Bool) : SeqAt.shaped (.list (bls bs)) = true := by
  unfold SeqAt.shaped
  rw [PyData.canLay0, canLay_bls, PyData.depth, depth_bls]
  rfl
theorem eqv_bls : ∀ a b : List Bool, PyData.eqvAll (bls a) (bls b) = decide (a = b)
  | [], [] => by simp [bls, PyData.eqvAll]
  | [], _ :: _ => by simp [bls, PyData.eqvAll]
  | _ :: _, [] => by simp [bls, PyData.eqvAll]
  | x :: a, y :: b => by
    show (PyData.eqv (.bool x) (.bool y) && PyData.eqvAll (bls a) (bls b)) = _
    rw [eqv_bls a b]
    have : PyData.eqv (.bool x) (.bool y) = (x == y) := by cases x <;> cases y <;> rfl
    rw [this]
    by_cases h : x = y
    · subst h; simp
    · simp [h]
theorem dp_bls {K : Fg} {H : Hp} {a : Addr} {bs : List Bool} (h : H a = some (.lst (bs.map V.bl))) : Dp K H (.ref a) (.list (bls bs)) :=
  Rp.dp (A := fun _ => False) (.lst (.inl ⟨id, .inl h⟩) (rp_bls bs)) (SeqAt.canLay_of_shaped (shaped_bls bs))
/-! ### the def's body, in a context where the exception p is handled -/
/-- what the last line's list tells -/
def upto (k : Int) : List Bool := (List.range 8).map fun (i : Nat) => decide ((i : Int) = k)
theorem only_body {p : Addr × Obj} (hot : L2H.HotC X) (nd : X.N.Nodup) (hu : X.A.units + 64 < cLine) {es1 es2 : List Expr} {bs1 bs2 : List Bool} {i1 i2 : Expr} {c1 c2 : Bool} {kn y tn : Str} {scope : Scope} {kk : Nat}
    {q1 q2 q3 q4 q5 q6 q7 q8 q9 q10 q11 q12 q13 q14 q15 q16 q17 q18 q19 q20 : Pos}
    (h1 : PAB X 0 p.1 es1 bs1) (h2 : PAB X 0 p.1 es2 bs2) (l1 : bs1.length ≤ 50) (l2 : bs2.length ≤ 50) (p1 : PB X 0 p.1 i1 c1) (p2 : PB X 0 p.1 i2 c2)
    (k2 : X.N[2]? = some kn) (kl : X.env.scope.names.lookup kn = some .local) (ko : okName kn = true)
    (hy : X.N[3]? = some y) (hyo : okName y = true) (hyl : scope.names.lookup y = some .local) (hb : blkC X.N X.env.scope scope [(y, 3)] = true) (ht : X.N[1]? = some tn) (hto : okName tn = true) (htv : visB (relS scope X.env.scope) tn = true)
    (gr : Gl X "range") (mr : X.mg "range" = none) :
    ∃ t, PSs X [.Assign [.Name kn q1] (.List es1 q2) q3, .Assign [.Name kn q4] (.BinOp (.Name kn q5) .Add (.List es2 q6) q7) q8,
      .Return (some (.BoolOp .And [i1, i2, .Compare (.Name kn q9) [.Eq] [.ListComp (.Compare (.Name y q10) [.Eq] [.Name tn q11] q12) [⟨.Name y q13, .Call (.Name "range" q14) [.Constant (.int 8) kk q15] [] q16, [], 0⟩] scope q17] q18] q19)) q20] t ∧
      ∀ (H : Hp) (k : Int) (D : Ends) (rest : L2.St), rest.length = 2 → (∀ H', Same H H' → D.rt (.bl (if c1 = true then if c2 = true then decide (bs1 ++ bs2 = upto k) else false else false)) H') → t D (some (.ref p.1) :: some (.int k) :: rest) H := by
  have vis : ∀ (s : Shared) (H : Hp) (C : Addr) (cl : List (Str × Addr)) (fp : List Addr), PE (X.blk s H scope (compEnvC scope cl C X.env) fp) (.Compare (.Name y q10) [.Eq] [.Name tn q11] q12) (tOp rEq (tVar 3) (tVar 1)) := fun s H C cl fp =>
    pe_cmpR op_eq (pe_var (X := X.blk s H scope (compEnvC scope cl C X.env) fp) hy (.inl (lookup_relS_keep (by decide) hyl)) (name_of hyo).1 (name_of hyo).2)
      (pe_var (X := X.blk s H scope (compEnvC scope cl C X.env) fp) ht (vis_of htv) (name_of hto).1 (name_of hto).2) rfl
  have lc := PDH.pe_rl (pos := q17) hot nd (L2H.pi_range1H (tg := .Name y q13) (p := q14) (pos := q16) gr mr (pa_cons (show PE X (.Constant (.int 8) kk q15) (tC (.int 8)) from pe_int) pa_nil)) (blkOk_by hb)
    (fun s H C cl fp => pg_name (X := X.blk s H scope (compEnvC scope cl C X.env) fp) nd hy (.inl (lookup_relS_keep (by decide) hyl)) (.inr (lookup_relS_keep (by decide) hyl))) vis
  have hk : PE X (.Name kn q9) (tVar 2) := pe_var k2 (.inl kl) (name_of ko).1 (name_of ko).2
  have hk' : PE X (.Name kn q5) (tVar 2) := pe_var k2 (.inl kl) (name_of ko).1 (name_of ko).2
  have cmp := pe_cmpR (pos := q18) (op_eqD hu) hk lc (by rfl)
  refine ⟨_, pss_cons (ps_asg (pe_tests h1 (by omega)) (pg_name nd k2 (.inl kl) (.inr kl))) (pss_cons (ps_asg (pe_op op_cat hk' (pe_tests h2 (by omega))) (pg_name nd k2 (.inl kl) (.inr kl))) (pss_cons (ps_ret (pe_and p1 (pe_and p2 (pe_one cmp)))) pss_nil)), ?_⟩
  intro H k D rest hr q
  obtain ⟨r1, r2, rfl⟩ : ∃ r1 r2, rest = [r1, r2] := by
    match rest, hr with
    | [a, b], _ => exact ⟨a, b, rfl⟩
  refine ⟨rfl, fun a1 n1 => ⟨.ref a1, rfl, rfl, fun a2 n2 => ?_⟩⟩
  have e21 : a2 ≠ a1 := fun z => by rw [z, upd_same] at n2; cases n2
  refine ⟨a1, a2, bs1.map V.bl, bs2.map V.bl, rfl, rfl, by rw [upd_ne e21.symm]; exact upd_same, upd_same, by rw [List.length_map, List.length_map]; exact Nat.le_trans (show _ ≤ 100 by omega) (by decide), fun a3 n3 => ?_⟩
  rw [← List.map_append]
  have s3 : Same H (upd (upd (upd H a1 (.lst (bs1.map V.bl))) a2 (.lst (bs2.map V.bl))) a3 (.lst ((bs1 ++ bs2).map V.bl))) := ((same_upd n1).trans (same_upd n2)).trans (same_upd n3)
  generalize hH3 : upd (upd (upd H a1 (.lst (bs1.map V.bl))) a2 (.lst (bs2.map V.bl))) a3 (.lst ((bs1 ++ bs2).map V.bl)) = H3 at s3
  have e3 : H3 a3 = some (.lst ((bs1 ++ bs2).map V.bl)) := by rw [← hH3]; exact upd_same
  refine ⟨rfl, c1, rfl, ?_⟩
  cases c1 with
  | false => exact q H3 s3
  | true =>
    refine ⟨rfl, c2, rfl, ?_⟩
    cases c2 with
    | false => exact q H3 s3
    | true =>
      refine ⟨.ref a3, rfl, 8, rfl, by omega, by omega, 8, fun i => .bl (decide ((i : Int) = k)), rfl, by omega, fun i hi H' mono R hR => ?_, fun a4 n4 => ?_⟩
      · refine ⟨.int i, rfl, .int k, rfl, rfl, ?_⟩
        have e : (V.int (i : Int) = V.int k) = ((i : Int) = k) := propext ⟨fun h => V.int.inj h, fun h => by rw [h]⟩
        have hd : decide (V.int (i : Int) = V.int k) = decide ((i : Int) = k) := by simp only [e]
        rw [hd]
        exact hR
      · have e4 : (List.range 8).map (fun (i : Nat) => V.bl (decide ((i : Int) = k))) = (upto k).map V.bl := by
          unfold upto
          rw [List.map_map]
          rfl
        rw [e4]
        have n34 : a3 ≠ a4 := fun z => by rw [← z, e3] at n4; cases n4
        refine ⟨.list (bls (bs1 ++ bs2)), .list (bls (upto k)), dp_bls (by rw [upd_ne n34]; exact e3), dp_bls upd_same, shaped_bls _, shaped_bls _, ?_⟩
        rw [PyData.eqv, eqv_bls]
        exact q _ (s3.trans (same_upd n4))
/-! ### the def called in a suite: its body runs in cxH's context, the exception p handed on as handled -/
theorem run_hot {CX : CXT} {k : Nat} {f : Addr} {name qual : Str} {params : Arguments} {body : List Stmt} {scope : Scope} {dV kV doc pm cdv ct oc : Value} {an od : Option Addr} {osl : Array (Option Value)} {N ps : List Str} {p : Addr × Obj} {E : XK}
    (hp : p ∈ X.pn) (hot : L2H.Hot1 X.A p) (hr : L2H.RoomH (k + 1) X.A) (lk : X.K.lookup f = some ⟨oc, od, .func (PySem.W.fnOf name qual params body scope dV kV doc pm an cdv ct), osl⟩) (hcd : PySem.W.codeIn X.K cdv qual = true) (S : FnScope N ps scope)
    (hb : Binds X.K (PySem.W.fnOf name qual params body scope dV kV doc pm an cdv ct) ps [])
    {pins : List (Addr × Obj)} {σ : L2.St} {H : Hp} {s : Shared} {Q : VK} {us : List Value} {vs : List V} (hx : PassesAt CX X σ E) (I : Inv X pins σ H s) (r : Vals vs us) (hl : vs.length = ps.length)
    (hbody : ∃ t, PSs (L2H.cxH CX X.prog X.w X.K X.mg X.base N qual scope f cdv X.A X.stack s H E p) body t ∧ t { nx := fun _ H' => Q .non H', rt := Q } (L2.start N vs) H) :
    wpAny (model X.prog X.w) X.A (call (.ref f) us) (EP X pins σ Q) X.xe s := by
  have hlu : us.length = ps.length := by rw [← r.length]; exact hl
  have b := hb s us I.kIn (by rw [List.append_nil]; exact hlu)
  rw [List.append_nil] at b
  have P1 := I.pin p (List.mem_append_left _ hp)
  have hpin : L2H.PinOk X.stack H s p := ⟨P1.1, P1.2.1, fun hm => (List.mem_cons.mp (I.stkSub p.1 hm)).elim P1.2.2.1 P1.2.2.2.1, P1.2.2.2.2⟩
  have hkind : ∀ y ∈ ps.zip us, scope.names.lookup y.1 = some .local ∨ (scope.names.lookup y.1 = some .cell ∧ ((cellsFrom (s.heap.objs.size + 1) scope.names []).lookup y.1).isSome = true) := fun ⟨n, v⟩ hy => by
    rcases S.par n (List.of_mem_zip hy).1 with q | q
    · exact .inl q
    · exact .inr ⟨q, PySem.W.cellsFrom_some _ _ _ (.inl q)⟩
  have run : codeAny (model X.prog X.w) X.A (.call (.ref f) ⟨us, []⟩) (CR CX X.stack X.prog X.w H s Q E) s := by
    refine codeAny_call_function hr.depth (I.kIn _ _ lk) rfl S.co S.gen rfl (PySem.W.codeRec_of I.kIn hcd) (b _ _ _ _ ?_)
    refine wpAny_newFunctionEnv_cells S.kind hkind fun env he s1 x => ?_
    subst he
    refine ⟨I.nolimit.keeps x.toInCall.keep, codeAny_func ?_⟩
    obtain ⟨t, ht, hq⟩ := hbody
    have J := L2H.inv_startH (CX := CX) (E := E) S hpin I.env0 hl r x
    refine wpAny_mono (ht.run [] s1 (L2.start N vs) H _ J hq) (fun fl s' hs => ?_) fun e s' hs => hs
    cases fl with
    | ret u =>
      obtain ⟨v, σ', H', J, rv, q⟩ := hs
      exact ⟨v, H', J.os, J.bare, J.base, J.hok, rv, q⟩
    | next =>
      obtain ⟨σ', H', J, q⟩ := hs
      exact ⟨.non, H', J.os, J.bare, J.base, J.hok, rfl, q⟩
    | brk =>
      obtain ⟨_, _, _, q⟩ := hs
      exact q.elim
    | cont =>
      obtain ⟨_, _, _, q⟩ := hs
      exact q.elim
  refine wpAny_call (codeAny_mono run fun r s' hq => ?_)
  cases r with
  | error e => exact hx pins H s e s' I hq
  | ok fl =>
    cases fl with
    | ret u => exact I.after hq
    | next => exact hq.elim
    | brk => exact hq.elim
    | cont => exact hq.elim
end
end PD

/-! PDK: an exception that is caught and held: behind the suite its object is tracked. -/
namespace PD
open PySem PySem.Spec PyProof.Rows L2 L2N
section
variable {X : Cx} {pins : List (Addr × Obj)} {σ : L2.St} {H : Hp} {s sI : Shared}
/-- an object that stands in the heap, new since the entry, not pinned, is tracked -/
theorem track_ok {a : Addr} {o : HO} (I : Inv X pins σ H s) (na : H a = none) (nL : a ≠ X.env.locals) (nC : ∀ x c, X.env.cells.lookup x = some c → c ≠ a)
    (nP : ∀ p ∈ X.pn ++ pins, p.1 ≠ a) (n0 : ∀ o, X.s_0.heap.get? a = some o → a ∈ X.ex) (new : ObjOk X.prog X.w (upd H a o) s.heap a o) : Inv X pins σ (upd H a o) s := by
  refine ⟨I.ok, I.os, I.bare, ⟨I.base.keep, I.base.slot, fun b u e n hx => ?_, I.base.there, fun b xs e => ?_, fun b u x e => ?_, fun b ps e => ?_⟩, I.loc, I.cell, ?_, fun x c e => ?_, fun p hp => ?_, I.hok.laidN (fun _ _ z => z) na new, I.len⟩
  · have hb : b ≠ a := fun z => hx (by rw [z] at e ⊢; exact n0 u e)
    rw [upd_ne hb]
    exact I.base.free b u e n hx
  · have q := I.base.tups b xs e
    rw [upd_ne (ne_of_none q na)]
    exact q
  · have q := I.base.frzs b u x e
    rw [upd_ne (ne_of_none q na)]
    exact q
  · obtain ⟨m, q⟩ := I.base.tbls b ps e
    exact ⟨m, by rw [upd_ne (ne_of_none q na)]; exact q⟩
  · rw [upd_ne nL.symm]
    exact I.free
  · rw [upd_ne (nC x c e)]
    exact I.freeC x c e
  · obtain ⟨h1, h2, h3, h4, h5⟩ := I.pin p hp
    exact ⟨h1, by rw [upd_ne (nP p hp)]; exact h2, h3, h4, h5⟩
end
/-- what the body of such a try is to reach when it raises -/
def wTrk (K : PySem.W.Frag) (c : Value) (i : Nat) (ts : TS) (Wout : WX) (D : Ends) : WX := fun cls d σ H =>
  ∃ b, PySem.W.exmOne K cls c = some b ∧ (b = true → ∃ C, cls = .ref C ∧ d = none ∧ ∀ a, H a = none → ts { nx := fun σ' H' => H' a = none → D.nx (σ'.set i none) (upd H' a (Exo C a)), rt := fun _ _ => False, bk := fun _ _ => False, ct := fun _ _ => False } (σ.set i (some (.ref a))) H) ∧
    (b = false → Wout cls d σ H)
section
variable {X : Cx} {x n : Str} {c : Value} {i : Nat} {body suite : List Stmt} {b₀ : Stmt} {np pos pos' : Pos} {tb : WX → TS} {ts : TS} {Wout : WX}
theorem ps_try_trk (hs : X.stack = X.env :: X.outer) (hf : X.env.frame = some X.env.locals) (hN : X.N.Nodup) (hi : X.N[i]? = some n) (hln : X.env.kindOf n = some .local) (hc : Names X x c) (tk : L2N.Takes X Wout)
    (hb : ∀ (W : WX) (pn : List (Addr × Obj)) (xe : Value → Shared → Prop), L2N.Takes (X.tr pn xe) W → PassesOwn (model X.prog X.w) X.A X.env xe → PSs (X.tr pn xe) body (tb W))
    (hsu : ∀ (a : Addr) (oe : Obj) (pn : List (Addr × Obj)), PSs (X.suite a ((a, oe) :: pn)) (b₀ :: suite) ts) :
    PS X (.Try body [.ExceptHandler (some (.Name x np)) (some n) (b₀ :: suite) pos'] [] [] pos) (fun D σ H => tb (wTrk X.K c i ts Wout D) D σ H) := by
  refine ⟨fun pins s σ H D I h => ?_⟩
  have ok := I.ok
  have hfr : X.A.frames = some (X.env :: X.outer) := by rw [ok.frames, hs]
  have caught : ∀ (xe : Value → Shared → Prop) (u : Value) (s' : Shared), L2N.XE (X.tr (X.pn ++ pins) xe) (wTrk X.K c i ts Wout D) u s' →
      wpAny (model X.prog X.w) X.A (noteFrame u X.env) (fun _ s₂ => wpAny (model X.prog X.w) X.A (setFlight u none) (fun _ s₃ => wpAny (model X.prog X.w) X.A (handleBy u X.env [.ExceptHandler (some (.Name x np)) (some n) (b₀ :: suite) pos']) (SP X pins D) X.xe s₃) X.xe s₂) X.xe s' := by
    intro xe u s' xx
    obtain ⟨a, B, sI, pins', σ', H', cls, d, rfl, J', nb, up, sky, na, os, ag, b, hb1, hyes, hno⟩ := xx
    have J : Inv X pins σ' H' sI := J'.ofTry ok
    have sky' : Sky B (X.env :: X.outer) a (Zn cls d) X.env.locals s'.heap := by rw [← hs]; exact sky
    have na0 : B.get? a = none := by
      rcases sky' with z | z | z
      · exact z.2.1
      · exact z.2.1
      · exact z.2.1
    refine Sky.land Zn.steady hfr hf sky' fun h3 fl3 up3 => ?_
    have J3 : Inv X pins σ' H' { s' with heap := h3 } := J.landed nb fl3.1 (up.trans up3) os ag
    obtain ⟨o3, v3, g3, z3, d3⟩ := fl3.there
    have nfr : a ∉ frs (X.env :: X.outer) := fun hm => by
      obtain ⟨_, o', e', q⟩ := fl3.2.2.1.mem hm
      rw [g3] at e'; cases e'
      exact q _ d3
    have nL : a ≠ X.env.locals := fun z => nfr (List.mem_filterMap.mpr ⟨X.env, List.mem_cons_self, by rw [hf, z]⟩)
    have nF : a ∉ X.fs := fun hm => by
      obtain ⟨e, he, q⟩ := List.mem_filterMap.mp hm
      exact nfr (List.mem_filterMap.mpr ⟨e, List.mem_cons_of_mem _ he, q⟩)
    -- nothing of the state without the exception stands there
    have gone : sI.heap.get? a = none := by
      cases q : sI.heap.get? a with
      | none => rfl
      | some o => exact absurd (nb a o q (by rw [hs]; exact nfr)) (by rw [na0]; exact fun z => nomatch z)
    have n0 : ∀ o, X.s_0.heap.get? a = some o → a ∈ X.ex := fun o q => Classical.byContradiction fun hx => by
      obtain ⟨o', q'⟩ := J.base.there a o q hx
      rw [gone] at q'; cases q'
    have nC : ∀ x c, X.env.cells.lookup x = some c → c ≠ a := fun x c e z => by
      obtain ⟨v, o, ho, _⟩ := J.cell x c e
      rw [z, gone] at ho; cases ho
    have nP : ∀ p ∈ X.pn ++ pins, p.1 ≠ a := fun p hp z => by
      have q := (J.pin p hp).1
      rw [z, gone] at q; cases q
    refine wpAny_handleBy_cons (codeAny_handlers_test ?_) (by intro q; cases q)
    have S3 := J3.suite g3 d3 na nL nF
    have LT : PySem.W.Looks (model X.prog X.w) h3 (typeOf (.ref a)) cls := fun A Q E s k q => wpAny_typeOf_ref (k _ _ g3) (by rw [z3.1]; exact q)
    have test : ∀ {Q : Value → Shared → Prop} {E : Value → Shared → Prop}, Q c { s' with heap := h3 } → wpAny (model X.prog X.w) (X.A.mark (some (.ref a))) (eval (.Name x np) X.env) Q E { s' with heap := h3 } := fun {Q E} q => by
      obtain ⟨hg, hdbg, hm | ⟨hm, hv, hnn⟩⟩ := hc
      · exact ld_glob (X := X.suite a ((a, o3) :: (X.pn ++ pins))) S3 hg hm q hdbg
      · exact ld_blt (X := X.suite a ((a, o3) :: (X.pn ++ pins))) S3 hg hm hv q hnn hdbg
    refine test ((PySem.W.exm_one (M := model X.prog X.w) J3.kIn LT hb1).here ?_)
    cases b with
    | false =>
      refine wpAny_handleBy_nil ?_
      obtain ⟨k1, k2, k3, oe, vs, T, oT, ts', he, hz, hd, h1, hr⟩ := id fl3
      unfold PySem.passOn
      refine wpAny_bind (wpAny_field he hd h1 ?_)
      rw [if_neg (show ¬ ((Value.ref T == Value.none) = true) from by simp)]
      have fin : wpAny (model X.prog X.w) X.A (setFlight (.ref a) X.env.frame) (fun _ s4 => wpAny (model X.prog X.w) X.A (throw (.ref a) : Sem Flow) (SP X pins D) X.xe s4) X.xe { s' with heap := h3 } := by
        rw [hf]
        refine HandSPX.setFlight_upZ fl3 fun h4 hh4 up4 => wpAny_throw (tk _ _ ?_)
        exact ⟨a, B, sI, pins, σ', H', cls, d, rfl, J, nb, (up.trans up3).trans up4, .inr (.inr (by rw [hs]; exact hh4)), na, os, ag, hno rfl⟩
      first
        | exact wpAny_bind (wpAny_pure (wpAny_bind fin))
        | exact wpAny_bind fin
    | true =>
      obtain ⟨C, rfl, rfl, q0⟩ := hyes rfl
      refine codeAny_handlers_suite_as ?_
      refine HandSPX.lands_againZ fl3 fun h4 fl4 up4 => ?_
      have J4 : Inv X pins σ' H' { s' with heap := h4 } := J.landed nb fl4.1 ((up.trans up3).trans up4) os ag
      obtain ⟨o4, v4, g4, z4, d4⟩ := fl4.there
      refine store_ok (X := X.suite a ((a, o4) :: (X.pn ++ pins))) (v := .ref a) (J4.suite g4 d4 na nL nF) hN hi (.inl hln) rfl (fun s5 S5 => ?_) (.inr hln)
      refine wpAny_mono ((hsu a o4 (X.pn ++ pins)).run [] s5 _ H' _ S5 (q0 a na)) (fun f s6 hsp => ?_) (fun _ _ z => False.elim z)
      cases f with
      | next =>
        obtain ⟨σ6, H6, S6, q6⟩ := hsp
        have P6 := S6.pin (a, o4) (List.mem_append_left _ List.mem_cons_self)
        have T6 : Inv X pins σ6 (upd H6 a (Exo C a)) s6 := track_ok (S6.unsuite ok) P6.2.1 nL nC nP n0 ⟨⟨o4, v4, P6.1, z4, d4⟩, ⟨o4, P6.1⟩, fun h1 h2 ⟨o, v, e, z, d⟩ k => ⟨o, v, k _ e, z, d⟩⟩
        exact gone_ok T6 hN hi hln fun s7 J7 => ⟨_, _, J7, q6 P6.2.1⟩
      | brk =>
        obtain ⟨_, _, _, q6⟩ := hsp
        exact q6.elim
      | cont =>
        obtain ⟨_, _, _, q6⟩ := hsp
        exact q6.elim
      | ret u =>
        obtain ⟨_, _, _, _, _, q6⟩ := hsp
        exact q6.elim
  refine wpAny_Try_except ?_
  refine wpAny_mono ((hb (wTrk X.K c i ts Wout D) (X.pn ++ pins) _ (fun u s' xx => caught _ u s' xx) PassesOwn.looking).run [] s σ H D (I.toTry _) h) (fun f s1 hsp => ?_) (fun e s1 he => he)
  cases f with
  | next =>
    obtain ⟨σ', H', J', q⟩ := hsp
    exact wpAny_execs_nil ⟨σ', H', J'.ofTry ok, q⟩
  | brk =>
    obtain ⟨σ', H', J', q⟩ := hsp
    exact ⟨σ', H', J'.ofTry ok, q⟩
  | cont =>
    obtain ⟨σ', H', J', q⟩ := hsp
    exact ⟨σ', H', J'.ofTry ok, q⟩
  | ret u =>
    obtain ⟨v, σ', H', J', r, q⟩ := hsp
    exact ⟨v, σ', H', J'.ofTry ok, r, q⟩
end
end PD

/-! PD6: statements as data, what they do, how they stand in the text. -/
namespace PD
open PySem PySem.Spec PyProof.Rows L2

/-- what is asked of an exception in its suite -/
inductive HE where
  | is (j : Nat)
  | ve
  | str (s : Str)
  | only (k : Int)
  | nt (a : HE)
  | an (a b : HE)
  | two (a b : HE)
  | tri (a b c : HE)
inductive HS where
  | ret (e : HE)
  | asg (j : Nat) (e : HE)
inductive S where
  | skip
  | seq (a b : S)
  | asg (i : Nat) (e : E)
  | asgT (is : List Nat) (e : E)
  | asgN (is : List Nat) (e : E)
  | par (i j : Nat) (a b : E)
  | put (i : Nat) (k e : E)
  | aput (i : Nat) (o : Bo) (k e : E)
  | aug (i : Nat) (o : Bo) (e : E)
  | app (i : Nat) (e : E)
  | pop (i : Nat)
  | popA (j : Nat) (i : Nat)
  | popT (js : List Nat) (i : Nat)
  | asgP (j : Nat) (e : E) (i : Nat)
  | ex (e : E)
  | ret (e : E)
  | ret0
  | ite (c : E) (a b : S)
  | wh (c : E) (b : S)
  | fo (v : Nat) (it : E) (b : S)
  | foT (vs : List Nat) (it : E) (b : S)
  | brk
  | cnt
  | rai (c : Nat)
  | tryN (b : S) (x : Nat) (h : S)
  | tryA (b : S) (x i : Nat) (h : HS)
  | tryK (b : S) (x i j : Nat)
  | asgQ (is js : List Nat) (e : E)
  | asgK (i : Nat) (es : E)
  | asgKs (i : Nat) (ks : List (List Int))
  | dputE (i : Nat) (es e : E)
  | dputV (i j : Nat) (e : E)
  | dputI (i j : Nat) (k e : E)
  | fod (v i : Nat) (b : S)
  | fodT (vs : List Nat) (i : Nat) (b : S)

inductive Fl where
  | nx (η : Env)
  | bk (η : Env)
  | ct (η : Env)
  | rt (d : D)
  | ex (c : Nat) (η : Env)
  | st

def dropS (η : Env) (i : Nat) : Env := match η[i]? with
  | some (some (.ow ds)) => η.set i (some (.sh (.list ds)))
  | some (some (.od l)) => η.set i (some (.sh (dD l)))
  | _ => η
def asgV (η : Env) (i : Nat) (x : Val) : Option Env := if i < η.length then some (match x with
  | .cl d => η.set i (some (.sh d))
  | .nw ds => η.set i (some (.ow ds))
  | .br j ds => (dropS η j).set i (some (.sh (.list ds)))
  | .nd l => η.set i (some (.od l))
  | .bd j l => (dropS η j).set i (some (.sh (dD l)))) else none
def asgL : Env → List Nat → List D → Option Env
  | η, [], [] => some η
  | η, i :: is, d :: ds => (asgV η i (.cl d)).bind fun η' => asgL η' is ds
  | _, _, _ => none
def tupOf : Val → Option (List D)
  | .cl (.tuple ds) => some ds
  | _ => none
def lstOf : Val → Option (List D)
  | .nw ds => some ds
  | _ => none
def owOf (η : Env) (i : Nat) : Option (List D) := match η[i]? with
  | some (some (.ow ds)) => some ds
  | _ => none
def retD : Val → Option D
  | .cl d => if lf d = true then some d else none
  | .nw ds => if lfAll ds = true then some (.list ds) else none
  | .br _ ds => if lfAll ds = true then some (.list ds) else none
  | .nd l => some (dD l)
  | .bd _ l => some (dD l)
def odOf (η : Env) (i : Nat) : Option Dl := match η[i]? with
  | some (some (.od l)) => some l
  | _ => none
def tkOf (η : Env) (i : Nat) : Option (List Int) := match η[i]? with
  | some (some (.kk (.tk k))) => some k
  | _ => none
def lkOf (η : Env) (i : Nat) : Option (List (List Int)) := match η[i]? with
  | some (some (.kk (.lk ks))) => some ks
  | _ => none
def Fl.of {α : Type} (η : Env) (r : Res α) (k : α → Fl) : Fl := match r with
  | .ok a => k a
  | .ex c => .ex c η
  | .st => .st
def Fl.on {α : Type} (r : Option α) (k : α → Fl) : Fl := match r with
  | some a => k a
  | none => .st
def Fl.seq (f : Fl) (k : Env → Fl) : Fl := match f with
  | .nx η => k η
  | f => f
/-- a turn's end -/
def turnF (w : Env → Fl) : Fl → Fl
  | .nx η => w η
  | .ct η => w η
  | .bk η => .nx η
  | .rt d => .rt d
  | .ex c η => .ex c η
  | .st => .st
/-- a while, so often -/
def itW (c : Env → Res Bool) (b : Env → Fl) : Nat → Env → Fl
  | 0, _ => .st
  | n + 1, η => Fl.of η (c η) fun k => if k = true then turnF (itW c b n) (b η) else .nx η
open Classical in
/-- a while: as often as it goes -/
noncomputable def whS (c : Env → Res Bool) (b : Env → Fl) (η : Env) : Fl := if h : ∃ n, itW c b n η ≠ .st then itW c b (Classical.choose h) η else .st
section
variable {c : Env → Res Bool} {b : Env → Fl} {n m : Nat} {η : Env}
theorem itW_mono : ∀ {n : Nat} {η : Env}, itW c b n η ≠ .st → itW c b (n + 1) η = itW c b n η := by
  intro n
  induction n with
  | zero => intro η h; exact absurd rfl h
  | succ n ih =>
    intro η h
    rw [itW] at h
    rw [itW, itW]
    cases e : c η with
    | st => rfl
    | ex k => rfl
    | ok k =>
      rw [e] at h
      cases k with
      | false => rfl
      | true =>
        cases eb : b η with
        | nx η' => rw [eb] at h; exact ih h
        | ct η' => rw [eb] at h; exact ih h
        | _ => rfl
theorem itW_le (h : itW c b n η ≠ .st) (hm : n ≤ m) : itW c b m η = itW c b n η := by
  induction m with
  | zero =>
    have : n = 0 := by omega
    rw [this]
  | succ m ih =>
    by_cases e : n = m + 1
    · rw [e]
    · have q := ih (by omega)
      rw [itW_mono (by rw [q]; exact h), q]
theorem whS_of (h : itW c b n η ≠ .st) : whS c b η = itW c b n η := by
  have hx : ∃ n, itW c b n η ≠ .st := ⟨n, h⟩
  unfold whS
  rw [dif_pos hx]
  have h2 := Classical.choose_spec hx
  generalize Classical.choose hx = k at h2
  rcases Nat.le_total n k with q | q
  · exact itW_le h q
  · exact (itW_le h2 q).symm
theorem whS_no (h : ∀ n, itW c b n η = .st) : whS c b η = .st := by
  unfold whS
  rw [dif_neg fun ⟨n, z⟩ => z (h n)]
theorem whS_is (c : Env → Res Bool) (b : Env → Fl) (η : Env) : ∃ n, whS c b η = itW c b n η := by
  by_cases hx : ∃ n, itW c b n η ≠ .st
  · obtain ⟨n, h⟩ := hx
    exact ⟨n, whS_of h⟩
  · exact ⟨0, whS_no fun n => Classical.byContradiction fun z => hx ⟨n, z⟩⟩
/-- one turn -/
theorem whS_eq (c : Env → Res Bool) (b : Env → Fl) (η : Env) : whS c b η = Fl.of η (c η) fun k => if k = true then turnF (whS c b) (b η) else .nx η := by
  cases e : c η with
  | st => exact whS_no fun n => by cases n <;> simp [itW, e, Fl.of]
  | ex k => rw [whS_of (n := 1) (by rw [itW, e]; exact fun z => nomatch z), itW, e]; rfl
  | ok k =>
    cases k with
    | false => rw [whS_of (n := 1) (by rw [itW, e]; exact fun z => nomatch z), itW, e]; rfl
    | true =>
      have st : ∀ n, itW c b (n + 1) η = turnF (itW c b n) (b η) := fun n => by rw [itW, e]; rfl
      show whS c b η = turnF (whS c b) (b η)
      have go : ∀ η', (∀ n, turnF (itW c b n) (b η) = itW c b n η') → whS c b η = whS c b η' := fun η' h => by
        obtain ⟨n, hn⟩ := whS_is c b η'
        by_cases z : itW c b n η' = .st
        · obtain ⟨m, hm⟩ := whS_is c b η
          rw [hm]
          cases m with
          | zero => rw [hn, z]; rfl
          | succ m =>
            rw [st, h]
            by_cases z2 : itW c b m η' = .st
            · rw [z2, hn, z]
            · exact (whS_of z2).symm
        · rw [hn, whS_of (n := n + 1) (by rw [st, h]; exact z), st, h]
      cases eb : b η with
      | nx η' => exact go η' fun n => by rw [eb]; rfl
      | ct η' => exact go η' fun n => by rw [eb]; rfl
      | bk η' => rw [whS_of (n := 1) (by rw [st, eb]; exact fun z => nomatch z), st, eb]; rfl
      | rt d => rw [whS_of (n := 1) (by rw [st, eb]; exact fun z => nomatch z), st, eb]; rfl
      | ex k η' => rw [whS_of (n := 1) (by rw [st, eb]; exact fun z => nomatch z), st, eb]; rfl
      | st =>
        refine whS_no fun n => ?_
        cases n with
        | zero => rfl
        | succ n => rw [st, eb]; rfl
end
/-- a for over what is known -/
def loopF (b : D → Env → Fl) : List D → Env → Fl
  | [], η => .nx η
  | d :: ds, η => turnF (loopF b ds) (b d η)
def Wk.pre (η : Env) : Wk → Env
  | .v (.br j _) => dropS η j
  | .v (.bd j _) => dropS η j
  | _ => η
/-- the answers, by the exception's class -/
def heB (c : Nat) : HE → Bool
  | .is j => subX c j
  | .ve => true
  | .only k => decide ((List.range 8).map (fun j => subX c (j + 1)) = upto k)
  | .nt a => !heB c a
  | .an a b => heB c a && heB c b
  | _ => false
def heT : HE → Bool
  | .str _ => false
  | .two _ _ => false
  | .tri _ _ _ => false
  | _ => true
def heD (c : Nat) : HE → D
  | .str s => .str s
  | .two a b => .tuple [heD c a, heD c b]
  | .tri a b d => .tuple [heD c a, heD c b, heD c d]
  | e => .bool (heB c e)
def hsF (c : Nat) (i : Nat) (η : Env) : HS → Fl
  | .ret e => if i < η.length then .rt (heD c e) else .st
  | .asg j e => if j = i then .st else match η[i]? with
    | some none => Fl.on (asgV η j (.cl (heD c e))) .nx
    | _ => .st
def keepF (l : List Str) (c i j : Nat) (η : Env) : Fl := if j = i then .st else match η[i]?, l[c]? with
  | some none, some n => Fl.on (asgV η j (.cl (exD n))) .nx
  | _, _ => .st
def asgQF (η : Env) (is js : List Nat) : List D → Fl
  | [d1, d2] => Fl.on (tupOf (.cl d1)) fun a => Fl.on (tupOf (.cl d2)) fun b => if lfAll b = true then Fl.on (asgL η is a) fun η1 => Fl.on (asgL η1 js b) .nx else .st
  | _ => .st
/-- nothing may be raised -/
def noEx : Fl → Fl
  | .ex _ _ => .st
  | f => f
def setK (η : Env) (i : Nat) (k : Sk) : Option Env := if i < η.length then some (η.set i (some (.kk k))) else none
def dkeys (l : Dl) : List D := l.map fun p => .tuple (p.1.map PyData.int)
section
variable (T : Tb)
noncomputable def exS : S → Env → Fl
  | .skip, η => .nx η
  | .seq a b, η => (exS a η).seq (exS b)
  | .asg i e, η => Fl.of η (ev T e η) fun x => Fl.on (asgV η i x) .nx
  | .asgT is e, η => Fl.of η (ev T e η) fun x => Fl.on (tupOf x) fun ds => Fl.on (asgL η is ds) .nx
  | .asgN is e, η => Fl.of η (ev T e η) fun x => Fl.on (lstOf x) fun ds => Fl.on (asgL η is ds) .nx
  | .par i j a b, η => Fl.of η (ev T a η) fun x => Fl.of η (ev T b η) fun y => Fl.on x.sh fun d => Fl.on y.sh fun d' => Fl.on (asgL η [i, j] [d, d']) .nx
  | .put i k e, η => Fl.of η (ev T e η) fun x => Fl.on (owOf η i) fun ds => Fl.of η (ev T k η) fun y => Fl.of η (intOf y) fun n => Fl.on x.sh fun d => Fl.on (ixN ds.length n) fun j => .nx (η.set i (some (.ow (ds.set j d))))
  | .aput i o k e, η => Fl.on (owOf η i) fun ds => Fl.of η (ev T k η) fun y => Fl.of η (intOf y) fun n => Fl.on (atI ds n) fun old => Fl.of η (intOf (.cl old)) fun m0 => Fl.of η (ev T e η) fun x =>
      Fl.of η (intOf x) fun m1 => Fl.of η (binV o (.cl (.int m0)) (.cl (.int m1))) fun z => Fl.of η (intOf z) fun m => Fl.on (ixN ds.length n) fun j => .nx (η.set i (some (.ow (ds.set j (.int m)))))
  | .aug i o e, η => Fl.of η (slotV η i) fun x => Fl.of η (intOf x) fun _ => Fl.of η (ev T e η) fun y => Fl.of η (intOf y) fun _ => Fl.of η (binV o x y) fun z => Fl.on (asgV η i z) .nx
  | .app i e, η => Fl.on (owOf η i) fun ds => Fl.of η (ev T e η) fun x => Fl.on x.sh fun d => if Sm (ds.length + 1) then .nx (η.set i (some (.ow (ds ++ [d])))) else .st
  | .pop i, η => Fl.on (owOf η i) fun ds => Fl.on (ds[ds.length - 1]?) fun _ => .nx (η.set i (some (.ow ds.dropLast)))
  | .popA j i, η => Fl.on (owOf η i) fun ds => Fl.on (ds[ds.length - 1]?) fun d => Fl.on (asgV (η.set i (some (.ow ds.dropLast))) j (.cl d)) .nx
  | .asgP j e i, η => Fl.of η (ev T e η) fun x => Fl.of η (intOf x) fun m => Fl.on (owOf η i) fun ds => Fl.on (ds[ds.length - 1]?) fun d => Fl.of η (intOf (.cl d)) fun k => Fl.of η (mulV (.cl (.int m)) (.cl (.int k))) fun z => Fl.on (asgV (η.set i (some (.ow ds.dropLast))) j z) .nx
  | .popT js i, η => Fl.on (owOf η i) fun ds => Fl.on (ds[ds.length - 1]?) fun d => Fl.on (tupOf (.cl d)) fun es => Fl.on (asgL (η.set i (some (.ow ds.dropLast))) js es) .nx
  | .ex e, η => Fl.of η (ev T e η) fun _ => .nx η
  | .ret e, η => Fl.of η (ev T e η) fun x => Fl.on (retD x) .rt
  | .ret0, _ => .rt .none
  | .ite c a b, η => Fl.of η (evt T c η) fun k => if k = true then exS a η else exS b η
  | .wh c b, η => whS (evt T c) (exS b) η
  | .fo v it b, η => Fl.of η (evi T it η) fun w => loopF (fun d η => Fl.on (asgV η v (.cl d)) (exS b)) w.ds (w.pre η)
  | .foT vs it b, η => Fl.of η (evi T it η) fun w => loopF (fun d η => Fl.on (tupOf (.cl d)) fun ds => Fl.on (asgL η vs ds) (exS b)) w.ds (w.pre η)
  | .brk, η => .bk η
  | .cnt, η => .ct η
  | .rai c, η => .ex c η
  | .tryN b x h, η => match exS b η with
    | .ex c η' => if subX c x = true then exS h η' else .ex c η'
    | f => f
  | .tryA b x i h, η => match exS b η with
    | .ex c η' => if subX c x = true then hsF c i η' h else .ex c η'
    | f => f
  | .tryK b x i j, η => match exS b η with
    | .ex c η' => if subX c x = true then keepF T.ex c i j η' else .ex c η'
    | f => f
  | .asgK i es, η => Fl.of η (evs T es η) fun xs => Fl.on (intsOf (xs.map Val.d)) fun k => Fl.on (setK η i (.tk k)) .nx
  | .asgKs i ks, η => Fl.on (setK η i (.lk ks)) .nx
  | .dputE i es e, η => Fl.of η (ev T e η) fun x => Fl.of η (intOf x) fun n => Fl.on (odOf η i) fun l => Fl.of η (evs T es η) fun xs => Fl.on (intsOf (xs.map Val.d)) fun k => if Sm (l.length + 1) then .nx (η.set i (some (.od (putL l k n)))) else .st
  | .dputV i j e, η => Fl.of η (ev T e η) fun x => Fl.of η (intOf x) fun n => Fl.on (odOf η i) fun l => Fl.on (tkOf η j) fun k => if Sm (l.length + 1) then .nx (η.set i (some (.od (putL l k n)))) else .st
  | .dputI i j k e, η => Fl.of η (ev T e η) fun x => Fl.of η (intOf x) fun n => Fl.on (odOf η i) fun l => Fl.on (lkOf η j) fun ks => Fl.of η (ev T k η) fun y => Fl.of η (intOf y) fun m => Fl.on (atI ks m) fun k => if Sm (l.length + 1) then .nx (η.set i (some (.od (putL l k n)))) else .st
  | .fod v i b, η => Fl.of η (slotV η i) fun x => Fl.on x.d.dct fun l => noEx (loopF (fun d η => Fl.on (keyOf d) fun k => Fl.on (setK η v (.tk k)) (exS b)) (dkeys l) (dropS η i))
  | .fodT vs i b, η => Fl.of η (slotV η i) fun x => Fl.on x.d.dct fun l => noEx (loopF (fun d η => Fl.on (tupOf (.cl d)) fun ds => Fl.on (asgL η vs ds) (exS b)) (dkeys l) (dropS η i))
  | .asgQ is js e, η => Fl.of η (ev T e η) fun x => Fl.on (tupOf x) fun ds => asgQF η is js ds
end

/-! ### in the text -/
/-- the names of the exceptions -/
structure Nx extends Nm where
  ct : Nat → Option Str
  on : Bool
def lcS (sc : Scope) (t : Str) (tl : Nat) (e : Expr) : Bool := match e with
  | .ListComp a b scope p => (match sc.names.lookup t with | some .local => true | _ => false) && decide (tl = p.line) && !(scope.names.any fun (n, k) => n == t && (k == .local || k == .cell))
  | _ => false
def locB (sc : Scope) (x : Str) : Bool := match sc.names.lookup x with
  | some .local => true
  | some .cell => true
  | _ => false
def lclB (sc : Scope) (x : Str) : Bool := match sc.names.lookup x with
  | some .local => true
  | _ => false
def nameB (N : List Str) (sc : Scope) (x : Str) (i : Nat) : Bool := decide (N[i]? = some x) && locB sc x
def namesB (N : List Str) (sc : Scope) : List Expr → List Nat → Bool
  | [], [] => true
  | .Name x _ :: es, i :: is => nameB N sc x i && namesB N sc es is
  | _, _ => false
def isTupE : Expr → Bool
  | .Tuple .. => true
  | _ => false
/-- two names, not both of them plain -/
def tupNo (sc : Scope) : List Expr → Bool
  | [.Name x _, .Name y _] => !lclB sc x || !lclB sc y
  | _ => false
/-- isinstance(x, class j) in the text -/
def okIs (M : Nx) (N : List Str) (sc : Scope) (i j : Nat) (e : Expr) : Bool := match e with
  | .Call (.Name f _) [.Name x _, .Name y _] [] _ => decide (f = "isinstance") && glB sc f && decide (N[i]? = some x) && visB sc x && okName x && glB sc y && okName y && decide (M.ex j = some y)
  | _ => false
def okVe (N : List Str) (sc : Scope) (i : Nat) (e : Expr) : Bool := match e with
  | .Call (.Name f _) [.Name x _, .Name y _] [] _ => decide (f = "isinstance") && glB sc f && decide (N[i]? = some x) && visB sc x && okName x && glB sc y && decide (y = "ValueError")
  | _ => false
def okIss (M : Nx) (N : List Str) (sc : Scope) (i : Nat) : List Expr → List Nat → Bool
  | [], [] => true
  | e :: es, j :: js => okIs M N sc i j e && okIss M N sc i es js
  | _, _ => false
def okHE (M : Nx) (N : List Str) (sc : Scope) (i : Nat) (e : Expr) : HE → Bool
  | .is j => okIs M N sc i j e
  | .ve => okVe N sc i e
  | .str s => match e with
    | .Constant (.str t) _ _ => decide (t = s)
    | _ => false
  | .only k => match e with
    | .Call (.Name f _) [.Name x _, .Constant (.int k') _ _] [] _ => M.on && decide (f = "_law_only") && glB sc f && decide (N[i]? = some x) && visB sc x && okName x && decide (k' = k)
    | _ => false
  | .nt a => match e with
    | .UnaryOp .Not x _ => okHE M N sc i x a && heT a
    | _ => false
  | .an a b => match e with
    | .BoolOp .And [x, y] _ => okHE M N sc i x a && okHE M N sc i y b && heT a && heT b
    | _ => false
  | .two a b => match e with
    | .Tuple [x, y] _ _ => okHE M N sc i x a && okHE M N sc i y b
    | _ => false
  | .tri a b c => match e with
    | .Tuple [x, y, z] _ _ => okHE M N sc i x a && okHE M N sc i y b && okHE M N sc i z c
    | _ => false
def okHS (M : Nx) (N : List Str) (sc : Scope) (i : Nat) (st : Stmt) : HS → Bool
  | .ret e => match st with
    | .Return (some v) _ => okHE M N sc i v e
    | _ => false
  | .asg j e => match st with
    | .Assign [.Name x _] v _ => nameB N sc x j && okHE M N sc i v e
    | _ => false
/-- the def that asks an exception for all its kinds -/
def okOnly (M : Nx) (st : Stmt) : Bool :=
  let N : List Str := ["_law_e", "_law_at", "_law_kinds", "_law_k"]
  let sc := defScope st
  match defBody st with
  | [.Assign [.Name k1 _] (.List es1 _) _, .Assign [.Name k2 _] (.BinOp (.Name k3 _) .Add (.List es2 _) _) _,
      .Return (some (.BoolOp .And [i1, i2, .Compare (.Name k4 _) [.Eq] [.ListComp (.Compare (.Name y _) [.Eq] [.Name tn _] _) [⟨.Name y2 _, .Call (.Name rg _) [.Constant (.int n) _ _] [] _, [], 0⟩] scope _] _] _)) _] =>
    okIss M N sc 0 es1 [1, 2, 3, 4] && okIss M N sc 0 es2 [5, 6, 7, 8] && okIs M N sc 0 0 i1 && okVe N sc 0 i2
      && decide (k1 = "_law_kinds") && decide (k2 = "_law_kinds") && decide (k3 = "_law_kinds") && decide (k4 = "_law_kinds") && lclB sc "_law_kinds"
      && decide (y = "_law_k") && decide (y2 = "_law_k") && lclB scope "_law_k" && blkC N sc scope [("_law_k", 3)] && decide (tn = "_law_at") && visB (relS scope sc) "_law_at" && decide (rg = "range") && glB sc "range" && decide (n = 8)
  | _ => false
/-- a handler of constants alone -/
def okH (N : List Str) (sc : Scope) (sts : List Stmt) : S → Bool
  | .seq (.asg i (.bl b)) .skip => match sts with
    | [.Assign [.Name x _] (.Constant (.bool c) _ _) _] => nameB N sc x i && decide (b = c)
    | _ => false
  | .seq (.ret (.bl b)) .skip => match sts with
    | [.Return (some (.Constant (.bool c) _ _)) _] => decide (b = c)
    | _ => false
  | _ => false
section
variable (M : Nx)
mutual
def okS (N : List Str) (sc : Scope) (st : Stmt) : S → Bool
  | .asg i e => match st with
    | .Assign [.Name x _] v _ => nameB N sc x i && okE M.toNm N sc v e
    | _ => false
  | .asgT is e => match st with
    | .Assign [.Tuple ts _ _] v _ => namesB N sc ts is && okE M.toNm N sc v e && (!isTupE v || tupNo sc ts)
    | _ => false
  | .asgN is e => match st with
    | .Assign [.Tuple ts _ _] v _ => namesB N sc ts is && okE M.toNm N sc v e && (!isTupE v || tupNo sc ts)
    | _ => false
  | .par i j a b => match st with
    | .Assign [.Tuple [.Name x px, .Name y py] _ pt] (.Tuple [u, v] _ _) _ => decide (N[i]? = some x) && decide (N[j]? = some y) && decide (i ≠ j) && lclB sc x && lclB sc y && decide (px.line = py.line)
        && okE M.toNm N sc u a && okE M.toNm N sc v b && !(foldedForSure 8 u && foldedForSure 8 v) && !(constantsAlone 8 u && constantsAlone 8 v)
    | _ => false
  | .put i k e => match st with
    | .Assign [.Subscript (.Name x _) kk _] v _ => nameB N sc x i && okName x && okE M.toNm N sc kk k && okE M.toNm N sc v e
    | _ => false
  | .aput i o k e => match st with
    | .AugAssign (.Subscript (.Name x _) kk _) op v _ => nameB N sc x i && okName x && okE M.toNm N sc kk k && okE M.toNm N sc v e && decide (op = boP o) && (match o with | .add => true | .sub => true | _ => false)
    | _ => false
  | .aug i o e => match st with
    | .AugAssign (.Name x _) op v _ => nameB N sc x i && okE M.toNm N sc v e && decide (op = boP o) && (match o with | .add => true | .sub => true | .mul => true | _ => false)
    | _ => false
  | .app i e => match st with
    | .Expr (.Call (.Attribute (.Name x _) m ap) [v] [] cp) _ => nameB N sc x i && okName x && decide (m = "append") && okE M.toNm N sc v e && decide (ap.endLine = cp.line)
    | _ => false
  | .pop i => match st with
    | .Expr (.Call (.Attribute (.Name x _) m ap) [] [] cp) _ => nameB N sc x i && okName x && decide (m = "pop") && decide (ap.endLine = cp.line)
    | _ => false
  | .popA j i => match st with
    | .Assign [.Name y _] (.Call (.Attribute (.Name x _) m ap) [] [] cp) _ => nameB N sc y j && nameB N sc x i && okName x && decide (m = "pop") && decide (ap.endLine = cp.line)
    | _ => false
  | .asgP j e i => match st with
    | .Assign [.Name y _] (.BinOp v .Mult (.Call (.Attribute (.Name x _) m ap) [] [] cp) _) _ => nameB N sc y j && okE M.toNm N sc v e && nameB N sc x i && okName x && decide (m = "pop") && decide (ap.endLine = cp.line)
    | _ => false
  | .popT js i => match st with
    | .Assign [.Tuple ts _ _] (.Call (.Attribute (.Name x _) m ap) [] [] cp) _ => namesB N sc ts js && nameB N sc x i && okName x && decide (m = "pop") && decide (ap.endLine = cp.line)
    | _ => false
  | .ex e => match st with
    | .Expr v _ => okE M.toNm N sc v e && (match v with | .ListComp .. => false | _ => true)
    | _ => false
  | .ret e => match st with
    | .Return (some v) _ => okE M.toNm N sc v e
    | _ => false
  | .ret0 => match st with
    | .Return none _ => true
    | _ => false
  | .ite c a b => match st with
    | .If t x y _ => okT M.toNm N sc t c && okSs N sc x a && okSs N sc y b
    | _ => false
  | .wh c b => match st with
    | .While t x [] _ => okT M.toNm N sc t c && okSs N sc x b
    | _ => false
  | .fo v it b => match st with
    | .For (.Name y _) iter x [] _ => nameB N sc y v && okI M.toNm N sc iter it && okSs N sc x b
    | _ => false
  | .foT vs it b => match st with
    | .For (.Tuple ts _ _) iter x [] _ => namesB N sc ts vs && okI M.toNm N sc iter it && okSs N sc x b
    | _ => false
  | .brk => match st with
    | .Break _ => true
    | _ => false
  | .cnt => match st with
    | .Continue _ => true
    | _ => false
  | .rai c => match st with
    | .Raise (some (.Call (.Name x _) [.Constant (.str _) _ _] [] _)) none _ => decide (M.ex c = some x) && glB sc x && okName x
    | _ => false
  | .tryN b x h => match st with
    | .Try body [.ExceptHandler (some (.Name y _)) none (s0 :: ss) _] [] [] _ => okSs N sc body b && decide (M.ct x = some y) && glB sc y && okName y && okH N sc (s0 :: ss) h
    | _ => false
  | .tryA b x i h => match st with
    | .Try body [.ExceptHandler (some (.Name y _)) (some n) [s0] _] [] [] _ => okSs N sc body b && decide (M.ct x = some y) && glB sc y && okName y && M.hx && decide (N[i]? = some n) && lclB sc n && okHS M N sc i s0 h
    | _ => false
  | .tryK b x i j => match st with
    | .Try body [.ExceptHandler (some (.Name y _)) (some n) [.Assign [.Name r _] (.Name n' _) _] _] [] [] _ => okSs N sc body b && decide (M.ct x = some y) && glB sc y && okName y && decide (N[i]? = some n) && lclB sc n && nameB N sc r j && decide (n' = n) && okName n
    | _ => false
  | .asgK i es => match st with
    | .Assign [.Name x _] (.Tuple vs _ _) _ => nameB N sc x i && okEs M.toNm N sc vs es && decide (lenE es ≤ 1000)
    | _ => false
  | .asgKs i ks => match st with
    | .Assign [.Name x _] (.List vs _) _ => nameB N sc x i && keysB (vs.map some) ks && decide (ks.length ≤ 1000)
    | _ => false
  | .dputE i es e => match st with
    | .Assign [.Subscript (.Name x _) (.Tuple vs _ _) _] v _ => nameB N sc x i && okName x && okEs M.toNm N sc vs es && decide (lenE es ≤ 1000) && okE M.toNm N sc v e
    | _ => false
  | .dputV i j e => match st with
    | .Assign [.Subscript (.Name x _) (.Name y _) _] v _ => nameB N sc x i && okName x && nameB N sc y j && okName y && okE M.toNm N sc v e
    | _ => false
  | .dputI i j k e => match st with
    | .Assign [.Subscript (.Name x _) (.Subscript (.Name y _) kk _) _] v _ => nameB N sc x i && okName x && nameB N sc y j && okName y && okE M.toNm N sc kk k && okE M.toNm N sc v e
    | _ => false
  | .fod v i b => match st with
    | .For (.Name y _) (.Name x _) body [] _ => nameB N sc y v && nameB N sc x i && okName x && okSs N sc body b
    | _ => false
  | .fodT vs i b => match st with
    | .For (.Tuple ts _ _) (.Name x _) body [] _ => namesB N sc ts vs && nameB N sc x i && okName x && okSs N sc body b
    | _ => false
  | .asgQ is js e => match st with
    | .Assign [.Tuple [.Tuple ts _ _, .Tuple us _ _] _ _] (.Tuple vs k p) _ => namesB N sc ts is && namesB N sc us js && okE M.toNm N sc (.Tuple vs k p) e
    | _ => false
  | .skip => match st with
    | .Pass _ => true
    | .Expr (.Constant (.str _) _ _) _ => true
    | _ => false
  | _ => false
termination_by structural x => x
def okSs (N : List Str) (sc : Scope) (sts : List Stmt) : S → Bool
  | .skip => match sts with
    | [] => true
    | _ => false
  | .seq a b => match sts with
    | x :: xs => okS N sc x a && okSs N sc xs b
    | _ => false
  | _ => false
termination_by structural x => x
end
end
end PD

/-! PD7: statements: what stands in the text does as told. -/
namespace PD
open PySem PySem.Spec PyProof.Rows L2
section
variable {K : Fg} {B : Addr → Prop} {old : Old} {O : Ow} {H H0 H1 H' H'' : Hp} {σ : L2.St} {η η' : Env}
def minus (O : Ow) (i : Nat) : Ow := fun k => if k = i then none else O k
def plus (O : Ow) (i : Nat) (a : Addr) : Ow := fun k => if k = i then some a else O k
theorem minus_some {i k : Nat} {a : Addr} (h : minus O i k = some a) : k ≠ i ∧ O k = some a := by
  unfold minus at h
  split at h
  · cases h
  · exact ⟨by assumption, h⟩
theorem own_minus {i : Nat} {a : Addr} (h : Own (minus O i) B a) : Own O B a := by
  rcases h with ⟨k, h⟩ | h
  · exact .inl ⟨k, (minus_some h).2⟩
  · exact .inr h
theorem ca_minus {i : Nat} : Ca K (Own O B) (Own (minus O i) B) H H := Ca.less fun _ h => own_minus h
theorem dropS_len (η : Env) (i : Nat) : (dropS η i).length = η.length := by
  unfold dropS
  split <;> simp
/-- a list that nobody owns any more -/
theorem ER.drop (r : ER K B old O H σ η) (i : Nat) : ER K B old (minus O i) H σ (dropS η i) := by
  have e0 : ∀ k, k ≠ i → (dropS η i)[k]? = η[k]? := fun k hk => by
    unfold dropS
    split
    · rw [List.getElem?_set_ne (Ne.symm hk)]
    · rw [List.getElem?_set_ne (Ne.symm hk)]
    · rfl
  refine ⟨by rw [dropS_len]; exact r.len, fun k s e => ?_, fun k a e => ?_, fun k l a h1 h2 => r.inj k l a (minus_some h1).2 (minus_some h2).2, fun k a e => r.disj k a (minus_some e).2, fun k a e => r.fr k a (minus_some e).2, r.same, r.bt, r.gh.ca ca_minus⟩
  · by_cases hk : k = i
    · subst hk
      unfold dropS at e
      split at e
      · rename_i ds hd
        have hl := (List.getElem?_eq_some_iff.mp hd).1
        rw [List.getElem?_set_self hl] at e
        cases e
        obtain ⟨a, vs, q0, q1, q2, q3⟩ := r.sl k _ hd
        refine ⟨_, q1, .lst (.inl ⟨fun z => ?_, .inl q2⟩) (q3.ca ca_minus)⟩
        rcases z with ⟨l, z⟩ | z
        · obtain ⟨h1, h2⟩ := minus_some z
          exact h1 (r.inj l k a h2 q0)
        · exact r.disj k a q0 z
      · rename_i l hd
        have hl := (List.getElem?_eq_some_iff.mp hd).1
        rw [List.getElem?_set_self hl] at e
        cases e
        obtain ⟨a, q0, q1, q2⟩ := r.sl k _ hd
        refine ⟨_, q1, .dct (fun z => ?_) (.inl q2)⟩
        rcases z with ⟨l, z⟩ | z
        · obtain ⟨h1, h2⟩ := minus_some z
          exact h1 (r.inj l k a h2 q0)
        · exact r.disj k a q0 z
      · rename_i hn hm
        have q := r.sl k s e
        cases s with
        | sh d =>
          obtain ⟨v, q1, q2⟩ := q
          exact ⟨v, q1, q2.ca ca_minus⟩
        | ow ds => exact absurd e (hn ds)
        | od l => exact absurd e (hm l)
        | kk x =>
          obtain ⟨v, q1, q2⟩ := q
          exact ⟨v, q1, q2.ca (K := K) ca_minus⟩
    · rw [e0 k hk] at e
      have q := r.sl k s e
      cases s with
      | sh d =>
        obtain ⟨v, q1, q2⟩ := q
        exact ⟨v, q1, q2.ca ca_minus⟩
      | ow ds =>
        obtain ⟨a, vs, q0, q1, q2, q3⟩ := q
        exact ⟨a, vs, by unfold minus; rw [if_neg hk]; exact q0, q1, q2, q3.ca ca_minus⟩
      | od l =>
        obtain ⟨a, q0, q1, q2⟩ := q
        exact ⟨a, by unfold minus; rw [if_neg hk]; exact q0, q1, q2⟩
      | kk x =>
        obtain ⟨v, q1, q2⟩ := q
        exact ⟨v, q1, q2.ca (K := K) ca_minus⟩
  · obtain ⟨hk, e⟩ := minus_some e
    obtain ⟨ds, q, hs⟩ := r.dom k a e
    exact ⟨ds, by rw [e0 k hk]; exact q, hs⟩
theorem ER.setN {i : Nat} {v : V} {x : Sl} (r : ER K B old O H σ η) (hi : i < η.length) (rv : SlR K (Own (minus O i) B) (minus O i) H (σ.set i (some v)) i x) : ER K B old (minus O i) H (σ.set i (some v)) (η.set i (some x)) := by
  refine ⟨by rw [List.length_set, List.length_set]; exact r.len, fun k s e => ?_, fun k a e => ?_, fun k l a h1 h2 => r.inj k l a (minus_some h1).2 (minus_some h2).2, fun k a e => r.disj k a (minus_some e).2, fun k a e => r.fr k a (minus_some e).2, r.same, r.bt, r.gh.ca ca_minus⟩
  · by_cases hk : i = k
    · subst hk
      rw [List.getElem?_set_self hi] at e
      cases e
      exact rv
    · rw [List.getElem?_set_ne hk] at e
      have q := r.sl k s e
      cases s with
      | sh d =>
        obtain ⟨w, q1, q2⟩ := q
        exact ⟨w, by rw [List.getElem?_set_ne hk]; exact q1, q2.ca ca_minus⟩
      | ow ds =>
        obtain ⟨a, vs, q0, q1, q2, q3⟩ := q
        exact ⟨a, vs, by unfold minus; rw [if_neg (Ne.symm hk)]; exact q0, by rw [List.getElem?_set_ne hk]; exact q1, q2, q3.ca ca_minus⟩
      | od l =>
        obtain ⟨a, q0, q1, q2⟩ := q
        exact ⟨a, by unfold minus; rw [if_neg (Ne.symm hk)]; exact q0, by rw [List.getElem?_set_ne hk]; exact q1, q2⟩
      | kk x =>
        obtain ⟨w, q1, q2⟩ := q
        exact ⟨w, by rw [List.getElem?_set_ne hk]; exact q1, q2.ca (K := K) ca_minus⟩
  · obtain ⟨hk, e⟩ := minus_some e
    obtain ⟨ds, q, hs⟩ := r.dom k a e
    exact ⟨ds, by rw [List.getElem?_set_ne (Ne.symm hk)]; exact q, hs⟩
theorem ER.setSh {i : Nat} {v : V} {d : D} (r : ER K B old O H σ η) (hi : i < η.length) (rv : Rp K (Own (minus O i) B) H v d) : ER K B old (minus O i) H (σ.set i (some v)) (η.set i (some (.sh d))) :=
  r.setN hi ⟨v, List.getElem?_set_self (by rw [r.len]; exact hi), rv⟩
theorem ER.setKk {i : Nat} {v : V} {k : Sk} (r : ER K B old O H σ η) (hi : i < η.length) (rv : KkR (Own (minus O i) B) H v k) : ER K B old (minus O i) H (σ.set i (some v)) (η.set i (some (.kk k))) :=
  r.setN hi ⟨v, List.getElem?_set_self (by rw [r.len]; exact hi), rv⟩
theorem plus_sub {i : Nat} {a : Addr} : ∀ b, Own (plus O i a) B b → Own O B b ∨ b = a := fun b h => by
  rcases h with ⟨k, h⟩ | h
  · unfold plus at h
    split at h
    · cases h; exact .inr rfl
    · exact .inl (.inl ⟨k, h⟩)
  · exact .inl (.inr h)
theorem ER.setO {i : Nat} {a : Addr} {x : Sl} (r : ER K B old O H σ η) (hi : i < η.length) (s : Same H H') (ha : H a = none) (hx : x.own = true) (rv : SlR K (Own (plus O i a) B) (plus O i a) H' (σ.set i (some (.ref a))) i x) :
    ER K B old (plus O i a) H' (σ.set i (some (.ref a))) (η.set i (some x)) := by
  have sub : ∀ b, Own (plus O i a) B b → Own O B b ∨ b = a := fun b h => by
    rcases h with ⟨k, h⟩ | h
    · unfold plus at h
      split at h
      · cases h; exact .inr rfl
      · exact .inl (.inl ⟨k, h⟩)
    · exact .inl (.inr h)
  have c : Ca K (Own O B) (Own (plus O i a) B) H H' := Ca.more s fun b h => (sub b h).elim .inl fun q => .inr (q ▸ ha)
  have pl : ∀ k b, plus O i a k = some b → (k = i ∧ b = a) ∨ (k ≠ i ∧ O k = some b) := fun k b h => by
    unfold plus at h
    split at h
    · cases h; exact .inl ⟨by assumption, rfl⟩
    · exact .inr ⟨by assumption, h⟩
  have na : ∀ k, O k ≠ some a := fun k e => by
    exact r.lst e ha
  refine ⟨by rw [List.length_set, List.length_set]; exact r.len, fun k s' e => ?_, fun k b e => ?_, fun k l b h1 h2 => ?_, fun k b e => ?_, fun k b e => ?_, r.same.trans s, fun b h z => r.bt b h (s.free z), r.gh.ca c⟩
  · by_cases hk : i = k
    · subst hk
      rw [List.getElem?_set_self hi] at e
      cases e
      exact rv
    · rw [List.getElem?_set_ne hk] at e
      have q := r.sl k s' e
      cases s' with
      | sh d =>
        obtain ⟨w, q1, q2⟩ := q
        exact ⟨w, by rw [List.getElem?_set_ne hk]; exact q1, q2.ca c⟩
      | ow ds =>
        obtain ⟨b, ws, q0, q1, q2, q3⟩ := q
        exact ⟨b, ws, by unfold plus; rw [if_neg (Ne.symm hk)]; exact q0, by rw [List.getElem?_set_ne hk]; exact q1, s _ _ q2, q3.ca c⟩
      | od l =>
        obtain ⟨b, q0, q1, q2⟩ := q
        exact ⟨b, by unfold plus; rw [if_neg (Ne.symm hk)]; exact q0, by rw [List.getElem?_set_ne hk]; exact q1, s _ _ q2⟩
      | kk y =>
        obtain ⟨w, q1, q2⟩ := q
        exact ⟨w, by rw [List.getElem?_set_ne hk]; exact q1, q2.ca c⟩
  · rcases pl k b e with ⟨h1, h2⟩ | ⟨h1, h2⟩
    · subst h1
      exact ⟨x, List.getElem?_set_self hi, hx⟩
    · obtain ⟨es, q, hs⟩ := r.dom k b h2
      exact ⟨es, by rw [List.getElem?_set_ne (Ne.symm h1)]; exact q, hs⟩
  · rcases pl k b h1 with ⟨p1, p2⟩ | ⟨p1, p2⟩ <;> rcases pl l b h2 with ⟨p3, p4⟩ | ⟨p3, p4⟩
    · rw [p1, p3]
    · exact absurd (p2 ▸ p4) (na l)
    · exact absurd (p4 ▸ p2) (na k)
    · exact r.inj k l b p2 p4
  · rcases pl k b e with ⟨h1, h2⟩ | ⟨h1, h2⟩
    · exact fun z => r.bt b z (h2 ▸ ha)
    · exact r.disj k b h2
  · rcases pl k b e with ⟨h1, h2⟩ | ⟨h1, h2⟩
    · rw [h2]; exact r.same.free ha
    · exact r.fr k b h2
theorem ER.setOw {i : Nat} {a : Addr} {vs : List V} {ds : List D} (r : ER K B old O H σ η) (hi : i < η.length) (s : Same H H') (ha : H a = none) (ha' : H' a = some (.lst vs)) (rv : RpAll K (fun b => Own O B b ∨ b = a) H' vs ds) :
    ER K B old (plus O i a) H' (σ.set i (some (.ref a))) (η.set i (some (.ow ds))) :=
  r.setO hi s ha rfl ⟨a, vs, by unfold plus; rw [if_pos rfl], List.getElem?_set_self (by rw [r.len]; exact hi), ha', rv.ca (Ca.less plus_sub)⟩
theorem ER.asg {i : Nat} {v : V} {x : Val} (r : ER K B old O H σ η) (s : Same H H') (vr : VR K B O H H' v x) (h : asgV η i x = some η') : ∃ O', ER K B old O' H' (σ.set i (some v)) η' := by
  unfold asgV at h
  split at h
  · rename_i hi
    cases h
    cases x with
    | cl d => exact ⟨_, (r.ext s).setSh hi (Rp.ca ca_minus vr)⟩
    | nw ds =>
      obtain ⟨a, vs, rfl, h2, h3, h4⟩ := vr
      exact ⟨_, r.setOw hi s h2 h3 h4⟩
    | br j ds =>
      obtain ⟨a, vs, h1, rfl, h3, h4⟩ := vr
      have r1 := (r.ext s).drop j
      refine ⟨_, r1.setSh (by rw [dropS_len]; exact hi) (.lst (.inl ⟨fun z => ?_, .inl h3⟩) ((h4.ca ca_minus).ca ca_minus))⟩
      rcases own_minus z with ⟨l, z⟩ | z
      · obtain ⟨q1, q2⟩ := minus_some z
        exact q1 (r.inj l j a q2 h1)
      · exact r.disj j a h1 z
    | nd l =>
      obtain ⟨a, rfl, h2, h3⟩ := vr
      exact ⟨_, r.setO hi s h2 rfl ⟨a, by unfold plus; rw [if_pos rfl], List.getElem?_set_self (by rw [r.len]; exact hi), h3⟩⟩
    | bd j l =>
      obtain ⟨a, h1, rfl, h3⟩ := vr
      have r1 := (r.ext s).drop j
      refine ⟨_, r1.setSh (by rw [dropS_len]; exact hi) (.dct (fun z => ?_) (.inl h3))⟩
      rcases own_minus z with ⟨l, z⟩ | z
      · obtain ⟨q1, q2⟩ := minus_some z
        exact q1 (r.inj l j a q2 h1)
      · exact r.disj j a h1 z
  · cases h
/-- an owned thing is changed -/
theorem ER.mutG {i : Nat} {a : Addr} {o : HO} {x y : Sl} (r : ER K B old O H σ η) (hi : η[i]? = some (some y)) (ha : O i = some a) (hx : x.own = true) (c : Ca K (Own O B) (Own O B) H (upd H a o)) (rv : SlR K (Own O B) O (upd H a o) σ i x) :
    ER K B old O (upd H a o) σ (η.set i (some x)) := by
  have hlt := (List.getElem?_eq_some_iff.mp hi).1
  refine ⟨by rw [List.length_set]; exact r.len, fun k s e => ?_, fun k b e => ?_, r.inj, r.disj, r.fr, fun b o e => ?_, fun b h z => ?_, r.gh.ca c⟩
  · by_cases hk : i = k
    · subst hk
      rw [List.getElem?_set_self hlt] at e
      cases e
      exact rv
    · rw [List.getElem?_set_ne hk] at e
      have q := r.sl k s e
      cases s with
      | sh d =>
        obtain ⟨w, q1, q2⟩ := q
        exact ⟨w, q1, q2.ca c⟩
      | ow es =>
        obtain ⟨b, ws, q0, q1, q2, q3⟩ := q
        have nb : b ≠ a := fun z => hk (r.inj i k a ha (z ▸ q0))
        exact ⟨b, ws, q0, q1, by rw [upd_ne nb]; exact q2, q3.ca c⟩
      | od l =>
        obtain ⟨b, q0, q1, q2⟩ := q
        have nb : b ≠ a := fun z => hk (r.inj i k a ha (z ▸ q0))
        exact ⟨b, q0, q1, by rw [upd_ne nb]; exact q2⟩
      | kk k =>
        obtain ⟨w, q1, q2⟩ := q
        exact ⟨w, q1, q2.ca c⟩
  · by_cases hk : i = k
    · subst hk
      exact ⟨x, List.getElem?_set_self hlt, hx⟩
    · obtain ⟨es, q, hs⟩ := r.dom k b e
      exact ⟨es, by rw [List.getElem?_set_ne hk]; exact q, hs⟩
  · have nb : b ≠ a := fun z => by rw [z, r.fr i a ha] at e; cases e
    rw [upd_ne nb]
    exact r.same b o e
  · by_cases nb : b = a
    · rw [nb, upd_same] at z; cases z
    · rw [upd_ne nb] at z
      exact r.bt b h z
/-- an owned list is changed -/
theorem ER.mut {i : Nat} {a : Addr} {vs vs' : List V} {ds ds' : List D} (r : ER K B old O H σ η) (hi : η[i]? = some (some (.ow ds))) (ha : O i = some a) (hl : H a = some (.lst vs)) (rv : RpAll K (Own O B) H vs' ds') :
    ER K B old O (upd H a (.lst vs')) σ (η.set i (some (.ow ds'))) := by
  have c : Ca K (Own O B) (Own O B) H (upd H a (.lst vs')) := Ca.upd (.inl ⟨i, ha⟩) hl
  obtain ⟨b, ws, q0, q1, q2, q3⟩ := r.sl i _ hi
  rw [ha] at q0
  cases q0
  exact r.mutG hi ha rfl c ⟨a, vs', ha, q1, upd_same, rv.ca c⟩
/-- an owned dict is changed -/
theorem ER.mutD {i : Nat} {a : Addr} {l l' : Dl} (r : ER K B old O H σ η) (hi : η[i]? = some (some (.od l))) (ha : O i = some a) (hl : H a = some (.dT (dV l))) :
    ER K B old O (upd H a (.dT (dV l'))) σ (η.set i (some (.od l'))) := by
  have c : Ca K (Own O B) (Own O B) H (upd H a (.dT (dV l'))) := Ca.updD (.inl ⟨i, ha⟩) hl
  obtain ⟨b, q0, q1, q2⟩ := r.sl i _ hi
  rw [ha] at q0
  cases q0
  exact r.mutG hi ha rfl c ⟨a, ha, q1, upd_same⟩
theorem odOf_ok {i : Nat} {l : Dl} (r : ER K B old O H σ η) (h : odOf η i = some l) : η[i]? = some (some (.od l)) ∧ ∃ a, O i = some a ∧ σ[i]? = some (some (.ref a)) ∧ H a = some (.dT (dV l)) := by
  unfold odOf at h
  split at h
  · rename_i es e
    cases h
    exact ⟨e, r.sl i _ e⟩
  · cases h
theorem owOf_ok {i : Nat} {ds : List D} (r : ER K B old O H σ η) (h : owOf η i = some ds) : η[i]? = some (some (.ow ds)) ∧ ∃ a vs, O i = some a ∧ σ[i]? = some (some (.ref a)) ∧ H a = some (.lst vs) ∧ RpAll K (Own O B) H vs ds := by
  unfold owOf at h
  split at h
  · rename_i es e
    cases h
    exact ⟨e, r.sl i _ e⟩
  · cases h
/-- beside the names -/
def Old.add (o : Old) (v : V) (d : D) : Old := ⟨o.hp, v :: o.gv, d :: o.gd⟩
theorem ER.un {v : V} {d : D} (r : ER K B (old.add v d) O H σ η) : ER K B old O H σ η ∧ Rp K (Own O B) H v d := by
  have g : RpAll K (Own O B) H (v :: old.gv) (d :: old.gd) := r.gh
  cases g with
  | cons h t => exact ⟨⟨r.len, r.sl, r.dom, r.inj, r.disj, r.fr, r.same, r.bt, t⟩, h⟩
theorem ER.add {v : V} {d : D} (r : ER K B old O H σ η) (h : Rp K (Own O B) H v d) : ER K B (old.add v d) O H σ η :=
  ⟨r.len, r.sl, r.dom, r.inj, r.disj, r.fr, r.same, r.bt, .cons h r.gh⟩

/-! ### statements' readings -/
def FR (K : Fg) (xa : Nat → Addr) (W : WX) (B : Addr → Prop) (old : Old) (D : Ends) : Fl → Prop
  | .nx η => ∀ O σ H, ER K B old O H σ η → D.nx σ H
  | .bk η => ∀ O σ H, ER K B old O H σ η → D.bk σ H
  | .ct η => ∀ O σ H, ER K B old O H σ η → D.ct σ H
  | .rt d => ∀ v H, Same old.hp H → RetR K old.hp H v d → D.rt v H
  | .ex c η => XH K xa W B old η c
  | .st => False
def SndS (K : Fg) (xa : Nat → Addr) (W : WX) (t : TS) (f : Env → Fl) : Prop := ∀ B old O σ H η D, ER K B old O H σ η → FR K xa W B old D (f η) → t D σ H
def canS (K : Fg) (xa : Nat → Addr) (W : WX) (f : Env → Fl) : TS := fun D σ H => ∃ B old O η, ER K B old O H σ η ∧ FR K xa W B old D (f η)
theorem FR.of {xa : Nat → Addr} {W : WX} {D : Ends} {α : Type} {r : Res α} {k : α → Fl} (h : FR K xa W B old D (Fl.of η r k)) : Rs (XH K xa W B old η) (fun a => FR K xa W B old D (k a)) r := by
  cases r <;> exact h
theorem FR.on {xa : Nat → Addr} {W : WX} {D : Ends} {α : Type} {r : Option α} {k : α → Fl} (h : FR K xa W B old D (Fl.on r k)) : ∃ a, r = some a ∧ FR K xa W B old D (k a) := by
  cases r with
  | none => exact h.elim
  | some a => exact ⟨a, rfl, h⟩
end
section
structure GS (T : Tb) (M : Nx) (xa : Nat → Addr) (X : Cx) (W : WX) : Prop extends GX T M.toNm xa X W where
  po : PassesOwn (model X.prog X.w) X.A X.env X.xe
  fnT : ∀ x, X.fn x = true
  bk : X.env.blockKind = .function
  stk : X.stack = X.env :: X.outer
  frm : X.env.frame = some X.env.locals
  exc : ∀ c x, M.ex c = some x → X.mg x = some (.ref (xa c)) ∧ PySem.W.keepIn X.K (.ref (xa c)) = true ∧ PySem.W.excIn X.K (xa c) [.type "ValueError", .type "Exception", .type "BaseException", .type "object"] "ValueError.__new__" = true ∧
    PySem.W.subIn X.K (.ref (xa c)) (.type "BaseException") = some true ∧ PySem.W.typeIn X.K (.ref (xa c)) = some (.type "type")
  ctc : ∀ x y, M.ct x = some y → X.mg y = some (.ref (xa x)) ∧ ∀ c, PySem.W.exmOne X.K (.ref (xa c)) (.ref (xa x)) = some (subX c x)
  on : M.on = true → M.hx = true ∧ ∃ st f fd, Fun X.K "_law_only" "_law_only" st f fd ∧ X.mg "_law_only" = some (.ref f) ∧ L2.Binds X.K fd ["_law_e", "_law_at"] [] ∧ PySem.W.keepIn X.K (.ref f) = true ∧
    FnScope ["_law_e", "_law_at", "_law_kinds", "_law_k"] ["_law_e", "_law_at"] (defScope st) ∧ okOnly M st = true
variable {T : Tb} {M : Nx} {xa : Nat → Addr} {X : Cx} {W : WX}
theorem GS.tr (g : GS T M xa X W) (pn : List (Addr × Obj)) (xe : Value → Shared → Prop) {W' : WX} (tk : L2N.Takes (X.tr pn xe) W') (po : PassesOwn (model X.prog X.w) X.A X.env xe) : GS T M xa (X.tr pn xe) W' where
  calm := g.calm
  nd := g.nd
  blt := g.blt
  lv := g.lv
  gl := g.gl
  tk := tk
  py := ⟨g.py.ns, g.py.tr, g.py.dp, g.py.stk⟩
  po := po
  fnT := g.fnT
  bk := g.bk
  stk := g.stk
  frm := g.frm
  exc := g.exc
  ctc := g.ctc
  hx := g.hx
  exm := g.exm
  exn := g.exn
  on := g.on
variable (T M xa) in
def SS (x : S) : Prop := ∀ X W st, GS T M xa X W → okS M X.N X.env.scope st x = true → ∃ t, PS X st t ∧ SndS X.K xa W t (exS T x)
variable (T M xa) in
def SSs (x : S) : Prop := ∀ X W st, GS T M xa X W → okSs M X.N X.env.scope st x = true → ∃ t, PSs X st t ∧ SndS X.K xa W t (exS T x)
theorem loc_of {sc : Scope} {x : Str} (h : locB sc x = true) : L2.Loc sc x := by
  unfold locB at h
  split at h
  · rename_i e; exact .inl e
  · rename_i e; exact .inr e
  · cases h
theorem lcl_of {sc : Scope} {x : Str} (h : lclB sc x = true) : sc.names.lookup x = some .local := by
  unfold lclB at h
  split at h
  · rename_i e; exact e
  · cases h
theorem nameB_of {N : List Str} {sc : Scope} {x : Str} {i : Nat} (h : nameB N sc x i = true) : N[i]? = some x ∧ L2.Loc sc x := by
  unfold nameB at h
  simp only [Bool.and_eq_true, decide_eq_true_eq] at h
  exact ⟨h.1, loc_of h.2⟩
theorem vis_loc {sc : Scope} {x : Str} (h : L2.Loc sc x) : L2.Vis sc x := h.elim .inl fun q => .inr (.inl q)
/-- a name that holds an owned list, read -/
theorem pe_nm (g : GS T M xa X W) {x : Str} {i : Nat} {p : Pos} (h : nameB X.N X.env.scope x i = true) (ho : okName x = true) : PE X (.Name x p) (tVar i) :=
  pe_var (nameB_of h).1 (vis_loc (nameB_of h).2) (name_of ho).1 (name_of ho).2
theorem swaps_lc {t : Str} {p pos : Pos} {l : Nat} {elt : Expr} {gs : List Comprehension} {scope : Scope} (hb : X.env.blockKind = .function) :
    swapsWith (.ListComp elt gs scope pos) (some (.Name t p)) l X.env = pure (lcS X.env.scope t p.line (.ListComp elt gs scope pos)) := by
  have e : swapsWith (.ListComp elt gs scope pos) (some (.Name t p)) l X.env = pure (X.env.blockKind == .function && X.env.kindOf t == some .local && p.line == pos.line && !(scope.names.any fun (n, k) => n == t && (k == .local || k == .cell))) := rfl
  rw [e]
  congr 1
  unfold lcS
  dsimp only
  rw [hb]
  have e1 : (X.env.kindOf t == some .local) = (match X.env.scope.names.lookup t with | some .local => true | _ => false) := by
    show (X.env.scope.names.lookup t == some .local) = _
    cases X.env.scope.names.lookup t with
    | none => rfl
    | some k => cases k <;> rfl
  rw [e1]
  have e2 : (p.line == pos.line) = decide (p.line = pos.line) := by
    by_cases h : p.line = pos.line
    · rw [h]; simp
    · rw [decide_eq_false h]; simp [h]
  rw [e2]
  rfl
/-- x = e -/
theorem set_any (g : GS T M xa X W) {x : Str} {i : Nat} {e : E} {v : Expr} {p pos : Pos} (h : nameB X.N X.env.scope x i = true) (he : okE M.toNm X.N X.env.scope v e = true) :
    ∃ t, PS X (.Assign [.Name x p] v pos) (tAsg t (gName i)) ∧ Snd xa X W t (ev T e) := by
  obtain ⟨h1, h2⟩ := nameB_of h
  have hf : X.fn x = true ∨ X.env.scope.names.lookup x = some .local := .inl (g.fnT x)
  cases v with
  | ListComp elt gs scope q =>
    cases e with
    | comp w it c y =>
      obtain ⟨t, pt, st, sw⟩ := exL g.toGX he
      cases hs : lcS X.env.scope x p.line (.ListComp elt gs scope q) with
      | false => exact ⟨t, ps_set g.nd h1 h2 pt (by rw [swaps_lc g.bk, hs]) hf, st⟩
      | true =>
        have hl : X.env.scope.names.lookup x = some .local := by
          unfold lcS at hs
          simp only [Bool.and_eq_true] at hs
          have := hs.1.1
          split at this
          · assumption
          · cases this
        exact ⟨t, sw i x p pos h1 hl (by rw [swaps_lc g.bk, hs]), st⟩
    | comp2 w u it y =>
      obtain ⟨t, pt, st, sw⟩ := exL2 g.toGX he
      cases hs : lcS X.env.scope x p.line (.ListComp elt gs scope q) with
      | false => exact ⟨t, ps_set g.nd h1 h2 pt (by rw [swaps_lc g.bk, hs]) hf, st⟩
      | true =>
        have hl : X.env.scope.names.lookup x = some .local := by
          unfold lcS at hs
          simp only [Bool.and_eq_true] at hs
          have := hs.1.1
          split at this
          · assumption
          · cases this
        exact ⟨t, sw i x p pos h1 hl (by rw [swaps_lc g.bk, hs]), st⟩
    | _ => cases he
  | SetComp => exact absurd he (by cases e <;> simp [okE])
  | DictComp => exact absurd he (by cases e <;> simp [okE])
  | _ =>
    obtain ⟨t, pt, st⟩ := exE g.toGX he
    exact ⟨t, ps_set g.nd h1 h2 pt rfl hf, st⟩
theorem f_asg {i : Nat} {e : E} : SS T M xa (.asg i e) := by
  intro X W st g h
  unfold okS at h
  split at h
  · rename_i x p v pos
    simp only [Bool.and_eq_true] at h
    obtain ⟨t, pt, st⟩ := set_any g (p := p) (pos := pos) h.1 h.2
    refine ⟨_, pt, fun B old O σ H η D r q => ?_⟩
    unfold exS at q
    refine st B old O σ H η _ r (q.of.imp fun x k v H1 s1 vx => ?_)
    obtain ⟨η', e1, k⟩ := k.on
    obtain ⟨O', r'⟩ := r.asg s1 vx e1
    exact k _ _ _ r'
  · cases h
theorem names_len : ∀ {N : List Str} {sc : Scope} {ts : List Expr} {is : List Nat}, namesB N sc ts is = true → ts.length = is.length
  | _, _, [], [], _ => rfl
  | _, _, .Name _ _ :: ts, i :: is, h => by
    simp only [namesB, Bool.and_eq_true] at h
    simp [names_len h.2]
  | _, _, [], _ :: _, h => by simp [namesB] at h
  | _, _, .Name _ _ :: _, [], h => by simp [namesB] at h
def gNames : List Nat → TGs
  | [] => gNil
  | i :: is => gCons (gName i) (gNames is)
theorem pgs_names (g : GS T M xa X W) : ∀ {ts : List Expr} {is : List Nat}, namesB X.N X.env.scope ts is = true → PGs X ts (gNames is)
  | [], [], _ => pgs_nil
  | .Name x p :: ts, i :: is, h => by
    simp only [namesB, Bool.and_eq_true] at h
    exact pgs_cons (pg_name g.nd (nameB_of h.1).1 (nameB_of h.1).2 (.inl (g.fnT x))) (pgs_names g h.2)
  | [], _ :: _, h => by simp [namesB] at h
  | .Name _ _ :: _, [], h => by simp [namesB] at h
theorem names_each {env : PySem.Env} : ∀ {N : List Str} {sc : Scope} {ts : List Expr} {is : List Nat}, namesB N sc ts is = true → (assignEach ts env).length = is.length ∧ (assignEach ts env).findIdx? (·.1) = none
  | _, _, [], [], _ => ⟨rfl, rfl⟩
  | _, _, .Name x p :: ts, i :: is, h => by
    simp only [namesB, Bool.and_eq_true] at h
    obtain ⟨h1, h2⟩ := names_each (env := env) h.2
    refine ⟨?_, ?_⟩
    · show (assignEach ts env).length + 1 = is.length + 1
      rw [h1]
    · show ((false, assign (.Name x p) env) :: assignEach ts env).findIdx? (·.1) = none
      rw [List.findIdx?_cons, h2]
      rfl
  | _, _, [], _ :: _, h => by simp [namesB] at h
  | _, _, .Name _ _ :: _, [], h => by simp [namesB] at h
/-- names that get the parts of a tuple -/
theorem asgL_ok {K : Fg} {B : Addr → Prop} {old : Old} : ∀ {is : List Nat} {vs : List V} {ds : List D} {O : Ow} {σ : L2.St} {H : Hp} {η η' : Env} {Q : L2.St → Hp → Prop}, ER K B old O H σ η → RpAll K (Own O B) H vs ds → asgL η is ds = some η' →
    (∀ O σ, ER K B old O H σ η' → Q σ H) → gNames is vs σ H Q
  | [], _, [], O, σ, H, η, η', Q, r, .nil, e, k => by
    cases e
    exact ⟨rfl, k _ _ r⟩
  | i :: is, _, d :: ds, O, σ, H, η, η', Q, r, .cons rv rs, e, k => by
    rename_i v vs
    unfold asgL at e
    cases e1 : asgV η i (.cl d) with
    | none => rw [e1] at e; cases e
    | some η1 =>
      rw [e1] at e
      refine ⟨v, vs, rfl, ?_⟩
      have r1 : ER K B old (minus O i) H (σ.set i (some v)) η1 := by
        unfold asgV at e1
        split at e1
        · rename_i hi
          cases e1
          exact r.setSh hi (rv.ca ca_minus)
        · cases e1
      exact asgL_ok r1 (rs.ca ca_minus) e k
  | [], _, _ :: _, _, _, _, _, _, _, _, _, e, _ => by cases e
  | _ :: _, _, [], _, _, _, _, _, _, _, _, e, _ => by cases e
theorem tupOf_ok {K : Fg} {B : Addr → Prop} {O : Ow} {H0 H : Hp} {v : V} {x : Val} {ds : List D} (r : VR K B O H0 H v x) (e : tupOf x = some ds) : ∃ a vs, v = .ref a ∧ SqT K H a vs ∧ RpAll K (Own O B) H vs ds := by
  unfold tupOf at e
  split at e
  · cases e
    cases r with
    | tup h q => exact ⟨_, _, rfl, h, q⟩
  · cases e
theorem lstOf_ok {K : Fg} {B : Addr → Prop} {O : Ow} {H0 H : Hp} {v : V} {x : Val} {ds : List D} (r : VR K B O H0 H v x) (e : lstOf x = some ds) : ∃ a vs, v = .ref a ∧ SqL K H a vs ∧ RpAll K (Own O B) H vs ds := by
  unfold lstOf at e
  split at e
  · cases e
    obtain ⟨a, vs, rfl, _, h, q⟩ := r
    exact ⟨a, vs, rfl, .inl (Rd.of h), q.ca (Ca.less fun _ z => .inl z)⟩
  · cases e
theorem asgL_len : ∀ {is : List Nat} {η η' : Env} {ds : List PyData}, asgL η is ds = some η' → is.length = ds.length
  | [], _, _, [], _ => rfl
  | i :: is, η, η', d :: ds, e => by
    unfold asgL at e
    cases e1 : asgV η i (.cl d) with
    | none => rw [e1] at e; cases e
    | some η1 =>
      rw [e1] at e
      have e : asgL η1 is ds = some η' := e
      simp [asgL_len e]
  | [], _, _, _ :: _, e => by cases e
  | _ :: _, _, _, [], e => by cases e
theorem swapped_none {x y : Str} {px py p1 p2 : Pos} {k1 k2 : Nat} {vs : List Expr} (h : lclB X.env.scope x = false ∨ lclB X.env.scope y = false) :
    swappedStores [.Tuple [.Name x px, .Name y py] k1 p1] (.Tuple vs k2 p2) X.env = pure none := by
  have e : ∀ z, lclB X.env.scope z = false → (X.env.kindOf z == some .local) = false := fun z hz => by
    unfold lclB at hz
    show (X.env.scope.names.lookup z == some .local) = false
    cases q : X.env.scope.names.lookup z with
    | none => rfl
    | some k =>
      rw [q] at hz
      cases k <;> first | rfl | cases hz
  have hlen : (([.Name x px, .Name y py] : List Expr).filterMap fun
      | .Name id pos => if (X.env.kindOf id == some .local && pos.line == (([.Name x px, .Name y py] : List Expr).head?.map (·.pos.line)).getD 0) = true then some id else none
      | _ => none).length ≠ 2 := by
    rcases h with h | h
    · simp only [List.filterMap_cons, List.filterMap_nil, e x h, Bool.false_and, Bool.false_eq_true, if_false]
      split <;> simp
    · simp only [List.filterMap_cons, List.filterMap_nil, e y h, Bool.false_and, Bool.false_eq_true, if_false]
      split <;> simp
  unfold swappedStores
  dsimp only
  split
  · rfl
  · split
    · rfl
    · rw [if_pos (by rw [Bool.or_eq_true]; exact .inl (bne_iff_ne.mpr hlen))]
theorem f_asgT {is : List Nat} {e : E} : SS T M xa (.asgT is e) := by
  intro X W st g h
  unfold okS at h
  split at h
  · rename_i ts k p v pos
    simp only [Bool.and_eq_true] at h
    obtain ⟨⟨h1, h2⟩, h3⟩ := h
    obtain ⟨t, pt, st⟩ := exE g.toGX h2
    obtain ⟨l1, l2⟩ := names_each (env := X.env) h1
    have hs : swapsWithSole [.Tuple ts k p] v pos.line X.env = pure false := by cases v <;> rfl
    have hw : swappedStores [.Tuple ts k p] v X.env = pure none := by
      cases v with
      | Tuple vs k2 p2 =>
        have h3 : tupNo X.env.scope ts = true := h3
        unfold tupNo at h3
        split at h3
        · simp only [Bool.or_eq_true, Bool.not_eq_true'] at h3
          exact swapped_none h3
        · cases h3
      | _ => rfl
    refine ⟨_, ps_asg pt (pg_tup g.calm (pgs_names g h1) l1 l2) hs hw, fun B old O σ H η D r q => ?_⟩
    unfold exS at q
    refine st B old O σ H η _ r (q.of.imp fun x k v H1 s1 vx => ?_)
    obtain ⟨ds, e1, k⟩ := k.on
    obtain ⟨η', e2, k⟩ := k.on
    obtain ⟨a, vs, rfl, ht, ra⟩ := tupOf_ok vx e1
    refine ⟨a, vs, rfl, ht, ?_, asgL_ok (r.ext s1) ra e2 fun O' σ' r' => k _ _ _ r'⟩
    have := ra.length
    rw [this, asgL_len e2]
  · cases h
theorem f_asgN {is : List Nat} {e : E} : SS T M xa (.asgN is e) := by
  intro X W st g h
  unfold okS at h
  split at h
  · rename_i ts k p v pos
    simp only [Bool.and_eq_true] at h
    obtain ⟨⟨h1, h2⟩, h3⟩ := h
    obtain ⟨t, pt, st⟩ := exE g.toGX h2
    obtain ⟨l1, l2⟩ := names_each (env := X.env) h1
    have hs : swapsWithSole [.Tuple ts k p] v pos.line X.env = pure false := by cases v <;> rfl
    have hw : swappedStores [.Tuple ts k p] v X.env = pure none := by
      cases v with
      | Tuple vs k2 p2 =>
        have h3 : tupNo X.env.scope ts = true := h3
        unfold tupNo at h3
        split at h3
        · simp only [Bool.or_eq_true, Bool.not_eq_true'] at h3
          exact swapped_none h3
        · cases h3
      | _ => rfl
    refine ⟨_, ps_asg pt (pg_lst g.calm (pgs_names g h1) l1 l2) hs hw, fun B old O σ H η D r q => ?_⟩
    unfold exS at q
    refine st B old O σ H η _ r (q.of.imp fun x k v H1 s1 vx => ?_)
    obtain ⟨ds, e1, k⟩ := k.on
    obtain ⟨η', e2, k⟩ := k.on
    obtain ⟨a, vs, rfl, ht, ra⟩ := lstOf_ok vx e1
    refine ⟨a, vs, rfl, ht, ?_, asgL_ok (r.ext s1) ra e2 fun O' σ' r' => k _ _ _ r'⟩
    have := ra.length
    rw [this, asgL_len e2]
  · cases h

theorem swapped2 (g : GS T M xa X W) {x y : Str} {px py p1 p2 : Pos} {k1 k2 : Nat} {a b : Expr} (hx : lclB X.env.scope x = true) (hy : lclB X.env.scope y = true) (hl : px.line = py.line) (hxy : x ≠ y)
    (ha : ∀ q r, a ≠ .Starred q r) (hb : ∀ q r, b ≠ .Starred q r) (hf : (foldedForSure 8 a && foldedForSure 8 b) = false) (hc : (constantsAlone 8 a && constantsAlone 8 b) = false) :
    swappedStores [.Tuple [.Name x px, .Name y py] k1 p1] (.Tuple [a, b] k2 p2) X.env = pure (some [x, y]) := by
  have kx : X.env.kindOf x = some .local := lcl_of hx
  have ky : X.env.kindOf y = some .local := lcl_of hy
  have sa : (match a with | .Starred .. => true | _ => false) = false := by
    cases a <;> first | rfl | exact absurd rfl (ha _ _)
  have sb : (match b with | .Starred .. => true | _ => false) = false := by
    cases b <;> first | rfl | exact absurd rfl (hb _ _)
  have e1 : (Expr.Name x px).pos.line = px.line := rfl
  have hyx : (y == x) = false := by simpa using Ne.symm hxy
  unfold swappedStores
  simp only [List.length_cons, List.length_nil, g.bk, List.any_cons, List.any_nil, sa, sb, List.filterMap_cons, List.filterMap_nil, kx, ky, hl, List.head?_cons, Option.map_some, Option.getD_some, e1, List.all_cons, List.all_nil, Bool.and_true, hf, hc]
  simp [List.eraseDups_cons, hxy, hyx]
theorem f_par {i j : Nat} {a b : E} : SS T M xa (.par i j a b) := by
  intro X W st g h
  unfold okS at h
  split at h
  · rename_i x px y py k1 p1 u v k2 p2 pos
    simp only [Bool.and_eq_true, decide_eq_true_eq, Bool.not_eq_true'] at h
    obtain ⟨⟨⟨⟨⟨⟨⟨⟨⟨h1, h2⟩, h3⟩, h4⟩, h5⟩, h6⟩, h7⟩, h8⟩, h9⟩, h10⟩ := h
    obtain ⟨ta, pa, sa⟩ := exE g.toGX h7
    obtain ⟨tb, pb, sb⟩ := exE g.toGX h8
    have hxy : x ≠ y := fun z => by
      subst z
      exact h3 (nodup_ix g.nd h1 h2)
    have hw := swapped2 g (k1 := k1) (k2 := k2) (p1 := p1) (p2 := p2) h4 h5 h6 hxy (a := u) (b := v) (fun q r z => by rw [z, okE_star] at h7; cases h7) (fun q r z => by rw [z, okE_star] at h8; cases h8) h9 h10
    refine ⟨_, ps_par g.calm g.nd h1 h2 h3 (lcl_of h4) (lcl_of h5) (pa_cons pa (pa_cons pb pa_nil (star_of h8 _ _)) (star_of h7 _ _)) hw rfl, fun B old O σ H η D r q => ?_⟩
    unfold exS at q
    refine sa B old O σ H η _ r (q.of.imp fun x' k v1 H1 s1 vx => ?_)
    refine sb B old O σ H1 η _ (r.ext s1) (k.of.imp fun y' k w1 H2 s2 vy => ?_)
    obtain ⟨d, e1, k⟩ := k.on
    obtain ⟨d', e2, k⟩ := k.on
    obtain ⟨η', e3, k⟩ := k.on
    have ob := r.ob
    have ra : RpAll X.K (Own O B) H2 [v1, w1] [d, d'] := .cons ((vx.ext s2).shared ob.l ob.b e1) (.cons ((vy.back s1).shared ob.l ob.b e2) .nil)
    refine ⟨v1, w1, rfl, ?_⟩
    have q := asgL_ok (Q := D.nx) ((r.ext s1).ext s2) ra e3 fun O' σ' r' => k _ _ _ r'
    obtain ⟨_, _, z1, q⟩ := q
    cases z1
    obtain ⟨_, _, z2, q⟩ := q
    cases z2
    exact q.2
  · cases h
theorem f_ret {e : E} : SS T M xa (.ret e) := by
  intro X W st g h
  unfold okS at h
  split at h
  · obtain ⟨t, pt, st⟩ := exE g.toGX h
    refine ⟨_, ps_ret pt, fun B old O σ H η D r q => ?_⟩
    unfold exS at q
    refine st B old O σ H η _ r (q.of.imp fun x k v H1 s1 vx => ?_)
    obtain ⟨d, e1, k⟩ := k.on
    refine k v H1 (r.same.trans s1) ?_
    unfold retD at e1
    split at e1
    · split at e1
      · cases e1
        rename_i hl
        exact .inl ⟨hl, Rp.free (fun _ _ h => h) vx hl⟩
      · cases e1
    · split at e1
      · cases e1
        rename_i hl
        obtain ⟨a, vs, rfl, h2, h3, h4⟩ := vx
        exact .inr (.inl ⟨_, a, vs, rfl, hl, rfl, r.same.free h2, h3, h4.free (fun _ _ h => h) hl⟩)
      · cases e1
    · split at e1
      · cases e1
        rename_i hl
        obtain ⟨a, vs, h1, rfl, h3, h4⟩ := vx
        exact .inr (.inl ⟨_, a, vs, rfl, hl, rfl, r.fr _ a h1, h3, h4.free (fun _ _ h => h) hl⟩)
      · cases e1
    · cases e1
      obtain ⟨a, rfl, h2, h3⟩ := vx
      exact .inr (.inr ⟨_, a, rfl, rfl, r.same.free h2, h3⟩)
    · cases e1
      obtain ⟨a, h1, rfl, h3⟩ := vx
      exact .inr (.inr ⟨_, a, rfl, rfl, r.fr _ a h1, h3⟩)
  · cases h
theorem f_ret0 : SS T M xa .ret0 := by
  intro X W st g h
  unfold okS at h
  split at h
  · exact ⟨_, ps_retN, fun B old O σ H η D r q => q .non H r.same (.inl ⟨rfl, .non⟩)⟩
  · cases h
theorem f_ex {e : E} : SS T M xa (.ex e) := by
  intro X W st g h
  unfold okS at h
  split at h
  · rename_i v pos
    simp only [Bool.and_eq_true] at h
    obtain ⟨t, pt, st⟩ := exE g.toGX h.1
    have hs : swapsWith v none pos.line X.env = pure false := by
      have h2 := h.2
      cases v with
      | ListComp => cases h2
      | SetComp => exact absurd h.1 (by cases e <;> simp [okE])
      | DictComp => exact absurd h.1 (by cases e <;> simp [okE])
      | _ => rfl
    refine ⟨_, ps_expr pt hs, fun B old O σ H η D r q => ?_⟩
    unfold exS at q
    exact st B old O σ H η _ r (q.of.imp fun x k v H1 s1 vx => k _ _ _ (r.ext s1))
  · cases h
theorem f_brk : SS T M xa .brk := by
  intro X W st g h
  unfold okS at h
  split at h
  · exact ⟨_, ps_break, fun B old O σ H η D r q => q _ _ _ r⟩
  · cases h
theorem f_cnt : SS T M xa .cnt := by
  intro X W st g h
  unfold okS at h
  split at h
  · exact ⟨_, ps_continue, fun B old O σ H η D r q => q _ _ _ r⟩
  · cases h
theorem f_skip : SS T M xa .skip := by
  intro X W st g h
  unfold okS at h
  split at h
  · exact ⟨_, ps_pass, fun B old O σ H η D r q => q _ _ _ r⟩
  · exact ⟨_, ps_doc, fun B old O σ H η D r q => q _ _ _ r⟩
  · cases h
theorem f_rai {c : Nat} : SS T M xa (.rai c) := by
  intro X W st g h
  unfold okS at h
  split at h
  · simp only [Bool.and_eq_true, decide_eq_true_eq] at h
    obtain ⟨⟨h1, h2⟩, h3⟩ := h
    obtain ⟨m1, m2, m3, m4, m5⟩ := g.exc c _ h1
    refine ⟨_, L2N.ps_raise g.calm g.tk (L2N.pmk_own PySem.F.excBase_ValueError m3 m1 m2 (raises_own m4 m5) (gl_of h2) (name_of h3).1), fun B old O σ H η D r q => ?_⟩
    exact q O σ H r
  · cases h
theorem f_ite {c : E} {a b : S} (iha : SSs T M xa a) (ihb : SSs T M xa b) : SS T M xa (.ite c a b) := by
  intro X W st g h
  unfold okS at h
  split at h
  · simp only [Bool.and_eq_true] at h
    obtain ⟨⟨h1, h2⟩, h3⟩ := h
    obtain ⟨tc, pc, sc⟩ := exT g.toGX h1
    obtain ⟨ta, pa, sa⟩ := iha X W _ g h2
    obtain ⟨tb, pb, sb⟩ := ihb X W _ g h3
    refine ⟨_, ps_if pc pa pb, fun B old O σ H η D r q => ?_⟩
    unfold exS at q
    refine sc B old O σ H η _ r (q.of.imp fun k q H1 s1 => ?_)
    cases k with
    | true => exact iteT (sa _ _ _ _ _ _ _ (r.ext s1) q)
    | false => exact iteF (sb _ _ _ _ _ _ _ (r.ext s1) q)
  · cases h
theorem f_nil : SSs T M xa .skip := by
  intro X W st g h
  unfold okSs at h
  split at h
  · exact ⟨_, pss_nil, fun B old O σ H η D r q => q _ _ _ r⟩
  · cases h
theorem f_seq {a b : S} (iha : SS T M xa a) (ihb : SSs T M xa b) : SSs T M xa (.seq a b) := by
  intro X W st g h
  unfold okSs at h
  split at h
  · simp only [Bool.and_eq_true] at h
    obtain ⟨ta, pa, sa⟩ := iha X W _ g h.1
    obtain ⟨tb, pb, sb⟩ := ihb X W _ g h.2
    refine ⟨_, pss_cons pa pb, fun B old O σ H η D r q => ?_⟩
    unfold exS at q
    refine sa B old O σ H η _ r ?_
    revert q
    cases exS T a η with
    | nx η' => exact fun q O σ H r' => sb _ _ _ _ _ _ _ r' q
    | _ => exact fun q => q
  · cases h
theorem FR.ends {K : Fg} {W : WX} {B : Addr → Prop} {old old' : Old} {D D' : Ends} {w : Env → Fl} {f : Fl} (h : FR K xa W B old D (turnF w f)) (ho : old'.hp = old.hp)
    (un : ∀ O σ H η, ER K B old' O H σ η → ER K B old O H σ η)
    (hn : ∀ η, FR K xa W B old D (w η) → ∀ O σ H, ER K B old' O H σ η → D'.nx σ H) (hc : ∀ η, FR K xa W B old D (w η) → ∀ O σ H, ER K B old' O H σ η → D'.ct σ H)
    (hb : ∀ σ H, D.nx σ H → D'.bk σ H) (hr : ∀ v H, D.rt v H → D'.rt v H) : FR K xa W B old' D' f := by
  cases f with
  | nx η => exact fun O σ H r => hn η h O σ H r
  | ct η => exact fun O σ H r => hc η h O σ H r
  | bk η => exact fun O σ H r => hb σ H (h O σ H (un _ _ _ _ r))
  | rt d =>
    intro v H s rr
    rw [ho] at s rr
    exact hr v H (h v H s rr)
  | ex c η => exact fun O σ H r => h O σ H (un _ _ _ _ r)
  | st => exact h
theorem f_wh {c : E} {b : S} (ihb : SSs T M xa b) : SS T M xa (.wh c b) := by
  intro X W st g h
  unfold okS at h
  split at h
  · simp only [Bool.and_eq_true] at h
    obtain ⟨tc, pc, sc⟩ := exT g.toGX h.1
    obtain ⟨tb, pb, sb⟩ := ihb X W _ g h.2
    refine ⟨_, ps_while g.po pc pb, fun B old O σ H η D r q => ?_⟩
    unfold exS at q
    obtain ⟨n, hn⟩ := whS_is (evt T c) (exS T b) η
    rw [hn] at q
    refine ⟨fun m σ H => ∃ O η, ER X.K B old O H σ η ∧ FR X.K xa W B old D (itW (evt T c) (exS T b) m η), ⟨n, O, η, r, q⟩, fun m σ H hW => ?_⟩
    obtain ⟨O, η, r, q⟩ := hW
    cases m with
    | zero => exact q.elim
    | succ m =>
      rw [itW] at q
      refine sc B old O σ H η _ r (q.of.imp fun k q H1 s1 => ?_)
      cases k with
      | false => exact iteF (q _ _ _ (r.ext s1))
      | true =>
        refine iteT ⟨fun σ H => ∃ O η, ER X.K B old O H σ η ∧ FR X.K xa W B old D (itW (evt T c) (exS T b) m η), fun σ' H' hN => ⟨m, Nat.lt_succ_self _, hN⟩, sb _ _ _ _ _ _ _ (r.ext s1) ?_⟩
        exact FR.ends q rfl (fun _ _ _ _ r => r) (fun η q O σ H r => ⟨O, η, r, q⟩) (fun η q O σ H r => ⟨O, η, r, q⟩) (fun _ _ h => h) (fun _ _ h => h)
  · cases h

/-! ### for -/
theorem for_okP {K : Fg} {W : WX} {B : Addr → Prop} {old old' : Old} {J : It} {ds : List D} {bd : D → Env → Fl} {gt : TG} {tb : TS} {En : Ends} {O0 : Ow} {σ0 : L2.St} {H1 : Hp} {η0 : Env} (P : Ow → Hp → V → D → Prop) (ho : old'.hp = old.hp)
    (un : ∀ O σ H η, ER K B old' O H σ η → ER K B old O H σ η)
    (walk : ∀ O σ H η i, ER K B old' O H σ η → (ds.length ≤ i → J.stop i H) ∧ ∀ d, ds[i]? = some d → J.go i H ∧ ∀ x H', J.yld i H x H' → H' = H ∧ P O H x d)
    (r0 : ER K B old' O0 H1 σ0 η0) (q0 : FR K xa W B old En (loopF bd ds η0))
    (body : ∀ O σ H η x d En', ER K B old' O H σ η → P O H x d → FR K xa W B old' En' (bd d η) → gt x σ H fun σ2 H2 => tb En' σ2 H2) :
    ∃ Wf : Nat → Nat → L2.St → Hp → Prop, (∃ m, Wf 0 m σ0 H1) ∧ ∀ i m σ H, Wf i m σ H →
      (J.stop i H ∧ En.nx σ H) ∨ (J.go i H ∧ ∃ N : L2.St → Hp → Prop, (∀ σ' H', N σ' H' → ∃ m', m' < m ∧ Wf (i + 1) m' σ' H') ∧ ∀ x H', J.yld i H x H' → gt x σ H' fun σ2 H2 => tb { En with nx := N, ct := N, bk := En.nx } σ2 H2) := by
  refine ⟨fun i m σ H => m = ds.length - i ∧ i ≤ ds.length ∧ ∃ O η, ER K B old' O H σ η ∧ FR K xa W B old En (loopF bd (ds.drop i) η), ⟨_, rfl, Nat.zero_le _, O0, η0, r0, q0⟩, fun i m σ H hW => ?_⟩
  obtain ⟨rfl, hi, O, η, r, q⟩ := hW
  obtain ⟨w1, w2⟩ := walk O σ H η i r
  by_cases hlt : i < ds.length
  · right
    obtain ⟨go, yl⟩ := w2 _ (List.getElem?_eq_getElem hlt)
    rw [List.drop_eq_getElem_cons hlt, loopF] at q
    refine ⟨go, fun σ' H' => ∃ O η, ER K B old' O H' σ' η ∧ FR K xa W B old En (loopF bd (ds.drop (i + 1)) η), fun σ' H' hN => ⟨ds.length - (i + 1), by omega, rfl, hlt, hN⟩, fun x H' hy => ?_⟩
    obtain ⟨rfl, rx⟩ := yl x H' hy
    exact body O σ H' η x _ _ r rx (FR.ends q ho un (fun η q O σ H r => ⟨O, η, r, q⟩) (fun η q O σ H r => ⟨O, η, r, q⟩) (fun _ _ h => h) (fun _ _ h => h))
  · left
    have e : i = ds.length := by omega
    subst e
    rw [List.drop_length, loopF] at q
    exact ⟨w1 (Nat.le_refl _), q _ _ _ (un _ _ _ _ r)⟩
theorem for_ok {K : Fg} {W : WX} {B : Addr → Prop} {old old' : Old} {J : It} {ds : List D} {bd : D → Env → Fl} {gt : TG} {tb : TS} {En : Ends} {O0 : Ow} {σ0 : L2.St} {H1 : Hp} {η0 : Env} (ho : old'.hp = old.hp)
    (un : ∀ O σ H η, ER K B old' O H σ η → ER K B old O H σ η)
    (walk : ∀ O σ H η i, ER K B old' O H σ η → (ds.length ≤ i → J.stop i H) ∧ ∀ d, ds[i]? = some d → J.go i H ∧ ∀ x H', J.yld i H x H' → H' = H ∧ Rp K (Own O B) H x d)
    (r0 : ER K B old' O0 H1 σ0 η0) (q0 : FR K xa W B old En (loopF bd ds η0))
    (body : ∀ O σ H η x d En', ER K B old' O H σ η → Rp K (Own O B) H x d → FR K xa W B old' En' (bd d η) → gt x σ H fun σ2 H2 => tb En' σ2 H2) :
    ∃ Wf : Nat → Nat → L2.St → Hp → Prop, (∃ m, Wf 0 m σ0 H1) ∧ ∀ i m σ H, Wf i m σ H →
      (J.stop i H ∧ En.nx σ H) ∨ (J.go i H ∧ ∃ N : L2.St → Hp → Prop, (∀ σ' H', N σ' H' → ∃ m', m' < m ∧ Wf (i + 1) m' σ' H') ∧ ∀ x H', J.yld i H x H' → gt x σ H' fun σ2 H2 => tb { En with nx := N, ct := N, bk := En.nx } σ2 H2) :=
  for_okP (fun O H x d => Rp K (Own O B) H x d) ho un walk r0 q0 body
/-- a walked value is kept beside the names -/
theorem pre_ok {K : Fg} {B : Addr → Prop} {old : Old} {O : Ow} {H H1 : Hp} {σ : L2.St} {η : Env} {v : V} {x : Val} (r : ER K B old O H σ η) (s : Same H H1) (vx : VR K B O H H1 v x) : ∃ O', ER K B (old.add v x.d) O' H1 σ ((Wk.v x).pre η) := by
  cases x with
  | cl d => exact ⟨O, (r.ext s).add vx⟩
  | nw ds => exact ⟨O, (r.ext s).add (vx.shared r.ob.l r.ob.b rfl)⟩
  | br j ds =>
    obtain ⟨a, vs, h1, rfl, h3, h4⟩ := vx
    have r1 := (r.ext s).drop j
    refine ⟨_, r1.add (.lst (.inl ⟨fun z => ?_, .inl h3⟩) (h4.ca ca_minus))⟩
    rcases z with ⟨l, z⟩ | z
    · obtain ⟨q1, q2⟩ := minus_some z
      exact q1 (r.inj l j a q2 h1)
    · exact r.disj j a h1 z
  | nd l => exact ⟨O, (r.ext s).add (vx.shared r.ob.l r.ob.b rfl)⟩
  | bd j l =>
    obtain ⟨a, h1, rfl, h3⟩ := vx
    have r1 := (r.ext s).drop j
    refine ⟨_, r1.add (.dct (fun z => ?_) (.inl h3))⟩
    rcases z with ⟨l, z⟩ | z
    · obtain ⟨q1, q2⟩ := minus_some z
      exact q1 (r.inj l j a q2 h1)
    · exact r.disj j a h1 z
theorem walk_v {K : Fg} {B : Addr → Prop} {old : Old} {O : Ow} {H : Hp} {σ : L2.St} {η : Env} {a : Addr} {d0 : D} {ds : List D} {J : It} (hs : d0.seq = some ds) (hj : (∃ es, d0 = .list es ∧ J = Itl K a) ∨ (∃ es, d0 = .tuple es ∧ J = Itt K a)) (i : Nat)
    (r : ER K B (old.add (.ref a) d0) O H σ η) : (ds.length ≤ i → J.stop i H) ∧ ∀ d, ds[i]? = some d → J.go i H ∧ ∀ x H', J.yld i H x H' → H' = H ∧ Rp K (Own O B) H x d := by
  have rd := r.un.2
  rcases hj with ⟨es, rfl, rfl⟩ | ⟨es, rfl, rfl⟩
  · cases hs
    cases rd with
    | lst h ra =>
      rename_i vs
      refine ⟨fun hl => ⟨vs, h.sq, by rw [ra.length]; exact hl⟩, fun d hd => ?_⟩
      obtain ⟨v, e1, e2⟩ := ra.get hd
      refine ⟨⟨vs, v, h.sq, e1⟩, fun x H' y => ⟨y.1, ?_⟩⟩
      have := y.2 vs h.sq
      rw [e1] at this
      cases this
      exact e2
  · cases hs
    cases rd with
    | tup h ra =>
      rename_i vs
      refine ⟨fun hl => ⟨vs, h, by rw [ra.length]; exact hl⟩, fun d hd => ?_⟩
      obtain ⟨v, e1, e2⟩ := ra.get hd
      refine ⟨⟨vs, v, h, e1⟩, fun x H' y => ⟨y.1, ?_⟩⟩
      have := y.2 vs h
      rw [e1] at this
      cases this
      exact e2
theorem walk_r {K : Fg} {A : Addr → Prop} {H : Hp} {lo : Int} {n : Nat} (i : Nat) : ((rngD lo n).length ≤ i → (Itr lo n).stop i H) ∧ ∀ d, (rngD lo n)[i]? = some d → (Itr lo n).go i H ∧ ∀ x H', (Itr lo n).yld i H x H' → H' = H ∧ Rp K A H x d := by
  have el : (rngD lo n).length = n := by simp [rngD]
  refine ⟨fun hl => by rw [el] at hl; exact hl, fun d hd => ?_⟩
  have hi : i < n := by
    have := (List.getElem?_eq_some_iff.mp hd).1
    rw [el] at this
    exact this
  have ed : d = .int (lo + i) := by
    simp only [rngD, List.getElem?_map, List.getElem?_range hi, Option.map_some, Option.some.injEq] at hd
    exact hd.symm
  subst ed
  exact ⟨hi, fun x H' y => ⟨y.1, by rw [y.2]; exact .int _⟩⟩
theorem walk_c {K : Fg} {A : Addr → Prop} {H : Hp} {lo c : Int} {n : Nat} (i : Nat) : ((rngC lo c n).length ≤ i → (Itc lo c n).stop i H) ∧ ∀ d, (rngC lo c n)[i]? = some d → (Itc lo c n).go i H ∧ ∀ x H', (Itc lo c n).yld i H x H' → H' = H ∧ Rp K A H x d := by
  have el : (rngC lo c n).length = n := by simp [rngC]
  refine ⟨fun hl => by rw [el] at hl; exact hl, fun d hd => ?_⟩
  have hi : i < n := by
    have := (List.getElem?_eq_some_iff.mp hd).1
    rw [el] at this
    exact this
  have ed : d = .int (lo + (i : Int) * c) := by
    simp only [rngC, List.getElem?_map, List.getElem?_range hi, Option.map_some, Option.some.injEq] at hd
    exact hd.symm
  subst ed
  exact ⟨hi, fun x H' y => ⟨y.1, by rw [y.2]; exact .int _⟩⟩
/-- a for's reading, whatever its target -/
theorem for_any {it : E} {gt : TG} {tb : TS} {wi : TI} {bd : D → Env → Fl} (si : SndI xa X W wi (evi T it))
    (body : ∀ B old O σ H η x d En', ER X.K B old O H σ η → Rp X.K (Own O B) H x d → FR X.K xa W B old En' (bd d η) → gt x σ H fun σ2 H2 => tb En' σ2 H2) :
    SndS X.K xa W (tFor wi gt tb) (fun η => Fl.of η (evi T it η) fun w => loopF bd w.ds (w.pre η)) := by
  intro B old O σ H η D r q
  dsimp only at q
  refine si B old O σ H η _ r ?_
  cases ew : evi T it η with
  | st => rw [ew] at q; exact q.elim
  | ex c => rw [ew] at q; exact q
  | ok w =>
    rw [ew] at q
    intro J H1 s1 hw
    cases w with
    | v x =>
      obtain ⟨a, vx, hj⟩ := hw
      obtain ⟨O', r'⟩ := pre_ok r s1 vx
      cases es : x.d.seq with
      | none => exact absurd es (evi_seq ew x rfl)
      | some ds =>
        have e2 : (Wk.v x).ds = ds := by
          show x.d.seq.getD [] = ds
          rw [es]
          rfl
        have q : FR X.K xa W B old D (loopF bd (Wk.v x).ds ((Wk.v x).pre η)) := q
        rw [e2] at q
        exact for_ok (old := old) (old' := old.add (.ref a) x.d) rfl (fun _ _ _ _ r => r.un.1) (fun O σ H η i r => walk_v es hj i r) r' q (fun O σ H η x d En' r rx q => body _ _ O σ H η x d En' r rx q)
    | r lo n =>
      cases hw
      exact for_ok (old := old) (old' := old) rfl (fun _ _ _ _ r => r) (fun O σ H η i r => walk_r i) (r.ext s1) q (fun O σ H η x d En' r rx q => body _ _ O σ H η x d En' r rx q)
    | c lo c n =>
      cases hw
      exact for_ok (old := old) (old' := old) rfl (fun _ _ _ _ r => r) (fun O σ H η i r => walk_c i) (r.ext s1) q (fun O σ H η x d En' r rx q => body _ _ O σ H η x d En' r rx q)
theorem f_fo {v : Nat} {it : E} {b : S} (ihb : SSs T M xa b) : SS T M xa (.fo v it b) := by
  intro X W st g h
  unfold okS at h
  split at h
  · simp only [Bool.and_eq_true] at h
    obtain ⟨⟨h1, h2⟩, h3⟩ := h
    rename_i y py iter body pos
    obtain ⟨⟨wi, pi, si⟩, hf⟩ := exI (tg := .Name y py) g.toGX h2
    obtain ⟨tb, pb, sb⟩ := ihb X W _ g h3
    refine ⟨_, ps_for g.po g.calm pi (pg_name g.nd (nameB_of h1).1 (nameB_of h1).2 (.inl (g.fnT y))) pb hf, ?_⟩
    have e : exS T (.fo v it b) = fun η => Fl.of η (evi T it η) fun w => loopF (fun d η => Fl.on (asgV η v (.cl d)) (exS T b)) w.ds (w.pre η) := by
      funext η
      rw [exS]
    rw [e]
    refine for_any si fun B old O σ H η x d En' r rx q => ?_
    obtain ⟨η', e1, q⟩ := q.on
    obtain ⟨O', r'⟩ := r.asg (x := .cl d) (Same.refl H) rx e1
    exact sb _ _ _ _ _ _ _ r' q
  · cases h
theorem f_foT {vs : List Nat} {it : E} {b : S} (ihb : SSs T M xa b) : SS T M xa (.foT vs it b) := by
  intro X W st g h
  unfold okS at h
  split at h
  · simp only [Bool.and_eq_true] at h
    obtain ⟨⟨h1, h2⟩, h3⟩ := h
    rename_i ts k py iter body pos
    obtain ⟨⟨wi, pi, si⟩, hf⟩ := exI (tg := .Tuple ts k py) g.toGX h2
    obtain ⟨tb, pb, sb⟩ := ihb X W _ g h3
    obtain ⟨l1, l2⟩ := names_each (env := X.env) h1
    refine ⟨_, ps_for g.po g.calm pi (pg_tup g.calm (pgs_names g h1) l1 l2) pb hf, ?_⟩
    have e : exS T (.foT vs it b) = fun η => Fl.of η (evi T it η) fun w => loopF (fun d η => Fl.on (tupOf (.cl d)) fun ds => Fl.on (asgL η vs ds) (exS T b)) w.ds (w.pre η) := by
      funext η
      rw [exS]
    rw [e]
    refine for_any si fun B old O σ H η x d En' r rx q => ?_
    obtain ⟨ds, e1, q⟩ := q.on
    obtain ⟨η', e2, q⟩ := q.on
    obtain ⟨a, ws, rfl, ht, ra⟩ := tupOf_ok (H0 := H) (x := .cl d) rx e1
    refine ⟨a, ws, rfl, ht, by rw [ra.length, asgL_len e2], asgL_ok r ra e2 fun O' σ' r' => sb _ _ _ _ _ _ _ r' q⟩
  · cases h

/-! ### lists that change -/
theorem set_get {H : Hp} {xs : List V} {n : Int} {v : V} {a : Addr} (e : atI xs n = some v) : ixN xs.length n ≠ none := by
  intro z
  unfold atI at e
  rw [z] at e
  cases e
theorem f_put {i : Nat} {k e : E} : SS T M xa (.put i k e) := by
  intro X W st g h
  unfold okS at h
  split at h
  · rename_i x p kk k1 v pos
    simp only [Bool.and_eq_true] at h
    obtain ⟨⟨⟨h1, h2⟩, h3⟩, h4⟩ := h
    obtain ⟨tk, pk, sk⟩ := exE g.toGX h3
    obtain ⟨tv, pv', sv⟩ := exE g.toGX h4
    have hs : swapsWithSole [.Subscript (.Name x p) kk k1] v pos.line X.env = pure false := by cases v <;> rfl
    have hw : swappedStores [.Subscript (.Name x p) kk k1] v X.env = pure none := by cases v <;> rfl
    refine ⟨_, ps_asg pv' (pg_sub (pe_nm g h1 h2) pk set_list (fun v => by cases kk <;> first | rfl | (rw [okE_slice] at h3; cases h3))) hs hw, fun B old O σ H η D r q => ?_⟩
    unfold exS at q
    refine sv B old O σ H η _ r (q.of.imp fun y q v1 H1 s1 vy => ?_)
    obtain ⟨ds, e1, q⟩ := q.on
    have r1 := r.ext s1
    obtain ⟨hi, a, vs, a1, a2, a3, a4⟩ := owOf_ok r1 e1
    refine ⟨_, a2, sk B old O σ H1 η _ r1 (q.of.imp fun z q v2 H2 s2 vz => ?_)⟩
    obtain ⟨n, en, _, q⟩ := int_ok vz q.of
    obtain ⟨d, e2, q⟩ := q.on
    obtain ⟨j, e3, q⟩ := q.on
    have ra := a4.ca (Ca.grow (K := X.K) (A := Own O B) s2)
    have ob := r.ob
    refine ⟨a, vs, n, j, rfl, en, s2 _ _ a3, by rw [ra.length]; exact e3, q _ _ _ ((r1.ext s2).mut hi a1 (s2 _ _ a3) (ra.set ((vy.ext s2).shared ob.l ob.b e2) j))⟩
  · cases h
theorem get_list : PGet X (rIxL X.K) := by
  intro pins s σ H o i ov iv Q I r1 r2 h
  obtain ⟨p, xs, n, z, rfl, rfl, hq, he, q⟩ := h
  cases r1
  obtain ⟨t, rfl⟩ := r2
  obtain ⟨its, r, pl, hz⟩ := I.list hq
  obtain ⟨j, h1, h2, h3, h4, h5⟩ := atI_get he
  obtain ⟨w, ew, rw'⟩ := r.get h2
  have hl := r.length
  have hn := line63
  have fin : EP X pins σ Q w s := ⟨z, H, I, rw', q⟩
  by_cases h0 : 0 ≤ n
  · have hj : n.toNat = j := by
      rw [seqIndex_of h0 h5] at h1
      exact Option.some.inj h1
    exact wpAny_getItem_list pl.isList h0 (by omega) (by rw [hj]; simpa using ew) fin
  · have hj : (n + (its.toArray.size : Int)).toNat = j := by
      rw [seqIndex_neg (by omega) h4] at h1
      rw [List.size_toArray, ← hl]
      exact Option.some.inj h1
    exact wpAny_getItem_list_neg pl.isList (by omega) (by rw [List.size_toArray] <;> omega) (by omega) (by rw [hj]; simpa using ew) fin
theorem ip_of (o : Bo) (h : (match o with | .add => true | .sub => true | _ => false) = true) : ∃ f : Int → Int → Int, PIp X (boP o) (ipI f) ∧ ∀ i j, binV o (.cl (.int i)) (.cl (.int j)) = .ok (.cl (.int (f i j))) := by
  cases o with
  | add => exact ⟨_, ip_add, fun _ _ => rfl⟩
  | sub => exact ⟨_, ip_sub, fun _ _ => rfl⟩
  | _ => cases h
theorem ip_of2 (o : Bo) (h : (match o with | .add => true | .sub => true | .mul => true | _ => false) = true) : ∃ f : TIp, PIp X (boP o) f ∧ ∀ i j, binV o (.cl (.int i)) (.cl (.int j)) = .st ∨
    ∃ c, binV o (.cl (.int i)) (.cl (.int j)) = .ok (.cl (.int c)) ∧ ∀ H (Q : VK), Q (.int c) H → f (.int i) (.int j) H Q := by
  cases o with
  | add => exact ⟨_, ip_add, fun i j => .inr ⟨i + j, rfl, fun H Q q => ⟨i, j, rfl, rfl, q⟩⟩⟩
  | sub => exact ⟨_, ip_sub, fun i j => .inr ⟨i - j, rfl, fun H Q q => ⟨i, j, rfl, rfl, q⟩⟩⟩
  | mul =>
    refine ⟨_, ip_mul, fun i j => ?_⟩
    have e : binV .mul (.cl (.int i)) (.cl (.int j)) = if MuOk i j then .ok (.cl (.int (i * j))) else .st := rfl
    by_cases hm : MuOk i j
    · rw [if_pos hm] at e
      exact .inr ⟨_, e, fun H Q q => ⟨i, j, rfl, rfl, hm, q⟩⟩
    · rw [if_neg hm] at e
      exact .inl e
  | _ => cases h
theorem f_aug {i : Nat} {o : Bo} {e : E} : SS T M xa (.aug i o e) := by
  intro X W st g h
  unfold okS at h
  split at h
  · rename_i x p op v pos
    simp only [Bool.and_eq_true, decide_eq_true_eq] at h
    obtain ⟨⟨⟨h1, h2⟩, h3⟩, h4⟩ := h
    subst h3
    obtain ⟨f, ho, hv⟩ := ip_of2 (X := X) o h4
    obtain ⟨te, pe, se⟩ := exE g.toGX h2
    refine ⟨_, ps_aug g.nd (nameB_of h1).1 (nameB_of h1).2 pe ho (.inl (g.fnT x)), fun B old O σ H η D r q => ?_⟩
    unfold exS at q
    have q := q.of
    unfold slotV at q
    split at q
    · rename_i d hd
      obtain ⟨w, a1, a2⟩ := r.sl i _ hd
      refine ⟨w, a1, ?_⟩
      obtain ⟨m, em, ex, q⟩ := int_ok (B := B) (O := O) (H := H) (H' := H) (K := X.K) (x := .cl d) a2 (FR.of q)
      cases ex
      subst em
      refine se B old O σ H η _ r (q.of.imp fun y q v2 H2 s2 vy => ?_)
      obtain ⟨n, en, ey, q⟩ := int_ok vy q.of
      subst ey
      rcases hv m n with hv | ⟨c, hv, hq⟩
      · rw [hv] at q
        exact q.elim
      · rw [hv] at q
        obtain ⟨η', e1, q⟩ := q.on
        rw [en]
        refine hq _ _ ?_
        obtain ⟨O', r'⟩ := (r.ext s2).asg (x := .cl (.int c)) (Same.refl H2) (Rp.int _) e1
        exact q _ _ _ r'
    · exact q.elim
    · exact q.elim
    · rename_i k hk
      cases k <;> exact q.elim
    · exact q.elim
  · cases h
theorem f_aput {i : Nat} {o : Bo} {k e : E} : SS T M xa (.aput i o k e) := by
  intro X W st g h
  unfold okS at h
  split at h
  · rename_i x p kk tp op v pos
    simp only [Bool.and_eq_true, decide_eq_true_eq] at h
    obtain ⟨⟨⟨⟨⟨h1, h2⟩, h3⟩, h4⟩, h5⟩, h6⟩ := h
    subst h5
    obtain ⟨f, ho, hv⟩ := ip_of (X := X) o h6
    obtain ⟨tk, pk, sk⟩ := exE g.toGX h3
    obtain ⟨te, pe, se⟩ := exE g.toGX h4
    have ha : ∀ ov iv new, augStore kk ov iv new = (do holding [new, ov, iv] (setItem ov iv new); release [new, ov, iv] []; pure .next) := by
      intro ov iv new
      cases kk <;> first | rfl | (rw [okE_slice] at h3; cases h3)
    refine ⟨_, ps_augS (pe_nm g h1 h2) pk get_list pe ho set_list ha, fun B old O σ H η D r q => ?_⟩
    unfold exS at q
    obtain ⟨ds, e1, q⟩ := q.on
    obtain ⟨hi, a, vs, a1, a2, a3, a4⟩ := owOf_ok r e1
    refine ⟨_, a2, sk B old O σ H η _ r (q.of.imp fun z q v1 H1 s1 vz => ?_)⟩
    obtain ⟨n, en, _, q⟩ := int_ok vz q.of
    obtain ⟨d, e2, q⟩ := q.on
    have ra := a4.ca (Ca.grow (K := X.K) (A := Own O B) s1)
    obtain ⟨w, w1, w2⟩ := atI_rp ra e2
    refine ⟨a, vs, n, w, rfl, en, SqL.of (s1 _ _ a3), w1, ?_⟩
    obtain ⟨m, em, ex, q⟩ := int_ok (B := B) (O := O) (H := H1) (H' := H1) (K := X.K) (x := .cl d) w2 (FR.of q)
    cases ex
    subst em
    have q : FR X.K xa W B old D (Fl.of η (ev T e η) _) := q
    refine se B old O σ H1 η _ (r.ext s1) (q.of.imp fun y q v2 H2 s2 vy => ?_)
    have s12 := s1.trans s2
    obtain ⟨m2, em2, _, q⟩ := int_ok vy q.of
    subst em2
    rw [hv] at q
    obtain ⟨j, e3, q⟩ := FR.on (show FR X.K xa W B old D (Fl.on (ixN ds.length n) _) from q)
    have ra2 := a4.ca (Ca.grow (K := X.K) (A := Own O B) s12)
    exact ⟨m, m2, rfl, rfl, a, vs, n, j, rfl, en, s12 _ _ a3, by rw [ra2.length]; exact e3, q _ _ _ ((r.ext s12).mut hi a1 (s12 _ _ a3) (ra2.set (.int _) j))⟩
  · cases h
theorem bm_app (g : GS T M xa X W) {x : Str} {i : Nat} {e : E} {v : Expr} {p ap cp : Pos} (h1 : nameB X.N X.env.scope x i = true) (h2 : okName x = true) (h3 : okE M.toNm X.N X.env.scope v e = true) (h4 : ap.endLine = cp.line) :
    ∃ t, PE X (.Call (.Attribute (.Name x p) "append" ap) [v] [] cp) (tBM X.K "list" rAppend (tVar i) (tCons t tNil)) ∧ Snd xa X W t (ev T e) := by
  obtain ⟨t, pt, st⟩ := exE g.toGX h3
  have e1 : starEach [v] X.env = [(false, eval v X.env)] := star_of h3 _ _
  refine ⟨t, pe_bm PySem.F.plainAttrs_list PySem.F.slot_list_append PySem.F.type_list_append mt_append (pe_nm g h1 h2) (pa_cons pt pa_nil e1) rfl ?_ (by rw [h4]; simp) e1 rfl, st⟩
  rw [e1]
  rfl
theorem f_app {i : Nat} {e : E} : SS T M xa (.app i e) := by
  intro X W st g h
  unfold okS at h
  split at h
  · rename_i x p m ap v cp pos
    simp only [Bool.and_eq_true, decide_eq_true_eq] at h
    obtain ⟨⟨⟨⟨h1, h2⟩, h3⟩, h4⟩, h5⟩ := h
    subst h3
    obtain ⟨t, pt, st⟩ := bm_app g (p := p) h1 h2 h4 h5
    refine ⟨_, ps_expr pt rfl, fun B old O σ H η D r q => ?_⟩
    unfold exS at q
    obtain ⟨ds, e1, q⟩ := q.on
    obtain ⟨hi, a, vs, a1, a2, a3, a4⟩ := owOf_ok r e1
    refine ⟨_, a2, .inl ⟨rfl, _, SqL.of a3⟩, st B old O σ H η _ r (q.of.imp fun y q v1 H1 s1 vy => ?_)⟩
    obtain ⟨d, e2, q⟩ := q.on
    split at q
    · rename_i hb
      have ra := a4.ca (Ca.grow (K := X.K) (A := Own O B) s1)
      have ob := r.ob
      exact ⟨a, vs, v1, rfl, rfl, s1 _ _ a3, by rw [ra.length, sz]; exact hb, q _ _ _ ((r.ext s1).mut hi a1 (s1 _ _ a3) (ra.append (.cons (vy.shared ob.l ob.b e2) .nil)))⟩
    · exact q.elim
  · cases h
theorem bm_pop (g : GS T M xa X W) {x : Str} {i : Nat} {p ap cp : Pos} (h1 : nameB X.N X.env.scope x i = true) (h2 : okName x = true) (h4 : ap.endLine = cp.line) :
    PE X (.Call (.Attribute (.Name x p) "pop" ap) [] [] cp) (tBM0 X.K "list" rPop (tVar i)) :=
  pe_bm0 PySem.F.plainAttrs_list PySem.F.slot_list_pop PySem.F.type_list_pop mt_pop (pe_nm g h1 h2) rfl (by rw [h4]; simp)
theorem pop_ok {K : Fg} {B : Addr → Prop} {old : Old} {O : Ow} {H : Hp} {σ : L2.St} {η : Env} {i : Nat} {ds : List D} {d : D} {Q : VK} (r : ER K B old O H σ η) (e1 : owOf η i = some ds) (e2 : ds[ds.length - 1]? = some d)
    (q : ∀ v H', Rp K (Own O B) H' v d → ER K B old O H' σ (η.set i (some (.ow ds.dropLast))) → Q v H') : tBM0 K "list" rPop (tVar i) σ H Q := by
  obtain ⟨hi, a, vs, a1, a2, a3, a4⟩ := owOf_ok r e1
  obtain ⟨v, w1, w2⟩ := a4.get e2
  have c : Ca K (Own O B) (Own O B) H (upd H a (.lst vs.dropLast)) := Ca.upd (.inl ⟨i, a1⟩) a3
  exact ⟨_, a2, .inl ⟨rfl, _, SqL.of a3⟩, a, vs, v, rfl, rfl, a3, by rw [a4.length]; exact w1, q _ _ (w2.ca c) (r.mut hi a1 a3 a4.dropLast)⟩
theorem f_pop {i : Nat} : SS T M xa (.pop i) := by
  intro X W st g h
  unfold okS at h
  split at h
  · rename_i x p m ap cp pos
    simp only [Bool.and_eq_true, decide_eq_true_eq] at h
    obtain ⟨⟨⟨h1, h2⟩, h3⟩, h5⟩ := h
    subst h3
    refine ⟨_, ps_expr (bm_pop g h1 h2 h5) rfl, fun B old O σ H η D r q => ?_⟩
    unfold exS at q
    obtain ⟨ds, e1, q⟩ := q.on
    obtain ⟨d, e2, q⟩ := q.on
    exact pop_ok r e1 e2 fun v H' _ r' => q _ _ _ r'
  · cases h
theorem f_popA {j i : Nat} : SS T M xa (.popA j i) := by
  intro X W st g h
  unfold okS at h
  split at h
  · rename_i y py x p m ap cp pos
    simp only [Bool.and_eq_true, decide_eq_true_eq] at h
    obtain ⟨⟨⟨⟨h0, h1⟩, h2⟩, h3⟩, h5⟩ := h
    subst h3
    refine ⟨_, ps_set g.nd (nameB_of h0).1 (nameB_of h0).2 (bm_pop g h1 h2 h5) rfl (.inl (g.fnT y)), fun B old O σ H η D r q => ?_⟩
    unfold exS at q
    obtain ⟨ds, e1, q⟩ := q.on
    obtain ⟨d, e2, q⟩ := q.on
    obtain ⟨η', e3, q⟩ := q.on
    refine pop_ok r e1 e2 fun v H' rv r' => ?_
    obtain ⟨O', r2⟩ := r'.asg (x := .cl d) (Same.refl H') rv e3
    exact q _ _ _ r2
  · cases h
theorem f_asgP {j i : Nat} {e : E} : SS T M xa (.asgP j e i) := by
  intro X W st g h
  unfold okS at h
  split at h
  · rename_i y py v x p m ap cp bp pos
    simp only [Bool.and_eq_true, decide_eq_true_eq] at h
    obtain ⟨⟨⟨⟨⟨h0, he⟩, h1⟩, h2⟩, h3⟩, h5⟩ := h
    subst h3
    obtain ⟨te, pe, se⟩ := exE g.toGX he
    refine ⟨_, ps_set g.nd (nameB_of h0).1 (nameB_of h0).2 (pe_op op_mulG pe (bm_pop g h1 h2 h5)) rfl (.inl (g.fnT y)), fun B old O σ H η D r q => ?_⟩
    unfold exS at q
    refine se B old O σ H η _ r ?_
    refine q.of.imp fun xv q v H1 s1 vx => ?_
    obtain ⟨m, rfl, _, q⟩ := int_ok vx q.of
    obtain ⟨ds, e1, q⟩ := q.on
    obtain ⟨d, e2, q⟩ := q.on
    have r1 := r.ext s1
    refine pop_ok r1 e1 e2 fun v' H' rv r' => ?_
    have vd : VR X.K B O H' H' v' (.cl d) := rv
    obtain ⟨k, rfl, _, q⟩ := int_ok vd q.of
    have q := q.of
    unfold mulV at q
    dsimp only at q
    split at q
    · rename_i hm
      obtain ⟨η', e3, q⟩ := q.on
      obtain ⟨O', r2⟩ := r'.asg (x := .cl (.int (m * k))) (Same.refl H') (VR.mkInt (m * k)) e3
      exact .inl ⟨m, k, rfl, rfl, hm, q _ _ _ r2⟩
    · exact q.elim
  · cases h
theorem f_popT {js : List Nat} {i : Nat} : SS T M xa (.popT js i) := by
  intro X W st g h
  unfold okS at h
  split at h
  · rename_i ts k py x p m ap cp pos
    simp only [Bool.and_eq_true, decide_eq_true_eq] at h
    obtain ⟨⟨⟨⟨h0, h1⟩, h2⟩, h3⟩, h5⟩ := h
    subst h3
    obtain ⟨l1, l2⟩ := names_each (env := X.env) h0
    refine ⟨_, ps_asg (bm_pop g h1 h2 h5) (pg_tup g.calm (pgs_names g h0) l1 l2) rfl rfl, fun B old O σ H η D r q => ?_⟩
    unfold exS at q
    obtain ⟨ds, e1, q⟩ := q.on
    obtain ⟨d, e2, q⟩ := q.on
    obtain ⟨es, e3, q⟩ := q.on
    obtain ⟨η', e4, q⟩ := q.on
    refine pop_ok r e1 e2 fun v H' rv r' => ?_
    obtain ⟨a, ws, rfl, ht, ra⟩ := tupOf_ok (H0 := H') (x := .cl d) rv e3
    exact ⟨a, ws, rfl, ht, by rw [ra.length, asgL_len e4], asgL_ok r' ra e4 fun O' σ' r2 => q _ _ _ r2⟩
  · cases h

/-! ### try: .. except X: constants -/
theorem okH_ok {h : S} {s0 : Stmt} {ss : List Stmt} {pn : List (Addr × Obj)} {a : Addr} {oe : Obj} (g : GS T M xa X W) (hk : okH X.N X.env.scope (s0 :: ss) h = true) :
    PSs (X.suite a ((a, oe) :: pn)) (s0 :: ss) (canS X.K xa W (exS T h)) := by
  unfold okH at hk
  split at hk
  · split at hk
    · rename_i i b sts x px c k1 k2 pos e0
      cases e0
      simp only [Bool.and_eq_true, decide_eq_true_eq] at hk
      obtain ⟨h1, rfl⟩ := hk
      have pt : PSs (X.suite a ((a, oe) :: pn)) [.Assign [.Name x px] (.Constant (.bool b) k1 k2) pos] (tAsg (tC (.bl b)) (gName i)) :=
        pss_one (ps_set (X := X.suite a ((a, oe) :: pn)) g.nd (nameB_of h1).1 (nameB_of h1).2 pe_bl rfl (.inl (g.fnT x)))
      refine ⟨fun pins s σ H D I q => pt.run pins s σ H D I ?_⟩
      obtain ⟨B, old, O, η, r, q⟩ := q
      unfold exS at q
      have q : FR X.K xa W B old D (Fl.seq (Fl.on (asgV η i (.cl (.bool b))) .nx) (exS T .skip)) := q
      cases e1 : asgV η i (.cl (.bool b)) with
      | none => rw [e1] at q; exact q.elim
      | some η' =>
        rw [e1] at q
        obtain ⟨O', r'⟩ := r.asg (x := .cl (.bool b)) (Same.refl H) (Rp.bl b) e1
        exact q _ _ _ r'
    · cases hk
  · split at hk
    · rename_i b sts c k1 k2 pos e0
      cases e0
      have hk := of_decide_eq_true hk
      subst hk
      have pt : PSs (X.suite a ((a, oe) :: pn)) [.Return (some (.Constant (.bool b) k1 k2)) pos] (tRet (tC (.bl b))) :=
        pss_one (ps_ret (X := X.suite a ((a, oe) :: pn)) pe_bl)
      refine ⟨fun pins s σ H D I q => pt.run pins s σ H D I ?_⟩
      obtain ⟨B, old, O, η, r, q⟩ := q
      exact q (.bl b) H r.same (.inl ⟨rfl, .bl b⟩)
    · cases hk
  · cases hk
/-! ### what is asked in a suite -/
section
variable {a : Addr} {oe : Obj} {pn : List (Addr × Obj)} {c i : Nat}
theorem is_ok {Y : Cx} {p : Addr × Obj} (hp : p ∈ Y.pn) (hblt : Y.mg "isinstance" = none) (C : ExcC Y.K (xa c)) (hz : Zc (.ref (xa c)) none p.2) (hf : ∃ vs, p.2.data = .fields vs)
    (hc : ∀ j y, M.ex j = some y → Y.mg y = some (.ref (xa j))) (hk : ∀ j y, M.ex j = some y → PySem.W.kitOne Y.K (.ref (xa c)) (.ref (xa j)) = some (subX c j)) {j : Nat} {e : Expr} (h : okIs M Y.N Y.env.scope i j e = true) : PB Y i p.1 e (subX c j) := by
  unfold okIs at h
  split at h
  · rename_i f p0 x p1 y p2 pos
    simp only [Bool.and_eq_true, decide_eq_true_eq] at h
    obtain ⟨⟨⟨⟨⟨⟨⟨h1, h2⟩, h3⟩, h4⟩, h5⟩, h6⟩, h7⟩, h8⟩ := h
    subst h1
    exact pb_is hp C hz hf h3 (vis_of h4) h5 (gl_of h2) hblt (gl_of h6) (hc j y h8) h7 (hk j y h8)
  · cases h
theorem ve_ok {Y : Cx} {p : Addr × Obj} (hp : p ∈ Y.pn) (hblt : Y.mg "isinstance" = none) (hve : Y.mg "ValueError" = none) (C : ExcC Y.K (xa c)) (hz : Zc (.ref (xa c)) none p.2) (hf : ∃ vs, p.2.data = .fields vs)
    (hk : PySem.W.kitOne Y.K (.ref (xa c)) (.type "ValueError") = some true) {e : Expr} (h : okVe Y.N Y.env.scope i e = true) : PB Y i p.1 e true := by
  unfold okVe at h
  split at h
  · rename_i f p0 x p1 y p2 pos
    simp only [Bool.and_eq_true, decide_eq_true_eq] at h
    obtain ⟨⟨⟨⟨⟨⟨h1, h2⟩, h3⟩, h4⟩, h5⟩, h6⟩, h7⟩ := h
    subst h1
    subst h7
    exact pb_ve hp C hz hf h3 (vis_of h4) h5 (gl_of h2) hblt (gl_of h6) hve hk
  · cases h
theorem iss_ok {Y : Cx} {p : Addr × Obj} (hp : p ∈ Y.pn) (hblt : Y.mg "isinstance" = none) (C : ExcC Y.K (xa c)) (hz : Zc (.ref (xa c)) none p.2) (hf : ∃ vs, p.2.data = .fields vs)
    (hc : ∀ j y, M.ex j = some y → Y.mg y = some (.ref (xa j))) (hk : ∀ j y, M.ex j = some y → PySem.W.kitOne Y.K (.ref (xa c)) (.ref (xa j)) = some (subX c j)) : ∀ {es : List Expr} {js : List Nat}, okIss M Y.N Y.env.scope i es js = true → PAB Y i p.1 es (js.map (subX c))
  | [], [], _ => pab_nil
  | e :: es, j :: js, h => by
    unfold okIss at h
    simp only [Bool.and_eq_true] at h
    refine pab_cons (is_ok hp hblt C hz hf hc hk h.1) (iss_ok hp hblt C hz hf hc hk h.2) ?_
    have h1 := h.1
    unfold okIs at h1
    split at h1
    · rfl
    · cases h1
  | [], _ :: _, h => by cases h
  | _ :: _, [], h => by cases h
end
section
variable {a : Addr} {oe : Obj} {pn : List (Addr × Obj)} {c i : Nat}
/-- a test in the suite, the heap grown -/
def PBg (Y : Cx) (i : Nat) (a : Addr) (e : Expr) (b : Bool) : Prop := PE Y e fun σ H Q => At i a σ ∧ ∀ H', Same H H' → Q (.bl b) H'
theorem PB.g {Y : Cx} {e : Expr} {b : Bool} (h : PB Y i a e b) : PBg Y i a e b := ⟨fun pins s σ H Q I w => h.run pins s σ H Q I ⟨w.1, w.2 H (Same.refl H)⟩⟩
theorem only_ok (g : GS T M xa X W) (hon : M.on = true) (hz : L2N.Zn (.ref (xa c)) none oe) (hf : ∃ vs, oe.data = .fields vs) {k : Int} {e : Expr} (h : okHE M X.N X.env.scope i e (.only k) = true) :
    PBg (X.suite a ((a, oe) :: pn)) i a e (heB c (.only k)) := by
  unfold okHE at h
  split at h
  · rename_i f p0 x p1 k' kk p2 pos
    simp only [Bool.and_eq_true, decide_eq_true_eq] at h
    obtain ⟨⟨⟨⟨⟨⟨_, h1⟩, h2⟩, h3⟩, h4⟩, h5⟩, h6⟩ := h
    subst h1
    subst h6
    obtain ⟨hhx, st, fa, fd, F, m, B, kp, S, ok⟩ := g.on hon
    obtain ⟨hve, hcls⟩ := g.hx hhx
    obtain ⟨C, kve, ksub⟩ := hcls c
    obtain ⟨oc, od, kV, doc, pm, an, cdv, ct, osl, rfl, lk, hcd⟩ := F.ex
    obtain ⟨n, room, hn3, _⟩ := g.lv
    have r3 := (L2H.roomH_of room).mono hn3
    have rm : L2H.RoomH (2 + 1) (X.A.mark (some (.ref a))) := ⟨r3.dp, r3.un⟩
    have hot : L2H.Hot1 (X.A.mark (some (.ref a))) (a, oe) := ⟨rfl, hf.choose, hf.choose_spec, hz.2.2 _ hf.choose_spec⟩
    have pa := pa_cons (X := X.suite a ((a, oe) :: pn)) (pe_var (X := X.suite a ((a, oe) :: pn)) (pos := p1) h3 (vis_of h4) (name_of h5).1 (name_of h5).2) (pa_cons (show PE (X.suite a ((a, oe) :: pn)) (.Constant (.int k') kk p2) (tC (.int k')) from pe_int) pa_nil)
    refine ⟨fun pins s σ H Q I w => ?_⟩
    refine wpAny_Call_Name_kw (ld_glob (X := X.suite a ((a, oe) :: pn)) I (gl_of h2) m ?_ (by decide))
    refine PySem.W.callWith_K (h₀ := X.base) I.ok.mod.kin kp (thn (pa.run pos pins s σ H (fun vs H1 => vs = [.ref a, .int k'] ∧ H1 = H) I ⟨.ref a, w.1, rfl, rfl⟩) fun us s1 ⟨vs, H1, I1, r, e1, e2⟩ => ⟨I1.kIn, ?_⟩) rfl rfl
    subst e1 e2
    refine run_hot (X := X.suite a ((a, oe) :: pn)) (CX := L2N.CX X.prog X.w) (E := fun _ _ _ => False) (p := (a, oe)) (k := 2) List.mem_cons_self hot rm lk hcd S B (fun _ _ _ e s' _ h => ?_) I1 r rfl ?_
    · obtain ⟨_, _, _, _, _, _, _, _, _, _, _, _, z⟩ := h
      exact z.elim
    · generalize hY : L2H.cxH (L2N.CX X.prog X.w) (X.suite a ((a, oe) :: pn)).prog (X.suite a ((a, oe) :: pn)).w (X.suite a ((a, oe) :: pn)).K (X.suite a ((a, oe) :: pn)).mg (X.suite a ((a, oe) :: pn)).base ["_law_e", "_law_at", "_law_kinds", "_law_k"] "_law_only" (defScope st) fa cdv (X.suite a ((a, oe) :: pn)).A (X.suite a ((a, oe) :: pn)).stack s1 H1 (fun _ _ _ => False) (a, oe) = Y
      have yN : Y.N = ([("_law_e" : Str), ("_law_at" : Str), ("_law_kinds" : Str), ("_law_k" : Str)] : List Str) := by rw [← hY]; rfl
      have ysc : Y.env.scope = defScope st := by rw [← hY]; rfl
      have ypn : Y.pn = [(a, oe)] := by rw [← hY]; rfl
      have yK : Y.K = X.K := by rw [← hY]; rfl
      have ymg : Y.mg = X.mg := by rw [← hY]; rfl
      have yhot : L2H.HotC Y := by rw [← hY]; exact ⟨(a, oe), hot, List.mem_cons_self⟩
      have yu : Y.A.units + 64 < cLine := by
        have q := (rm.deeper (envOfC "_law_only" (defScope st) s1.heap.objs.size fa cdv)).un
        rw [← hY]
        show (X.A.mark (some (.ref a))).units + 3 + 64 < cLine
        have q : (X.A.mark (some (.ref a))).units + 3 + 16 * 2 + 200 < cLine := q
        omega
      have yblt : Y.mg "isinstance" = none := by rw [ymg]; exact g.blt _ (by decide)
      have yve : Y.mg "ValueError" = none := by rw [ymg]; exact hve
      have yrg : Y.mg "range" = none := by rw [ymg]; exact g.blt _ (by decide)
      have yC : ExcC Y.K (xa c) := by rw [yK]; exact C
      have ycl : ∀ j y, M.ex j = some y → Y.mg y = some (.ref (xa j)) := fun j y e => by rw [ymg]; exact (g.exc j y e).1
      have ysb : ∀ j y, M.ex j = some y → PySem.W.kitOne Y.K (.ref (xa c)) (.ref (xa j)) = some (subX c j) := fun j y e => by rw [yK]; exact ksub j y e
      have ykv : PySem.W.kitOne Y.K (.ref (xa c)) (.type "ValueError") = some true := by rw [yK]; exact kve
      have hp : (a, oe) ∈ Y.pn := by rw [ypn]; exact List.mem_cons_self
      unfold okOnly at ok
      dsimp only at ok
      rw [← ysc] at ok
      split at ok
      · rename_i k1 q1 es1 q2 q3 k2 q4 k3 q5 es2 q6 q7 q8 i1 i2 k4 q9 y q10 tn q11 q12 y2 q13 rg q14 nn kn q15 q16 scope q17 q18 q19 q20 ebody
        simp only [Bool.and_eq_true, decide_eq_true_eq] at ok
        obtain ⟨⟨⟨⟨⟨⟨⟨⟨⟨⟨⟨⟨⟨⟨⟨⟨⟨o1, o2⟩, o3⟩, o4⟩, o5⟩, o6⟩, o7⟩, o8⟩, o9⟩, o10⟩, o11⟩, o12⟩, o13⟩, o14⟩, o15⟩, o16⟩, o17⟩, o18⟩ := ok
        subst o5 o6 o7 o8 o10 o11 o14 o16 o18
        rw [ebody]
        have nd : Y.N.Nodup := by rw [yN]; exact S.nd
        rw [← yN] at o1 o2 o3 o4 o13
        have t1 := iss_ok (xa := xa) hp yblt yC hz.zc hf ycl ysb o1
        have t2 := iss_ok (xa := xa) hp yblt yC hz.zc hf ycl ysb o2
        have t3 := is_ok (xa := xa) hp yblt yC hz.zc hf ycl ysb o3
        have t4 := ve_ok (xa := xa) hp yblt yve yC hz.zc hf ykv o4
        obtain ⟨t, pt, qt⟩ := only_body (X := Y) (p := (a, oe)) yhot nd yu t1 t2 (by simp) (by simp) t3 t4 (by rw [yN]; rfl) (lcl_of o9) (by decide) (by rw [yN]; rfl) (by decide) (lcl_of o12) o13 (by rw [yN]; rfl) (by decide) o15 (gl_of o17) yrg
        refine ⟨t, pt, ?_⟩
        refine qt H1 k' _ [none, none] rfl fun H' s' => ?_
        have w2 := w.2 H' s'
        have e0 : subX c 0 = true := rfl
        have e : ([1, 2, 3, 4] : List Nat).map (subX c) ++ ([5, 6, 7, 8] : List Nat).map (subX c) = (List.range 8).map fun j => subX c (j + 1) := rfl
        show Q _ H'
        rw [e0, if_pos rfl, if_pos rfl, e]
        unfold heB at w2
        exact w2
      · cases ok
  · cases h
end
section
variable {a : Addr} {oe : Obj} {pn : List (Addr × Obj)} {c i : Nat}
/-- the tests whose answer is a truth -/
theorem heB_ok (g : GS T M xa X W) (hh : M.hx = true) (hz : L2N.Zn (.ref (xa c)) none oe) (hf : ∃ vs, oe.data = .fields vs) : ∀ (h : HE) (e : Expr), heT h = true → okHE M X.N X.env.scope i e h = true → PBg (X.suite a ((a, oe) :: pn)) i a e (heB c h)
  | .is j, e, _, h => by
    obtain ⟨hve, hcls⟩ := g.hx hh
    obtain ⟨C, kve, ksub⟩ := hcls c
    unfold okHE at h
    have q := is_ok (M := M) (xa := xa) (Y := X.suite a ((a, oe) :: pn)) (p := (a, oe)) List.mem_cons_self (g.blt _ (by decide)) C hz.zc hf (fun j y e => (g.exc j y e).1) ksub h
    unfold heB
    exact q.g
  | .ve, e, _, h => by
    obtain ⟨hve, hcls⟩ := g.hx hh
    obtain ⟨C, kve, ksub⟩ := hcls c
    unfold okHE at h
    have q := ve_ok (xa := xa) (Y := X.suite a ((a, oe) :: pn)) (p := (a, oe)) List.mem_cons_self (g.blt _ (by decide)) hve C hz.zc hf kve h
    unfold heB
    exact q.g
  | .only k, e, _, h => by
    have hon : M.on = true := by
      unfold okHE at h
      split at h
      · simp only [Bool.and_eq_true] at h
        exact h.1.1.1.1.1.1
      · cases h
    exact only_ok g hon hz hf h
  | .nt b, e, _, h => by
    unfold okHE at h
    split at h
    · simp only [Bool.and_eq_true] at h
      have q := heB_ok g hh hz hf b _ h.2 h.1
      unfold heB
      exact ⟨fun pins s σ H Q I w => (pe_not q).run pins s σ H Q I ⟨w.1, fun H' s' => ⟨_, rfl, w.2 H' s'⟩⟩⟩
    · cases h
  | .an b d, e, _, h => by
    unfold okHE at h
    split at h
    · simp only [Bool.and_eq_true] at h
      have q := heB_ok g hh hz hf b _ h.1.2 h.1.1.1
      have q2 := heB_ok g hh hz hf d _ h.2 h.1.1.2
      unfold heB
      refine ⟨fun pins s σ H Q I w => (pe_and q (pe_one q2)).run pins s σ H Q I ⟨w.1, fun H' s' => ⟨_, rfl, ?_⟩⟩⟩
      cases hb : heB c b with
      | false =>
        have w2 := w.2 H' s'
        rw [hb] at w2
        exact w2
      | true =>
        refine ⟨w.1, fun H'' s'' => ?_⟩
        have w2 := w.2 H'' (s'.trans s'')
        rw [hb] at w2
        exact w2
    · cases h
  | .str _, _, h, _ => by cases h
  | .two _ _, _, h, _ => by cases h
  | .tri _ _ _, _, h, _ => by cases h
end
section
variable {a : Addr} {oe : Obj} {pn : List (Addr × Obj)} {c i : Nat}
/-- what is wished of an answer in a suite -/
def HEw (K : Fg) (i : Nat) (a : Addr) (d : D) : TE := fun σ H Q => At i a σ ∧ ∀ v H', Same H H' → Rp K (fun _ => False) H' v d → Q v H'
theorem star_he {N : List Str} {sc : Scope} {h : HE} {e : Expr} (ok : okHE M N sc i e h = true) (es : List Expr) (env : PySem.Env) : starEach (e :: es) env = (false, eval e env) :: starEach es env := by
  cases e <;> first | rfl | (cases h <;> simp [okHE, okIs, okVe] at ok)
theorem tupF {K : Fg} {H : Hp} {p : Addr} {vs : List V} {ds : List D} (np : H p = none) (r : RpAll K (fun _ => False) H vs ds) : Rp K (fun _ => False) (upd H p (.tup vs)) (.ref p) (.tuple ds) :=
  Rp.ca (Ca.less fun _ z => z.elim) (show Rp K (Own (fun _ => none) fun _ => False) (upd H p (.tup vs)) (.ref p) (.tuple ds) from mkTup (H0 := H) (B := fun _ => False) (O := fun _ => none) np (r.ca (Ca.less fun a z => by
    rcases z with ⟨i, z⟩ | z
    · cases z
    · exact z)))
theorem he_ok (g : GS T M xa X W) (hh : M.hx = true) (hz : L2N.Zn (.ref (xa c)) none oe) (hf : ∃ vs, oe.data = .fields vs) : ∀ (h : HE) (e : Expr), okHE M X.N X.env.scope i e h = true → PE (X.suite a ((a, oe) :: pn)) e (HEw X.K i a (heD c h))
  | .str s, e, h => by
    unfold okHE at h
    split at h
    · have h := of_decide_eq_true h
      subst h
      unfold heD
      exact ⟨fun pins s σ H Q I w => pe_str.run pins s σ H Q I (w.2 _ H (Same.refl H) (.str _))⟩
    · cases h
  | .two x y, e, h => by
    unfold okHE at h
    split at h
    · simp only [Bool.and_eq_true] at h
      have q1 := he_ok g hh hz hf x _ h.1
      have q2 := he_ok g hh hz hf y _ h.2
      unfold heD
      refine ⟨fun pins s σ H Q I w => (pe_tup (pa_cons q1 (pa_cons q2 pa_nil (star_he h.2 _ _)) (star_he h.1 _ _))).run pins s σ H Q I ⟨w.1, fun v1 H1 s1 r1 => ⟨w.1, fun v2 H2 s2 r2 => ?_⟩⟩⟩
      refine ⟨Nat.le_trans (show 2 ≤ 100 by omega) (by decide), fun p np => w.2 _ _ ((s1.trans s2).trans (same_upd np)) (tupF np (.cons (r1.ca (Ca.grow s2)) (.cons r2 .nil)))⟩
    · cases h
  | .tri x y z, e, h => by
    unfold okHE at h
    split at h
    · simp only [Bool.and_eq_true] at h
      have q1 := he_ok g hh hz hf x _ h.1.1
      have q2 := he_ok g hh hz hf y _ h.1.2
      have q3 := he_ok g hh hz hf z _ h.2
      unfold heD
      refine ⟨fun pins s σ H Q I w => (pe_tup (pa_cons q1 (pa_cons q2 (pa_cons q3 pa_nil (star_he h.2 _ _)) (star_he h.1.2 _ _)) (star_he h.1.1 _ _))).run pins s σ H Q I ⟨w.1, fun v1 H1 s1 r1 => ⟨w.1, fun v2 H2 s2 r2 => ⟨w.1, fun v3 H3 s3 r3 => ?_⟩⟩⟩⟩
      refine ⟨Nat.le_trans (show 3 ≤ 100 by omega) (by decide), fun p np => w.2 _ _ (((s1.trans s2).trans s3).trans (same_upd np)) (tupF np (.cons ((r1.ca (Ca.grow s2)).ca (Ca.grow s3)) (.cons (r2.ca (Ca.grow s3)) (.cons r3 .nil))))⟩
    · cases h
  | .is j, e, h => by
    have q := heB_ok (a := a) (pn := pn) g hh hz hf (.is j) e rfl h
    exact ⟨fun pins s σ H Q I w => q.run pins s σ H Q I ⟨w.1, fun H' s' => w.2 _ H' s' (.bl _)⟩⟩
  | .ve, e, h => by
    have q := heB_ok (a := a) (pn := pn) g hh hz hf .ve e rfl h
    exact ⟨fun pins s σ H Q I w => q.run pins s σ H Q I ⟨w.1, fun H' s' => w.2 _ H' s' (.bl _)⟩⟩
  | .only k, e, h => by
    have q := heB_ok (a := a) (pn := pn) g hh hz hf (.only k) e rfl h
    exact ⟨fun pins s σ H Q I w => q.run pins s σ H Q I ⟨w.1, fun H' s' => w.2 _ H' s' (.bl _)⟩⟩
  | .nt b, e, h => by
    have q := heB_ok (a := a) (pn := pn) g hh hz hf (.nt b) e rfl h
    exact ⟨fun pins s σ H Q I w => q.run pins s σ H Q I ⟨w.1, fun H' s' => w.2 _ H' s' (.bl _)⟩⟩
  | .an b d, e, h => by
    have q := heB_ok (a := a) (pn := pn) g hh hz hf (.an b d) e rfl h
    exact ⟨fun pins s σ H Q I w => q.run pins s σ H Q I ⟨w.1, fun H' s' => w.2 _ H' s' (.bl _)⟩⟩
end
theorem f_tryN {b h : S} {x : Nat} (ihb : SSs T M xa b) : SS T M xa (.tryN b x h) := by
  intro X W st g hk
  unfold okS at hk
  split at hk
  · rename_i body y py s0 ss p1 p2
    simp only [Bool.and_eq_true, decide_eq_true_eq] at hk
    obtain ⟨⟨⟨⟨h1, h2⟩, h3⟩, h4⟩, h5⟩ := hk
    obtain ⟨m1, m2⟩ := g.ctc x y h2
    refine ⟨_, L2N.ps_try_many (tb := fun W' => canS X.K xa W' (exS T b)) g.stk g.frm g.tk (fun W' pn xe tk po => ?_) (.cons (ts := fun _ _ _ => canS X.K xa W (exS T h)) ⟨gl_of h3, (name_of h4).1, .inl m1⟩ (fun a oe cls d pn _ _ => okH_ok g h5) .nil), fun B old O σ H η D r q => ?_⟩
    · obtain ⟨t, pt, st⟩ := ihb (X.tr pn xe) W' body (g.tr pn xe tk po) h1
      refine ⟨fun pins s σ H D I q => ?_⟩
      obtain ⟨B, old, O, η, r, q⟩ := q
      exact pt.run pins s σ H D I (st B old O σ H η D r q)
    · refine ⟨B, old, O, η, r, ?_⟩
      unfold exS at q
      revert q
      cases exS T b η with
      | ex c η' =>
        intro q O' σ' H' r'
        refine ⟨subX c x, m2 c, fun hx a na => ⟨B, old, O', η', r', ?_⟩, fun hx => ?_⟩
        · have q : FR X.K xa W B old D (if subX c x = true then exS T h η' else .ex c η') := q
          rw [if_pos hx] at q
          exact q
        · have q : FR X.K xa W B old D (if subX c x = true then exS T h η' else .ex c η') := q
          rw [if_neg (by rw [hx]; exact Bool.false_ne_true)] at q
          exact q O' σ' H' r'
      | _ => exact fun q => q
  · cases hk

/-- a name of which nothing is told may hold anything -/
theorem ER.loose {K : Fg} {B : Addr → Prop} {old : Old} {O : Ow} {H : Hp} {σ : L2.St} {η : Env} (r : ER K B old O H σ η) {i : Nat} (e : η[i]? = some none) (x : Option V) : ER K B old O H (σ.set i x) η where
  len := by rw [List.length_set]; exact r.len
  sl := fun k s es => by
    have hk : i ≠ k := fun z => by rw [z, es] at e; cases e
    have q := r.sl k s es
    cases s with
    | sh d =>
      obtain ⟨v, q1, q2⟩ := q
      exact ⟨v, by rw [List.getElem?_set_ne hk]; exact q1, q2⟩
    | ow ds =>
      obtain ⟨a, vs, q0, q1, q2, q3⟩ := q
      exact ⟨a, vs, q0, by rw [List.getElem?_set_ne hk]; exact q1, q2, q3⟩
    | od l =>
      obtain ⟨a, q0, q1, q2⟩ := q
      exact ⟨a, q0, by rw [List.getElem?_set_ne hk]; exact q1, q2⟩
    | kk y =>
      obtain ⟨v, q1, q2⟩ := q
      exact ⟨v, by rw [List.getElem?_set_ne hk]; exact q1, q2⟩
  dom := r.dom
  inj := r.inj
  disj := r.disj
  fr := r.fr
  same := r.same
  bt := r.bt
  gh := r.gh
theorem swaps_he {N : List Str} {sc : Scope} {i l : Nat} {t : Option Expr} {env : PySem.Env} : ∀ {h : HE} {v : Expr}, okHE M N sc i v h = true → swapsWith v t l env = pure false
  | .str _, v, ok => by
    unfold okHE at ok
    split at ok
    · rfl
    · cases ok
  | .two _ _, v, ok => by
    unfold okHE at ok
    split at ok
    · rfl
    · cases ok
  | .tri _ _ _, v, ok => by
    unfold okHE at ok
    split at ok
    · rfl
    · cases ok
  | .nt _, v, ok => by
    unfold okHE at ok
    split at ok
    · rfl
    · cases ok
  | .an _ _, v, ok => by
    unfold okHE at ok
    split at ok
    · rfl
    · cases ok
  | .only _, v, ok => by
    unfold okHE at ok
    split at ok
    · rfl
    · cases ok
  | .is _, v, ok => by
    unfold okHE okIs at ok
    split at ok
    · rfl
    · cases ok
  | .ve, v, ok => by
    unfold okHE okVe at ok
    split at ok
    · rfl
    · cases ok
/-- what the suite is to reach -/
def hsW (K : Fg) (xa : Nat → Addr) (i : Nat) (h : HS) (a : Addr) (cls : Value) (d : Option Addr) : TS := fun D σ H => ∃ c, cls = .ref (xa c) ∧ d = none ∧ At i a σ ∧ match h with
  | .ret e => ∀ v H', Same H H' → Rp K (fun _ => False) H' v (heD c e) → D.rt v H'
  | .asg j e => ∀ v H', Same H H' → Rp K (fun _ => False) H' v (heD c e) → D.nx (σ.set j (some v)) H'
theorem hs_ok (g : GS T M xa X W) (hh : M.hx = true) {i : Nat} {h : HS} {s0 : Stmt} (ok : okHS M X.N X.env.scope i s0 h = true) {a : Addr} {oe : Obj} {cls : Value} {d : Option Addr} {pn : List (Addr × Obj)} (hz : L2N.Zn cls d oe) (hf : ∃ vs, oe.data = .fields vs) :
    PSs (X.suite a ((a, oe) :: pn)) [s0] (hsW X.K xa i h a cls d) := by
  refine ⟨fun pins s σ H D I q => ?_⟩
  obtain ⟨c, rfl, rfl, ha, q⟩ := q
  cases h with
  | ret e =>
    unfold okHS at ok
    dsimp only at ok
    split at ok
    · exact (pss_one (ps_ret (X := X.suite a ((a, oe) :: pn)) (he_ok (a := a) (pn := pn) g hh hz hf e _ ok))).run pins s σ H D I ⟨ha, q⟩
    · cases ok
  | asg j e =>
    unfold okHS at ok
    dsimp only at ok
    split at ok
    · simp only [Bool.and_eq_true] at ok
      exact (pss_one (ps_set (X := X.suite a ((a, oe) :: pn)) g.nd (nameB_of ok.1).1 (nameB_of ok.1).2 (he_ok (a := a) (pn := pn) g hh hz hf e _ ok.2) (swaps_he ok.2) (.inl (g.fnT _)))).run pins s σ H D I ⟨ha, q⟩
    · cases ok
theorem lf_heD (c : Nat) : ∀ e : HE, lf (heD c e) = true
  | .str s => rfl
  | .two a b => by
    rw [heD, lf, lfAll, lfAll, lfAll, lf_heD c a, lf_heD c b]
    rfl
  | .tri a b d => by
    rw [heD, lf, lfAll, lfAll, lfAll, lfAll, lf_heD c a, lf_heD c b, lf_heD c d]
    rfl
  | .is _ => rfl
  | .ve => rfl
  | .only _ => rfl
  | .nt _ => rfl
  | .an _ _ => rfl
theorem f_tryA {b : S} {x i : Nat} {h : HS} (ihb : SSs T M xa b) : SS T M xa (.tryA b x i h) := by
  intro X W st g hk
  unfold okS at hk
  split at hk
  · rename_i body y py n s0 p1 p2
    simp only [Bool.and_eq_true, decide_eq_true_eq] at hk
    obtain ⟨⟨⟨⟨⟨⟨⟨h1, h2⟩, h3⟩, h4⟩, hh⟩, hi⟩, hl⟩, h5⟩ := hk
    obtain ⟨m1, m2⟩ := g.ctc x y h2
    refine ⟨_, L2N.ps_try_as (tb := fun W' => canS X.K xa W' (exS T b)) (ts := hsW X.K xa i h) g.stk g.frm g.nd hi (lcl_of hl) ⟨gl_of h3, (name_of h4).1, .inl m1⟩ g.tk (fun W' pn xe tk po => ?_) (fun a oe cls d pn hz hf => hs_ok g hh h5 hz hf), fun B old O σ H η D r q => ?_⟩
    · obtain ⟨t, pt, st⟩ := ihb (X.tr pn xe) W' body (g.tr pn xe tk po) h1
      refine ⟨fun pins s σ H D I q => ?_⟩
      obtain ⟨B, old, O, η, r, q⟩ := q
      exact pt.run pins s σ H D I (st B old O σ H η D r q)
    · refine ⟨B, old, O, η, r, ?_⟩
      unfold exS at q
      revert q
      cases exS T b η with
      | ex c η' =>
        intro q O' σ' H' r'
        refine ⟨subX c x, m2 c, fun hx a na => ?_, fun hx => ?_⟩
        · have q : FR X.K xa W B old D (if subX c x = true then hsF c i η' h else .ex c η') := q
          rw [if_pos hx] at q
          cases h with
          | ret e =>
            unfold hsF at q
            dsimp only at q
            split at q
            · rename_i hlt
              refine ⟨c, rfl, rfl, ?_, fun v H'' s' rv => ?_⟩
              · show (σ'.set i (some (.ref a)))[i]? = _
                rw [List.getElem?_set_self (by rw [r'.len]; exact hlt)]
              · exact q v H'' (r'.same.trans s') (.inl ⟨lf_heD c e, rv⟩)
            · exact q.elim
          | asg j e =>
            unfold hsF at q
            dsimp only at q
            split at q
            · exact q.elim
            · rename_i hji
              split at q
              · rename_i hn
                have hlt : i < η'.length := by
                  obtain ⟨z, _⟩ := List.getElem?_eq_some_iff.mp hn
                  exact z
                refine ⟨c, rfl, rfl, ?_, fun v H'' s' rv => ?_⟩
                · show (σ'.set i (some (.ref a)))[i]? = _
                  rw [List.getElem?_set_self (by rw [r'.len]; exact hlt)]
                · cases e1 : asgV η' j (.cl (heD c e)) with
                  | none => rw [e1] at q; exact q.elim
                  | some η2 =>
                    rw [e1] at q
                    have r1 := (r'.loose hn (some (.ref a))).ext s'
                    obtain ⟨O2, r2⟩ := r1.asg (x := .cl (heD c e)) (Same.refl H'') (Rp.free (fun _ _ z => z) rv (lf_heD c e)) e1
                    have hn2 : η2[i]? = some none := by
                      unfold asgV at e1
                      split at e1
                      · cases e1
                        rw [List.getElem?_set_ne hji]
                        exact hn
                      · cases e1
                    exact q O2 _ H'' (r2.loose hn2 none)
              · exact q.elim
        · have q : FR X.K xa W B old D (if subX c x = true then hsF c i η' h else .ex c η') := q
          rw [if_neg (by rw [hx]; exact Bool.false_ne_true)] at q
          exact q O' σ' H' r'
      | _ => exact fun q => q
  · cases hk
theorem vis_lcl {sc : Scope} {x : Str} (h : lclB sc x = true) : visB sc x = true := by
  unfold lclB at h
  unfold visB
  split at h
  · rename_i e
    rw [e]
  · cases h
theorem f_tryK {b : S} {x i j : Nat} (ihb : SSs T M xa b) : SS T M xa (.tryK b x i j) := by
  intro X W st g hk
  unfold okS at hk
  split at hk
  · rename_i body y py n r pr n' pn' pa p1 p2
    simp only [Bool.and_eq_true, decide_eq_true_eq] at hk
    obtain ⟨⟨⟨⟨⟨⟨⟨⟨h1, h2⟩, h3⟩, h4⟩, hi⟩, hl⟩, h5⟩, h6⟩, h7⟩ := hk
    subst h6
    obtain ⟨m1, m2⟩ := g.ctc x y h2
    refine ⟨_, ps_try_trk (tb := fun W' => canS X.K xa W' (exS T b)) g.stk g.frm g.nd hi (lcl_of hl) ⟨gl_of h3, (name_of h4).1, .inl m1⟩ g.tk (fun W' pn xe tk po => ?_)
      (fun a oe pn => pss_one (ps_set (X := X.suite a ((a, oe) :: pn)) g.nd (nameB_of h5).1 (nameB_of h5).2 (pe_var (X := X.suite a ((a, oe) :: pn)) hi (vis_of (vis_lcl hl)) (name_of h7).1 (name_of h7).2) rfl (.inl (g.fnT _)))), fun B old O σ H η D rr q => ?_⟩
    · obtain ⟨t, pt, st⟩ := ihb (X.tr pn xe) W' body (g.tr pn xe tk po) h1
      refine ⟨fun pins s σ H D I q => ?_⟩
      obtain ⟨B, old, O, η, r, q⟩ := q
      exact pt.run pins s σ H D I (st B old O σ H η D r q)
    · refine ⟨B, old, O, η, rr, ?_⟩
      unfold exS at q
      revert q
      cases exS T b η with
      | ex c η' =>
        intro q O' σ' H' r'
        refine ⟨subX c x, m2 c, fun hx => ⟨xa c, rfl, rfl, fun a na => ?_⟩, fun hx => ?_⟩
        · have q : FR X.K xa W B old D (if subX c x = true then keepF T.ex c i j η' else .ex c η') := q
          rw [if_pos hx] at q
          unfold keepF at q
          split at q
          · exact q.elim
          · rename_i hji
            split at q
            · rename_i nm hn hc
              have hlt : i < η'.length := by
                obtain ⟨z, _⟩ := List.getElem?_eq_some_iff.mp hn
                exact z
              refine ⟨.ref a, ?_, fun na2 => ?_⟩
              · show (σ'.set i (some (.ref a)))[i]? = _
                rw [List.getElem?_set_self (by rw [r'.len]; exact hlt)]
              · cases e1 : asgV η' j (.cl (exD nm)) with
                | none => rw [e1] at q; exact q.elim
                | some η2 =>
                  rw [e1] at q
                  have r1 := (r'.loose hn (some (.ref a))).ext (same_upd (o := Exo (xa c) a) na)
                  obtain ⟨O2, r2⟩ := r1.asg (x := .cl (exD nm)) (Same.refl _) (Rp.exc (g.exn c nm hc) upd_same) e1
                  have hn2 : η2[i]? = some none := by
                    unfold asgV at e1
                    split at e1
                    · cases e1
                      rw [List.getElem?_set_ne hji]
                      exact hn
                    · cases e1
                  exact q O2 _ _ (r2.loose hn2 none)
            · exact q.elim
        · have q : FR X.K xa W B old D (if subX c x = true then keepF T.ex c i j η' else .ex c η') := q
          rw [if_neg (by rw [hx]; exact Bool.false_ne_true)] at q
          exact q O' σ' H' r'
      | _ => exact fun q => q
  · cases hk
theorem swapped_nest {ts us vs : List Expr} {k1 k2 k3 k4 : Nat} {p1 p2 p3 p4 : Pos} {env : PySem.Env} :
    swappedStores [.Tuple [.Tuple ts k1 p1, .Tuple us k2 p2] k3 p3] (.Tuple vs k4 p4) env = pure none := by
  unfold swappedStores
  dsimp only
  split
  · rfl
  · split
    · rfl
    · rfl
theorem f_asgQ {is js : List Nat} {e : E} : SS T M xa (.asgQ is js e) := by
  intro X W st g h
  unfold okS at h
  split at h
  · rename_i ts k1 p1 us k2 p2 k3 p3 vs k p pos
    simp only [Bool.and_eq_true] at h
    obtain ⟨⟨h1, h2⟩, h3⟩ := h
    obtain ⟨t, pt, st⟩ := exE g.toGX h3
    obtain ⟨l1, l2⟩ := names_each (env := X.env) h1
    obtain ⟨m1, m2⟩ := names_each (env := X.env) h2
    refine ⟨_, ps_asg pt (pg_tup (n := 2) g.calm (pgs_cons (pg_tup g.calm (pgs_names g h1) l1 l2) (pgs_cons (pg_tup g.calm (pgs_names g h2) m1 m2) pgs_nil)) rfl rfl) rfl swapped_nest, fun B old O σ H η D r q => ?_⟩
    unfold exS at q
    refine st B old O σ H η _ r (q.of.imp fun x k v H1 s1 vx => ?_)
    obtain ⟨ds, e1, k⟩ := k.on
    unfold asgQF at k
    split at k
    · rename_i d1 d2
      obtain ⟨as, e2, k⟩ := k.on
      obtain ⟨bs, e3, k⟩ := k.on
      split at k
      · rename_i hb
        obtain ⟨η1, e4, k⟩ := k.on
        obtain ⟨η2, e5, k⟩ := k.on
        obtain ⟨a, ws, rfl, ht, ra⟩ := tupOf_ok vx e1
        cases ra with
        | cons ra1 ra =>
          cases ra with
          | cons ra2 ra =>
            cases ra
            obtain ⟨a1, w1, rfl, ht1, rb1⟩ := tupOf_ok (H0 := H1) (x := .cl d1) ra1 e2
            obtain ⟨a2, w2, rfl, ht2, rb2⟩ := tupOf_ok (H0 := H1) (x := .cl d2) ra2 e3
            refine ⟨a, _, rfl, ht, rfl, _, _, rfl, ⟨a1, w1, rfl, ht1, by rw [rb1.length, asgL_len e4], asgL_ok (r.ext s1) rb1 e4 fun O' σ' r' => ?_⟩⟩
            refine ⟨_, _, rfl, ⟨a2, w2, rfl, ht2, by rw [rb2.length, asgL_len e5], asgL_ok r' (RpAll.free (fun _ _ z => z) rb2 hb) e5 fun O2 σ2 r2 => ⟨rfl, k _ _ _ r2⟩⟩⟩
      · exact k.elim
    · exact k.elim
  · cases h
/-! ### dicts -/
theorem vrs_ints {K : Fg} {B : Addr → Prop} {O : Ow} {H H' : Hp} {vs : List V} {xs : List Val} {k : List Int} (r : VRs K B O H H' vs xs) (e : intsOf (xs.map Val.d) = some k) : vs = k.map V.int := by
  have a := r.any
  rw [intsOf_inv e] at a
  exact ints_vals a
theorem setK_ok {η η' : Env} {i : Nat} {k : Sk} (h : setK η i k = some η') : i < η.length ∧ η' = η.set i (some (.kk k)) := by
  unfold setK at h
  split at h
  · cases h
    exact ⟨by assumption, rfl⟩
  · cases h
theorem f_asgK {i : Nat} {es : E} : SS T M xa (.asgK i es) := by
  intro X W st g h
  unfold okS at h
  split at h
  · rename_i x px vs k p pos
    simp only [Bool.and_eq_true, decide_eq_true_eq] at h
    obtain ⟨⟨h1, h2⟩, h3⟩ := h
    obtain ⟨t, ht, hq⟩ := exA g.toGX h2
    refine ⟨_, ps_set g.nd (nameB_of h1).1 (nameB_of h1).2 (pe_tup ht) rfl (.inl (g.fnT x)), fun B old O σ H η D r q => hq B old O σ H η _ r ?_⟩
    unfold exS at q
    refine q.of.imp fun ys q ey vs H' s vr => ⟨len_ok (by rw [vr.len, evs_len es ey]; exact h3), fun p hp => ?_⟩
    obtain ⟨k, e1, q⟩ := q.on
    obtain ⟨η', e2, q⟩ := q.on
    obtain ⟨hi, rfl⟩ := setK_ok e2
    have ev := vrs_ints vr e1
    subst ev
    exact q _ _ _ (((r.ext s).ext (same_upd hp)).setKk hi ⟨p, rfl, upd_same⟩)
  · cases h
theorem pa_keys {X : Cx} : ∀ {es : List Expr} {ks : List (List Int)}, keysB (es.map some) ks = true → ∃ t, PA X es t ∧ ∀ σ H Q, (∀ vs H', Same H H' → vs.length = ks.length → LkR H' vs ks → Q vs H') → t σ H Q
  | [], [], _ => ⟨_, pa_nil, fun σ H Q q => q [] H (Same.refl H) rfl trivial⟩
  | .Tuple es' kn p :: es, k :: ks, h => by
    simp only [List.map_cons, keysB, Bool.and_eq_true, decide_eq_true_eq] at h
    obtain ⟨⟨h1, h3⟩, h2⟩ := h
    obtain ⟨tk, pk, qk⟩ := pa_ints (X := X) h1
    obtain ⟨t, pt, qt⟩ := pa_keys h2
    refine ⟨_, pa_cons (pe_tup pk) pt, fun σ H Q q => qk σ H _ ⟨len_ok (by rw [List.length_map]; exact h3), fun p hp => ?_⟩⟩
    refine qt σ _ _ fun vs H' s hl r => q (.ref p :: vs) H' ((same_upd hp).trans s) (by rw [List.length_cons, List.length_cons, hl]) ⟨⟨p, rfl, s _ _ upd_same⟩, r⟩
  | [], _ :: _, h => by cases h
  | e :: es, [], h => by
    rw [List.map_cons] at h
    cases e <;> cases h
theorem f_asgKs {i : Nat} {ks : List (List Int)} : SS T M xa (.asgKs i ks) := by
  intro X W st g h
  unfold okS at h
  split at h
  · rename_i x px vs p pos
    simp only [Bool.and_eq_true, decide_eq_true_eq] at h
    obtain ⟨⟨h1, h2⟩, h3⟩ := h
    obtain ⟨t, ht, hq⟩ := pa_keys (X := X) h2
    refine ⟨_, ps_set g.nd (nameB_of h1).1 (nameB_of h1).2 (pe_lst ht) rfl (.inl (g.fnT x)), fun B old O σ H η D r q => hq σ H _ fun ws H' s hl lr => ⟨len_ok (by omega), fun p hp => ?_⟩⟩
    unfold exS at q
    obtain ⟨η', e2, q⟩ := q.on
    obtain ⟨hi, rfl⟩ := setK_ok e2
    have r2 := (r.ext s).ext (same_upd (o := .lst ws) hp)
    refine q _ _ _ (r2.setKk hi ⟨p, ws, rfl, fun z => ?_, Rd.of upd_same, lr.ca (K := X.K) (A := fun _ => False) (A' := fun _ => False) (Ca.grow (same_upd hp))⟩)
    have ob := (r.ext s).ob
    rcases own_minus z with ⟨j, z⟩ | z
    · exact ob.l j p z hp
    · exact ob.b p z hp
  · cases h
theorem dput_ok {X : Cx} {B : Addr → Prop} {old : Old} {O : Ow} {H : Hp} {σ : L2.St} {η : Env} {i : Nat} {l : Dl} {k : List Int} {n : Int} {a b : Addr} {Q : Hp → Prop} (r : ER X.K B old O H σ η) (hi : η[i]? = some (some (.od l))) (ha : O i = some a) (hl : H a = some (.dT (dV l)))
    (hb : H b = some (.tup (k.map V.int))) (hz : Sm (l.length + 1)) (q : ∀ H', ER X.K B old O H' σ (η.set i (some (.od (putL l k n)))) → Q H') : rSetD (.ref a) (.ref b) (.int n) H Q := by
  refine ⟨a, _, rfl, DPut.t (k := k.map Sum.inl) hl (by rw [key_kV]; exact hb) ?_, ?_⟩
  · show (dV l).length < sizeLine
    have e : (dV l).length = l.length := List.length_map _
    rw [e, sz]
    exact hz
  · rw [← dV_put]
    exact q _ (r.mutD hi ha hl)
theorem units1 (g : GS T M xa X W) : X.A.units + 1 < cLine := by
  obtain ⟨n, room, _⟩ := g.lv
  have := room.units
  omega
theorem f_dputE {i : Nat} {es e : E} : SS T M xa (.dputE i es e) := by
  intro X W st g h
  unfold okS at h
  split at h
  · rename_i x p vs kn kp k1 v pos
    simp only [Bool.and_eq_true, decide_eq_true_eq] at h
    obtain ⟨⟨⟨⟨h1, h2⟩, h3⟩, h4⟩, h5⟩ := h
    obtain ⟨tk, pk, sk⟩ := exA g.toGX h3
    obtain ⟨tv, pv', sv⟩ := exE g.toGX h5
    have hs : swapsWithSole [.Subscript (.Name x p) (.Tuple vs kn kp) k1] v pos.line X.env = pure false := by cases v <;> rfl
    have hw : swappedStores [.Subscript (.Name x p) (.Tuple vs kn kp) k1] v X.env = pure none := by cases v <;> rfl
    refine ⟨_, ps_asg pv' (pg_sub (pe_nm g h1 h2) (pe_tup pk) (set_dict (units1 g)) (fun v => rfl)) hs hw, fun B old O σ H η D r q => ?_⟩
    unfold exS at q
    refine sv B old O σ H η _ r (q.of.imp fun y q v1 H1 s1 vy => ?_)
    obtain ⟨n, rfl, _, q⟩ := int_ok vy q.of
    obtain ⟨l, e1, q⟩ := q.on
    have r1 := r.ext s1
    obtain ⟨hi, a, a1, a2, a3⟩ := odOf_ok r1 e1
    refine ⟨_, a2, sk B old O σ H1 η _ r1 (q.of.imp fun ys q ey ws H2 s2 vr => ⟨len_ok (by rw [vr.len, evs_len es ey]; exact h4), fun b hb => ?_⟩)⟩
    obtain ⟨k, e2, q⟩ := q.on
    split at q
    · rename_i hz
      have ew := vrs_ints vr e2
      subst ew
      exact dput_ok ((r1.ext s2).ext (same_upd hb)) hi a1 (same_upd hb _ _ (s2 _ _ a3)) upd_same hz fun H' r' => q _ _ _ r'
    · exact q.elim
  · cases h
theorem tkOf_ok {K : Fg} {B : Addr → Prop} {old : Old} {O : Ow} {H : Hp} {σ : L2.St} {η : Env} {i : Nat} {k : List Int} (r : ER K B old O H σ η) (h : tkOf η i = some k) : ∃ a, σ[i]? = some (some (.ref a)) ∧ H a = some (.tup (k.map V.int)) := by
  unfold tkOf at h
  split at h
  · rename_i es e
    cases h
    obtain ⟨v, q1, a, rfl, q2⟩ := r.sl i _ e
    exact ⟨a, q1, q2⟩
  · cases h
theorem lkOf_ok {K : Fg} {B : Addr → Prop} {old : Old} {O : Ow} {H : Hp} {σ : L2.St} {η : Env} {i : Nat} {ks : List (List Int)} (r : ER K B old O H σ η) (h : lkOf η i = some ks) : ∃ a vs, σ[i]? = some (some (.ref a)) ∧ Rd H a (.lst vs) ∧ LkR H vs ks := by
  unfold lkOf at h
  split at h
  · rename_i es e
    cases h
    obtain ⟨v, q1, a, vs, rfl, _, q2, q3⟩ := r.sl i _ e
    exact ⟨a, vs, q1, q2, q3⟩
  · cases h
theorem LkR.len {H : Hp} : ∀ {vs : List V} {ks : List (List Int)}, LkR H vs ks → vs.length = ks.length
  | [], [], _ => rfl
  | v :: vs, k :: ks, r => by rw [List.length_cons, List.length_cons, LkR.len r.2]
  | [], _ :: _, r => r.elim
  | _ :: _, [], r => r.elim
theorem LkR.get {H : Hp} : ∀ {vs : List V} {ks : List (List Int)} {j : Nat} {k : List Int}, LkR H vs ks → ks[j]? = some k → ∃ v, vs[j]? = some v ∧ TkR H v k
  | [], [], _, _, _, e => by simp at e
  | v :: vs, k :: ks, 0, _, r, e => by
    simp at e
    subst e
    exact ⟨v, rfl, r.1⟩
  | v :: vs, k :: ks, j + 1, _, r, e => by
    obtain ⟨u, h1, h2⟩ := LkR.get (j := j) r.2 (by simpa using e)
    exact ⟨u, by simpa using h1, h2⟩
  | [], _ :: _, _, _, r, _ => r.elim
  | _ :: _, [], _, _, r, _ => r.elim
theorem LkR.at {H : Hp} {vs : List V} {ks : List (List Int)} {m : Int} {k : List Int} (r : LkR H vs ks) (e : atI ks m = some k) : ∃ v, atI vs m = some v ∧ TkR H v k := by
  unfold atI at e ⊢
  rw [r.len]
  cases e1 : ixN ks.length m with
  | none => rw [e1] at e; cases e
  | some j =>
    rw [e1] at e
    exact r.get e
theorem f_dputV {i j : Nat} {e : E} : SS T M xa (.dputV i j e) := by
  intro X W st g h
  unfold okS at h
  split at h
  · rename_i x p y py k1 v pos
    simp only [Bool.and_eq_true, decide_eq_true_eq] at h
    obtain ⟨⟨⟨⟨h1, h2⟩, h3⟩, h4⟩, h5⟩ := h
    obtain ⟨tv, pv', sv⟩ := exE g.toGX h5
    have hs : swapsWithSole [.Subscript (.Name x p) (.Name y py) k1] v pos.line X.env = pure false := by cases v <;> rfl
    have hw : swappedStores [.Subscript (.Name x p) (.Name y py) k1] v X.env = pure none := by cases v <;> rfl
    refine ⟨_, ps_asg pv' (pg_sub (pe_nm g h1 h2) (pe_nm g h3 h4) (set_dict (units1 g)) (fun v => rfl)) hs hw, fun B old O σ H η D r q => ?_⟩
    unfold exS at q
    refine sv B old O σ H η _ r (q.of.imp fun y q v1 H1 s1 vy => ?_)
    obtain ⟨n, rfl, _, q⟩ := int_ok vy q.of
    obtain ⟨l, e1, q⟩ := q.on
    obtain ⟨k, e2, q⟩ := q.on
    have r1 := r.ext s1
    obtain ⟨hi, a, a1, a2, a3⟩ := odOf_ok r1 e1
    obtain ⟨b, b1, b2⟩ := tkOf_ok r1 e2
    split at q
    · rename_i hz
      exact ⟨_, a2, _, b1, dput_ok r1 hi a1 a3 b2 hz fun H' r' => q _ _ _ r'⟩
    · exact q.elim
  · cases h
theorem f_dputI {i j : Nat} {k e : E} : SS T M xa (.dputI i j k e) := by
  intro X W st g h
  unfold okS at h
  split at h
  · rename_i x p y py kk kp k1 v pos
    simp only [Bool.and_eq_true, decide_eq_true_eq] at h
    obtain ⟨⟨⟨⟨⟨h1, h2⟩, h3⟩, h4⟩, h6⟩, h5⟩ := h
    obtain ⟨tv, pv', sv⟩ := exE g.toGX h5
    obtain ⟨tk, pk, sk⟩ := exE g.toGX h6
    have hs : swapsWithSole [.Subscript (.Name x p) (.Subscript (.Name y py) kk kp) k1] v pos.line X.env = pure false := by cases v <;> rfl
    have hw : swappedStores [.Subscript (.Name x p) (.Subscript (.Name y py) kk kp) k1] v X.env = pure none := by cases v <;> rfl
    refine ⟨_, ps_asg pv' (pg_sub (pe_nm g h1 h2) (pe_ix ix_seq (pe_nm g h3 h4) pk (plain_of h6)) (set_dict (units1 g)) (fun v => rfl)) hs hw, fun B old O σ H η D r q => ?_⟩
    unfold exS at q
    refine sv B old O σ H η _ r (q.of.imp fun y q v1 H1 s1 vy => ?_)
    obtain ⟨n, rfl, _, q⟩ := int_ok vy q.of
    obtain ⟨l, e1, q⟩ := q.on
    obtain ⟨ks, e2, q⟩ := q.on
    have r1 := r.ext s1
    obtain ⟨hi, a, a1, a2, a3⟩ := odOf_ok r1 e1
    obtain ⟨b, vs, b1, b2, b3⟩ := lkOf_ok r1 e2
    refine ⟨_, a2, _, b1, sk B old O σ H1 η _ r1 (q.of.imp fun y q w H2 s2 vk => ?_)⟩
    obtain ⟨m, rfl, _, q⟩ := int_ok vk q.of
    obtain ⟨k, e3, q⟩ := q.on
    have b4 := b3.ca (K := X.K) (A := fun _ => False) (A' := fun _ => False) (Ca.grow s2)
    obtain ⟨c, e4, d, rfl, d2⟩ := b4.at e3
    split at q
    · rename_i hz
      exact .inl ⟨b, vs, m, _, rfl, rfl, .inl (rd_same s2 b2), e4, dput_ok (r1.ext s2) hi a1 (s2 _ _ a3) d2 hz fun H' r' => q _ _ _ r'⟩
    · exact q.elim
  · cases h
/-! ### walks of dicts -/
section
variable {K : Fg} {B : Addr → Prop} {old : Old} {O : Ow} {H : Hp} {σ : L2.St} {η : Env} {D : Ends} {a : Addr} {o : Obj} {kvs : List (List Key × V)}
theorem ER.moreOld {hp' : Hp} (r : ER K B ⟨hp', old.gv, old.gd⟩ O H σ η) (s : Same old.hp hp') : ER K B old O H σ η :=
  ⟨r.len, r.sl, r.dom, r.inj, r.disj, fun i a e => s.free (r.fr i a e), s.trans r.same, r.bt, r.gh⟩
theorem RetR.lessOld {H0 H0' : Hp} {v : V} {d : PyData} (s : Same H0 H0') (r : RetR K H0' H v d) : RetR K H0 H v d := by
  rcases r with r | ⟨ds, a, vs, h1, h2, h3, h4, h5⟩ | ⟨l, a, h1, h2, h3, h4⟩
  · exact .inl r
  · exact .inr (.inl ⟨ds, a, vs, h1, h2, h3, s.free h4, h5⟩)
  · exact .inr (.inr ⟨l, a, h1, h2, s.free h3, h4⟩)
theorem FR.moreOld {hp' : Hp} (s : Same old.hp hp') {f : Fl} (q : FR K xa W B old D f) : FR K xa W B ⟨hp', old.gv, old.gd⟩ D f := by
  cases f with
  | nx η => exact fun O σ H r => q O σ H (r.moreOld s)
  | bk η => exact fun O σ H r => q O σ H (r.moreOld s)
  | ct η => exact fun O σ H r => q O σ H (r.moreOld s)
  | rt d => exact fun v H s' r => q v H (s.trans s') (r.lessOld s)
  | ex c η => exact fun O σ H r => q O σ H (r.moreOld s)
  | st => exact q
/-- where a thing stands that isn't a list or an open dict, nobody owns it -/
theorem ER.noOwn (r : ER K B old O H σ η) {u : HO} (e : H a = some u) (h1 : ∀ vs, u ≠ .lst vs) (h2 : ∀ l, u ≠ .dT (dV l)) : ∀ i, O i ≠ some a := fun i z => by
  obtain ⟨s, h, hs⟩ := r.dom i a z
  have q := r.sl i _ h
  cases s with
  | sh d => cases hs
  | kk k => cases hs
  | ow ds =>
    obtain ⟨b, vs, q0, _, q2, _⟩ := q
    rw [z] at q0
    cases q0
    rw [e] at q2
    exact h1 _ (Option.some.inj q2)
  | od l =>
    obtain ⟨b, q0, _, q2⟩ := q
    rw [z] at q0
    cases q0
    rw [e] at q2
    exact h2 _ (Option.some.inj q2)
/-- a dict that somebody walks already -/
theorem ER.held (r : ER K B old O H σ η) (e : H a = some (.frz o (.dT kvs))) : ER K B ⟨upd old.hp a (.frz o (.dT kvs)), old.gv, old.gd⟩ O H σ η := by
  have no := r.noOwn e (fun _ z => nomatch z) (fun _ z => nomatch z)
  refine ⟨r.len, r.sl, r.dom, r.inj, r.disj, fun i b h => ?_, fun b x h => ?_, r.bt, r.gh⟩
  · have nb : b ≠ a := fun z => no i (z ▸ h)
    show upd old.hp a _ b = none
    rw [upd_ne nb]
    exact r.fr i b h
  · by_cases hb : b = a
    · subst hb
      have h : upd old.hp b (.frz o (.dT kvs)) b = some x := h
      rw [upd_same] at h
      cases h
      exact e
    · have h : upd old.hp a (.frz o (.dT kvs)) b = some x := h
      rw [upd_ne hb] at h
      exact r.same b x h
theorem same_held {H0 : Hp} (s : Same H0 H) (e : H a = some (.frz o (.dT kvs))) : Same H0 (upd H0 a (.frz o (.dT kvs))) := fun b x h => by
  by_cases hb : b = a
  · subst hb
    have := s _ _ h
    rw [e] at this
    cases this
    exact upd_same
  · rw [upd_ne hb]
    exact h
/-- a dict is locked for a walk -/
theorem ER.lockD (r : ER K B old O H σ η) (e : H a = some (.dT kvs)) (no : ∀ i, O i ≠ some a) : ER K B ⟨upd old.hp a (.frz o (.dT kvs)), old.gv, old.gd⟩ O (upd H a (.frz o (.dT kvs))) σ η := by
  have c : Ca K (Own O B) (Own O B) H (upd H a (.frz o (.dT kvs))) := Ca.lock e
  refine ⟨r.len, fun i x h => ?_, r.dom, r.inj, r.disj, fun i b h => ?_, fun b x h => ?_, fun b h z => ?_, r.gh.ca c⟩
  · have q := r.sl i x h
    cases x with
    | sh d =>
      obtain ⟨v, q1, q2⟩ := q
      exact ⟨v, q1, q2.ca c⟩
    | ow ds =>
      obtain ⟨b, vs, q0, q1, q2, q3⟩ := q
      have nb : b ≠ a := fun z => no i (z ▸ q0)
      exact ⟨b, vs, q0, q1, by rw [upd_ne nb]; exact q2, q3.ca c⟩
    | od l =>
      obtain ⟨b, q0, q1, q2⟩ := q
      have nb : b ≠ a := fun z => no i (z ▸ q0)
      exact ⟨b, q0, q1, by rw [upd_ne nb]; exact q2⟩
    | kk k =>
      obtain ⟨v, q1, q2⟩ := q
      exact ⟨v, q1, q2.ca c⟩
  · have nb : b ≠ a := fun z => no i (z ▸ h)
    show upd old.hp a _ b = none
    rw [upd_ne nb]
    exact r.fr i b h
  · have h : upd old.hp a (.frz o (.dT kvs)) b = some x := h
    by_cases hb : b = a
    · subst hb
      rw [upd_same] at h ⊢
      exact h
    · rw [upd_ne hb] at h ⊢
      exact r.same b x h
  · by_cases hb : b = a
    · rw [hb, upd_same] at z
      cases z
    · rw [upd_ne hb] at z
      exact r.bt b h z
theorem ER.unlockD (r : ER K B ⟨upd old.hp a (.frz o (.dT kvs)), old.gv, old.gd⟩ O H σ η) (h0 : ∀ x, old.hp a = some x → x = .dT kvs) : H a = some (.frz o (.dT kvs)) ∧ ER K B old O (upd H a (.dT kvs)) σ η := by
  have e : H a = some (.frz o (.dT kvs)) := r.same a _ upd_same
  have c : Ca K (Own O B) (Own O B) H (upd H a (.dT kvs)) := Ca.unlock e
  have no := r.noOwn e (fun _ z => nomatch z) (fun _ z => nomatch z)
  refine ⟨e, r.len, fun i x h => ?_, r.dom, r.inj, r.disj, fun i b h => ?_, fun b x h => ?_, fun b h z => ?_, r.gh.ca c⟩
  · have q := r.sl i x h
    cases x with
    | sh d =>
      obtain ⟨v, q1, q2⟩ := q
      exact ⟨v, q1, q2.ca c⟩
    | ow ds =>
      obtain ⟨b, vs, q0, q1, q2, q3⟩ := q
      have nb : b ≠ a := fun z => no i (z ▸ q0)
      exact ⟨b, vs, q0, q1, by rw [upd_ne nb]; exact q2, q3.ca c⟩
    | od l =>
      obtain ⟨b, q0, q1, q2⟩ := q
      have nb : b ≠ a := fun z => no i (z ▸ q0)
      exact ⟨b, q0, q1, by rw [upd_ne nb]; exact q2⟩
    | kk k =>
      obtain ⟨v, q1, q2⟩ := q
      exact ⟨v, q1, q2.ca c⟩
  · have nb : b ≠ a := fun z => no i (z ▸ h)
    have := r.fr i b h
    have this : upd old.hp a (.frz o (.dT kvs)) b = none := this
    rw [upd_ne nb] at this
    exact this
  · by_cases hb : b = a
    · subst hb
      rw [upd_same, h0 x h]
    · rw [upd_ne hb]
      refine r.same b x ?_
      show upd old.hp a _ b = some x
      rw [upd_ne hb]
      exact h
  · by_cases hb : b = a
    · rw [hb, upd_same] at z
      cases z
    · rw [upd_ne hb] at z
      exact r.bt b h z
theorem RetR.unlockD {H0 : Hp} {v : V} {d : PyData} (e : H a = some (.frz o (.dT kvs))) (r : RetR K (upd H0 a (.frz o (.dT kvs))) H v d) : RetR K H0 (upd H a (.dT kvs)) v d := by
  have c : Ca K (fun _ => False) (fun _ => False) H (upd H a (.dT kvs)) := Ca.unlock e
  have f : ∀ b, upd H0 a (.frz o (.dT kvs)) b = none → b ≠ a ∧ H0 b = none := fun b h => by
    have nb : b ≠ a := fun z => by rw [z, upd_same] at h; cases h
    rw [upd_ne nb] at h
    exact ⟨nb, h⟩
  rcases r with ⟨h1, h2⟩ | ⟨ds, b, vs, h1, h2, h3, h4, h5, h6⟩ | ⟨l, b, h1, h2, h3, h4⟩
  · exact .inl ⟨h1, h2.ca c⟩
  · obtain ⟨nb, h4⟩ := f b h4
    exact .inr (.inl ⟨ds, b, vs, h1, h2, h3, h4, by rw [upd_ne nb]; exact h5, h6.ca c⟩)
  · obtain ⟨nb, h3⟩ := f b h3
    exact .inr (.inr ⟨l, b, h1, h2, h3, by rw [upd_ne nb]; exact h4⟩)
/-- the ends of a locked walk -/
def lockE (a : Addr) (o : Obj) (u : HO) (D : Ends) : Ends := ⟨fun σ' H' => H' a = some (.frz o u) ∧ D.nx σ' (upd H' a u), fun v H' => H' a = some (.frz o u) ∧ D.rt v (upd H' a u), fun σ' H' => H' a = some (.frz o u) ∧ D.bk σ' (upd H' a u), fun σ' H' => H' a = some (.frz o u) ∧ D.ct σ' (upd H' a u)⟩
theorem FR.lockD (h0 : ∀ x, old.hp a = some x → x = .dT kvs) {f : Fl} (q : FR K xa W B old D (noEx f)) : FR K xa W B ⟨upd old.hp a (.frz o (.dT kvs)), old.gv, old.gd⟩ (lockE a o (.dT kvs) D) f := by
  cases f with
  | nx η => exact fun O σ H r => ⟨(r.unlockD h0).1, q O σ _ (r.unlockD h0).2⟩
  | bk η => exact fun O σ H r => ⟨(r.unlockD h0).1, q O σ _ (r.unlockD h0).2⟩
  | ct η => exact fun O σ H r => ⟨(r.unlockD h0).1, q O σ _ (r.unlockD h0).2⟩
  | rt d =>
    intro v H s r
    have e : H a = some (.frz o (.dT kvs)) := s a _ upd_same
    refine ⟨e, q v _ (fun b x h => ?_) (r.unlockD e)⟩
    by_cases hb : b = a
    · subst hb
      rw [upd_same, h0 x h]
    · rw [upd_ne hb]
      refine s b x ?_
      show upd old.hp a _ b = some x
      rw [upd_ne hb]
      exact h
  | ex c η => exact q.elim
  | st => exact q
theorem FR.noEx {f : Fl} (q : FR K xa W B old D (noEx f)) : FR K xa W B old D f := by
  cases f with
  | ex c η => exact q.elim
  | _ => exact q
/-- the walk of a locked dict -/
theorem walk_d {l : Dl} {O : Ow} {H : Hp} {σ : L2.St} {η : Env} (i : Nat) (r : ER K B ⟨upd old.hp a (.frz o (.dT (dV l))), old.gv, old.gd⟩ O H σ η) :
    ((dkeys l).length ≤ i → (Itkt a o (dV l)).stop i H) ∧ ∀ d, (dkeys l)[i]? = some d → (Itkt a o (dV l)).go i H ∧ ∀ x H', (Itkt a o (dV l)).yld i H x H' → H' = H ∧ ∃ k, d = .tuple (k.map PyData.int) ∧ TkR H x k := by
  have e : H a = some (.frz o (.dT (dV l))) := r.same a _ upd_same
  have l1 : (dkeys l).length = l.length := List.length_map _
  have l2 : (dV l).length = l.length := List.length_map _
  refine ⟨fun h => ⟨e, by omega⟩, fun d hd => ?_⟩
  have hi := (List.getElem?_eq_some_iff.mp hd).1
  refine ⟨⟨e, by omega⟩, fun x H' y => ⟨y.1, ?_⟩⟩
  obtain ⟨_, k, v, q, e1, rfl, e2⟩ := y
  unfold dkeys at hd
  unfold dV at e1
  rw [List.getElem?_map] at hd e1
  cases ep : l[i]? with
  | none => rw [ep] at hd; cases hd
  | some p =>
    rw [ep] at hd e1
    cases hd
    cases e1
    exact ⟨p.1, rfl, q, rfl, by rw [← key_kV]; exact e2⟩
end
theorem dropD_ok {K : Fg} {B : Addr → Prop} {old : Old} {O : Ow} {H : Hp} {σ : L2.St} {η : Env} {i : Nat} {x : Val} {l : Dl} (r : ER K B old O H σ η) (e1 : slotV η i = .ok x) (e2 : x.d.dct = some l) :
    ∃ a O', σ[i]? = some (some (.ref a)) ∧ Rd H a (.dT (dV l)) ∧ ER K B old O' H σ (dropS η i) ∧ ∀ j, O' j ≠ some a := by
  unfold slotV at e1
  have nsh : ∀ {v : V} {d : PyData}, σ[i]? = some (some v) → Rp K (Own O B) H v d → PD.D.dct d = some l → dropS η i = η → ∃ a O', σ[i]? = some (some (.ref a)) ∧ Rd H a (.dT (dV l)) ∧ ER K B old O' H σ (dropS η i) ∧ ∀ j, O' j ≠ some a := by
    intro v d h1 h2 h3 h4
    rw [dct_inv h3] at h2
    generalize hd : dD l = d at h2
    cases h2 with
    | dct n h =>
      rename_i a l'
      have e1 : dctL (l.map fun p => (.tuple (p.1.map PyData.int), .int p.2)) = dctL (l'.map fun p => (.tuple (p.1.map PyData.int), .int p.2)) := by
        rw [PyData.dict.inj hd]
      rw [dctL_map, dctL_map] at e1
      cases e1
      exact ⟨a, O, h1, h, by rw [h4]; exact r, fun j z => n (.inl ⟨j, z⟩)⟩
    | exc h1 h2 =>
      cases l with
      | nil => cases hd
      | cons p l => cases hd
    | _ => cases hd
  split at e1
  · rename_i d hs
    cases e1
    obtain ⟨v, q1, q2⟩ := r.sl i _ hs
    exact nsh q1 q2 e2 (by unfold dropS; rw [hs])
  · cases e1
    cases e2
  · rename_i l' hs
    cases e1
    obtain ⟨a, q0, q1, q2⟩ := r.sl i _ hs
    have el : some l' = some l := by rw [← dct_dD l']; exact e2
    cases el
    refine ⟨a, minus O i, q1, .inl q2, r.drop i, fun j z => ?_⟩
    obtain ⟨h1, h2⟩ := minus_some z
    exact h1 (r.inj j i a h2 q0)
  · rename_i k hs
    cases e1
    cases k <;> cases e2
  · cases e1
theorem fod_any {i : Nat} {gt : TG} {tb : TS} {bd : D → Env → Fl}
    (body : ∀ B old O σ H η x d En', ER X.K B old O H σ η → (∃ k, d = .tuple (k.map PyData.int) ∧ TkR H x k) → FR X.K xa W B old En' (bd d η) → gt x σ H fun σ2 H2 => tb En' σ2 H2) :
    SndS X.K xa W (fun D σ H => tLock (tFor (iKeys (tVar i)) gt tb) D σ H ∨ tFor (iKeys (tVar i)) gt tb D σ H) (fun η => Fl.of η (slotV η i) fun x => Fl.on x.d.dct fun l => noEx (loopF bd (dkeys l) (dropS η i))) := by
  intro B old O σ H η D r q
  dsimp only at q
  cases e1 : slotV η i with
  | st => rw [e1] at q; exact q.elim
  | ex c =>
    unfold slotV at e1
    split at e1 <;> cases e1
  | ok x =>
    rw [e1] at q
    obtain ⟨l, e2, q⟩ := FR.on (show FR X.K xa W B old D (Fl.on x.d.dct fun l => noEx (loopF bd (dkeys l) (dropS η i))) from q)
    obtain ⟨a, O', h1, h2, r', no⟩ := dropD_ok r e1 e2
    rcases h2 with h2 | ⟨o, h2⟩
    · left
      refine ⟨a, .dT (dV l), h2, True.intro, fun od => ⟨_, h1, a, od, rfl, .inr ⟨dV l, upd_same, ?_⟩⟩⟩
      have h0 : ∀ x, old.hp a = some x → x = .dT (dV l) := fun x e => by
        have := r.same a x e
        rw [h2] at this
        exact (Option.some.inj this).symm
      exact for_okP (old := ⟨upd old.hp a (.frz od (.dT (dV l))), old.gv, old.gd⟩) (old' := ⟨upd old.hp a (.frz od (.dT (dV l))), old.gv, old.gd⟩) (fun O H x d => ∃ k, d = .tuple (k.map PyData.int) ∧ TkR H x k) rfl (fun _ _ _ _ r => r) (fun O σ H η i r => walk_d i r)
        (r'.lockD h2 no) (q.lockD (o := od) h0) (fun O σ H η x d En' r rx q => body _ _ O σ H η x d En' r rx q)
    · right
      refine ⟨_, h1, a, o, rfl, .inr ⟨dV l, h2, ?_⟩⟩
      exact for_okP (old := ⟨upd old.hp a (.frz o (.dT (dV l))), old.gv, old.gd⟩) (old' := ⟨upd old.hp a (.frz o (.dT (dV l))), old.gv, old.gd⟩) (fun O H x d => ∃ k, d = .tuple (k.map PyData.int) ∧ TkR H x k) rfl (fun _ _ _ _ r => r) (fun O σ H η i r => walk_d i r)
        (r'.held h2) (q.noEx.moreOld (same_held r.same h2)) (fun O σ H η x d En' r rx q => body _ _ O σ H η x d En' r rx q)
theorem f_fod {v i : Nat} {b : S} (ihb : SSs T M xa b) : SS T M xa (.fod v i b) := by
  intro X W st g h
  unfold okS at h
  split at h
  · rename_i y py x px body pos
    simp only [Bool.and_eq_true] at h
    obtain ⟨⟨⟨h1, h2⟩, h3⟩, h4⟩ := h
    obtain ⟨tb, pb, sb⟩ := ihb X W _ g h4
    have pf := ps_for (pos := pos) g.po g.calm (pi_keys (tg := .Name y py) (pe_nm (p := px) g h2 h3)) (pg_name g.nd (nameB_of h1).1 (nameB_of h1).2 (.inl (g.fnT y))) pb (fun _ => rfl)
    refine ⟨_, ps_or (ps_lock pf) pf, ?_⟩
    have e : exS T (.fod v i b) = fun η => Fl.of η (slotV η i) fun x => Fl.on x.d.dct fun l => noEx (loopF (fun d η => Fl.on (keyOf d) fun k => Fl.on (setK η v (.tk k)) (exS T b)) (dkeys l) (dropS η i)) := by
      funext η
      rw [exS]
    rw [e]
    refine fod_any fun B old O σ H η x d En' r rx q => ?_
    obtain ⟨k, rfl, tk⟩ := rx
    obtain ⟨k', e1, q⟩ := q.on
    have ek : some k = some k' := by rw [← intsOf_map k]; exact e1
    cases ek
    obtain ⟨η', e2, q⟩ := q.on
    obtain ⟨hi, rfl⟩ := setK_ok e2
    exact sb _ _ _ _ _ _ _ (r.setKk (k := .tk k) hi tk) q
  · cases h
theorem f_fodT {vs : List Nat} {i : Nat} {b : S} (ihb : SSs T M xa b) : SS T M xa (.fodT vs i b) := by
  intro X W st g h
  unfold okS at h
  split at h
  · rename_i ts k py x px body pos
    simp only [Bool.and_eq_true] at h
    obtain ⟨⟨⟨h1, h2⟩, h3⟩, h4⟩ := h
    obtain ⟨tb, pb, sb⟩ := ihb X W _ g h4
    obtain ⟨l1, l2⟩ := names_each (env := X.env) h1
    have pf := ps_for (pos := pos) g.po g.calm (pi_keys (tg := .Tuple ts k py) (pe_nm (p := px) g h2 h3)) (pg_tup g.calm (pgs_names g h1) l1 l2) pb (fun _ => rfl)
    refine ⟨_, ps_or (ps_lock pf) pf, ?_⟩
    have e : exS T (.fodT vs i b) = fun η => Fl.of η (slotV η i) fun x => Fl.on x.d.dct fun l => noEx (loopF (fun d η => Fl.on (tupOf (.cl d)) fun ds => Fl.on (asgL η vs ds) (exS T b)) (dkeys l) (dropS η i)) := by
      funext η
      rw [exS]
    rw [e]
    refine fod_any fun B old O σ H η x d En' r rx q => ?_
    obtain ⟨k, rfl, tk⟩ := rx
    obtain ⟨ds, e1, q⟩ := q.on
    cases e1
    obtain ⟨η', e2, q⟩ := q.on
    obtain ⟨a, rfl, ht⟩ := tk
    have el := asgL_len e2
    rw [List.length_map] at el
    exact ⟨a, _, rfl, SqT.of ht, by rw [List.length_map]; exact el.symm, asgL_ok r (RpAll.ints k) e2 fun O' σ' r' => sb _ _ _ _ _ _ _ r' q⟩
  · cases h
/-! ### all statements -/
theorem stmts : ∀ x : S, SS T M xa x ∧ SSs T M xa x := by
  have no : ∀ {x : S}, (∀ N sc sts, okSs M N sc sts x = false) → SSs T M xa x := fun h X W st g k => by rw [h] at k; cases k
  intro x
  induction x with
  | skip => exact ⟨f_skip, f_nil⟩
  | seq a b iha ihb => exact ⟨fun X W st g k => Bool.noConfusion (show false = true from k), f_seq iha.1 ihb.2⟩
  | asg i e => exact ⟨f_asg, no fun _ _ _ => rfl⟩
  | asgT is e => exact ⟨f_asgT, no fun _ _ _ => rfl⟩
  | asgN is e => exact ⟨f_asgN, no fun _ _ _ => rfl⟩
  | par i j a b => exact ⟨f_par, no fun _ _ _ => rfl⟩
  | put i k e => exact ⟨f_put, no fun _ _ _ => rfl⟩
  | aput i o k e => exact ⟨f_aput, no fun _ _ _ => rfl⟩
  | aug i o e => exact ⟨f_aug, no fun _ _ _ => rfl⟩
  | app i e => exact ⟨f_app, no fun _ _ _ => rfl⟩
  | pop i => exact ⟨f_pop, no fun _ _ _ => rfl⟩
  | popA j i => exact ⟨f_popA, no fun _ _ _ => rfl⟩
  | asgP j e i => exact ⟨f_asgP, no fun _ _ _ => rfl⟩
  | popT js i => exact ⟨f_popT, no fun _ _ _ => rfl⟩
  | ex e => exact ⟨f_ex, no fun _ _ _ => rfl⟩
  | ret e => exact ⟨f_ret, no fun _ _ _ => rfl⟩
  | ret0 => exact ⟨f_ret0, no fun _ _ _ => rfl⟩
  | ite c a b iha ihb => exact ⟨f_ite iha.2 ihb.2, no fun _ _ _ => rfl⟩
  | wh c b ih => exact ⟨f_wh ih.2, no fun _ _ _ => rfl⟩
  | fo v it b ih => exact ⟨f_fo ih.2, no fun _ _ _ => rfl⟩
  | foT vs it b ih => exact ⟨f_foT ih.2, no fun _ _ _ => rfl⟩
  | brk => exact ⟨f_brk, no fun _ _ _ => rfl⟩
  | cnt => exact ⟨f_cnt, no fun _ _ _ => rfl⟩
  | rai c => exact ⟨f_rai, no fun _ _ _ => rfl⟩
  | tryN b x h ihb ihh => exact ⟨f_tryN ihb.2, no fun _ _ _ => rfl⟩
  | tryA b x i h ihb => exact ⟨f_tryA ihb.2, no fun _ _ _ => rfl⟩
  | tryK b x i j ihb => exact ⟨f_tryK ihb.2, no fun _ _ _ => rfl⟩
  | asgQ is js e => exact ⟨f_asgQ, no fun _ _ _ => rfl⟩
  | fod v i b ih => exact ⟨f_fod ih.2, no fun _ _ _ => rfl⟩
  | fodT vs i b ih => exact ⟨f_fodT ih.2, no fun _ _ _ => rfl⟩
  | asgK i es => exact ⟨f_asgK, no fun _ _ _ => rfl⟩
  | asgKs i ks => exact ⟨f_asgKs, no fun _ _ _ => rfl⟩
  | dputE i es e => exact ⟨f_dputE, no fun _ _ _ => rfl⟩
  | dputV i j e => exact ⟨f_dputV, no fun _ _ _ => rfl⟩
  | dputI i j k e => exact ⟨f_dputI, no fun _ _ _ => rfl⟩
end
end PD

/-! PD8: defs, a program's table, the law's call. -/
namespace PD
open PySem PySem.Spec PyProof.Rows L2

/-- a def: its name, its names (parameters first), how many parameters, its body -/
structure Fi where
  name : Str
  N : List Str
  np : Nat
  body : S
structure Pr where
  fs : List Fi
  gl : List (Str × D)
  ex : List Str
  ct : List Nat
  hx : Bool
  on : Bool
def Pr.nx (p : Pr) : Nx where
  fn := fun f => (p.fs[f]?).map fun fi => (fi.name, fi.np)
  gl := fun g => (p.gl[g]?).map (·.1)
  ex := fun c => p.ex[c]?
  ct := fun c => if c ∈ p.ct then p.ex[c]? else none
  hx := p.hx
  on := p.on
def env0 (fi : Fi) (ds : List D) : Env := (ds.map fun d => some (.sh d)) ++ List.replicate (fi.N.length - fi.np) none
def finF : Fl → Res D
  | .nx _ => .ok .none
  | .rt d => .ok d
  | .ex c _ => .ex c
  | _ => .st
noncomputable def runF (p : Pr) : Nat → Nat → List D → Res D
  | 0, _, _ => .st
  | n + 1, f, ds => match p.fs[f]? with
    | none => .st
    | some fi => if ds.length = fi.np then finF (exS ⟨runF p n, fun g => (p.gl[g]?).map (·.2), p.ex⟩ fi.body (env0 fi ds)) else .st
noncomputable def tbl (p : Pr) (n : Nat) : Tb := ⟨runF p n, fun g => (p.gl[g]?).map (·.2), p.ex⟩
theorem runF_eq (p : Pr) (n f : Nat) (fi : Fi) (ds : List D) (h : p.fs[f]? = some fi) (hl : ds.length = fi.np) : runF p (n + 1) f ds = finF (exS (tbl p n) fi.body (env0 fi ds)) := by
  rw [runF, h]
  dsimp only
  rw [if_pos hl]
  rfl
/-- a def of the text is the one of the table -/
def nodupB : List Str → Bool
  | [] => true
  | x :: xs => !(xs.contains x) && nodupB xs
def defOk (p : Pr) (st : Stmt) (fi : Fi) : Bool :=
  (match (defScope st).kind with | .function => true | _ => false) && !(defScope st).isCoroutine && !(defScope st).isGenerator && nodupB fi.N && decide (fi.np ≤ fi.N.length) &&
    ((fi.N.take fi.np).all fun x => locB (defScope st) x) && ((defScope st).names.all fun y => match y.2 with | .free => false | _ => true) && okSs p.nx fi.N (defScope st) (defBody st) fi.body
theorem nodup_of : ∀ {xs : List Str}, nodupB xs = true → xs.Nodup
  | [], _ => List.nodup_nil
  | x :: xs, h => by
    simp only [nodupB, Bool.and_eq_true, Bool.not_eq_true'] at h
    refine List.nodup_cons.mpr ⟨fun m => ?_, nodup_of h.2⟩
    have q := h.1
    rw [List.contains_iff_mem.mpr m] at q
    cases q
theorem scope_of {p : Pr} {st : Stmt} {fi : Fi} (h : defOk p st fi = true) : FnScope fi.N (fi.N.take fi.np) (defScope st) ∧ fi.np ≤ fi.N.length ∧ okSs p.nx fi.N (defScope st) (defBody st) fi.body = true := by
  unfold defOk at h
  simp only [Bool.and_eq_true, Bool.not_eq_true', decide_eq_true_eq, List.all_eq_true] at h
  obtain ⟨⟨⟨⟨⟨⟨⟨h1, h2⟩, h3⟩, h4⟩, h5⟩, h6⟩, h7⟩, h8⟩ := h
  refine ⟨⟨?_, h2, h3, nodup_of h4, ?_, fun x hx => loc_of (h6 x hx), fun y hy z => ?_⟩, h5, h8⟩
  · split at h1
    · assumption
    · cases h1
  · rw [List.length_take, Nat.min_eq_left h5]
  · have := h7 y hy
    rw [z] at this
    cases this

def scopeOk (st : Stmt) (N : List Str) (np : Nat) : Bool :=
  (match (defScope st).kind with | .function => true | _ => false) && !(defScope st).isCoroutine && !(defScope st).isGenerator && nodupB N && decide (np ≤ N.length) &&
    ((N.take np).all fun x => locB (defScope st) x) && ((defScope st).names.all fun y => match y.2 with | .free => false | _ => true)
theorem scopeOk_of {st : Stmt} {N : List Str} {np : Nat} (h : scopeOk st N np = true) : FnScope N (N.take np) (defScope st) := by
  unfold scopeOk at h
  simp only [Bool.and_eq_true, Bool.not_eq_true', decide_eq_true_eq, List.all_eq_true] at h
  obtain ⟨⟨⟨⟨⟨⟨h1, h2⟩, h3⟩, h4⟩, h5⟩, h6⟩, h7⟩ := h
  refine ⟨?_, h2, h3, nodup_of h4, ?_, fun x hx => loc_of (h6 x hx), fun y hy z => ?_⟩
  · split at h1
    · assumption
    · cases h1
  · rw [List.length_take, Nat.min_eq_left h5]
  · have := h7 y hy
    rw [z] at this
    cases this

section
variable {P : Program} {w : World} {K : Fg} {mg : Str → Option Value} {base : Heap} {xa : Nat → Addr} {p : Pr}
/-- the def is there -/
def FunAt (K : Fg) (mg : Str → Option Value) (x : Str) (st : Stmt) (ps : List Str) (f : Addr) (fd : FuncData) : Prop := Fun K x x st f fd ∧ mg x = some (.ref f) ∧ L2.Binds K fd ps []
/-- what the written part says -/
structure Fx (K : Fg) (mg : Str → Option Value) (xa : Nat → Addr) (p : Pr) : Prop where
  fn : ∀ (f : Nat) (fi : Fi), p.fs[f]? = some fi → ∃ st a fd, FunAt K mg fi.name st (fi.N.take fi.np) a fd ∧ defOk p st fi = true
  blt : ∀ x ∈ bltNames, mg x = none
  gl : ∀ (g : Nat) (y : Str) (d : D), p.gl[g]? = some (y, d) → ∃ v u, mg y = some u ∧ RelV v u ∧ ∀ A H, Rp K A H v d
  exc : ∀ (c : Nat) (x : Str), p.ex[c]? = some x → mg x = some (.ref (xa c)) ∧ PySem.W.keepIn K (.ref (xa c)) = true ∧ PySem.W.excIn K (xa c) [.type "ValueError", .type "Exception", .type "BaseException", .type "object"] "ValueError.__new__" = true ∧
    PySem.W.subIn K (.ref (xa c)) (.type "BaseException") = some true ∧ PySem.W.typeIn K (.ref (xa c)) = some (.type "type") ∧ PySem.W.nsIn K mainGlobals x = some (some (.ref (xa c)))
  ctc : ∀ x ∈ p.ct, ∀ c, PySem.W.exmOne K (.ref (xa c)) (.ref (xa x)) = some (subX c x)
  hx : p.hx = true → mg "ValueError" = none ∧ ∀ c, ExcC K (xa c) ∧ PySem.W.kitOne K (.ref (xa c)) (.type "ValueError") = some true ∧ ∀ j y, p.ex[j]? = some y → PySem.W.kitOne K (.ref (xa c)) (.ref (xa j)) = some (subX c j)
  on : p.on = true → p.hx = true ∧ ∃ st f fd, Fun K "_law_only" "_law_only" st f fd ∧ mg "_law_only" = some (.ref f) ∧ L2.Binds K fd ["_law_e", "_law_at"] [] ∧ PySem.W.keepIn K (.ref f) = true ∧
    FnScope ["_law_e", "_law_at", "_law_kinds", "_law_k"] ["_law_e", "_law_at"] (defScope st) ∧ okOnly p.nx st = true
theorem er0 {fi : Fi} {H : Hp} {vs : List V} {ds : List D} (h5 : fi.np ≤ fi.N.length) (hl : vs.length = fi.np) (ra : RpAll K (fun _ => False) H vs ds) :
    ER K (fun _ => False) ⟨H, [], []⟩ (fun _ => none) H (L2.start fi.N vs) (env0 fi ds) where
  len := by
    have := ra.length
    unfold L2.start env0
    simp only [List.length_append, List.length_map, List.length_replicate]
    omega
  sl := fun i s e => by
    have hl2 := ra.length
    unfold env0 at e
    by_cases hi : i < ds.length
    · rw [List.getElem?_append_left (by simpa using hi), List.getElem?_map] at e
      cases ed : ds[i]? with
      | none => rw [ed] at e; cases e
      | some d =>
        rw [ed] at e
        cases e
        obtain ⟨v, e1, e2⟩ := ra.get ed
        refine ⟨v, ?_, e2.ca (Ca.less fun a z => ?_)⟩
        · unfold L2.start
          rw [List.getElem?_append_left (by simpa [hl2] using hi), List.getElem?_map, e1]
          rfl
        · rcases z with ⟨k, z⟩ | z
          · cases z
          · exact z
    · rw [List.getElem?_append_right (by simpa using hi), List.getElem?_replicate] at e
      split at e <;> cases e
  dom := fun i a e => nomatch e
  inj := fun i j a e _ => nomatch e
  disj := fun i a e => nomatch e
  fr := fun i a e => nomatch e
  same := Same.refl H
  bt := fun a z => z.elim
  gh := .nil
theorem okN {CX : CXT} {P : Program} {w : World} {K : PySem.W.Frag} {mg : Str → Option Value} {base : Heap} {x qual : Str} {st : Stmt} {f : Addr} {fd : FuncData} {N ps : List Str} {k : Nat} {sp : Sp} (F : Fun K x qual st f fd) (S : FnScope N ps (defScope st)) (len : ∀ vs H Q E, sp vs H Q E → vs.length = ps.length)
    (hbody : ∀ (cdv : Value) (A : Around) (outer : List PySem.Env) (s : Shared) (H : Hp) (vs : List V) (Q : VK) (E : XK), Room k (A.deeper (envOfC qual (defScope st) s.heap.objs.size f cdv)) → sp vs H Q E →
      ∃ t, PSs (cxOf CX P w K mg base N qual (defScope st) f cdv A outer s H E) (defBody st) t ∧ t { nx := fun _ H' => Q .non H', rt := Q } (L2.start N vs) H) : FnOk P w K mg base CX (k + 1) f fd ps sp := by
  obtain ⟨oc, od, kV, doc, pm, an, cdv, ct, osl, rfl, lk, hcd⟩ := F.ex
  exact fn_of lk hcd S len fun A outer s H vs Q E hr hsp => hbody cdv A outer s H vs Q E hr hsp
/-- THE THEOREM: each def of the table keeps what the table tells, so deep as n -/
theorem defs_main (F : Fx K mg xa p) (htr : P.given.tree = none) (hns : base.NoSeer) : ∀ (n f : Nat) (fi : Fi) (st : Stmt) (a : Addr) (fd : FuncData), p.fs[f]? = some fi → FunAt K mg fi.name st (fi.N.take fi.np) a fd → defOk p st fi = true → FnOk P w K mg base (L2N.CX P w) (n + 40) a fd (fi.N.take fi.np) (spD K xa fi.np (runF p n f)) := by
  intro n
  induction n with
  | zero =>
    intro f fi st a fd hf hA hd
    obtain ⟨_, h5, _⟩ := scope_of hd
    refine ⟨fun vs H Q E h => by rw [h.1, List.length_take, Nat.min_eq_left h5], fun A outer s H args us vs Q E hr he hb hv hs => ?_⟩
    obtain ⟨_, ds, _, k⟩ := hs
    exact False.elim k
  | succ n ih =>
    intro f fi st a fd hf hA hd
    obtain ⟨hF, hm, hB⟩ := hA
    obtain ⟨S, h5, hb⟩ := scope_of hd
    refine okN hF S (fun vs H Q E h => by rw [h.1, List.length_take, Nat.min_eq_left h5]) (fun cdv A outer s H vs Q E hr h => ?_)
    obtain ⟨hl, ds, ra, q⟩ := h
    have g : GS (tbl p n) p.nx xa (cxOf (L2N.CX P w) P w K mg base fi.N fi.name (defScope st) a cdv A outer s H E) (fun cls d _ H => E cls d H) :=
      { calm := rfl
        nd := S.nd
        blt := F.blt
        lv := ⟨n + 40, hr, by omega, fun f' y m e => by
          show ∃ a fd ps, mg y = some (.ref a) ∧ PySem.W.keepIn K (.ref a) = true ∧ L2.Binds K fd ps [] ∧ FnOk P w K mg base (L2N.CX P w) (n + 40) a fd ps (spD K xa m (runF p n f'))
          have e : (p.fs[f']?).map (fun fi => (fi.name, fi.np)) = some (y, m) := e
          cases e2 : p.fs[f']? with
          | none => rw [e2] at e; cases e
          | some fi' =>
            rw [e2] at e
            cases e
            obtain ⟨st', a', fd', hA', hd'⟩ := F.fn f' fi' e2
            exact ⟨a', fd', _, hA'.2.1, hA'.1.kp, hA'.2.2, ih f' fi' st' a' fd' e2 hA' hd'⟩⟩
        gl := fun gi y e => by
          have e : (p.gl[gi]?).map (·.1) = some y := e
          cases e2 : p.gl[gi]? with
          | none => rw [e2] at e; cases e
          | some yd =>
            rw [e2] at e
            cases e
            obtain ⟨v, u, m1, m2, m3⟩ := F.gl gi yd.1 yd.2 e2
            exact ⟨v, u, yd.2, m1, m2, by show (p.gl[gi]?).map (·.2) = _; rw [e2]; rfl, m3⟩
        tk := L2N.takes_of rfl rfl rfl rfl
        po := passes_of rfl
        fnT := fun _ => rfl
        bk := by
          show (if (defScope st).kind.isAnnotationScope then ScopeKind.function else (defScope st).kind) = .function
          rw [S.kind]
          rfl
        stk := rfl
        frm := rfl
        py := ⟨hns, htr, by have z : (A.deeper (envOfC fi.name (defScope st) s.heap.objs.size a cdv)).depth + 3 * (n + 40) + 5 < recursionLimit := hr.dp; show (A.deeper (envOfC fi.name (defScope st) s.heap.objs.size a cdv)).depth + 100 < recursionLimit; omega, _, _, rfl, S.gen, S.co, rfl, rfl⟩
        exc := fun c x e => by
          obtain ⟨a, b, c, d, f, _⟩ := F.exc c x e
          exact ⟨a, b, c, d, f⟩
        hx := F.hx
        exm := fun c x e => (F.exc c x e).1
        exn := fun c x e => (F.exc c x e).2.2.2.2.2
        on := F.on
        ctc := fun x y e => by
          have e : (if x ∈ p.ct then p.ex[x]? else none) = some y := e
          split at e
          · rename_i hx
            exact ⟨(F.exc x y e).1, F.ctc x hx⟩
          · cases e }
    obtain ⟨t, pt, st'⟩ := (stmts fi.body).2 _ _ _ g hb
    refine ⟨t, pt, st' _ _ _ _ _ _ _ (er0 h5 hl ra) ?_⟩
    have hl2 : ds.length = fi.np := by rw [← ra.length]; exact hl
    rw [runF_eq p n f fi ds hf hl2] at q
    revert q
    cases exS (tbl p n) fi.body (env0 fi ds) with
    | nx η => exact fun q O σ H' r => q .non H' r.same (.inl ⟨rfl, .non⟩)
    | rt d => exact fun q v H' s r => q v H' s r
    | ex c η => exact fun q O σ H' r => q H' r.same
    | bk η => exact fun q => False.elim q
    | ct η => exact fun q => False.elim q
    | st => exact fun q => False.elim q
end
theorem la_of {K : Fg} {H : Hp} {a : Addr} {xs : List V} (h : SqL K H a xs) : LA K (fun _ => False) H a xs := by
  rcases h with h | h
  · exact .inl ⟨id, h⟩
  · exact .inr (.inr h)
/-- the law's call, by the table -/
theorem law_ok {K : Fg} {xa : Nat → Addr} {p : Pr} {n f : Nat} {H : Hp} {a : Addr} {ns : List Int} (hS : SqL K H a (ns.map V.int)) (h : runF p n f [.list (ns.map PyData.int)] = .ok (.bool true)) :
    spD K xa 1 (runF p n f) [.ref a] H (fun v _ => v = .bl true) fun _ _ _ => False := by
  refine ⟨rfl, [.list (ns.map PyData.int)], .cons (.lst (la_of hS) (RpAll.ints ns)) .nil, ?_⟩
  rw [h]
  intro v H' s r
  rcases r with ⟨_, r⟩ | ⟨ds, _, _, e, _⟩ | ⟨l, _, e, _⟩
  · cases r
    rfl
  · cases e
  · cases e
end PD

/-! PD9: what the top has written, gathered. -/
namespace PD
open PySem PySem.Spec PyProof.Rows L2
section
variable {K : Fg} {mg : Str → Option Value} {h : Heap} {p : Pr}
theorem funAt {x : Str} {st : Stmt} {ps : List Str} {f : Addr} {od an : Option Addr} {sl : Array (Option Value)} {oc kV dc pm cd ct : Value} (X : K.In h) (G : h.Ns mainGlobals mg)
    (a : PySem.W.nsIn K mainGlobals x = some (some (.ref f))) (l : K.lookup f = some ⟨oc, od, .func (PySem.W.fnOf x x (defArgs st) (defBody st) (defScope st) .none kV dc pm an cd ct), sl⟩) (c : PySem.W.codeIn K cd x = true) (k : PySem.W.keepIn K (.ref f) = true)
    (hb : ∀ (kV doc pm : Value) (an : Option Addr) (cdv ct : Value) (us : List Value), us.length = ps.length → bindArgs (PySem.W.fnOf x x (defArgs st) (defBody st) (defScope st) .none kV doc pm an cdv ct) ⟨us, []⟩ = pure (ps.zip us)) :
    ∃ a fd, FunAt K mg x st ps a fd := ⟨f, _, fun_mk l c k, PySem.W.mg_of X G a, (fun_mk l c k).binds hb⟩
def AllF (K : Fg) (mg : Str → Option Value) (p : Pr) : List Fi → List Stmt → Prop
  | [], [] => True
  | fi :: fs, st :: sts => ((∃ a fd, FunAt K mg fi.name st (fi.N.take fi.np) a fd) ∧ defOk p st fi = true) ∧ AllF K mg p fs sts
  | _, _ => False
theorem AllF.get : ∀ {fs : List Fi} {sts : List Stmt}, AllF K mg p fs sts → ∀ (f : Nat) (fi : Fi), fs[f]? = some fi → ∃ st a fd, FunAt K mg fi.name st (fi.N.take fi.np) a fd ∧ defOk p st fi = true
  | [], [], _, f, fi, e => by simp at e
  | x :: fs, st :: sts, h, 0, fi, e => by
    simp at e
    subst e
    obtain ⟨⟨⟨a, fd, h1⟩, h2⟩, _⟩ := h
    exact ⟨st, a, fd, h1, h2⟩
  | x :: fs, st :: sts, h, f + 1, fi, e => AllF.get h.2 f fi (by simpa using e)
  | _ :: _, [], h, _, _, _ => h.elim
def NoneAll (mg : Str → Option Value) : List Str → Prop
  | [] => True
  | x :: xs => mg x = none ∧ NoneAll mg xs
theorem NoneAll.get : ∀ {xs : List Str}, NoneAll mg xs → ∀ x ∈ xs, mg x = none
  | x :: xs, h, y, hy => by
    rcases List.mem_cons.mp hy with e | e
    · subst e; exact h.1
    · exact NoneAll.get h.2 y e
/-- the law's own def, as the end wants it -/
theorem lawAt {P : Program} {w : World} {CX : CXT} {fa : Addr} {x : Str} {xa : Nat → Addr} {st : Stmt} {n f : Nat} {fi : Fi} (F : Fx K mg xa p) (htr : P.given.tree = none) (hf : p.fs[f]? = some fi) (hn : fi.name = "law") (hx : fi.N.take fi.np = [x]) (hm : mg "law" = some (.ref fa))
    (hp : fi.np = 1) (hA : ∃ a fd, FunAt K mg fi.name st (fi.N.take fi.np) a fd)
    (hb : ∀ (kV doc pm : Value) (an : Option Addr) (cdv ct : Value) (s : Shared) (u : Value), BindsTo s (PySem.W.fnOf fi.name fi.name (defArgs st) (defBody st) (defScope st) .none kV doc pm an cdv ct) ⟨[u], []⟩ [(x, u)]) (hd : defOk p st fi = true) :
    ∃ fd : FuncData, (∀ (s : Shared) (u : Value), BindsTo s fd ⟨[u], []⟩ [(x, u)]) ∧ ∀ base : Heap, K.In base → base.Ns mainGlobals mg → base.NoSeer → FnOk P w K mg base (L2N.CX P w) (n + 40) fa fd [x] (spD K xa 1 (runF p n f)) := by
  obtain ⟨a, fd, hA⟩ := hA
  obtain ⟨hF, h2, h3⟩ := id hA
  have e : a = fa := by
    rw [hn] at h2
    rw [h2] at hm
    cases hm
    rfl
  subst e
  obtain ⟨oc, od, kV, doc, pm, an, cdv, ct, osl, e2, _, _⟩ := hF.ex
  refine ⟨fd, fun s u => by rw [e2]; exact hb kV doc pm an cdv ct s u, fun base _ _ hns => ?_⟩
  have q := defs_main (P := P) (w := w) (base := base) F htr hns n f fi st a fd hf hA hd
  rw [hx, hp] at q
  exact q

/-- the law's promise: it ends, nothing is raised -/
def spL (K : Fg) (n : Nat) (g : List D → Res D) : Sp := fun vs H Q _ => vs.length = n ∧ ∃ ds, RpAll K (fun _ => False) H vs ds ∧ ∃ d, g ds = .ok d ∧ ∀ v H', Same H H' → RetR K H H' v d → Q v H'
theorem spL_spD {xa : Nat → Addr} {n : Nat} {g : List D → Res D} {vs : List V} {H : Hp} {Q : VK} {E : XK} (h : spL K n g vs H Q E) : spD K xa n g vs H Q E := by
  obtain ⟨h1, ds, h2, d, h3, h4⟩ := h
  refine ⟨h1, ds, h2, ?_⟩
  rw [h3]
  exact h4
theorem law_okL {n f : Nat} {H : Hp} {a : Addr} {ns : List Int} (hS : SqL K H a (ns.map V.int)) (h : runF p n f [.list (ns.map PyData.int)] = .ok (.bool true)) :
    spL K 1 (runF p n f) [.ref a] H (fun v _ => v = .bl true) fun _ _ _ => False := by
  refine ⟨rfl, [.list (ns.map PyData.int)], .cons (.lst (la_of hS) (RpAll.ints ns)) .nil, _, h, ?_⟩
  intro v H' s r
  rcases r with ⟨_, r⟩ | ⟨ds, _, _, e, _⟩ | ⟨l, _, e, _⟩
  · cases r
    rfl
  · cases e
  · cases e
theorem lawL {P : Program} {w : World} {fa : Addr} {x : Str} {xa : Nat → Addr} {st : Stmt} {n f : Nat} {fi : Fi} (F : Fx K mg xa p) (htr : P.given.tree = none) (hf : p.fs[f]? = some fi) (hn : fi.name = "law") (hx : fi.N.take fi.np = [x]) (hm : mg "law" = some (.ref fa))
    (hp : fi.np = 1) (hA : ∃ a fd, FunAt K mg fi.name st (fi.N.take fi.np) a fd)
    (hb : ∀ (kV doc pm : Value) (an : Option Addr) (cdv ct : Value) (s : Shared) (u : Value), BindsTo s (PySem.W.fnOf fi.name fi.name (defArgs st) (defBody st) (defScope st) .none kV doc pm an cdv ct) ⟨[u], []⟩ [(x, u)]) (hd : defOk p st fi = true) :
    ∃ fd : FuncData, (∀ (s : Shared) (u : Value), BindsTo s fd ⟨[u], []⟩ [(x, u)]) ∧ ∀ base : Heap, K.In base → base.Ns mainGlobals mg → base.NoSeer → FnOk P w K mg base (L2N.CX P w) (n + 40) fa fd [x] (spL K 1 (runF p n f)) := by
  obtain ⟨fd, h1, h2⟩ := lawAt (P := P) (w := w) (CX := L2N.CX P w) (n := n) F htr hf hn hx hm hp hA hb hd
  exact ⟨fd, h1, fun base k1 k2 k3 => (h2 base k1 k2 k3).imp fun vs H Q E q => spL_spD q⟩
end
end PD

namespace PD
open PySem PySem.Spec PyProof.Rows L2
/-! ### the call, with what great divisions want -/
theorem seer_list {h : Heap} (n : h.NoSeer) : ∃ l : Fg, (∀ p ∈ l, h.get? p.1 = some p.2 ∧ ((∃ es ep, p.2.data = .dict es ep) ∨ p.2.cls = .type "module")) ∧ ∀ h' : Heap, (∀ p ∈ l, h'.get? p.1 = some p.2) → h'.NoSeer := by
  obtain ⟨mc, ⟨o1, e1, p1, g1, d1, r1⟩, c1, c2⟩ := n.statics
  obtain ⟨mm, ⟨o2, e2, p2, g2, d2, r2⟩, m1⟩ := n.mods
  obtain ⟨mb, ⟨o3, e3, p3, g3, d3, r3⟩, b1⟩ := n.imp
  obtain ⟨mg, bm, ob, ⟨o4, e4, p4, g4, d4, r4⟩, q1, q2, q3, q4⟩ := n.main
  refine ⟨[(cStatics, o1), (sysModules, o2), (builtinsNs, o3), (mainGlobals, o4), (bm, ob)], fun p hp => ?_, fun h' k => ⟨⟨mc, ⟨o1, e1, p1, k (cStatics, o1) (.head _), d1, r1⟩, c1, c2⟩, ⟨mm, ⟨o2, e2, p2, k (sysModules, o2) (.tail _ (.head _)), d2, r2⟩, m1⟩, ⟨mb, ⟨o3, e3, p3, k (builtinsNs, o3) (.tail _ (.tail _ (.head _))), d3, r3⟩, b1⟩, ⟨mg, bm, ob, ⟨o4, e4, p4, k (mainGlobals, o4) (.tail _ (.tail _ (.tail _ (.head _)))), d4, r4⟩, q1, k (bm, ob) (.tail _ (.tail _ (.tail _ (.tail _ (.head _))))), q3, q4⟩⟩⟩
  simp only [List.mem_cons, List.not_mem_nil, or_false] at hp
  rcases hp with rfl | rfl | rfl | rfl | rfl
  · exact ⟨g1, .inl ⟨_, _, d1⟩⟩
  · exact ⟨g2, .inl ⟨_, _, d2⟩⟩
  · exact ⟨g3, .inl ⟨_, _, d3⟩⟩
  · exact ⟨g4, .inl ⟨_, _, d4⟩⟩
  · exact ⟨q2, .inr q3⟩
theorem look_mem {l : Fg} {p : Addr × Obj} (hp : p ∈ l) : ∃ u, l.lookup p.1 = some u := by
  induction l with
  | nil => exact absurd hp (List.not_mem_nil)
  | cons q l ih =>
    rw [List.lookup_cons]
    by_cases hb : (p.1 == q.1) = true
    · rw [hb]; exact ⟨_, rfl⟩
    · rw [Bool.not_eq_true] at hb
      rw [hb]
      rcases List.mem_cons.mp hp with e | e
      · subst e
        rw [beq_self_eq_true] at hb
        exact Bool.noConfusion hb
      · exact ih e
theorem look_of {l : Fg} {b : Addr} {o : Obj} (e : l.lookup b = some o) : (b, o) ∈ l := by
  induction l with
  | nil => simp at e
  | cons q l ih =>
    rw [List.lookup_cons] at e
    by_cases hb : (b == q.1) = true
    · rw [hb] at e
      have e2 : q.2 = o := Option.some.inj e
      have h1 := beq_iff_eq.mp hb
      have : (b, o) = q := by rw [h1, ← e2]
      rw [this]
      exact .head _
    · rw [Bool.not_eq_true] at hb
      rw [hb] at e
      exact .tail _ (ih e)
theorem app_look {l K : Fg} {b : Addr} {o : Obj} (e : (l ++ K).lookup b = some o) : (b, o) ∈ l ∨ K.lookup b = some o := by
  rw [List.lookup_append] at e
  cases q : l.lookup b with
  | some u => rw [q] at e; cases e; exact .inl (look_of q)
  | none => rw [q] at e; exact .inr e
theorem in_add {l K : Fg} {h : Heap} (KX : K.In h) (hl : ∀ p ∈ l, h.get? p.1 = some p.2) : (l ++ K).In h := fun b o e => (app_look e).elim (fun m => hl _ m) fun q => KX b o q
theorem in_back {l K : Fg} {h h' : Heap} (KX : K.In h) (hl : ∀ p ∈ l, h.get? p.1 = some p.2) (X : (l ++ K).In h') : K.In h' ∧ ∀ p ∈ l, h'.get? p.1 = some p.2 := by
  have Y := in_add KX hl
  refine ⟨fun b o e => ?_, fun p hp => ?_⟩
  · have : ∃ u, (l ++ K).lookup b = some u := by
      rw [List.lookup_append, e]
      cases l.lookup b with
      | none => exact ⟨_, rfl⟩
      | some u => exact ⟨_, rfl⟩
    obtain ⟨u, hu⟩ := this
    have e1 := Y b u hu
    rw [KX b o e] at e1
    cases e1
    exact X b o hu
  · have : ∃ u, (l ++ K).lookup p.1 = some u := by
      obtain ⟨u, hu⟩ := look_mem hp
      rw [List.lookup_append, hu]
      exact ⟨_, rfl⟩
    obtain ⟨u, hu⟩ := this
    have e1 := Y _ u hu
    rw [hl p hp] at e1
    cases e1
    exact X _ _ hu
theorem fn_more {P : Program} {w : World} {K K2 : Fg} {mg : Str → Option Value} {base : Heap} {CX : CXT} {k : Nat} {f : Addr} {fd : FuncData} {ps : List Str} {sp : Sp} (h : K2.In base → K.In base) (F : FnOk P w K mg base CX k f fd ps sp) : FnOk P w K2 mg base CX k f fd ps sp :=
  ⟨F.len, fun A outer s H args us vs Q E hr e0 hb hv hs => F.run A outer s H args us vs Q E hr ⟨e0.frames, ⟨h e0.mod.kin, e0.mod.glob, e0.mod.blt, e0.mod.nolimit⟩, e0.bs, e0.bsz, e0.funs, e0.frf, e0.hok, e0.bare⟩ hb hv hs⟩
theorem walk_ofS {l : PySem.W.OpenLaw} {n k : Nat} {q : Program} {loose : List Str} {XP : (Str → Option Value) → Heap → Prop} {YP : World → Heap → Prop} {d : DefRec} {K : Params → Fg} {CX : World → CXT} {sp : World → Sp} {x : Str}
    (hq : PyProof.Rows.importsNone q = true) (hmost : l.most = some n) (hsz : n ≤ sizeLine) (hno : d.params.defaults = []) (room : Room k callerA)
    (hKin : ∀ (w : World) (h : Heap), YP w h → (K w.params).In h)
    (Fun : ∀ (w : World) (mg : Str → Option Value) (fa : Addr) (h : Heap), (K w.params).In h → h.Ns mainGlobals mg → mg d.name = some (.ref fa) →
      ∃ fd : FuncData, (∀ (s : Shared) (u : Value), BindsTo s fd ⟨[u], []⟩ [(x, u)]) ∧
        ∀ base : Heap, (K w.params).In base → base.Ns mainGlobals mg → base.NoSeer → FnOk l.prog w (K w.params) mg base (CX w) k fa fd [x] (sp w))
    (sps : ∀ (w : World) (H : Hp) (a : Addr) (ns : List Int), ns.length ≤ n → (∀ z ∈ ns, Builtin.Int.intBits z ≤ 1048576) → Only H → SqL (K w.params) H a (ns.map V.int) → sp w [.ref a] H (fun v _ => v = .bl true) fun _ _ _ => False)
    (cxs : ∀ (w : World) (H : Hp) (s : Shared) (e : Value) (s' : Shared), CX w [] H s (fun _ _ _ => False) e s' → False) :
    PySem.W.WalkO q loose XP YP l.row.toRowW d [] (fun f vs => PySem.call f vs) := by
  refine Att.attach_callB hmost hno fun w t₀ t₁ mg mb fa o pm cd doc a vs ns G Y ho hd hcd hmg hobj hints hlen hbits hg => ?_
  have KX := hKin w _ Y
  obtain ⟨fd, hb, hF⟩ := Fun w mg fa _ KX G.T.g hmg
  obtain ⟨L, hL, hback⟩ := seer_list (G.T.seer hq)
  have hL1 : ∀ p ∈ L, t₁.heap.get? p.1 = some p.2 := fun p hp => (hL p hp).1
  refine law_call (K := L ++ K w.params) (in_add KX hL1) G.T.g G.T.b G.T.builtins G.T.nolimit hg hobj hints (Nat.le_trans hlen hsz) room (fun base k1 k2 => ?_) hb (fun H hO hS => sps w H a ns hlen hbits hO ?_) fun H e s' => cxs w H t₁ e s'
  · obtain ⟨b1, b2⟩ := in_back KX hL1 k1
    exact fn_more (fun _ => b1) (hF base b1 k2 (hback base b2))
  · rcases hS with hS | ⟨ob, its, m, e1, e2, e3, e4, e5⟩
    · exact .inl hS
    · rcases app_look e1 with hm | hk
      · rcases (hL _ hm).2 with ⟨es, ep, z⟩ | z
        · rw [show ((a, ob) : Addr × Obj).2 = ob from rfl, e4] at z
          cases z
        · rw [show ((a, ob) : Addr × Obj).2 = ob from rfl, e2] at z
          have z1 := Value.type.inj z
          exact absurd z1 (by decide)
      · exact .inr ⟨ob, its, m, hk, e2, e3, e4, e5⟩
end PD

/-! PDS: stepping through a def in plain Lean. -/
namespace PD
open PySem PySem.Spec PyProof.Rows L2
section
variable {α β : Type} {T : Tb} {η : Env}
@[simp] theorem Res.bind_ok (a : α) (f : α → Res β) : (Res.ok a).bind f = f a := rfl
@[simp] theorem Res.bind_ex (c : Nat) (f : α → Res β) : (Res.ex c : Res α).bind f = .ex c := rfl
@[simp] theorem Res.bind_st (f : α → Res β) : (Res.st : Res α).bind f = .st := rfl
@[simp] theorem Res.map_ok (a : α) (f : α → β) : (Res.ok a).map f = .ok (f a) := rfl
@[simp] theorem Res.map_ex (c : Nat) (f : α → β) : (Res.ex c : Res α).map f = .ex c := rfl
@[simp] theorem Fl.of_ok (a : α) (k : α → Fl) : Fl.of η (.ok a) k = k a := rfl
@[simp] theorem Fl.of_ex (c : Nat) (k : α → Fl) : Fl.of η (.ex c : Res α) k = .ex c η := rfl
@[simp] theorem Fl.on_some (a : α) (k : α → Fl) : Fl.on (some a) k = k a := rfl
@[simp] theorem Fl.seq_nx (k : Env → Fl) : Fl.seq (.nx η) k = k η := rfl
@[simp] theorem Fl.seq_rt (d : D) (k : Env → Fl) : Fl.seq (.rt d) k = .rt d := rfl
@[simp] theorem Fl.seq_ex (c : Nat) (k : Env → Fl) : Fl.seq (.ex c η) k = .ex c η := rfl
@[simp] theorem Fl.seq_bk (k : Env → Fl) : Fl.seq (.bk η) k = .bk η := rfl
@[simp] theorem Fl.seq_ct (k : Env → Fl) : Fl.seq (.ct η) k = .ct η := rfl
@[simp] theorem turnF_nx (w : Env → Fl) : turnF w (.nx η) = w η := rfl
@[simp] theorem turnF_ct (w : Env → Fl) : turnF w (.ct η) = w η := rfl
@[simp] theorem turnF_bk (w : Env → Fl) : turnF w (.bk η) = .nx η := rfl
@[simp] theorem turnF_rt (w : Env → Fl) (d : D) : turnF w (.rt d) = .rt d := rfl
@[simp] theorem turnF_ex (w : Env → Fl) (c : Nat) : turnF w (.ex c η) = .ex c η := rfl
@[simp] theorem finF_nx : finF (.nx η) = .ok .none := rfl
@[simp] theorem finF_rt (d : D) : finF (.rt d) = .ok d := rfl
@[simp] theorem finF_ex (c : Nat) : finF (.ex c η) = .ex c := rfl
@[simp] theorem oOk_some (a : α) : oOk (some a) = .ok a := rfl
@[simp] theorem ev_var (i : Nat) : ev T (.var i) η = slotV η i := by rw [ev]
@[simp] theorem ev_glob (i : Nat) : ev T (.glob i) η = (oOk (T.gl i)).map .cl := by rw [ev]
@[simp] theorem ev_int (n : Int) : ev T (.int n) η = .ok (.cl (.int n)) := by rw [ev]
@[simp] theorem ev_bl (b : Bool) : ev T (.bl b) η = .ok (.cl (.bool b)) := by rw [ev]
@[simp] theorem ev_non : ev T .non η = .ok (.cl .none) := by rw [ev]
@[simp] theorem ev_str (s : Str) : ev T (.str s) η = .ok (.cl (.str s)) := by rw [ev]
@[simp] theorem ev_tup (es : E) : ev T (.tup es) η = (evs T es η).bind fun xs => (oOk (shAll xs)).map fun ds => .cl (.tuple ds) := by rw [ev]
@[simp] theorem ev_lst (es : E) : ev T (.lst es) η = (evs T es η).bind fun xs => (oOk (shAll xs)).map .nw := by rw [ev]
@[simp] theorem ev_bin (o : Bo) (a b : E) : ev T (.bin o a b) η = (ev T a η).bind fun x => (ev T b η).bind fun y => binV o x y := by rw [ev]
@[simp] theorem ev_neg (a : E) : ev T (.neg a) η = (ev T a η).bind negV := by rw [ev]
@[simp] theorem ev_not (a : E) : ev T (.not a) η = (ev T a η).bind fun x => (bitOf x).map fun b => .cl (.bool (!b)) := by rw [ev]
@[simp] theorem ev_bop (k : Bool) (a r : E) : ev T (.bop k a r) η = (ev T a η).bind fun x => (bitOf x).bind fun b => if b = k then ev T r η else .ok (.cl (.bool b)) := by rw [ev]
@[simp] theorem ev_bone (k : Bool) (a : E) : ev T (.bone k a) η = ev T a η := by rw [ev]
@[simp] theorem ev_cmp (o : Co) (a b : E) : ev T (.cmp o a b) η = (ev T a η).bind fun x => (ev T b η).bind fun y => (cmpV o x y).map fun c => .cl (.bool c) := by rw [ev]
@[simp] theorem ev_ite (c a b : E) : ev T (.ite c a b) η = (evt T c η).bind fun c => if c = true then ev T a η else ev T b η := by rw [ev]
@[simp] theorem ev_idx (a i : E) : ev T (.idx a i) η = (ev T a η).bind fun x => (ev T i η).bind fun y => idxV x y := by rw [ev]
@[simp] theorem ev_sl (a lo hi : E) : ev T (.sl a lo hi) η = (ev T a η).bind fun x => (evo T lo η).bind fun l => (evo T hi η).bind fun h => slV x l h := by rw [ev]
@[simp] theorem ev_rev (a : E) : ev T (.rev a) η = (ev T a η).bind revV := by rw [ev]
@[simp] theorem ev_call (f : Nat) (es : E) : ev T (.call f es) η = (evs T es η).bind fun xs => (T.G f (xs.map Val.d)).map retV := by rw [ev]
@[simp] theorem ev_bi (b : Bi) (es : E) : ev T (.bi b es) η = (evs T es η).bind fun xs => biV b xs := by rw [ev]
@[simp] theorem ev_isi (a : E) (t : Ty) : ev T (.isi a t) η = (ev T a η).bind fun x => (isiD x.d t).map fun b => .cl (.bool b) := by rw [ev]
theorem ev_comp (v : Nat) (it c e : E) : ev T (.comp v it c e) η = if freeS η v = true then (evi T it η).bind fun w =>
      compR (compF (fun d => tcond T c (η.set v (some (.sh d)))) (fun d => ev T e (η.set v (some (.sh d)))) w.ds []) else .st := by
  rw [ev]
  rfl
theorem ev_comp2 (v u : Nat) (it e : E) : ev T (.comp2 v u it e) η = if freeS η v = true ∧ freeS η u = true ∧ v ≠ u then (evi T it η).bind fun w =>
      compR (compF (fun _ => .ok true) (fun d => two2 d fun a b => ev T e ((η.set v (some (.sh a))).set u (some (.sh b)))) w.ds []) else .st := by rw [ev]
@[simp] theorem evs_nil : evs T .nil η = .ok [] := by rw [evs]
@[simp] theorem evs_cons (e es : E) : evs T (.cons e es) η = (ev T e η).bind fun x => (evs T es η).bind fun xs => .ok (x :: xs) := by rw [evs]
@[simp] theorem evt_tst (e : E) : evt T (.tst e) η = (ev T e η).bind fun x => truD x.d := by rw [evt]
@[simp] theorem evt_tcmp (o : Co) (a b : E) : evt T (.tcmp o a b) η = (ev T a η).bind fun x => (ev T b η).bind fun y => cmpV o x y := by rw [evt]
@[simp] theorem evt_tnot (t : E) : evt T (.tnot t) η = (evt T t η).map (!·) := by rw [evt]
@[simp] theorem evt_tbop (k : Bool) (t r : E) : evt T (.tbop k t r) η = (evt T t η).bind fun c => if c = k then evt T r η else .ok c := by rw [evt]
@[simp] theorem evt_tbone (k : Bool) (t : E) : evt T (.tbone k t) η = evt T t η := by rw [evt]
@[simp] theorem evi_v (e : E) : evi T (.itv e) η = (ev T e η).bind fun x => (oOk x.d.seq).map fun _ => .v x := by rw [evi]
@[simp] theorem evi_r1 (a : E) : evi T (.ir1 a) η = (ev T a η).bind fun x => (intOf x).bind fun n => if small n then .ok (.r 0 n.toNat) else .st := by rw [evi]
@[simp] theorem evi_r3 (a b : E) (c : Int) : evi T (.ir3 a b c) η = (ev T a η).bind fun x => (ev T b η).bind fun y => (intOf x).bind fun i => (intOf y).bind fun j => rgV i j c := by rw [evi]
@[simp] theorem evi_r2 (a b : E) : evi T (.ir2 a b) η = (ev T a η).bind fun x => (ev T b η).bind fun y => (intOf x).bind fun i => (intOf y).bind fun j => if small i ∧ small j then .ok (.r i (j - i).toNat) else .st := by rw [evi]
@[simp] theorem evo_nop : evo T .nop η = .ok none := by rw [evo]
@[simp] theorem evo_sop (e : E) : evo T (.sop e) η = (ev T e η).bind fun x => (intOf x).map some := by rw [evo]
@[simp] theorem exS_skip : exS T .skip η = .nx η := by rw [exS]
@[simp] theorem exS_seq (a b : S) : exS T (.seq a b) η = (exS T a η).seq (exS T b) := by rw [exS]
@[simp] theorem exS_asg (i : Nat) (e : E) : exS T (.asg i e) η = Fl.of η (ev T e η) fun x => Fl.on (asgV η i x) .nx := by rw [exS]
@[simp] theorem exS_asgT (is : List Nat) (e : E) : exS T (.asgT is e) η = Fl.of η (ev T e η) fun x => Fl.on (tupOf x) fun ds => Fl.on (asgL η is ds) .nx := by rw [exS]
@[simp] theorem exS_asgN (is : List Nat) (e : E) : exS T (.asgN is e) η = Fl.of η (ev T e η) fun x => Fl.on (lstOf x) fun ds => Fl.on (asgL η is ds) .nx := by rw [exS]
@[simp] theorem exS_par (i j : Nat) (a b : E) : exS T (.par i j a b) η = Fl.of η (ev T a η) fun x => Fl.of η (ev T b η) fun y => Fl.on x.sh fun d => Fl.on y.sh fun d' => Fl.on (asgL η [i, j] [d, d']) .nx := by rw [exS]
@[simp] theorem exS_put (i : Nat) (k e : E) : exS T (.put i k e) η = Fl.of η (ev T e η) fun x => Fl.on (owOf η i) fun ds => Fl.of η (ev T k η) fun y => Fl.of η (intOf y) fun n => Fl.on x.sh fun d => Fl.on (ixN ds.length n) fun j => .nx (η.set i (some (.ow (ds.set j d)))) := by rw [exS]
@[simp] theorem exS_aput (i : Nat) (o : Bo) (k e : E) : exS T (.aput i o k e) η = Fl.on (owOf η i) fun ds => Fl.of η (ev T k η) fun y => Fl.of η (intOf y) fun n => Fl.on (atI ds n) fun old => Fl.of η (intOf (.cl old)) fun m0 => Fl.of η (ev T e η) fun x =>
      Fl.of η (intOf x) fun m1 => Fl.of η (binV o (.cl (.int m0)) (.cl (.int m1))) fun z => Fl.of η (intOf z) fun m => Fl.on (ixN ds.length n) fun j => .nx (η.set i (some (.ow (ds.set j (.int m))))) := by rw [exS]
@[simp] theorem exS_aug (i : Nat) (o : Bo) (e : E) : exS T (.aug i o e) η = Fl.of η (slotV η i) fun x => Fl.of η (intOf x) fun _ => Fl.of η (ev T e η) fun y => Fl.of η (intOf y) fun _ => Fl.of η (binV o x y) fun z => Fl.on (asgV η i z) .nx := by rw [exS]
@[simp] theorem exS_app (i : Nat) (e : E) : exS T (.app i e) η = Fl.on (owOf η i) fun ds => Fl.of η (ev T e η) fun x => Fl.on x.sh fun d => if Sm (ds.length + 1) then .nx (η.set i (some (.ow (ds ++ [d])))) else .st := by rw [exS]
@[simp] theorem exS_pop (i : Nat) : exS T (.pop i) η = Fl.on (owOf η i) fun ds => Fl.on (ds[ds.length - 1]?) fun _ => .nx (η.set i (some (.ow ds.dropLast))) := by rw [exS]
@[simp] theorem exS_popA (j i : Nat) : exS T (.popA j i) η = Fl.on (owOf η i) fun ds => Fl.on (ds[ds.length - 1]?) fun d => Fl.on (asgV (η.set i (some (.ow ds.dropLast))) j (.cl d)) .nx := by rw [exS]
@[simp] theorem exS_asgP (j : Nat) (e : E) (i : Nat) : exS T (.asgP j e i) η = Fl.of η (ev T e η) fun x => Fl.of η (intOf x) fun m => Fl.on (owOf η i) fun ds => Fl.on (ds[ds.length - 1]?) fun d => Fl.of η (intOf (.cl d)) fun k => Fl.of η (mulV (.cl (.int m)) (.cl (.int k))) fun z => Fl.on (asgV (η.set i (some (.ow ds.dropLast))) j z) .nx := by rw [exS]
@[simp] theorem exS_popT (js : List Nat) (i : Nat) : exS T (.popT js i) η = Fl.on (owOf η i) fun ds => Fl.on (ds[ds.length - 1]?) fun d => Fl.on (tupOf (.cl d)) fun es => Fl.on (asgL (η.set i (some (.ow ds.dropLast))) js es) .nx := by rw [exS]
@[simp] theorem exS_ex (e : E) : exS T (.ex e) η = Fl.of η (ev T e η) fun _ => .nx η := by rw [exS]
@[simp] theorem exS_ret (e : E) : exS T (.ret e) η = Fl.of η (ev T e η) fun x => Fl.on (retD x) .rt := by rw [exS]
@[simp] theorem exS_ret0 : exS T .ret0 η = .rt .none := by rw [exS]
@[simp] theorem exS_ite (c : E) (a b : S) : exS T (.ite c a b) η = Fl.of η (evt T c η) fun k => if k = true then exS T a η else exS T b η := by rw [exS]
@[simp] theorem exS_wh (c : E) (b : S) : exS T (.wh c b) η = whS (evt T c) (exS T b) η := by rw [exS]
/-- a for's turn -/
noncomputable def foB (T : Tb) (v : Nat) (b : S) (d : D) (η : Env) : Fl := Fl.on (asgV η v (.cl d)) (exS T b)
noncomputable def foTB (T : Tb) (vs : List Nat) (b : S) (d : D) (η : Env) : Fl := Fl.on (tupOf (.cl d)) fun ds => Fl.on (asgL η vs ds) (exS T b)
@[simp] theorem exS_fo (v : Nat) (it : E) (b : S) : exS T (.fo v it b) η = Fl.of η (evi T it η) fun w => loopF (foB T v b) w.ds (w.pre η) := by rw [exS]; rfl
@[simp] theorem exS_foT (vs : List Nat) (it : E) (b : S) : exS T (.foT vs it b) η = Fl.of η (evi T it η) fun w => loopF (foTB T vs b) w.ds (w.pre η) := by rw [exS]; rfl
@[simp] theorem exS_brk : exS T .brk η = .bk η := by rw [exS]
@[simp] theorem exS_cnt : exS T .cnt η = .ct η := by rw [exS]
@[simp] theorem exS_rai (c : Nat) : exS T (.rai c) η = .ex c η := by rw [exS]
@[simp] theorem exS_asgQ (is js : List Nat) (e : E) : exS T (.asgQ is js e) η = Fl.of η (ev T e η) fun x => Fl.on (tupOf x) fun ds => asgQF η is js ds := by rw [exS]
noncomputable def fodB (T : Tb) (v : Nat) (b : S) (d : D) (η : Env) : Fl := Fl.on (keyOf d) fun k => Fl.on (setK η v (.tk k)) (exS T b)
@[simp] theorem exS_asgK (i : Nat) (es : E) : exS T (.asgK i es) η = Fl.of η (evs T es η) fun xs => Fl.on (intsOf (xs.map Val.d)) fun k => Fl.on (setK η i (.tk k)) .nx := by rw [exS]
@[simp] theorem exS_asgKs (i : Nat) (ks : List (List Int)) : exS T (.asgKs i ks) η = Fl.on (setK η i (.lk ks)) .nx := by rw [exS]
@[simp] theorem exS_dputE (i : Nat) (es e : E) : exS T (.dputE i es e) η = Fl.of η (ev T e η) fun x => Fl.of η (intOf x) fun n => Fl.on (odOf η i) fun l => Fl.of η (evs T es η) fun xs => Fl.on (intsOf (xs.map Val.d)) fun k => if Sm (l.length + 1) then .nx (η.set i (some (.od (putL l k n)))) else .st := by rw [exS]
@[simp] theorem exS_dputV (i j : Nat) (e : E) : exS T (.dputV i j e) η = Fl.of η (ev T e η) fun x => Fl.of η (intOf x) fun n => Fl.on (odOf η i) fun l => Fl.on (tkOf η j) fun k => if Sm (l.length + 1) then .nx (η.set i (some (.od (putL l k n)))) else .st := by rw [exS]
@[simp] theorem exS_dputI (i j : Nat) (k e : E) : exS T (.dputI i j k e) η = Fl.of η (ev T e η) fun x => Fl.of η (intOf x) fun n => Fl.on (odOf η i) fun l => Fl.on (lkOf η j) fun ks => Fl.of η (ev T k η) fun y => Fl.of η (intOf y) fun m => Fl.on (atI ks m) fun k => if Sm (l.length + 1) then .nx (η.set i (some (.od (putL l k n)))) else .st := by rw [exS]
@[simp] theorem exS_fod (v i : Nat) (b : S) : exS T (.fod v i b) η = Fl.of η (slotV η i) fun x => Fl.on x.d.dct fun l => noEx (loopF (fodB T v b) (dkeys l) (dropS η i)) := by rw [exS]; rfl
@[simp] theorem exS_fodT (vs : List Nat) (i : Nat) (b : S) : exS T (.fodT vs i b) η = Fl.of η (slotV η i) fun x => Fl.on x.d.dct fun l => noEx (loopF (foTB T vs b) (dkeys l) (dropS η i)) := by rw [exS]; rfl
@[simp] theorem noEx_nx (η : Env) : noEx (.nx η) = .nx η := rfl
@[simp] theorem ev_dnew : ev T .dnew η = .ok (.nd []) := by rw [ev]
@[simp] theorem ev_dis (ks : List (List Int)) (vs : E) : ev T (.dis ks vs) η = (evs T vs η).bind fun xs => (oOk (intsOf (xs.map Val.d))).bind fun ns => (oOk (disL [] ks ns)).map .nd := by rw [ev]
@[simp] theorem ev_dget (a k d : E) : ev T (.dget a k d) η = (ev T a η).bind fun x => (oOk x.d.dct).bind fun _ => (ev T k η).bind fun y => (ev T d η).bind fun z => (oOk x.d.dct).bind fun l => (oOk (keyOf y.d)).bind fun k => (intOf z).map fun n => .cl (.int ((lookL l k).getD n)) := by rw [ev]
@[simp] theorem ev_dat (a k : E) : ev T (.dat a k) η = (ev T a η).bind fun x => (ev T k η).bind fun y => (oOk x.d.dct).bind fun l => (oOk (keyOf y.d)).bind fun k => (oOk (lookL l k)).map fun n => .cl (.int n) := by rw [ev]
theorem exS_tryK (b : S) (x i j : Nat) : exS T (.tryK b x i j) η = (match exS T b η with
    | .ex c η' => if subX c x = true then keepF T.ex c i j η' else .ex c η'
    | f => f) := by
  rw [exS]
  all_goals (cases exS T b η <;> rfl)
@[simp] theorem ev_isx (a : E) (j : Nat) : ev T (.isx a j) η = (ev T a η).bind fun x => (oOk (exN T.ex x.d)).map fun c => .cl (.bool (subX c j)) := by rw [ev]
@[simp] theorem ev_isv (a : E) : ev T (.isv a) η = (ev T a η).bind fun x => (oOk (exN T.ex x.d)).map fun _ => .cl (.bool true) := by rw [ev]
@[simp] theorem exN_exD (l : List Str) (n : Str) : exN l (.dict [(.str n, .none)]) = exIx l n := rfl
theorem exS_tryA (b : S) (x i : Nat) (h : HS) : exS T (.tryA b x i h) η = (match exS T b η with
    | .ex c η' => if subX c x = true then hsF c i η' h else .ex c η'
    | f => f) := by
  rw [exS]
  all_goals (cases exS T b η <;> rfl)
theorem exS_tryN (b : S) (x : Nat) (h : S) : exS T (.tryN b x h) η = (match exS T b η with
    | .ex c η' => if subX c x = true then exS T h η' else .ex c η'
    | f => f) := by
  rw [exS]
  all_goals (cases exS T b η <;> rfl)
/-! names -/
@[simp] theorem slotV_0 (d : D) (η : Env) : slotV (some (.sh d) :: η) 0 = .ok (.cl d) := rfl
@[simp] theorem slotV_0o (ds : List D) (η : Env) : slotV (some (.ow ds) :: η) 0 = .ok (.br 0 ds) := rfl
def upB : Res Val → Res Val
  | .ok (.br j ds) => .ok (.br (j + 1) ds)
  | .ok (.bd j l) => .ok (.bd (j + 1) l)
  | r => r
@[simp] theorem slotV_0d (l : Dl) (η : Env) : slotV (some (.od l) :: η) 0 = .ok (.bd 0 l) := rfl
@[simp] theorem slotV_0k (k : Sk) (η : Env) : slotV (some (.kk k) :: η) 0 = .ok (.cl k.d) := rfl
@[simp] theorem upB_bd (j : Nat) (l : Dl) : upB (.ok (.bd j l)) = .ok (.bd (j + 1) l) := rfl
@[simp] theorem upB_cl (d : D) : upB (.ok (.cl d)) = .ok (.cl d) := rfl
@[simp] theorem upB_br (j : Nat) (ds : List D) : upB (.ok (.br j ds)) = .ok (.br (j + 1) ds) := rfl
@[simp] theorem slotV_s (s : Option Sl) (η : Env) (i : Nat) : slotV (s :: η) (i + 1) = upB (slotV η i) := by
  unfold slotV
  rw [List.getElem?_cons_succ]
  cases η[i]? with
  | none => rfl
  | some s =>
    cases s with
    | none => rfl
    | some s => cases s <;> rfl
@[simp] theorem owOf_0 (ds : List D) (η : Env) : owOf (some (.ow ds) :: η) 0 = some ds := rfl
@[simp] theorem owOf_s (s : Option Sl) (η : Env) (i : Nat) : owOf (s :: η) (i + 1) = owOf η i := by
  unfold owOf
  rw [List.getElem?_cons_succ]
@[simp] theorem odOf_0 (l : Dl) (η : Env) : odOf (some (.od l) :: η) 0 = some l := rfl
@[simp] theorem odOf_s (s : Option Sl) (η : Env) (i : Nat) : odOf (s :: η) (i + 1) = odOf η i := by
  unfold odOf
  rw [List.getElem?_cons_succ]
@[simp] theorem tkOf_0 (k : List Int) (η : Env) : tkOf (some (.kk (.tk k)) :: η) 0 = some k := rfl
@[simp] theorem tkOf_s (s : Option Sl) (η : Env) (i : Nat) : tkOf (s :: η) (i + 1) = tkOf η i := by
  unfold tkOf
  rw [List.getElem?_cons_succ]
@[simp] theorem lkOf_0 (ks : List (List Int)) (η : Env) : lkOf (some (.kk (.lk ks)) :: η) 0 = some ks := rfl
@[simp] theorem lkOf_s (s : Option Sl) (η : Env) (i : Nat) : lkOf (s :: η) (i + 1) = lkOf η i := by
  unfold lkOf
  rw [List.getElem?_cons_succ]
@[simp] theorem setK_if (η : Env) (i : Nat) (k : Sk) : setK η i k = if i < η.length then some (η.set i (some (.kk k))) else none := rfl
@[simp] theorem asgV_nd (η : Env) (i : Nat) (l : Dl) : asgV η i (.nd l) = if i < η.length then some (η.set i (some (.od l))) else none := rfl
@[simp] theorem d_nd (l : Dl) : Val.d (.nd l) = dD l := rfl
@[simp] theorem d_bd (j : Nat) (l : Dl) : Val.d (.bd j l) = dD l := rfl
@[simp] theorem skd_tk (k : List Int) : Sk.d (.tk k) = .tuple (k.map PyData.int) := rfl
@[simp] theorem intsOf_nil : intsOf [] = some [] := rfl
@[simp] theorem intsOf_cons (i : Int) (r : List D) : intsOf (.int i :: r) = (intsOf r).map (i :: ·) := rfl
@[simp] theorem keyOf_t (ds : List D) : keyOf (.tuple ds) = intsOf ds := rfl
@[simp] theorem disL_nil (l : Dl) : disL l [] [] = some l := rfl
@[simp] theorem disL_cons (l : Dl) (k : List Int) (ks : List (List Int)) (v : Int) (vs : List Int) : disL l (k :: ks) (v :: vs) = disL (putL l k v) ks vs := rfl
@[simp] theorem retD_nd (l : Dl) : retD (.nd l) = some (dD l) := rfl
@[simp] theorem retD_bd (j : Nat) (l : Dl) : retD (.bd j l) = some (dD l) := rfl
@[simp] theorem asgV_cl (η : Env) (i : Nat) (d : D) : asgV η i (.cl d) = if i < η.length then some (η.set i (some (.sh d))) else none := rfl
@[simp] theorem asgV_nw (η : Env) (i : Nat) (ds : List D) : asgV η i (.nw ds) = if i < η.length then some (η.set i (some (.ow ds))) else none := rfl
@[simp] theorem asgL_nil (η : Env) : asgL η [] [] = some η := rfl
@[simp] theorem asgL_cons (η : Env) (i : Nat) (is : List Nat) (d : D) (ds : List D) : asgL η (i :: is) (d :: ds) = (asgV η i (.cl d)).bind fun η' => asgL η' is ds := rfl
@[simp] theorem tupOf_t (ds : List D) : tupOf (.cl (.tuple ds)) = some ds := rfl
@[simp] theorem lstOf_n (ds : List D) : lstOf (.nw ds) = some ds := rfl
@[simp] theorem sh_cl (d : D) : Val.sh (.cl d) = some d := rfl
@[simp] theorem sh_nw (ds : List D) : Val.sh (.nw ds) = some (.list ds) := rfl
@[simp] theorem shAll_nil : shAll [] = some [] := rfl
@[simp] theorem shAll_cl (d : D) (xs : List Val) : shAll (.cl d :: xs) = (shAll xs).map (d :: ·) := by
  rw [shAll]
  cases shAll xs <;> rfl
@[simp] theorem shAll_nw (ds : List D) (xs : List Val) : shAll (.nw ds :: xs) = (shAll xs).map (.list ds :: ·) := by
  rw [shAll]
  cases shAll xs <;> rfl
@[simp] theorem d_cl (d : D) : Val.d (.cl d) = d := rfl
@[simp] theorem d_nw (ds : List D) : Val.d (.nw ds) = .list ds := rfl
@[simp] theorem d_br (j : Nat) (ds : List D) : Val.d (.br j ds) = .list ds := rfl
@[simp] theorem seq_l (ds : List D) : D.seq (.list ds) = some ds := rfl
@[simp] theorem seq_t (ds : List D) : D.seq (.tuple ds) = some ds := rfl
@[simp] theorem intOf_i (i : Int) : intOf (.cl (.int i)) = .ok i := rfl
@[simp] theorem bitOf_b (b : Bool) : bitOf (.cl (.bool b)) = .ok b := rfl
@[simp] theorem retV_l (ds : List D) : retV (.list ds) = .nw ds := rfl
@[simp] theorem retV_t (ds : List D) : retV (.tuple ds) = .cl (.tuple ds) := rfl
@[simp] theorem retV_i (i : Int) : retV (.int i) = .cl (.int i) := rfl
@[simp] theorem retV_b (b : Bool) : retV (.bool b) = .cl (.bool b) := rfl
@[simp] theorem retV_n : retV .none = .cl .none := rfl
@[simp] theorem retV_s (s : Str) : retV (.str s) = .cl (.str s) := rfl
/-! operations -/
@[simp] theorem add_i (i j : Int) : binV .add (.cl (.int i)) (.cl (.int j)) = .ok (.cl (.int (i + j))) := rfl
@[simp] theorem sub_i (i j : Int) : binV .sub (.cl (.int i)) (.cl (.int j)) = .ok (.cl (.int (i - j))) := rfl
@[simp] theorem mul_i (i j : Int) : binV .mul (.cl (.int i)) (.cl (.int j)) = if MuOk i j then .ok (.cl (.int (i * j))) else .st := rfl
@[simp] theorem fdiv_i (i j : Int) : binV .fdiv (.cl (.int i)) (.cl (.int j)) = if DivOk i j then .ok (.cl (.int (i.fdiv j))) else .st := rfl
@[simp] theorem mod_i (i j : Int) : binV .mod (.cl (.int i)) (.cl (.int j)) = if j = 0 then .st else .ok (.cl (.int (i.fmod j))) := rfl
@[simp] theorem pow_i (i j : Int) : binV .pow (.cl (.int i)) (.cl (.int j)) = if PowOk i j then .ok (.cl (.int (i ^ j.toNat))) else .st := rfl
@[simp] theorem neg_i (i : Int) : negV (.cl (.int i)) = .ok (.cl (.int (-i))) := rfl
noncomputable def catL (ds es : List D) : Res Val := if Sm (ds.length + es.length) then .ok (.nw (ds ++ es)) else .st
@[simp] theorem add_nn (ds es : List D) : binV .add (.nw ds) (.nw es) = catL ds es := rfl
@[simp] theorem add_nb (ds es : List D) (j : Nat) : binV .add (.nw ds) (.br j es) = catL ds es := rfl
@[simp] theorem add_bn (ds es : List D) (j : Nat) : binV .add (.br j ds) (.nw es) = catL ds es := rfl
@[simp] theorem add_bb (ds es : List D) (i j : Nat) : binV .add (.br i ds) (.br j es) = catL ds es := rfl
theorem catL_ok {ds es : List D} (h : ds.length + es.length ≤ big) : catL ds es = .ok (.nw (ds ++ es)) := if_pos h
noncomputable def repL (ds : List D) (k : Int) : Res Val := if RepOk ds.length k then .ok (.nw (List.replicate k.toNat ds).flatten) else .st
@[simp] theorem mul_n (ds : List D) (k : Int) : binV .mul (.nw ds) (.cl (.int k)) = repL ds k := rfl
@[simp] theorem mul_b (ds : List D) (j : Nat) (k : Int) : binV .mul (.br j ds) (.cl (.int k)) = repL ds k := rfl
theorem repL_one {d : D} {k : Nat} (h : k ≤ big) : repL [d] (k : Int) = .ok (.nw (List.replicate k d)) := by
  unfold repL
  have hb : big = 16777216 := rfl
  rw [if_pos (by
    refine ⟨by omega, by omega, ?_⟩
    simp only [List.length_cons, List.length_nil, Int.toNat_natCast]
    omega)]
  have e : (List.replicate k [d]).flatten = List.replicate k d := by
    induction k with
    | zero => rfl
    | succ k ih => rw [List.replicate_succ, List.flatten_cons, ih (by omega)]; rfl
  rw [Int.toNat_natCast, e]
@[simp] theorem lt_i (i j : Int) : cmpV .lt (.cl (.int i)) (.cl (.int j)) = .ok (decide (i < j)) := rfl
@[simp] theorem le_i (i j : Int) : cmpV .le (.cl (.int i)) (.cl (.int j)) = .ok (decide (i ≤ j)) := rfl
@[simp] theorem gt_i (i j : Int) : cmpV .gt (.cl (.int i)) (.cl (.int j)) = .ok (decide (j < i)) := rfl
@[simp] theorem ge_i (i j : Int) : cmpV .ge (.cl (.int i)) (.cl (.int j)) = .ok (decide (j ≤ i)) := rfl
@[simp] theorem eq_v (x y : Val) : cmpV .eq x y = eqD x.d y.d := rfl
@[simp] theorem in_v (x y : Val) : cmpV .inC x y = memD x.d y.d := rfl
@[simp] theorem ni_v (x y : Val) : cmpV .niC x y = (memD x.d y.d).map (!·) := rfl
@[simp] theorem ne_v (x y : Val) : cmpV .ne x y = (eqD x.d y.d).map (!·) := rfl
@[simp] theorem eqD_i (i j : Int) : eqD (.int i) (.int j) = .ok (decide (i = j)) := rfl
@[simp] theorem eqD_ss (a b : Str) : eqD (.str a) (.str b) = .ok (decide (a = b)) := rfl
@[simp] theorem is_b (x : Val) (b : Bool) : cmpV .isN x (.cl (.bool b)) = .ok (match x.d with | .bool a => a == b | _ => false) := by cases x <;> rfl
@[simp] theorem isnot_b (x : Val) (b : Bool) : cmpV .notN x (.cl (.bool b)) = .ok (match x.d with | .bool a => !(a == b) | _ => true) := by cases x <;> rfl
@[simp] theorem truD_b (b : Bool) : truD (.bool b) = .ok b := rfl
@[simp] theorem idx_t (ds : List D) (k : Int) : idxV (.cl (.tuple ds)) (.cl (.int k)) = (oOk (atI ds k)).map .cl := rfl
@[simp] theorem idx_l (ds : List D) (k : Int) : idxV (.cl (.list ds)) (.cl (.int k)) = (oOk (atI ds k)).map .cl := rfl
@[simp] theorem idx_n (ds : List D) (k : Int) : idxV (.nw ds) (.cl (.int k)) = (oOk (atI ds k)).map .cl := rfl
@[simp] theorem idx_b (j : Nat) (ds : List D) (k : Int) : idxV (.br j ds) (.cl (.int k)) = (oOk (atI ds k)).map .cl := rfl
@[simp] theorem sl_l (ds : List D) (lo hi : Option Int) : slV (.cl (.list ds)) lo hi = .ok (.nw (cutD ds lo hi)) := rfl
@[simp] theorem rev_t (ds : List D) : revV (.cl (.tuple ds)) = .ok (.cl (.tuple ds.reverse)) := rfl
@[simp] theorem rev_l (ds : List D) : revV (.cl (.list ds)) = .ok (.nw ds.reverse) := rfl
@[simp] theorem rev_n (ds : List D) : revV (.nw ds) = .ok (.nw ds.reverse) := rfl
@[simp] theorem rev_b (j : Nat) (ds : List D) : revV (.br j ds) = .ok (.nw ds.reverse) := rfl
@[simp] theorem sl_t (ds : List D) (lo hi : Option Int) : slV (.cl (.tuple ds)) lo hi = .ok (.cl (.tuple (cutD ds lo hi))) := rfl
@[simp] theorem sl_n (ds : List D) (lo hi : Option Int) : slV (.nw ds) lo hi = .ok (.nw (cutD ds lo hi)) := rfl
@[simp] theorem sl_b (j : Nat) (ds : List D) (lo hi : Option Int) : slV (.br j ds) lo hi = .ok (.nw (cutD ds lo hi)) := rfl
@[simp] theorem len_l (ds : List D) : biV .len [.cl (.list ds)] = .ok (.cl (.int ds.length)) := rfl
@[simp] theorem len_t (ds : List D) : biV .len [.cl (.tuple ds)] = .ok (.cl (.int ds.length)) := rfl
@[simp] theorem len_n (ds : List D) : biV .len [.nw ds] = .ok (.cl (.int ds.length)) := rfl
@[simp] theorem len_b (j : Nat) (ds : List D) : biV .len [.br j ds] = .ok (.cl (.int ds.length)) := rfl
@[simp] theorem abs_i (i : Int) : biV .abs [.cl (.int i)] = .ok (.cl (.int i.natAbs)) := rfl
@[simp] theorem max_i (i j : Int) : biV .max2 [.cl (.int i), .cl (.int j)] = .ok (.cl (.int (max i j))) := rfl
@[simp] theorem min_i (i j : Int) : biV .min2 [.cl (.int i), .cl (.int j)] = .ok (.cl (.int (min i j))) := rfl
@[simp] theorem int_i (i : Int) : biV .int1 [.cl (.int i)] = .ok (.cl (.int i)) := rfl
@[simp] theorem int_b (b : Bool) : biV .int1 [.cl (.bool b)] = .ok (.cl (.int (if b = true then 1 else 0))) := rfl
@[simp] theorem tup_t (ds : List D) : biV .tuple1 [.cl (.tuple ds)] = .ok (.cl (.tuple ds)) := rfl
@[simp] theorem tup_l (ds : List D) : biV .tuple1 [.cl (.list ds)] = .ok (.cl (.tuple ds)) := rfl
@[simp] theorem tup_n (ds : List D) : biV .tuple1 [.nw ds] = .ok (.cl (.tuple ds)) := rfl
@[simp] theorem tup_b (j : Nat) (ds : List D) : biV .tuple1 [.br j ds] = .ok (.cl (.tuple ds)) := rfl
@[simp] theorem list_t (ds : List D) : biV .list1 [.cl (.tuple ds)] = .ok (.nw ds) := rfl
@[simp] theorem list_l (ds : List D) : biV .list1 [.cl (.list ds)] = .ok (.nw ds) := rfl
@[simp] theorem list_n (ds : List D) : biV .list1 [.nw ds] = .ok (.nw ds) := rfl
@[simp] theorem list_b (j : Nat) (ds : List D) : biV .list1 [.br j ds] = .ok (.nw ds) := rfl
@[simp] theorem isi_i (i : Int) : isiD (.int i) .int = .ok true := rfl
@[simp] theorem isi_ib (i : Int) : isiD (.int i) .bool = .ok false := rfl
@[simp] theorem isi_t (ds : List D) : isiD (.tuple ds) .tuple = .ok true := rfl
@[simp] theorem isi_l (ds : List D) : isiD (.list ds) .list = .ok true := rfl
@[simp] theorem isi_b (b : Bool) : isiD (.bool b) .bool = .ok true := rfl
@[simp] theorem isi_bi (b : Bool) : isiD (.bool b) .int = .ok true := rfl
@[simp] theorem lf_i (i : Int) : lf (.int i) = true := rfl
@[simp] theorem lf_b (b : Bool) : lf (.bool b) = true := rfl
@[simp] theorem lf_t (ds : List D) : lf (.tuple ds) = lfAll ds := by rw [lf]
@[simp] theorem lf_s (s : Str) : lf (.str s) = true := rfl
@[simp] theorem lf_n : lf .none = true := rfl
@[simp] theorem lfAll_nil : lfAll [] = true := rfl
@[simp] theorem lfAll_cons (d : D) (ds : List D) : lfAll (d :: ds) = (lf d && lfAll ds) := by rw [lfAll]
@[simp] theorem lfAll_ints (ns : List Int) : lfAll (ns.map PyData.int) = true := by
  induction ns with
  | nil => rfl
  | cons n ns ih => rw [List.map_cons, lfAll_cons, ih]; rfl
@[simp] theorem retD_cl (d : D) : retD (.cl d) = if lf d = true then some d else none := rfl
@[simp] theorem retD_nw (ds : List D) : retD (.nw ds) = if lfAll ds = true then some (.list ds) else none := rfl
@[simp] theorem retD_br (j : Nat) (ds : List D) : retD (.br j ds) = if lfAll ds = true then some (.list ds) else none := rfl
@[simp] theorem wk_v (x : Val) : (Wk.v x).ds = x.d.seq.getD [] := rfl
@[simp] theorem wk_c (lo c : Int) (n : Nat) : (Wk.c lo c n).ds = rngC lo c n := rfl
@[simp] theorem pre_c (lo c : Int) (n : Nat) : Wk.pre η (.c lo c n) = η := rfl
@[simp] theorem wk_r (lo : Int) (n : Nat) : (Wk.r lo n).ds = rngD lo n := rfl
@[simp] theorem pre_cl (d : D) : Wk.pre η (.v (.cl d)) = η := rfl
@[simp] theorem pre_nw (ds : List D) : Wk.pre η (.v (.nw ds)) = η := rfl
@[simp] theorem pre_r (lo : Int) (n : Nat) : Wk.pre η (.r lo n) = η := rfl
/-! loops -/
theorem wh_step {c : Env → Res Bool} {b : Env → Fl} {η' : Env} (hc : c η = .ok true) (hb : b η = .nx η') : whS c b η = whS c b η' := by
  rw [whS_eq, hc]
  show turnF (whS c b) (b η) = _
  rw [hb]
  rfl
theorem wh_end {c : Env → Res Bool} {b : Env → Fl} (hc : c η = .ok false) : whS c b η = .nx η := by
  rw [whS_eq, hc]
  rfl
theorem loop_fold {σ : Type} {f : D → Env → Fl} {g : α → D} {En : σ → Env} {stp : σ → α → σ} {P : σ → Prop} (xs : List α) (h : ∀ s x, x ∈ xs → P s → f (g x) (En s) = .nx (En (stp s x)) ∧ P (stp s x)) :
    ∀ s, P s → loopF f (xs.map g) (En s) = .nx (En (xs.foldl stp s)) ∧ P (xs.foldl stp s) := by
  induction xs with
  | nil => exact fun s p => ⟨rfl, p⟩
  | cons x xs ih =>
    intro s p
    obtain ⟨h1, h2⟩ := h s x List.mem_cons_self p
    rw [List.map_cons, loopF, h1]
    exact ih (fun s y hy => h s y (List.mem_cons_of_mem _ hy)) _ h2
theorem loop_range {f : D → Env → Fl} {lo : Int} {n : Nat} {En : Nat → Env} (h : ∀ k, k < n → f (.int (lo + k)) (En k) = .nx (En (k + 1))) : loopF f (rngD lo n) (En 0) = .nx (En n) := by
  have key : ∀ m k, k + m = n → loopF f ((List.range' k m).map fun (j : Nat) => PyData.int (lo + j)) (En k) = .nx (En n) := by
    intro m
    induction m with
    | zero => intro k e; rw [← e]; rfl
    | succ m ih =>
      intro k e
      rw [List.range'_succ, List.map_cons, loopF, h k (by omega)]
      exact ih (k + 1) (by omega)
  have := key n 0 (by omega)
  rw [← List.range_eq_range'] at this
  exact this
/-- a loop over anything, by what is kept -/
theorem loop_inv {f : D → Env → Fl} {I : Env → Prop} {ds : List D} (h : ∀ d η, d ∈ ds → I η → ∃ η', f d η = .nx η' ∧ I η') : ∀ η, I η → ∃ η', loopF f ds η = .nx η' ∧ I η' := by
  induction ds with
  | nil => exact fun η i => ⟨η, rfl, i⟩
  | cons d ds ih =>
    intro η i
    obtain ⟨η1, h1, i1⟩ := h d η List.mem_cons_self i
    rw [loopF, h1]
    exact ih (fun d η hd => h d η (List.mem_cons_of_mem _ hd)) η1 i1
/-- a comprehension without a test -/
theorem comp_map {f : D → Res Val} {g : α → D} {k : α → D} (xs : List α) (h : ∀ x ∈ xs, f (g x) = .ok (.cl (k x))) : ∀ acc : List D, acc.length + xs.length ≤ big → compF (fun _ => .ok true) f (xs.map g) acc = .ok (acc ++ xs.map k) := by
  induction xs with
  | nil => intro acc _; simp [compF]
  | cons x xs ih =>
    intro acc hl
    simp only [List.length_cons] at hl
    rw [List.map_cons, compF, h x List.mem_cons_self]
    simp only [Res.bind_ok, if_true, sh_cl, oOk_some]
    rw [if_pos (show Sm (acc.length + 1) from show acc.length + 1 ≤ big by omega), ih (fun y hy => h y (List.mem_cons_of_mem _ hy)) _ (by simp; omega)]
    simp
theorem comp_filter {t : D → Res Bool} {f : D → Res Val} {g : α → D} {k : α → D} {p : α → Bool} (xs : List α) (ht : ∀ x ∈ xs, t (g x) = .ok (p x)) (h : ∀ x ∈ xs, p x = true → f (g x) = .ok (.cl (k x))) :
    ∀ acc : List D, acc.length + xs.length ≤ big → compF t f (xs.map g) acc = .ok (acc ++ (xs.filter p).map k) := by
  induction xs with
  | nil => intro acc _; simp [compF]
  | cons x xs ih =>
    intro acc hl
    simp only [List.length_cons] at hl
    rw [List.map_cons, compF, ht x List.mem_cons_self]
    cases hp : p x with
    | true =>
      rw [h x List.mem_cons_self hp]
      simp only [Res.bind_ok, if_true, sh_cl, oOk_some]
      rw [if_pos (show Sm (acc.length + 1) from show acc.length + 1 ≤ big by omega), ih (fun y hy => ht y (List.mem_cons_of_mem _ hy)) (fun y hy => h y (List.mem_cons_of_mem _ hy)) _ (by simp; omega)]
      simp [hp]
    | false =>
      simp only [Res.bind_ok, Bool.false_eq_true, if_false]
      rw [ih (fun y hy => ht y (List.mem_cons_of_mem _ hy)) (fun y hy => h y (List.mem_cons_of_mem _ hy)) _ (by omega)]
      simp [hp]
@[simp] theorem compR_ok (ds : List D) : compR (.ok ds) = .ok (.nw ds) := rfl
@[simp] theorem tcond_nop : tcond T .nop η = .ok true := rfl
end
/-! numbers -/
theorem mulOk_of {i j : Int} {a b : Nat} (hi : i.natAbs < 2 ^ a) (hj : j.natAbs < 2 ^ b) (h : a + b ≤ 133999990) : MuOk i j := by
  have x := PySem.Flt.log2_lt_of (k := a + 1) (by omega) (Nat.lt_of_lt_of_le hi (Nat.pow_le_pow_right (by omega) (by omega)))
  have y := PySem.Flt.log2_lt_of (k := b + 1) (by omega) (Nat.lt_of_lt_of_le hj (Nat.pow_le_pow_right (by omega) (by omega)))
  show i.natAbs.log2 + j.natAbs.log2 < 134000000
  omega
theorem divOk_of {i j : Int} (h0 : j ≠ 0) (h : j.natAbs.log2 < 9000) : DivOk i j := h0
theorem divOk_small {i j : Int} (h0 : j ≠ 0) (h : j.natAbs < 1073741824) : DivOk i j := h0
theorem small_nat {n : Nat} (h : n ≤ big) : small (n : Int) := by
  have hb : big = 16777216 := rfl
  exact ⟨by omega, by omega⟩
theorem atI_get' {α : Type} {xs : List α} {j : Nat} (h : j < xs.length) : atI xs (j : Int) = some xs[j] := atI_nat (List.getElem?_eq_getElem h)
theorem cutD_take (xs : List D) (k : Nat) : cutD xs none (some (k : Int)) = xs.take k := by
  unfold cutD
  rw [HT.sIx_none, HT.sIx_nat]
  simp only [List.drop_zero, Nat.sub_zero]
  rw [List.take_eq_take_iff]
  omega
theorem cutD_drop (xs : List D) (k : Nat) : cutD xs (some (k : Int)) none = xs.drop k := by
  unfold cutD
  rw [HT.sIx_none, HT.sIx_nat]
  by_cases h : k ≤ xs.length
  · rw [Nat.min_eq_left h, List.take_of_length_le (by simp)]
  · rw [Nat.min_eq_right (by omega), List.drop_of_length_le (Nat.le_refl _), List.drop_of_length_le (by omega)]
    simp
theorem cutD_both (xs : List D) (i j : Nat) : cutD xs (some (i : Int)) (some (j : Int)) = (xs.drop i).take (j - i) := by
  unfold cutD
  rw [HT.sIx_nat, HT.sIx_nat]
  by_cases h : i ≤ xs.length
  · rw [Nat.min_eq_left h]
    rw [List.take_eq_take_iff]
    simp only [List.length_drop]
    omega
  · rw [Nat.min_eq_right (show xs.length ≤ i by omega), List.drop_of_length_le (Nat.le_refl _), List.drop_of_length_le (show xs.length ≤ i by omega)]
    simp
/-- ints as data -/
def zs (ns : List Int) : List D := ns.map PyData.int
theorem zs_map (ns : List Int) : ns.map PyData.int = zs ns := rfl
@[simp] theorem zs_length (ns : List Int) : (zs ns).length = ns.length := List.length_map ..
@[simp] theorem zs_append (a b : List Int) : zs a ++ zs b = zs (a ++ b) := by simp [zs]
@[simp] theorem zs_take (a : List Int) (k : Nat) : (zs a).take k = zs (a.take k) := by simp [zs]
@[simp] theorem zs_drop (a : List Int) (k : Nat) : (zs a).drop k = zs (a.drop k) := by simp [zs]
@[simp] theorem zs_dropLast (a : List Int) : (zs a).dropLast = zs a.dropLast := by simp [zs, List.map_dropLast]
@[simp] theorem zs_set (a : List Int) (k : Nat) (x : Int) : (zs a).set k (.int x) = zs (a.set k x) := by simp [zs, List.map_set]
@[simp] theorem zs_snoc (a : List Int) (x : Int) : zs a ++ [.int x] = zs (a ++ [x]) := by simp [zs]
@[simp] theorem zs_cons (a : List Int) (x : Int) : PyData.int x :: zs a = zs (x :: a) := rfl
@[simp] theorem lfAll_zs (a : List Int) : lfAll (zs a) = true := lfAll_ints a
theorem zs_nil : zs [] = [] := rfl
theorem zs_rep (n : Nat) (x : Int) : List.replicate n (PyData.int x) = zs (List.replicate n x) := by simp [zs]
theorem zs_get {ns : List Int} {k : Nat} (h : k < ns.length) : (zs ns)[k]? = some (.int (ns[k]?.getD 0)) := by
  unfold zs
  rw [List.getElem?_map, List.getElem?_eq_getElem h]
  simp
theorem atI_zs {ns : List Int} {k : Nat} (h : k < ns.length) : atI (zs ns) (k : Int) = some (.int (ns[k]?.getD 0)) := atI_nat (zs_get h)
theorem ixN_nat {n k : Nat} (h : k < n) : ixN n (k : Int) = some k := by
  unfold ixN
  rw [if_pos (by omega), if_pos (by omega)]
  simp
@[simp] theorem tbl_ex (p : Pr) (n : Nat) : (tbl p n).ex = p.ex := rfl
@[simp] theorem tbl_G (p : Pr) (n : Nat) : (tbl p n).G = runF p n := rfl
theorem loop_rel {α σ : Type} {f : D → Env → Fl} {g : α → D} {R : σ → Env → Prop} {stp : σ → α → σ} (xs : List α) (h : ∀ s x η, x ∈ xs → R s η → ∃ η', f (g x) η = .nx η' ∧ R (stp s x) η') :
    ∀ s η, R s η → ∃ η', loopF f (xs.map g) η = .nx η' ∧ R (xs.foldl stp s) η' := by
  induction xs with
  | nil => exact fun s η r => ⟨η, rfl, r⟩
  | cons x xs ih =>
    intro s η r
    obtain ⟨η1, h1, r1⟩ := h s x η List.mem_cons_self r
    rw [List.map_cons, loopF, h1]
    exact ih (fun s y η hy => h s y η (List.mem_cons_of_mem _ hy)) _ η1 r1
/-- a loop over a range, by what holds at each turn -/
theorem loop_rng {f : D → Env → Fl} {lo : Int} {n : Nat} {R : Nat → Env → Prop} (h : ∀ k η, k < n → R k η → ∃ η', f (.int (lo + k)) η = .nx η' ∧ R (k + 1) η') : ∀ η, R 0 η → ∃ η', loopF f (rngD lo n) η = .nx η' ∧ R n η' := by
  have key : ∀ m k η, k + m = n → R k η → ∃ η', loopF f ((List.range' k m).map fun (j : Nat) => PyData.int (lo + j)) η = .nx η' ∧ R n η' := by
    intro m
    induction m with
    | zero =>
      intro k η e r
      have : k = n := by omega
      subst this
      exact ⟨η, rfl, r⟩
    | succ m ih =>
      intro k η e r
      obtain ⟨η1, h1, r1⟩ := h k η (by omega) r
      rw [List.range'_succ, List.map_cons, loopF, h1]
      exact ih (k + 1) η1 (by omega) r1
  intro η r
  have := key n 0 η (by omega) r
  rw [← List.range_eq_range'] at this
  exact this
theorem rngD_zero (n : Nat) : rngD 0 n = (List.range n).map fun (k : Nat) => PyData.int (k : Int) := by
  unfold rngD
  simp
theorem ev_comp_map {α : Type} {T : Tb} {η : Env} {v : Nat} {it e : E} {w : Wk} (xs : List α) (g k : α → D) (hv : freeS η v = true) (hi : evi T it η = .ok w) (hw : w.ds = xs.map g) (hl : xs.length ≤ big)
    (h : ∀ x ∈ xs, ev T e (η.set v (some (.sh (g x)))) = .ok (.cl (k x))) : ev T (.comp v it .nop e) η = .ok (.nw (xs.map k)) := by
  rw [ev_comp, if_pos hv, hi]
  simp only [Res.bind_ok, hw, tcond_nop]
  rw [comp_map xs h [] (by simpa using hl)]
  simp
theorem ev_comp2_map {α : Type} {T : Tb} {η : Env} {v u : Nat} {it e : E} {w : Wk} (xs : List α) (a b k : α → D) (hv : freeS η v = true) (hu : freeS η u = true) (hne : v ≠ u) (hi : evi T it η = .ok w) (hw : w.ds = xs.map fun x => .tuple [a x, b x]) (hl : xs.length ≤ big)
    (h : ∀ x ∈ xs, ev T e ((η.set v (some (.sh (a x)))).set u (some (.sh (b x)))) = .ok (.cl (k x))) : ev T (.comp2 v u it e) η = .ok (.nw (xs.map k)) := by
  rw [ev_comp2, if_pos ⟨hv, hu, hne⟩, hi]
  simp only [Res.bind_ok, hw]
  rw [comp_map (f := fun d => two2 d fun a b => ev T e ((η.set v (some (.sh a))).set u (some (.sh b)))) (g := fun x => PyData.tuple [a x, b x]) (k := k) xs h [] (by simpa using hl)]
  simp [compR]
theorem max_nat (a b : Nat) : max (a : Int) (b : Int) = ((max a b : Nat) : Int) := by omega
theorem canLay_zs (ns : List Int) : PyData.canLayAll0 (zs ns) = true := by
  induction ns with
  | nil => rfl
  | cons n ns ih =>
    show (PyData.canLay0 (.int n) && PyData.canLayAll0 (zs ns)) = true
    rw [ih]
    rfl
theorem depth_zs (ns : List Int) : PyData.depthAll (zs ns) = 0 := by
  induction ns with
  | nil => rfl
  | cons n ns ih =>
    show max (PyData.depth (.int n)) (PyData.depthAll (zs ns)) = 0
    rw [ih]
    rfl
theorem shaped_l (ns : List Int) : SeqAt.shaped (.list (zs ns)) = true := by
  unfold SeqAt.shaped
  rw [PyData.canLay0, canLay_zs, PyData.depth, depth_zs]
  rfl
theorem shaped_t (ns : List Int) : SeqAt.shaped (.tuple (zs ns)) = true := by
  unfold SeqAt.shaped
  rw [PyData.canLay0, canLay_zs, PyData.depth, depth_zs]
  rfl
theorem eqvAll_zs : ∀ a b : List Int, PyData.eqvAll (zs a) (zs b) = decide (a = b)
  | [], [] => by simp [zs, PyData.eqvAll]
  | [], _ :: _ => by simp [zs, PyData.eqvAll]
  | _ :: _, [] => by simp [zs, PyData.eqvAll]
  | x :: a, y :: b => by
    show (PyData.eqv (.int x) (.int y) && PyData.eqvAll (zs a) (zs b)) = _
    rw [eqvAll_zs a b]
    have : PyData.eqv (.int x) (.int y) = (x == y) := by rw [PyData.eqv]
    rw [this]
    by_cases h : x = y
    · subst h; simp
    · simp [h]
@[simp] theorem eqD_lz (a b : List Int) : eqD (.list (zs a)) (.list (zs b)) = .ok (decide (a = b)) := by
  have : eqD (.list (zs a)) (.list (zs b)) = if SeqAt.shaped (.list (zs a)) = true ∧ SeqAt.shaped (.list (zs b)) = true then .ok (PyData.eqv (.list (zs a)) (.list (zs b))) else .st := rfl
  rw [this, if_pos ⟨shaped_l a, shaped_l b⟩, PyData.eqv, eqvAll_zs]
@[simp] theorem eqD_tz (a b : List Int) : eqD (.tuple (zs a)) (.tuple (zs b)) = .ok (decide (a = b)) := by
  have : eqD (.tuple (zs a)) (.tuple (zs b)) = if SeqAt.shaped (.tuple (zs a)) = true ∧ SeqAt.shaped (.tuple (zs b)) = true then .ok (PyData.eqv (.tuple (zs a)) (.tuple (zs b))) else .st := rfl
  rw [this, if_pos ⟨shaped_t a, shaped_t b⟩, PyData.eqv, eqvAll_zs]
@[simp] theorem eqD_l0 (a : List Int) : eqD (.list (zs a)) (.list []) = .ok (decide (a = [])) := eqD_lz a []
@[simp] theorem eqD_t0 (a : List Int) : eqD (.tuple (zs a)) (.tuple []) = .ok (decide (a = [])) := eqD_tz a []
theorem boolsOf_map {α : Type} (xs : List α) (p : α → Bool) : boolsOf (xs.map fun x => .bool (p x)) = some (xs.map p) := by
  induction xs with
  | nil => rfl
  | cons x xs ih => rw [List.map_cons, boolsOf, ih]; rfl
theorem all1_n {α : Type} (xs : List α) (p : α → Bool) : biV .all1 [.nw (xs.map fun x => .bool (p x))] = .ok (.cl (.bool ((xs.map p).all id))) := by
  show (oOk (boolsOf (xs.map fun x => .bool (p x)))).map (fun bs => Val.cl (.bool (bs.all id))) = _
  rw [boolsOf_map]
  rfl
theorem fmod_lo (i : Int) {j : Int} (h : 0 < j) : 0 ≤ i.fmod j := Int.fmod_nonneg_of_pos i h
theorem fmod_hi (i : Int) {j : Int} (h : 0 < j) : i.fmod j < j := Int.fmod_lt_of_pos i h
/-! the atoms of lists of ints -/
theorem getD_mem {ns : List Int} {k : Nat} {P : Int → Prop} (h : ∀ c ∈ ns, P c) (h0 : P 0) : P (ns[k]?.getD 0) := by
  cases e : ns[k]? with
  | none => exact h0
  | some c => exact h c (List.mem_of_getElem? e)
end PD

/-! the table of law_k09_bare_rows, printed by wip/gen.py -/
namespace Lw
open PySem PySem.Spec PyProof.Rows L2 PD
def topS (i : Nat) : Stmt := PySem.Challenge.pw_planestacks_k09_bare_rows.main.body.getD i (.Pass ⟨0, 0, 0, 0⟩)
abbrev k_shared_part : Nat := 0
abbrev k_trimmed : Nat := 1
abbrev k_slope : Nat := 2
abbrev k_put_low : Nat := 3
abbrev k_plain_row : Nat := 4
abbrev k_divided : Nat := 5
abbrev k_rest_of : Nat := 6
abbrev k_shared_row : Nat := 7
abbrev k_quotient_of : Nat := 8
abbrev k_bare_row : Nat := 9
abbrev k__law_cell : Nat := 10
abbrev k__law_numbers : Nat := 11
abbrev k__law_whole : Nat := 12
abbrev k__law_trim : Nat := 13
abbrev k__law_times : Nat := 14
abbrev k__law_some_row : Nat := 15
abbrev k__law_planted : Nat := 16
abbrev k__law_row : Nat := 17
abbrev k__law_left : Nat := 18
abbrev k__law_put_low : Nat := 19
abbrev k__law_plain : Nat := 20
abbrev k__law_shared : Nat := 21
abbrev k__law_right : Nat := 22
abbrev k__law_times_in : Nat := 23
abbrev k__law_bare : Nat := 24
abbrev k__law_grown : Nat := 25
abbrev k_law : Nat := 26
def c_shared_part_1 : E := .tcmp .gt (.var 1) (.int 0)
def w_shared_part_1 : S := (.seq (.par 0 1 (.var 1) (.bin .mod (.var 0) (.var 1))) .skip)
/-- shared_part -/
def b_shared_part : S := (.seq (.par 0 1 (.bi .abs (.cons (.var 0) .nil)) (.bi .abs (.cons (.var 1) .nil))) (.seq (.wh c_shared_part_1 w_shared_part_1) (.seq (.ret (.var 0)) .skip)))
abbrev i_shared_part : Fi := { name := "shared_part", N := ["a", "b"], np := 2, body := b_shared_part }
def c_trimmed_1 : E := .tbop true (.tcmp .gt (.var 1) (.int 0)) (.tbone true (.tcmp .eq (.idx (.var 0) (.bin .sub (.var 1) (.int 1))) (.int 0)))
def w_trimmed_1 : S := (.seq (.aug 1 .sub (.int 1)) .skip)
/-- trimmed -/
def b_trimmed : S := (.seq (.asg 1 (.bi .len (.cons (.var 0) .nil))) (.seq (.wh c_trimmed_1 w_trimmed_1) (.seq (.ret (.bi .tuple1 (.cons (.sl (.var 0) (.nop) (.sop (.var 1))) .nil))) .skip)))
abbrev i_trimmed : Fi := { name := "trimmed", N := ["parts", "end"], np := 1, body := b_trimmed }
/-- slope -/
def b_slope : S := (.seq (.ret (.call k_trimmed (.cons (.comp 1 (.ir2 (.int 1) (.bi .len (.cons (.var 0) .nil))) (.nop) (.bin .mul (.var 1) (.idx (.var 0) (.var 1)))) .nil))) .skip)
abbrev i_slope : Fi := { name := "slope", N := ["f", "k"], np := 1, body := b_slope }
def w_put_low_1 : S := (.seq (.asg 1 (.call k_shared_part (.cons (.var 1) (.cons (.var 2) .nil)))) .skip)
/-- put_low -/
def b_put_low : S := (.seq (.asg 1 (.int 0)) (.seq (.fo 2 (.itv (.var 0)) w_put_low_1) (.seq (.ite (.tcmp .eq (.var 1) (.int 0)) (.seq (.ret (.tup .nil)) .skip) .skip) (.seq (.ret (.bi .tuple1 (.cons (.comp 2 (.itv (.var 0)) (.nop) (.bin .fdiv (.var 2) (.var 1))) .nil))) .skip))))
abbrev i_put_low : Fi := { name := "put_low", N := ["f", "part", "number"], np := 1, body := b_put_low }
/-- plain_row -/
def b_plain_row : S := (.seq (.asg 1 (.call k_put_low (.cons (.var 0) .nil))) (.seq (.ite (.tbop true (.tcmp .gt (.bi .len (.cons (.var 1) .nil)) (.int 0)) (.tbone true (.tcmp .lt (.idx (.var 1) (.neg (.int 1))) (.int 0)))) (.seq (.ret (.bi .tuple1 (.cons (.comp 2 (.itv (.var 1)) (.nop) (.bin .sub (.int 0) (.var 2))) .nil))) .skip) .skip) (.seq (.ret (.var 1)) .skip)))
abbrev i_plain_row : Fi := { name := "plain_row", N := ["f", "low", "number"], np := 1, body := b_plain_row }
def w_divided_2 : S := (.seq (.aput 3 .sub (.bin .add (.var 5) (.var 7)) (.bin .mul (.var 6) (.idx (.var 1) (.var 7)))) .skip)
def c_divided_1 : E := .tcmp .ge (.bi .len (.cons (.var 3) .nil)) (.bi .len (.cons (.var 1) .nil))
def w_divided_1 : S := (.seq (.asg 5 (.bin .sub (.bi .len (.cons (.var 3) .nil)) (.bi .len (.cons (.var 1) .nil)))) (.seq (.asg 6 (.idx (.var 3) (.neg (.int 1)))) (.seq (.ite (.tcmp .lt (.var 2) (.int 0)) (.seq (.asg 6 (.bin .sub (.int 0) (.var 6))) .skip) .skip) (.seq (.asg 3 (.comp 8 (.itv (.var 3)) (.nop) (.bin .mul (.var 8) (.bi .abs (.cons (.var 2) .nil))))) (.seq (.asg 4 (.comp 8 (.itv (.var 4)) (.nop) (.bin .mul (.var 8) (.bi .abs (.cons (.var 2) .nil))))) (.seq (.aput 4 .add (.var 5) (.var 6)) (.seq (.fo 7 (.ir1 (.bi .len (.cons (.var 1) .nil))) w_divided_2) (.seq (.pop 3) .skip))))))))
/-- divided -/
def b_divided : S := (.seq (.asg 2 (.idx (.var 1) (.neg (.int 1)))) (.seq (.asg 3 (.bi .list1 (.cons (.var 0) .nil))) (.seq (.asg 4 (.bin .mul (.lst (.cons (.int 0) .nil)) (.bi .max2 (.cons (.int 0) (.cons (.bin .add (.bin .sub (.bi .len (.cons (.var 0) .nil)) (.bi .len (.cons (.var 1) .nil))) (.int 1)) .nil))))) (.seq (.wh c_divided_1 w_divided_1) (.seq (.ret (.tup (.cons (.call k_trimmed (.cons (.var 4) .nil)) (.cons (.call k_trimmed (.cons (.var 3) .nil)) .nil)))) .skip)))))
abbrev i_divided : Fi := { name := "divided", N := ["f", "g", "last", "rest", "quotient", "start", "much", "k", "number"], np := 2, body := b_divided }
/-- rest_of -/
def b_rest_of : S := (.seq (.ite (.tcmp .eq (.bi .len (.cons (.var 1) .nil)) (.int 0)) (.seq (.rai 2) .skip) .skip) (.seq (.ret (.call k_put_low (.cons (.idx (.call k_divided (.cons (.var 0) (.cons (.var 1) .nil))) (.int 1)) .nil))) .skip))
abbrev i_rest_of : Fi := { name := "rest_of", N := ["f", "g"], np := 2, body := b_rest_of }
def c_shared_row_1 : E := .tcmp .gt (.bi .len (.cons (.var 1) .nil)) (.int 0)
def w_shared_row_1 : S := (.seq (.par 0 1 (.var 1) (.call k_rest_of (.cons (.var 0) (.cons (.var 1) .nil)))) .skip)
/-- shared_row -/
def b_shared_row : S := (.seq (.wh c_shared_row_1 w_shared_row_1) (.seq (.ret (.call k_plain_row (.cons (.var 0) .nil))) .skip))
abbrev i_shared_row : Fi := { name := "shared_row", N := ["f", "g"], np := 2, body := b_shared_row }
/-- quotient_of -/
def b_quotient_of : S := (.seq (.ite (.tcmp .eq (.bi .len (.cons (.var 1) .nil)) (.int 0)) (.seq (.rai 2) .skip) .skip) (.seq (.asgT [2, 3] (.call k_divided (.cons (.var 0) (.cons (.var 1) .nil)))) (.seq (.ite (.tcmp .gt (.bi .len (.cons (.var 3) .nil)) (.int 0)) (.seq (.rai 2) .skip) .skip) (.seq (.ret (.call k_put_low (.cons (.var 2) .nil))) .skip))))
abbrev i_quotient_of : Fi := { name := "quotient_of", N := ["f", "g", "quotient", "rest"], np := 2, body := b_quotient_of }
/-- bare_row -/
def b_bare_row : S := (.seq (.ite (.tcmp .eq (.bi .len (.cons (.var 0) .nil)) (.int 0)) (.seq (.rai 2) .skip) .skip) (.seq (.ret (.call k_plain_row (.cons (.call k_quotient_of (.cons (.var 0) (.cons (.call k_shared_row (.cons (.var 0) (.cons (.call k_slope (.cons (.var 0) .nil)) .nil))) .nil))) .nil))) .skip))
abbrev i_bare_row : Fi := { name := "bare_row", N := ["f"], np := 1, body := b_bare_row }
def w__law_cell_1 : S := (.seq (.asg 2 (.bin .mod (.bin .add (.bin .mul (.var 2) (.int 69621)) (.var 3)) (.int 2147483647))) .skip)
/-- _law_cell -/
def b__law_cell : S := (.seq (.ite (.tcmp .lt (.var 1) (.bi .len (.cons (.var 0) .nil))) (.seq (.ret (.idx (.var 0) (.var 1))) .skip) .skip) (.seq (.asg 2 (.bin .mod (.bin .mul (.int 48271) (.bin .add (.bin .add (.bin .mul (.var 1) (.var 1)) (.bin .mul (.int 7) (.var 1))) (.int 11))) (.int 2147483647))) (.seq (.fo 3 (.itv (.sl (.var 0) (.nop) (.sop (.int 3)))) w__law_cell_1) (.seq (.ret (.var 2)) .skip))))
abbrev i__law_cell : Fi := { name := "_law_cell", N := ["_law_script", "_law_k", "_law_state", "_law_cell_here"], np := 2, body := b__law_cell }
def w__law_numbers_1 : S := (.seq (.asg 3 (.bin .mod (.bin .add (.bin .add (.bin .mul (.var 3) (.bin .add (.bin .mod (.var 3) (.int 65521)) (.int 40487))) (.bin .mul (.int 7) (.var 5))) (.int 5)) (.int 1999999973))) (.seq (.app 2 (.idx (.lst (.cons (.var 3) (.cons (.bin .mod (.var 4) (.int 1000000)) .nil))) (.bi .int1 (.cons (.cmp .gt (.var 4) (.int 0)) .nil)))) (.seq (.asg 4 (.bin .fdiv (.var 4) (.int 1000000))) .skip)))
/-- _law_numbers -/
def b__law_numbers : S := (.seq (.asg 2 (.lst .nil)) (.seq (.asg 3 (.bin .mod (.bin .mul (.bin .add (.bin .mod (.var 0) (.int 1999999973)) (.int 31)) (.int 765432101)) (.int 1999999973))) (.seq (.asg 4 (.int 0)) (.seq (.ite (.tbop false (.tcmp .lt (.var 0) (.int 0)) (.tbone false (.tcmp .ge (.var 0) (.bin .pow (.int 10) (.int 18))))) (.seq (.asg 4 (.bi .abs (.cons (.var 0) .nil))) .skip) .skip) (.seq (.fo 5 (.ir1 (.var 1)) w__law_numbers_1) (.seq (.ret (.var 2)) .skip))))))
abbrev i__law_numbers : Fi := { name := "_law_numbers", N := ["_law_cell_here", "_law_many", "_law_found", "_law_state", "_law_digits", "_law_k"], np := 2, body := b__law_numbers }
/-- _law_whole -/
def b__law_whole : S := (.seq (.ret (.bop true (.isi (.var 0) .int) (.bone true (.not (.isi (.var 0) .bool))))) .skip)
abbrev i__law_whole : Fi := { name := "_law_whole", N := ["_law_found"], np := 1, body := b__law_whole }
def c__law_trim_1 : E := .tbop true (.tcmp .ne (.var 1) (.lst .nil)) (.tbone true (.tcmp .eq (.idx (.var 1) (.bin .sub (.bi .len (.cons (.var 1) .nil)) (.int 1))) (.int 0)))
def w__law_trim_1 : S := (.seq (.pop 1) .skip)
/-- _law_trim -/
def b__law_trim : S := (.seq (.asg 1 (.bi .list1 (.cons (.var 0) .nil))) (.seq (.wh c__law_trim_1 w__law_trim_1) (.seq (.ret (.bi .tuple1 (.cons (.var 1) .nil))) .skip)))
abbrev i__law_trim : Fi := { name := "_law_trim", N := ["_law_parts", "_law_found"], np := 1, body := b__law_trim }
def w__law_times_2 : S := (.seq (.put 2 (.bin .add (.var 3) (.var 4)) (.bin .add (.idx (.var 2) (.bin .add (.var 3) (.var 4))) (.bin .mul (.idx (.var 0) (.var 3)) (.idx (.var 1) (.var 4))))) .skip)
def w__law_times_1 : S := (.seq (.fo 4 (.ir1 (.bi .len (.cons (.var 1) .nil))) w__law_times_2) .skip)
/-- _law_times -/
def b__law_times : S := (.seq (.asg 2 (.bin .mul (.lst (.cons (.int 0) .nil)) (.bin .add (.bi .len (.cons (.var 0) .nil)) (.bi .len (.cons (.var 1) .nil))))) (.seq (.fo 3 (.ir1 (.bi .len (.cons (.var 0) .nil))) w__law_times_1) (.seq (.ret (.call k__law_trim (.cons (.var 2) .nil))) .skip)))
abbrev i__law_times : Fi := { name := "_law_times", N := ["_law_one", "_law_other", "_law_found", "_law_i", "_law_j"], np := 2, body := b__law_times }
/-- _law_some_row -/
def b__law_some_row : S := (.seq (.asg 2 (.idx (.lst (.cons (.int 9) (.cons (.int 3) (.cons (.int 1) (.cons (.int 1000) .nil))))) (.bin .mod (.idx (.var 0) (.int 0)) (.int 4)))) (.seq (.ret (.call k__law_trim (.cons (.comp 3 (.itv (.sl (.var 0) (.sop (.int 2)) (.sop (.bin .add (.int 3) (.bin .mod (.idx (.var 0) (.int 1)) (.bin .add (.var 1) (.int 1))))))) (.nop) (.bin .sub (.bin .mod (.var 3) (.bin .add (.bin .mul (.int 2) (.var 2)) (.int 1))) (.var 2))) .nil))) .skip))
abbrev i__law_some_row : Fi := { name := "_law_some_row", N := ["_law_xs", "_law_most", "_law_size", "_law_x"], np := 2, body := b__law_some_row }
def w__law_planted_2 : S := (.seq (.asg 1 (.call k__law_times (.cons (.var 1) (.cons (.var 3) .nil)))) .skip)
def w__law_planted_1 : S := (.seq (.asg 3 (.tup (.cons (.bin .sub (.bin .mod (.idx (.var 0) (.bin .add (.int 2) (.bin .mul (.int 2) (.var 2)))) (.int 9)) (.int 4)) (.cons (.bin .add (.int 1) (.bin .mod (.idx (.var 0) (.bin .add (.int 3) (.bin .mul (.int 2) (.var 2)))) (.int 3))) .nil)))) (.seq (.fo 4 (.ir1 (.bin .add (.int 1) (.bin .mod (.bin .fdiv (.idx (.var 0) (.bin .add (.int 2) (.bin .mul (.int 2) (.var 2)))) (.int 9)) (.int 2)))) w__law_planted_2) .skip))
/-- _law_planted -/
def b__law_planted : S := (.seq (.asg 1 (.tup (.cons (.bin .add (.int 1) (.bin .mod (.idx (.var 0) (.int 0)) (.int 3))) .nil))) (.seq (.ite (.tcmp .eq (.bin .mod (.bin .fdiv (.idx (.var 0) (.int 0)) (.int 3)) (.int 2)) (.int 1)) (.seq (.asg 1 (.tup (.cons (.bin .sub (.neg (.int 1)) (.bin .mod (.idx (.var 0) (.int 0)) (.int 3))) .nil))) .skip) .skip) (.seq (.fo 2 (.ir1 (.bin .mod (.idx (.var 0) (.int 1)) (.int 4))) w__law_planted_1) (.seq (.ret (.var 1)) .skip))))
abbrev i__law_planted : Fi := { name := "_law_planted", N := ["_law_xs", "_law_found", "_law_k", "_law_factor", "_law_again"], np := 1, body := b__law_planted }
/-- _law_row -/
def b__law_row : S := (.seq (.asg 2 (.call k__law_numbers (.cons (.var 0) (.cons (.int 22) .nil)))) (.seq (.asg 3 (.bin .mod (.idx (.var 2) (.int 0)) (.int 5))) (.seq (.ite (.tcmp .eq (.var 3) (.int 0)) (.seq (.ret (.call k__law_planted (.cons (.sl (.var 2) (.sop (.int 1)) (.nop)) .nil))) .skip) .skip) (.seq (.ite (.tcmp .eq (.var 3) (.int 1)) (.seq (.ret (.call k__law_times (.cons (.call k__law_planted (.cons (.bin .add (.sl (.var 2) (.sop (.int 1)) (.sop (.int 5))) (.bin .mul (.lst (.cons (.int 0) .nil)) (.int 6))) .nil)) (.cons (.call k__law_some_row (.cons (.sl (.var 2) (.sop (.int 12)) (.nop)) (.cons (.int 2) .nil))) .nil)))) .skip) .skip) (.seq (.ite (.tcmp .eq (.var 3) (.int 2)) (.seq (.ret (.call k__law_times (.cons (.call k__law_some_row (.cons (.sl (.var 2) (.sop (.int 1)) (.nop)) (.cons (.int 2) .nil))) (.cons (.call k__law_some_row (.cons (.sl (.var 2) (.sop (.int 12)) (.nop)) (.cons (.int 2) .nil))) .nil)))) .skip) .skip) (.seq (.ret (.call k__law_some_row (.cons (.sl (.var 2) (.sop (.int 1)) (.nop)) (.cons (.var 1) .nil)))) .skip))))))
abbrev i__law_row : Fi := { name := "_law_row", N := ["_law_cell_here", "_law_most", "_law_xs", "_law_way"], np := 2, body := b__law_row }
def w__law_left_2 : S := (.seq (.put 3 (.bin .add (.var 5) (.var 6)) (.bin .sub (.idx (.var 3) (.bin .add (.var 5) (.var 6))) (.bin .mul (.bin .mul (.var 4) (.var 2)) (.idx (.var 1) (.var 6))))) .skip)
def c__law_left_1 : E := .tcmp .ge (.bi .len (.cons (.var 3) .nil)) (.bi .len (.cons (.var 1) .nil))
def w__law_left_1 : S := (.seq (.popA 4 3) (.seq (.asg 5 (.bin .add (.bin .sub (.bi .len (.cons (.var 3) .nil)) (.bi .len (.cons (.var 1) .nil))) (.int 1))) (.seq (.asg 3 (.comp 7 (.itv (.var 3)) (.nop) (.bin .mul (.bin .mul (.var 7) (.var 2)) (.var 2)))) (.seq (.fo 6 (.ir1 (.bin .sub (.bi .len (.cons (.var 1) .nil)) (.int 1))) w__law_left_2) .skip))))
/-- _law_left -/
def b__law_left : S := (.seq (.asg 2 (.idx (.var 1) (.bin .sub (.bi .len (.cons (.var 1) .nil)) (.int 1)))) (.seq (.asg 3 (.bi .list1 (.cons (.var 0) .nil))) (.seq (.wh c__law_left_1 w__law_left_1) (.seq (.ret (.call k__law_trim (.cons (.var 3) .nil))) .skip))))
abbrev i__law_left : Fi := { name := "_law_left", N := ["_law_f", "_law_g", "_law_last", "_law_some", "_law_top", "_law_start", "_law_k", "_law_x"], np := 2, body := b__law_left }
def c__law_put_low_2 : E := .tcmp .gt (.var 2) (.int 0)
def w__law_put_low_2 : S := (.seq (.asgT [1, 2] (.tup (.cons (.var 2) (.cons (.bin .mod (.var 1) (.var 2)) .nil)))) .skip)
def w__law_put_low_1 : S := (.seq (.asg 2 (.bi .abs (.cons (.var 2) .nil))) (.seq (.wh c__law_put_low_2 w__law_put_low_2) .skip))
/-- _law_put_low -/
def b__law_put_low : S := (.seq (.asg 1 (.int 0)) (.seq (.fo 2 (.itv (.var 0)) w__law_put_low_1) (.seq (.ret (.bi .tuple1 (.cons (.comp 2 (.itv (.var 0)) (.nop) (.bin .fdiv (.var 2) (.bi .max2 (.cons (.int 1) (.cons (.var 1) .nil))))) .nil))) .skip)))
abbrev i__law_put_low : Fi := { name := "_law_put_low", N := ["_law_row_here", "_law_part", "_law_x"], np := 1, body := b__law_put_low }
/-- _law_plain -/
def b__law_plain : S := (.seq (.asg 1 (.call k__law_put_low (.cons (.var 0) .nil))) (.seq (.ite (.tbop true (.tcmp .ne (.var 1) (.tup .nil)) (.tbone true (.tcmp .lt (.idx (.var 1) (.bin .sub (.bi .len (.cons (.var 1) .nil)) (.int 1))) (.int 0)))) (.seq (.asg 1 (.bi .tuple1 (.cons (.comp 2 (.itv (.var 1)) (.nop) (.bin .sub (.int 0) (.var 2))) .nil))) .skip) .skip) (.seq (.ret (.var 1)) .skip)))
abbrev i__law_plain : Fi := { name := "_law_plain", N := ["_law_row_here", "_law_found", "_law_x"], np := 1, body := b__law_plain }
def c__law_shared_1 : E := .tcmp .ne (.var 1) (.tup .nil)
def w__law_shared_1 : S := (.seq (.par 0 1 (.var 1) (.call k__law_put_low (.cons (.call k__law_left (.cons (.var 0) (.cons (.var 1) .nil))) .nil))) .skip)
/-- _law_shared -/
def b__law_shared : S := (.seq (.wh c__law_shared_1 w__law_shared_1) (.seq (.ret (.call k__law_plain (.cons (.var 0) .nil))) .skip))
abbrev i__law_shared : Fi := { name := "_law_shared", N := ["_law_f", "_law_g"], np := 2, body := b__law_shared }
/-- _law_right -/
def b__law_right : S := (.seq (.ret (.bop true (.isi (.var 0) .tuple) (.bop true (.cmp .eq (.var 0) (.var 1)) (.bone true (.bi .all1 (.cons (.comp 2 (.itv (.var 0)) (.nop) (.call k__law_whole (.cons (.var 2) .nil))) .nil)))))) .skip)
abbrev i__law_right : Fi := { name := "_law_right", N := ["_law_found", "_law_due", "_law_x"], np := 2, body := b__law_right }
def w__law_times_in_2 : S := (.seq (.put 3 (.bin .add (.var 5) (.var 7)) (.bin .sub (.idx (.var 3) (.bin .add (.var 5) (.var 7))) (.bin .mul (.bin .mul (.var 6) (.var 4)) (.idx (.var 1) (.var 7))))) .skip)
def c__law_times_in_1 : E := .tcmp .ge (.bi .len (.cons (.var 3) .nil)) (.bi .len (.cons (.var 1) .nil))
def w__law_times_in_1 : S := (.seq (.asg 5 (.bin .sub (.bi .len (.cons (.var 3) .nil)) (.bi .len (.cons (.var 1) .nil)))) (.seq (.asg 6 (.idx (.var 3) (.bin .sub (.bi .len (.cons (.var 3) .nil)) (.int 1)))) (.seq (.asg 2 (.comp 8 (.itv (.var 2)) (.nop) (.bin .mul (.bin .mul (.var 8) (.var 4)) (.var 4)))) (.seq (.put 2 (.var 5) (.bin .add (.idx (.var 2) (.var 5)) (.bin .mul (.var 6) (.var 4)))) (.seq (.asg 3 (.comp 8 (.itv (.var 3)) (.nop) (.bin .mul (.bin .mul (.var 8) (.var 4)) (.var 4)))) (.seq (.fo 7 (.ir1 (.bi .len (.cons (.var 1) .nil))) w__law_times_in_2) (.seq (.pop 3) .skip)))))))
/-- _law_times_in -/
def b__law_times_in : S := (.seq (.asg 2 (.bin .mul (.lst (.cons (.int 0) .nil)) (.bin .add (.bin .sub (.bi .len (.cons (.var 0) .nil)) (.bi .len (.cons (.var 1) .nil))) (.int 1)))) (.seq (.asg 3 (.bi .list1 (.cons (.var 0) .nil))) (.seq (.asg 4 (.idx (.var 1) (.bin .sub (.bi .len (.cons (.var 1) .nil)) (.int 1)))) (.seq (.wh c__law_times_in_1 w__law_times_in_1) (.seq (.ret (.call k__law_trim (.cons (.var 2) .nil))) .skip)))))
abbrev i__law_times_in : Fi := { name := "_law_times_in", N := ["_law_f", "_law_g", "_law_found", "_law_some", "_law_last", "_law_start", "_law_top", "_law_k", "_law_x"], np := 2, body := b__law_times_in }
/-- _law_bare -/
def b__law_bare : S := (.seq (.asg 1 (.call k__law_shared (.cons (.var 0) (.cons (.bi .tuple1 (.cons (.comp 2 (.ir2 (.int 1) (.bi .len (.cons (.var 0) .nil))) (.nop) (.bin .mul (.var 2) (.idx (.var 0) (.var 2)))) .nil)) .nil)))) (.seq (.ret (.call k__law_plain (.cons (.call k__law_times_in (.cons (.var 0) (.cons (.var 1) .nil))) .nil))) .skip))
abbrev i__law_bare : Fi := { name := "_law_bare", N := ["_law_row_here", "_law_common", "_law_k"], np := 1, body := b__law_bare }
def w__law_grown_2 : S := (.seq (.ite (.tcmp .lt (.bin .add (.bi .len (.cons (.var 4) .nil)) (.bi .len (.cons (.idx (.var 1) (.var 2)) .nil))) (.int 7)) (.seq (.asg 4 (.call k__law_times (.cons (.var 4) (.cons (.idx (.var 1) (.var 2)) .nil)))) .skip) .skip) .skip)
def w__law_grown_1 : S := (.seq (.asg 5 (.call k__law_times (.cons (.var 5) (.cons (.idx (.var 1) (.var 2)) .nil)))) (.seq (.asg 4 (.call k__law_times (.cons (.var 4) (.cons (.idx (.var 1) (.var 2)) .nil)))) (.seq (.fo 6 (.ir1 (.bin .mod (.idx (.var 0) (.bin .add (.int 10) (.var 2))) (.int 3))) w__law_grown_2) .skip)))
def w__law_grown_3 : S := (.seq (.asg 3 (.call k__law_plain (.cons (.tup (.cons (.bin .sub (.bin .mod (.idx (.var 0) (.bin .add (.int 1) (.bin .mul (.int 2) (.var 2)))) (.int 9)) (.int 4)) (.cons (.bin .add (.int 1) (.bin .mod (.idx (.var 0) (.bin .add (.int 2) (.bin .mul (.int 2) (.var 2)))) (.int 4))) .nil))) .nil))) (.seq (.ite (.tcmp .niC (.var 3) (.var 1)) (.seq (.app 1 (.var 3)) .skip) .skip) .skip))
/-- _law_grown -/
def b__law_grown : S := (.seq (.asg 1 (.lst .nil)) (.seq (.fo 2 (.ir1 (.bin .add (.int 1) (.bin .mod (.idx (.var 0) (.int 0)) (.int 3)))) w__law_grown_3) (.seq (.ite (.tcmp .eq (.bin .mod (.idx (.var 0) (.int 7)) (.int 2)) (.int 1)) (.seq (.app 1 (.idx (.lst (.cons (.tup (.cons (.int 1) (.cons (.int 0) (.cons (.int 1) .nil)))) (.cons (.tup (.cons (.neg (.int 2)) (.cons (.int 0) (.cons (.int 1) .nil)))) (.cons (.tup (.cons (.int 1) (.cons (.int 1) (.cons (.int 1) .nil)))) (.cons (.tup (.cons (.neg (.int 3)) (.cons (.int 0) (.cons (.int 0) (.cons (.int 1) .nil))))) .nil))))) (.bin .mod (.idx (.var 0) (.int 8)) (.int 4)))) .skip) .skip) (.seq (.asg 4 (.tup (.cons (.bin .add (.int 1) (.bin .mod (.idx (.var 0) (.int 9)) (.int 6))) .nil))) (.seq (.asg 5 (.tup (.cons (.int 1) .nil))) (.seq (.fo 2 (.ir1 (.bi .len (.cons (.var 1) .nil))) w__law_grown_1) (.seq (.ret (.tup (.cons (.bi .tuple1 (.cons (.comp 7 (.itv (.var 4)) (.nop) (.bin .mul (.var 7) (.idx (.lst (.cons (.int 1) (.cons (.neg (.int 1)) .nil))) (.bin .mod (.idx (.var 0) (.int 14)) (.int 2))))) .nil)) (.cons (.call k__law_plain (.cons (.var 5) .nil)) .nil)))) .skip)))))))
abbrev i__law_grown : Fi := { name := "_law_grown", N := ["_law_xs", "_law_factors", "_law_k", "_law_factor", "_law_row_here", "_law_bare_here", "_law_turn", "_law_x"], np := 1, body := b__law_grown }
def w_law_1 : S := (.seq (.asg 2 (.call k__law_row (.cons (.var 1) (.cons (.int 6) .nil)))) (.seq (.ite (.tcmp .eq (.var 2) (.tup .nil)) (.seq (.asg 2 (.tup (.cons (.int 0) (.cons (.int 1) .nil)))) .skip) .skip) (.seq (.ite (.tnot (.tst (.call k__law_right (.cons (.call k_bare_row (.cons (.var 2) .nil)) (.cons (.call k__law_bare (.cons (.var 2) .nil)) .nil))))) (.seq (.ret (.bl false)) .skip) .skip) (.seq (.asgT [2, 3] (.call k__law_grown (.cons (.call k__law_numbers (.cons (.bin .add (.bin .fdiv (.var 1) (.int 3)) (.int 1)) (.cons (.int 15) .nil))) .nil))) (.seq (.ite (.tbop false (.tnot (.tst (.call k__law_right (.cons (.call k_bare_row (.cons (.var 2) .nil)) (.cons (.var 3) .nil))))) (.tbone false (.tnot (.tst (.call k__law_right (.cons (.call k_bare_row (.cons (.var 3) .nil)) (.cons (.var 3) .nil))))))) (.seq (.ret (.bl false)) .skip) .skip) .skip)))))
/-- law -/
def b_law : S := (.seq (.fo 1 (.itv (.bin .add (.lst (.cons (.call k__law_cell (.cons (.var 0) (.cons (.int 0) .nil))) .nil)) (.sl (.var 0) (.sop (.int 1)) (.sop (.int 8))))) w_law_1) (.seq (.tryA (.seq (.ex (.call k_bare_row (.cons (.tup .nil) .nil))) .skip) 0 4 (.ret (.only 1))) (.seq (.ret (.bl false)) .skip)))
abbrev i_law : Fi := { name := "law", N := ["_law_script", "_law_cell_here", "_law_row_here", "_law_due", "_law_e"], np := 1, body := b_law }
abbrev fis : List Fi := [i_shared_part, i_trimmed, i_slope, i_put_low, i_plain_row, i_divided, i_rest_of, i_shared_row, i_quotient_of, i_bare_row, i__law_cell, i__law_numbers, i__law_whole, i__law_trim, i__law_times, i__law_some_row, i__law_planted, i__law_row, i__law_left, i__law_put_low, i__law_plain, i__law_shared, i__law_right, i__law_times_in, i__law_bare, i__law_grown, i_law]
def pr : Pr := { fs := fis, gl := [], ex := ["StackError", "NoNumber", "NoRow", "NoEnds", "NoPlace", "NoText", "NoKind", "NoHeight", "NoLine"], ct := [0], hx := true, on := true }
theorem st_shared_part (n : Nat) (x0 x1 : D) : runF pr (n + 1) k_shared_part [x0, x1] = finF (exS (tbl pr n) b_shared_part [some (.sh x0), some (.sh x1)]) := runF_eq pr n k_shared_part i_shared_part _ rfl rfl
theorem st_trimmed (n : Nat) (x0 : D) : runF pr (n + 1) k_trimmed [x0] = finF (exS (tbl pr n) b_trimmed [some (.sh x0), none]) := runF_eq pr n k_trimmed i_trimmed _ rfl rfl
theorem st_slope (n : Nat) (x0 : D) : runF pr (n + 1) k_slope [x0] = finF (exS (tbl pr n) b_slope [some (.sh x0), none]) := runF_eq pr n k_slope i_slope _ rfl rfl
theorem st_put_low (n : Nat) (x0 : D) : runF pr (n + 1) k_put_low [x0] = finF (exS (tbl pr n) b_put_low [some (.sh x0), none, none]) := runF_eq pr n k_put_low i_put_low _ rfl rfl
theorem st_plain_row (n : Nat) (x0 : D) : runF pr (n + 1) k_plain_row [x0] = finF (exS (tbl pr n) b_plain_row [some (.sh x0), none, none]) := runF_eq pr n k_plain_row i_plain_row _ rfl rfl
theorem st_divided (n : Nat) (x0 x1 : D) : runF pr (n + 1) k_divided [x0, x1] = finF (exS (tbl pr n) b_divided [some (.sh x0), some (.sh x1), none, none, none, none, none, none, none]) := runF_eq pr n k_divided i_divided _ rfl rfl
theorem st_rest_of (n : Nat) (x0 x1 : D) : runF pr (n + 1) k_rest_of [x0, x1] = finF (exS (tbl pr n) b_rest_of [some (.sh x0), some (.sh x1)]) := runF_eq pr n k_rest_of i_rest_of _ rfl rfl
theorem st_shared_row (n : Nat) (x0 x1 : D) : runF pr (n + 1) k_shared_row [x0, x1] = finF (exS (tbl pr n) b_shared_row [some (.sh x0), some (.sh x1)]) := runF_eq pr n k_shared_row i_shared_row _ rfl rfl
theorem st_quotient_of (n : Nat) (x0 x1 : D) : runF pr (n + 1) k_quotient_of [x0, x1] = finF (exS (tbl pr n) b_quotient_of [some (.sh x0), some (.sh x1), none, none]) := runF_eq pr n k_quotient_of i_quotient_of _ rfl rfl
theorem st_bare_row (n : Nat) (x0 : D) : runF pr (n + 1) k_bare_row [x0] = finF (exS (tbl pr n) b_bare_row [some (.sh x0)]) := runF_eq pr n k_bare_row i_bare_row _ rfl rfl
theorem st__law_cell (n : Nat) (x0 x1 : D) : runF pr (n + 1) k__law_cell [x0, x1] = finF (exS (tbl pr n) b__law_cell [some (.sh x0), some (.sh x1), none, none]) := runF_eq pr n k__law_cell i__law_cell _ rfl rfl
theorem st__law_numbers (n : Nat) (x0 x1 : D) : runF pr (n + 1) k__law_numbers [x0, x1] = finF (exS (tbl pr n) b__law_numbers [some (.sh x0), some (.sh x1), none, none, none, none]) := runF_eq pr n k__law_numbers i__law_numbers _ rfl rfl
theorem st__law_whole (n : Nat) (x0 : D) : runF pr (n + 1) k__law_whole [x0] = finF (exS (tbl pr n) b__law_whole [some (.sh x0)]) := runF_eq pr n k__law_whole i__law_whole _ rfl rfl
theorem st__law_trim (n : Nat) (x0 : D) : runF pr (n + 1) k__law_trim [x0] = finF (exS (tbl pr n) b__law_trim [some (.sh x0), none]) := runF_eq pr n k__law_trim i__law_trim _ rfl rfl
theorem st__law_times (n : Nat) (x0 x1 : D) : runF pr (n + 1) k__law_times [x0, x1] = finF (exS (tbl pr n) b__law_times [some (.sh x0), some (.sh x1), none, none, none]) := runF_eq pr n k__law_times i__law_times _ rfl rfl
theorem st__law_some_row (n : Nat) (x0 x1 : D) : runF pr (n + 1) k__law_some_row [x0, x1] = finF (exS (tbl pr n) b__law_some_row [some (.sh x0), some (.sh x1), none, none]) := runF_eq pr n k__law_some_row i__law_some_row _ rfl rfl
theorem st__law_planted (n : Nat) (x0 : D) : runF pr (n + 1) k__law_planted [x0] = finF (exS (tbl pr n) b__law_planted [some (.sh x0), none, none, none, none]) := runF_eq pr n k__law_planted i__law_planted _ rfl rfl
theorem st__law_row (n : Nat) (x0 x1 : D) : runF pr (n + 1) k__law_row [x0, x1] = finF (exS (tbl pr n) b__law_row [some (.sh x0), some (.sh x1), none, none]) := runF_eq pr n k__law_row i__law_row _ rfl rfl
theorem st__law_left (n : Nat) (x0 x1 : D) : runF pr (n + 1) k__law_left [x0, x1] = finF (exS (tbl pr n) b__law_left [some (.sh x0), some (.sh x1), none, none, none, none, none, none]) := runF_eq pr n k__law_left i__law_left _ rfl rfl
theorem st__law_put_low (n : Nat) (x0 : D) : runF pr (n + 1) k__law_put_low [x0] = finF (exS (tbl pr n) b__law_put_low [some (.sh x0), none, none]) := runF_eq pr n k__law_put_low i__law_put_low _ rfl rfl
theorem st__law_plain (n : Nat) (x0 : D) : runF pr (n + 1) k__law_plain [x0] = finF (exS (tbl pr n) b__law_plain [some (.sh x0), none, none]) := runF_eq pr n k__law_plain i__law_plain _ rfl rfl
theorem st__law_shared (n : Nat) (x0 x1 : D) : runF pr (n + 1) k__law_shared [x0, x1] = finF (exS (tbl pr n) b__law_shared [some (.sh x0), some (.sh x1)]) := runF_eq pr n k__law_shared i__law_shared _ rfl rfl
theorem st__law_right (n : Nat) (x0 x1 : D) : runF pr (n + 1) k__law_right [x0, x1] = finF (exS (tbl pr n) b__law_right [some (.sh x0), some (.sh x1), none]) := runF_eq pr n k__law_right i__law_right _ rfl rfl
theorem st__law_times_in (n : Nat) (x0 x1 : D) : runF pr (n + 1) k__law_times_in [x0, x1] = finF (exS (tbl pr n) b__law_times_in [some (.sh x0), some (.sh x1), none, none, none, none, none, none, none]) := runF_eq pr n k__law_times_in i__law_times_in _ rfl rfl
theorem st__law_bare (n : Nat) (x0 : D) : runF pr (n + 1) k__law_bare [x0] = finF (exS (tbl pr n) b__law_bare [some (.sh x0), none, none]) := runF_eq pr n k__law_bare i__law_bare _ rfl rfl
theorem st__law_grown (n : Nat) (x0 : D) : runF pr (n + 1) k__law_grown [x0] = finF (exS (tbl pr n) b__law_grown [some (.sh x0), none, none, none, none, none, none, none]) := runF_eq pr n k__law_grown i__law_grown _ rfl rfl
theorem st_law (n : Nat) (x0 : D) : runF pr (n + 1) k_law [x0] = finF (exS (tbl pr n) b_law [some (.sh x0), none, none, none, none]) := runF_eq pr n k_law i_law _ rfl rfl
end Lw
namespace Lw
open PySem PySem.Spec PyProof.Rows L2 PD
/-! ### rows of ints, ends cut -/
def tlen (ns : List Int) : Nat → Nat
  | 0 => 0
  | k + 1 => if ns[k]?.getD 0 = 0 then tlen ns k else k + 1
def trim (ns : List Int) : List Int := ns.take (tlen ns ns.length)
theorem tlen_le (ns : List Int) : ∀ k, tlen ns k ≤ k
  | 0 => Nat.le_refl _
  | k + 1 => by
    unfold tlen
    split
    · have := tlen_le ns k; omega
    · exact Nat.le_refl _
theorem trim_len (ns : List Int) : (trim ns).length ≤ ns.length := by
  unfold trim
  rw [List.length_take]
  omega
theorem trim_mem {ns : List Int} {c : Int} (h : c ∈ trim ns) : c ∈ ns := List.mem_of_mem_take h
/-- no nought at the end -/
def isRow (ns : List Int) : Prop := tlen ns ns.length = ns.length
theorem tlen_idem (ns : List Int) : ∀ k, tlen ns (tlen ns k) = tlen ns k
  | 0 => rfl
  | k + 1 => by
    by_cases h : ns[k]?.getD 0 = 0
    · rw [tlen, if_pos h]; exact tlen_idem ns k
    · have e : tlen ns (k + 1) = k + 1 := by rw [tlen, if_neg h]
      rw [e, e]
theorem tlen_take (ns : List Int) {m : Nat} : ∀ k, k ≤ m → tlen (ns.take m) k = tlen ns k
  | 0, _ => rfl
  | k + 1, h => by
    have e : (ns.take m)[k]? = ns[k]? := by rw [List.getElem?_take, if_pos (by omega)]
    rw [tlen, tlen, e, tlen_take ns k (by omega)]
theorem isRow_trim (ns : List Int) : isRow (trim ns) := by
  unfold isRow trim
  have h := tlen_le ns ns.length
  rw [List.length_take, Nat.min_eq_left h, tlen_take ns _ (Nat.le_refl _)]
  exact tlen_idem ns _
theorem trim_row {ns : List Int} (h : isRow ns) : trim ns = ns := by
  unfold trim
  rw [h]
  exact List.take_length
theorem isRow_nil : isRow [] := rfl
theorem isRow_of {ns : List Int} (h : ns[ns.length - 1]?.getD 0 ≠ 0) : isRow ns := by
  unfold isRow
  cases e : ns.length with
  | zero => rfl
  | succ k =>
    rw [e, Nat.add_sub_cancel] at h
    rw [tlen, if_neg h]
theorem isRow_last {ns : List Int} (h : isRow ns) (h0 : ns ≠ []) : ns[ns.length - 1]?.getD 0 ≠ 0 := by
  intro z
  unfold isRow at h
  cases e : ns.length with
  | zero => exact h0 (List.eq_nil_of_length_eq_zero e)
  | succ k =>
    rw [e] at z h
    rw [Nat.add_sub_cancel] at z
    rw [tlen, if_pos z] at h
    have := tlen_le ns k
    omega

/-! ### products -/
/-- all numbers of a row below B in size -/
def bd (B : Nat) (f : List Int) : Prop := ∀ c ∈ f, c.natAbs ≤ B
theorem bd_get {B : Nat} {f : List Int} (h : bd B f) (k : Nat) : (f[k]?.getD 0).natAbs ≤ B := getD_mem (P := fun c => c.natAbs ≤ B) h (Nat.zero_le _)
theorem bd_mono {A B : Nat} {f : List Int} (h : bd A f) (hb : A ≤ B) : bd B f := fun c hc => Nat.le_trans (h c hc) hb
theorem bd_trim {B : Nat} {f : List Int} (h : bd B f) : bd B (trim f) := fun c hc => h c (trim_mem hc)
def mulStep (f g : List Int) (i : Nat) (acc : List Int) (j : Nat) : List Int := acc.set (i + j) (acc[i + j]?.getD 0 + f[i]?.getD 0 * g[j]?.getD 0)
def mulRow (f g : List Int) (acc : List Int) (i : Nat) : List Int := (List.range g.length).foldl (mulStep f g i) acc
def mulR (f g : List Int) : List Int := (List.range f.length).foldl (mulRow f g) (List.replicate (f.length + g.length) 0)
theorem foldl_inv {α β : Type} {P : β → Prop} {s : β → α → β} (xs : List α) (h : ∀ b x, x ∈ xs → P b → P (s b x)) : ∀ b, P b → P (xs.foldl s b) := by
  induction xs with
  | nil => exact fun b p => p
  | cons x xs ih => exact fun b p => ih (fun b y hy => h b y (List.mem_cons_of_mem _ hy)) _ (h b x List.mem_cons_self p)
theorem mulStep_len (f g acc : List Int) (i j : Nat) : (mulStep f g i acc j).length = acc.length := by simp [mulStep]
theorem mulRow_len (f g acc : List Int) (i : Nat) : (mulRow f g acc i).length = acc.length :=
  foldl_inv (P := fun (b : List Int) => b.length = acc.length) _ (fun b x _ h => by rw [mulStep_len]; exact h) acc rfl
theorem mulR_len (f g : List Int) : (mulR f g).length = f.length + g.length := by
  unfold mulR
  exact foldl_inv (P := fun (b : List Int) => b.length = f.length + g.length) _ (fun b x _ h => by rw [mulRow_len]; exact h) _ (by simp)
theorem foldl_cnt {α β : Type} {P : Nat → β → Prop} {s : β → α → β} (xs : List α) (h : ∀ k b x, P k b → P (k + 1) (s b x)) : ∀ k b, P k b → P (k + xs.length) (xs.foldl s b) := by
  induction xs with
  | nil => exact fun k b p => p
  | cons x xs ih =>
    intro k b p
    have := ih (k + 1) _ (h k b x p)
    rw [show k + (x :: xs).length = k + 1 + xs.length by simp; omega]
    exact this
theorem mulR_bd {A B : Nat} {f g : List Int} (hf : bd A f) (hg : bd B g) : bd (f.length * (g.length * (A * B))) (mulR f g) := by
  have st : ∀ i k acc j, bd (k * (A * B)) acc → bd ((k + 1) * (A * B)) (mulStep f g i acc j) := fun i k acc j h c hc => by
    unfold mulStep at hc
    have e : k * (A * B) ≤ (k + 1) * (A * B) := Nat.mul_le_mul_right _ (Nat.le_succ k)
    rcases List.mem_or_eq_of_mem_set hc with q | q
    · exact Nat.le_trans (h c q) e
    · have h1 := bd_get h (i + j)
      have h2 : (f[i]?.getD 0 * g[j]?.getD 0).natAbs ≤ A * B := by
        rw [Int.natAbs_mul]
        exact Nat.mul_le_mul (bd_get hf i) (bd_get hg j)
      rw [q]
      have h3 := Int.natAbs_add_le (acc[i + j]?.getD 0) (f[i]?.getD 0 * g[j]?.getD 0)
      rw [Nat.succ_mul]
      omega
  have row : ∀ k acc i, bd (k * (g.length * (A * B))) acc → bd ((k + 1) * (g.length * (A * B))) (mulRow f g acc i) := fun k acc i h => by
    have := foldl_cnt (P := fun m b => bd (m * (A * B)) b) (s := mulStep f g i) (List.range g.length) (fun m b x p => st i m b x p) (k * g.length) acc (by rw [Nat.mul_assoc]; exact h)
    rw [List.length_range] at this
    unfold mulRow
    rw [← Nat.mul_assoc, Nat.succ_mul]
    exact this
  have := foldl_cnt (P := fun m b => bd (m * (g.length * (A * B))) b) (s := mulRow f g) (List.range f.length) (fun m b x p => row m b x p) 0 (List.replicate (f.length + g.length) 0) (fun c hc => by
    rw [(List.mem_replicate.mp hc).2]
    exact Nat.zero_le _)
  rw [List.length_range, Nat.zero_add] at this
  exact this

/-! ### values of rows -/
def pv (f : List Int) (q : Rat) : Rat := f.foldr (fun (c : Int) v => (c : Rat) + q * v) 0
theorem pv_nil (q : Rat) : pv [] q = 0 := rfl
theorem pv_cons (c : Int) (f : List Int) (q : Rat) : pv (c :: f) q = (c : Rat) + q * pv f q := rfl
theorem pv_ht (f : List Int) (q : Rat) : pv f q = ((f[0]?.getD 0 : Int) : Rat) + q * pv f.tail q := by
  cases f with
  | nil =>
    show (0 : Rat) = ((0 : Int) : Rat) + q * 0
    rw [Rat.mul_zero, Rat.add_zero]
    rfl
  | cons c f => rfl
theorem tail_get (f : List Int) (k : Nat) : f.tail[k]?.getD 0 = f[k + 1]?.getD 0 := by
  cases f <;> simp
theorem pv_lin' (q : Rat) : ∀ (n : Nat) (h f g : List Int), h.length ≤ n → f.length ≤ n → g.length ≤ n → (∀ k : Nat, h[k]?.getD 0 = f[k]?.getD 0 + g[k]?.getD 0) → pv h q = pv f q + pv g q := by
  intro n
  induction n with
  | zero =>
    intro h f g e1 e2 e3 _
    rw [List.eq_nil_of_length_eq_zero (Nat.le_zero.mp e1), List.eq_nil_of_length_eq_zero (Nat.le_zero.mp e2), List.eq_nil_of_length_eq_zero (Nat.le_zero.mp e3), pv_nil, Rat.add_zero]
  | succ n ih =>
    intro h f g e1 e2 e3 e
    rw [pv_ht h, pv_ht f, pv_ht g, ih h.tail f.tail g.tail (by rw [List.length_tail]; omega) (by rw [List.length_tail]; omega) (by rw [List.length_tail]; omega) (fun k => by rw [tail_get, tail_get, tail_get, e]), e 0, Rat.intCast_add]
    grind
theorem pv_lin (q : Rat) {h f g : List Int} (e : ∀ k : Nat, h[k]?.getD 0 = f[k]?.getD 0 + g[k]?.getD 0) : pv h q = pv f q + pv g q :=
  pv_lin' q (h.length + f.length + g.length) h f g (by omega) (by omega) (by omega) e
theorem pv_ext (q : Rat) {h f : List Int} (e : ∀ k : Nat, h[k]?.getD 0 = f[k]?.getD 0) : pv h q = pv f q := by
  have := pv_lin q (h := h) (f := f) (g := []) (fun k => by rw [e]; simp)
  rw [this, pv_nil, Rat.add_zero]
theorem tlen_get (f : List Int) (j : Nat) : ∀ n, tlen f n ≤ j → j < n → f[j]?.getD 0 = 0
  | 0, _, h => by omega
  | n + 1, h1, h2 => by
    unfold tlen at h1
    split at h1
    · rename_i z
      by_cases e : j = n
      · subst e; exact z
      · exact tlen_get f j n h1 (by omega)
    · omega
theorem trim_get (f : List Int) (k : Nat) : (trim f)[k]?.getD 0 = f[k]?.getD 0 := by
  unfold trim
  rw [List.getElem?_take]
  split
  · rfl
  · rename_i h
    by_cases hk : k < f.length
    · rw [tlen_get f k _ (by omega) hk]
      rfl
    · rw [List.getElem?_eq_none (by omega)]
theorem pv_trim (f : List Int) (q : Rat) : pv (trim f) q = pv f q := pv_ext q (trim_get f)
theorem map_range_get (u : Nat → Int) (m k : Nat) : ((List.range m).map u)[k]?.getD 0 = if k < m then u k else 0 := by
  by_cases h : k < m
  · rw [if_pos h]
    simp [h]
  · rw [if_neg h, List.getElem?_eq_none (by simpa using h)]
    rfl
theorem pv_set (q : Rat) (d : Int) : ∀ (f : List Int) (k : Nat), k < f.length → pv (f.set k (f[k]?.getD 0 + d)) q = pv f q + (d : Rat) * q ^ k
  | [], k, h => by simp at h
  | c :: f, 0, _ => by
    show ((c + d : Int) : Rat) + q * pv f q = (c : Rat) + q * pv f q + (d : Rat) * q ^ 0
    rw [Rat.intCast_add, Rat.pow_zero, Rat.mul_one]
    grind
  | c :: f, k + 1, h => by
    have ih := pv_set q d f k (by simpa using h)
    show (c : Rat) + q * pv (f.set k (f[k]?.getD 0 + d)) q = (c : Rat) + q * pv f q + (d : Rat) * q ^ (k + 1)
    rw [ih, Rat.pow_succ]
    grind
theorem pv_rep0 (q : Rat) (n : Nat) : pv (List.replicate n 0) q = 0 := by
  have := pv_ext q (h := List.replicate n 0) (f := []) (fun k => by
    by_cases h : k < n
    · simp [h]
    · rw [List.getElem?_eq_none (by simpa using h)]
      rfl)
  rw [this, pv_nil]
/-- what the first m numbers of a row come to -/
def pvTo (f : List Int) (q : Rat) (m : Nat) : Rat := pv (f.take m) q
theorem pvTo_succ (f : List Int) (q : Rat) (m : Nat) (h : m < f.length) : pvTo f q (m + 1) = pvTo f q m + ((f[m]?.getD 0 : Int) : Rat) * q ^ m := by
  unfold pvTo
  have e : ∀ k : Nat, (f.take (m + 1))[k]?.getD 0 = (f.take m)[k]?.getD 0 + (if k = m then f[m]?.getD 0 else 0) := fun k => by
    rw [List.getElem?_take, List.getElem?_take]
    by_cases h1 : k < m
    · rw [if_pos (by omega), if_pos h1, if_neg (by omega), Int.add_zero]
    · by_cases h2 : k = m
      · subst h2
        rw [if_pos (by omega), if_neg h1, if_pos rfl]
        simp
      · rw [if_neg (by omega), if_neg h1, if_neg h2]
        rfl
  have e2 : ∀ k : Nat, (if k = m then f[m]?.getD 0 else 0) = ((List.replicate (m + 1) (0 : Int)).set m ((List.replicate (m + 1) (0 : Int))[m]?.getD 0 + f[m]?.getD 0))[k]?.getD 0 := fun k => by
    rw [List.getElem?_set]
    by_cases h2 : k = m
    · subst h2
      simp
    · rw [if_neg h2, if_neg (by omega)]
      by_cases h3 : k < m + 1
      · simp [h3]
      · rw [List.getElem?_eq_none (by simpa using h3)]
        rfl
  have key := pv_lin q (h := f.take (m + 1)) (f := f.take m) (g := (List.replicate (m + 1) (0 : Int)).set m ((List.replicate (m + 1) (0 : Int))[m]?.getD 0 + f[m]?.getD 0)) (fun k : Nat => by rw [e k, ← e2 k])
  rw [key, pv_set q _ _ _ (by simp), pv_rep0, Rat.zero_add]
theorem pvTo_all (f : List Int) (q : Rat) : pvTo f q f.length = pv f q := by
  unfold pvTo
  rw [List.take_length]
theorem pvTo_0 (f : List Int) (q : Rat) : pvTo f q 0 = 0 := rfl
theorem foldl_range {β : Type} {P : Nat → β → Prop} {s : β → Nat → β} (m : Nat) (h : ∀ k b, k < m → P k b → P (k + 1) (s b k)) (b : β) (h0 : P 0 b) : P m ((List.range m).foldl s b) := by
  induction m with
  | zero => exact h0
  | succ m ih =>
    rw [List.range_succ, List.foldl_append]
    exact h m _ (by omega) (ih fun k b hk => h k b (by omega))
theorem pv_mulRow (f g acc : List Int) (q : Rat) (i : Nat) (hl : i + g.length ≤ acc.length) : pv (mulRow f g acc i) q = pv acc q + ((f[i]?.getD 0 : Int) : Rat) * q ^ i * pv g q := by
  have := foldl_range (P := fun m b => b.length = acc.length ∧ pv b q = pv acc q + ((f[i]?.getD 0 : Int) : Rat) * q ^ i * pvTo g q m) (s := mulStep f g i) g.length (fun k b hk ⟨h1, h2⟩ => by
    refine ⟨by rw [mulStep_len, h1], ?_⟩
    unfold mulStep
    rw [pv_set q _ b (i + k) (by omega), h2, pvTo_succ g q k hk, Rat.intCast_mul]
    have : q ^ (i + k) = q ^ i * q ^ k := by grind
    rw [this]
    grind) acc ⟨rfl, by rw [pvTo_0, Rat.mul_zero, Rat.add_zero]⟩
  unfold mulRow
  rw [this.2, pvTo_all]
theorem pv_mulR (f g : List Int) (q : Rat) : pv (mulR f g) q = pv f q * pv g q := by
  have := foldl_range (P := fun m b => b.length = f.length + g.length ∧ pv b q = pvTo f q m * pv g q) (s := mulRow f g) f.length (fun k b hk ⟨h1, h2⟩ => by
    refine ⟨by rw [mulRow_len, h1], ?_⟩
    rw [pv_mulRow f g b q k (by omega), h2, pvTo_succ f q k hk, Rat.add_mul]) (List.replicate (f.length + g.length) 0) ⟨by simp, by rw [pv_rep0, pvTo_0, Rat.zero_mul]⟩
  unfold mulR
  rw [this.2, pvTo_all]

/-! ### values of rows at whole numbers -/
def vl (f : List Int) (x : Int) : Int := f.foldr (fun c v => c + x * v) 0
theorem vl_nil (x : Int) : vl [] x = 0 := rfl
theorem vl_cons (c : Int) (f : List Int) (x : Int) : vl (c :: f) x = c + x * vl f x := rfl
theorem vl_pv (f : List Int) (x : Int) : ((vl f x : Int) : Rat) = pv f (x : Rat) := by
  induction f with
  | nil => rfl
  | cons c f ih => rw [vl_cons, pv_cons, Rat.intCast_add, Rat.intCast_mul, ih]
theorem vl_eq {f : List Int} {x y : Int} (h : pv f (x : Rat) = (y : Rat)) : vl f x = y := by
  rw [← vl_pv] at h
  exact Rat.intCast_inj.mp h
theorem vl_ext (x : Int) {h f : List Int} (e : ∀ k : Nat, h[k]?.getD 0 = f[k]?.getD 0) : vl h x = vl f x := vl_eq (by rw [pv_ext _ e, vl_pv])
theorem vl_trim (f : List Int) (x : Int) : vl (trim f) x = vl f x := vl_ext x (trim_get f)
theorem vl_lin (x : Int) {h f g : List Int} (e : ∀ k : Nat, h[k]?.getD 0 = f[k]?.getD 0 + g[k]?.getD 0) : vl h x = vl f x + vl g x :=
  vl_eq (by rw [pv_lin _ e, Rat.intCast_add, vl_pv, vl_pv])
theorem vl_mulR (f g : List Int) (x : Int) : vl (mulR f g) x = vl f x * vl g x := vl_eq (by rw [pv_mulR, Rat.intCast_mul, vl_pv, vl_pv])
theorem vl_set (x d : Int) (f : List Int) (k : Nat) (hk : k < f.length) : vl (f.set k (f[k]?.getD 0 + d)) x = vl f x + d * x ^ k :=
  vl_eq (by rw [pv_set _ d f k hk, Rat.intCast_add, vl_pv, Rat.intCast_mul, Rat.intCast_pow])
theorem vl_scale (c x : Int) (f : List Int) : vl (f.map fun y => y * c) x = vl f x * c := by
  induction f with
  | nil => simp [vl_nil]
  | cons a f ih =>
    rw [List.map_cons, vl_cons, vl_cons, ih]
    grind
theorem vl_neg (x : Int) (f : List Int) : vl (f.map fun y => -y) x = - vl f x := by
  induction f with
  | nil => simp [vl_nil]
  | cons a f ih =>
    rw [List.map_cons, vl_cons, vl_cons, ih]
    grind
theorem vl_append (x : Int) (f g : List Int) : vl (f ++ g) x = vl f x + x ^ f.length * vl g x := by
  induction f with
  | nil => simp [vl_nil]
  | cons a f ih =>
    rw [List.cons_append, vl_cons, vl_cons, ih, List.length_cons]
    grind
theorem vl_zeros (x : Int) (n : Nat) : vl (List.replicate n 0) x = 0 := vl_eq (pv_rep0 _ n)
/-- a row without numbers but nought -/
theorem vl_all0 {f : List Int} (h : ∀ c ∈ f, c = 0) (x : Int) : vl f x = 0 := by
  induction f with
  | nil => rfl
  | cons a f ih => rw [vl_cons, h a List.mem_cons_self, ih fun c hc => h c (List.mem_cons_of_mem _ hc)]; simp
theorem vl_zero : ∀ {f : List Int} {N : Int}, (∀ x, N ≤ x → vl f x = 0) → ∀ c ∈ f, c = 0
  | [], _, _ => fun c hc => nomatch hc
  | a :: f, N, h => by
    have key : ∀ x, max N (a.natAbs + 1) ≤ x → a = 0 ∧ vl f x = 0 := fun x hx => by
      have e := h x (by omega)
      rw [vl_cons] at e
      have d : x ∣ a := ⟨- vl f x, by grind⟩
      have a0 : a = 0 := by
        by_cases z : a = 0
        · exact z
        · have := Int.natAbs_dvd_natAbs.mpr d
          have := Nat.le_of_dvd (by omega) this
          omega
      rw [a0, Int.zero_add] at e
      rcases Int.mul_eq_zero.mp e with q | q
      · omega
      · exact ⟨a0, q⟩
    intro c hc
    rcases List.mem_cons.mp hc with rfl | hc
    · exact (key _ (Int.le_refl _)).1
    · exact vl_zero (fun x hx => (key x hx).2) c hc
theorem row_zero {f : List Int} (hf : isRow f) (h : ∀ c ∈ f, c = 0) : f = [] := by
  by_cases z : f = []
  · exact z
  · exfalso
    have hp : 0 < f.length := List.length_pos_iff.mpr z
    refine isRow_last hf z ?_
    rw [List.getElem?_eq_getElem (by omega)]
    exact h _ (List.getElem_mem _)
theorem trim_zero {f : List Int} (h : ∀ c ∈ f, c = 0) : trim f = [] := row_zero (isRow_trim f) fun c hc => h c (trim_mem hc)
theorem getD_ext {f g : List Int} (hl : f.length = g.length) (h : ∀ k : Nat, f[k]?.getD 0 = g[k]?.getD 0) : f = g := by
  refine List.ext_getElem hl fun k h1 h2 => ?_
  have := h k
  rw [List.getElem?_eq_getElem h1, List.getElem?_eq_getElem h2] at this
  exact this
/-- rows are told by their values -/
theorem vl_inj {f g : List Int} (hf : isRow f) (hg : isRow g) {N : Int} (h : ∀ x, N ≤ x → vl f x = vl g x) : f = g := by
  let d := (List.range (max f.length g.length)).map fun k => f[k]?.getD 0 - g[k]?.getD 0
  have dk : ∀ k : Nat, f[k]?.getD 0 = d[k]?.getD 0 + g[k]?.getD 0 := fun k => by
    show _ = ((List.range (max f.length g.length)).map fun k => f[k]?.getD 0 - g[k]?.getD 0)[k]?.getD 0 + _
    rw [map_range_get]
    split
    · omega
    · rw [List.getElem?_eq_none (by omega), List.getElem?_eq_none (by omega)]
      rfl
  have z : ∀ c ∈ d, c = 0 := vl_zero (N := N) fun x hx => by
    have := vl_lin x dk
    rw [h x hx] at this
    omega
  have e : ∀ k : Nat, f[k]?.getD 0 = g[k]?.getD 0 := fun k => by
    rw [dk k]
    have : d[k]?.getD 0 = 0 := by
      by_cases hk : k < d.length
      · rw [List.getElem?_eq_getElem hk]
        exact z _ (List.getElem_mem _)
      · rw [List.getElem?_eq_none (by omega)]
        rfl
    omega
  have len : ∀ {f g : List Int}, isRow f → (∀ k : Nat, f[k]?.getD 0 = g[k]?.getD 0) → f.length ≤ g.length := fun {f g} hf e => by
    by_cases z : f = []
    · rw [z]; exact Nat.zero_le _
    · have hp : 0 < f.length := List.length_pos_iff.mpr z
      have l := isRow_last hf z
      rw [e] at l
      by_cases q : f.length - 1 < g.length
      · omega
      · rw [List.getElem?_eq_none (by omega)] at l
        exact absurd rfl l
  exact getD_ext (Nat.le_antisymm (len hf e) (len hg fun k => (e k).symm)) e
theorem trim_inj {f g : List Int} {N : Int} (h : ∀ x, N ≤ x → vl f x = vl g x) : trim f = trim g := vl_inj (isRow_trim f) (isRow_trim g) (N := N) fun x hx => by rw [vl_trim, vl_trim, h x hx]
/-! ### growth -/
theorem pow_pos' {x : Int} (hx : 1 ≤ x) (m : Nat) : 1 ≤ x ^ m := by
  induction m with
  | zero => rw [Int.pow_zero]; omega
  | succ m ih =>
    rw [Int.pow_succ]
    have := Int.mul_le_mul ih hx (by omega) (by omega)
    omega
theorem vl_le {B : Nat} {x : Int} (hx : 1 ≤ x) : ∀ {f : List Int} {m : Nat}, bd B f → f.length ≤ m + 1 → ((vl f x).natAbs : Int) ≤ (B : Int) * (m + 1) * x ^ m
  | [], m, _, _ => by
    rw [vl_nil]
    have := pow_pos' hx m
    have h1 : 0 ≤ (B : Int) * (m + 1) := Int.mul_nonneg (by omega) (by omega)
    have := Int.mul_nonneg h1 (show 0 ≤ x ^ m by omega)
    omega
  | [a], 0, hb, _ => by
    have := hb a List.mem_cons_self
    rw [vl_cons, vl_nil]
    simp
    omega
  | a :: b :: f, 0, _, hl => by simp at hl
  | a :: f, m + 1, hb, hl => by
    have ih := vl_le hx (f := f) (m := m) (fun c hc => hb c (List.mem_cons_of_mem _ hc)) (by simpa using hl)
    have ha := hb a List.mem_cons_self
    rw [vl_cons]
    have t := Int.natAbs_add_le a (x * vl f x)
    rw [Int.natAbs_mul] at t
    have xa : (x.natAbs : Int) = x := by omega
    have t2 : ((x.natAbs * (vl f x).natAbs : Nat) : Int) ≤ x * ((B : Int) * (m + 1) * x ^ m) := by
      rw [Int.natCast_mul, xa]
      exact Int.mul_le_mul_of_nonneg_left ih (by omega)
    have p := pow_pos' hx (m + 1)
    have t3 : (B : Int) ≤ B * x ^ (m + 1) := by
      have := Int.mul_le_mul_of_nonneg_left p (show (0 : Int) ≤ B by omega)
      omega
    have e : (B : Int) * (((m + 1 : Nat) : Int) + 1) * x ^ (m + 1) = B * x ^ (m + 1) + x * ((B : Int) * (m + 1) * x ^ m) := by
      rw [Int.pow_succ]
      grind
    rw [e]
    omega
theorem bd_ex (f : List Int) : ∃ B, bd B f := by
  induction f with
  | nil => exact ⟨0, fun c hc => nomatch hc⟩
  | cons a f ih =>
    obtain ⟨B, h⟩ := ih
    refine ⟨max B a.natAbs, fun c hc => ?_⟩
    rcases List.mem_cons.mp hc with rfl | hc
    · omega
    · have := h c hc
      omega
theorem dropLast_last {f : List Int} (h : f ≠ []) : f = f.dropLast ++ [f[f.length - 1]?.getD 0] := by
  have e := List.dropLast_concat_getLast h
  rw [List.getLast_eq_getElem] at e
  have hp : 0 < f.length := List.length_pos_iff.mpr h
  rw [List.getElem?_eq_getElem (by omega)]
  exact e.symm
/-- beyond some number the longer row is the greater one -/
theorem vl_grow {g v : List Int} (hg : isRow g) (hl : v.length < g.length) : ∃ N : Int, 1 ≤ N ∧ ∀ x, N ≤ x → (vl v x).natAbs < (vl g x).natAbs := by
  have hne : g ≠ [] := fun z => by rw [z] at hl; simp at hl
  have e := dropLast_last hne
  have hL := isRow_last hg hne
  generalize g[g.length - 1]?.getD 0 = L at e hL
  obtain ⟨n, hn⟩ : ∃ n, g.dropLast.length = n := ⟨_, rfl⟩
  have hn2 : n + 1 = g.length := by rw [← hn, List.length_dropLast]; omega
  obtain ⟨B1, b1⟩ := bd_ex g.dropLast
  obtain ⟨B2, b2⟩ := bd_ex v
  have hv : v.length ≤ n := by omega
  cases n with
  | zero =>
    refine ⟨1, by omega, fun x hx => ?_⟩
    have v0 : v = [] := List.eq_nil_of_length_eq_zero (by omega)
    have g0 : g.dropLast = [] := List.eq_nil_of_length_eq_zero hn
    rw [v0, e, g0, List.nil_append, vl_nil, vl_cons, vl_nil]
    simp
    omega
  | succ m =>
    refine ⟨(B1 : Int) * (m + 1) + B2 * (m + 1) + 1, ?_, fun x hx => ?_⟩
    · have h1 : 0 ≤ (B1 : Int) * (m + 1) := Int.mul_nonneg (by omega) (by omega)
      have h2 : 0 ≤ (B2 : Int) * (m + 1) := Int.mul_nonneg (by omega) (by omega)
      omega
    have h1 : 0 ≤ (B1 : Int) * (m + 1) := Int.mul_nonneg (by omega) (by omega)
    have h2 : 0 ≤ (B2 : Int) * (m + 1) := Int.mul_nonneg (by omega) (by omega)
    have hx1 : 1 ≤ x := by omega
    have l1 := vl_le hx1 (m := m) b1 (by omega)
    have l2 := vl_le hx1 (m := m) b2 (by omega)
    have p := pow_pos' hx1 m
    have ev1 : vl g x = vl g.dropLast x + x ^ (m + 1) * L := by
      have := vl_append x g.dropLast [L]
      rw [← e, hn, vl_cons, vl_nil] at this
      rw [this]
      simp
    have big : ((x ^ (m + 1) * L).natAbs : Int) ≥ x ^ m * x := by
      rw [Int.natAbs_mul, Int.natCast_mul, ← Int.pow_succ]
      show _ ≥ x ^ (m + 1)
      have q := pow_pos' hx1 (m + 1)
      have q2 : ((x ^ (m + 1)).natAbs : Int) = x ^ (m + 1) := by omega
      rw [q2]
      have q3 : (1 : Int) ≤ L.natAbs := by omega
      have := Int.mul_le_mul_of_nonneg_left q3 (show 0 ≤ x ^ (m + 1) by omega)
      rw [Int.mul_one] at this
      exact this
    have low : ((vl g x).natAbs : Int) ≥ x ^ m * x - (B1 : Int) * (m + 1) * x ^ m := by
      have := Int.natAbs_sub_le (vl g x) (vl g.dropLast x)
      rw [show vl g x - vl g.dropLast x = x ^ (m + 1) * L by omega] at this
      omega
    have fin : x ^ m * x - (B1 : Int) * (m + 1) * x ^ m ≥ (B2 : Int) * (m + 1) * x ^ m + x ^ m := by
      have := Int.mul_le_mul_of_nonneg_left hx (show 0 ≤ x ^ m by omega)
      grind
    omega
/-- the rest is one -/
theorem rem_zero {u : Int → Int} {g v : List Int} (hg : isRow g) (hl : v.length < g.length) (h : ∀ x, u x * vl g x = vl v x) : ∀ c ∈ v, c = 0 := by
  obtain ⟨N, h1, h2⟩ := vl_grow hg hl
  refine vl_zero (N := N) fun x hx => ?_
  have a := h2 x hx
  have e := h x
  by_cases z : u x = 0
  · rw [z, Int.zero_mul] at e
    exact e.symm
  · exfalso
    have := congrArg Int.natAbs e
    rw [Int.natAbs_mul] at this
    have k : 1 * (vl g x).natAbs ≤ (u x).natAbs * (vl g x).natAbs := Nat.mul_le_mul_right _ (by omega)
    omega

/-! ### division from the top -/
def topI (r : List Int) : Int := r[r.length - 1]?.getD 0
/-- m times g, s places up, taken off -/
def subTo (m : Int) (g : List Int) (s : Nat) (r : List Int) : Nat → List Int
  | 0 => r
  | k + 1 => (subTo m g s r k).set (s + k) ((subTo m g s r k)[s + k]?.getD 0 - m * g[k]?.getD 0)
theorem subTo_len (m : Int) (g : List Int) (s : Nat) (r : List Int) : ∀ k, (subTo m g s r k).length = r.length
  | 0 => rfl
  | k + 1 => by rw [subTo, List.length_set, subTo_len]
theorem vl_take_succ (g : List Int) (k : Nat) (hk : k < g.length) (x : Int) : vl (g.take (k + 1)) x = vl (g.take k) x + g[k]?.getD 0 * x ^ k := by
  have e : g.take (k + 1) = g.take k ++ [g[k]?.getD 0] := by
    rw [List.getElem?_eq_getElem hk]
    exact (List.take_append_getElem hk).symm
  rw [e, vl_append, vl_cons, vl_nil, List.length_take, Nat.min_eq_left (by omega)]
  grind
theorem subTo_vl (m : Int) (g : List Int) (s : Nat) (r : List Int) (x : Int) : ∀ k, k ≤ g.length → s + k ≤ r.length → vl (subTo m g s r k) x = vl r x - m * x ^ s * vl (g.take k) x
  | 0, _, _ => by
    rw [List.take_zero, vl_nil, subTo]
    simp
  | k + 1, h1, h2 => by
    rw [subTo, Int.sub_eq_add_neg, vl_set x _ _ _ (by rw [subTo_len]; omega), subTo_vl m g s r x k (by omega) (by omega), vl_take_succ g k (by omega), Int.pow_add]
    grind
/-- what stands at a place behind it -/
theorem subTo_get (m : Int) (g : List Int) (s : Nat) (r : List Int) : ∀ k, s + k ≤ r.length → ∀ j : Nat, (subTo m g s r k)[j]?.getD 0 = r[j]?.getD 0 - (if s ≤ j ∧ j < s + k then m * g[j - s]?.getD 0 else 0)
  | 0, _, j => by
    rw [if_neg (by omega), subTo]
    omega
  | k + 1, h2, j => by
    rw [subTo, List.getElem?_set, subTo_len]
    by_cases e : s + k = j
    · subst e
      rw [if_pos rfl, if_pos (by omega), Option.getD_some, subTo_get m g s r k (by omega), if_neg (by omega), if_pos (by omega), Nat.add_sub_cancel_left]
      omega
    · rw [if_neg e, subTo_get m g s r k (by omega)]
      by_cases q : s ≤ j ∧ j < s + k
      · rw [if_pos q, if_pos (by omega)]
      · rw [if_neg q, if_neg (by omega)]
def muchI (g r : List Int) : Int := if topI g < 0 then 0 - topI r else topI r
def absI (x : Int) : Int := (x.natAbs : Int)
def scaleI (L : Int) (r : List Int) : List Int := r.map fun y => y * L
@[simp] theorem scaleI_len (L : Int) (r : List Int) : (scaleI L r).length = r.length := by simp [scaleI]
theorem scaleI_get (L : Int) (r : List Int) (k : Nat) : (scaleI L r)[k]?.getD 0 = r[k]?.getD 0 * L := by
  unfold scaleI
  rw [List.getElem?_map]
  cases r[k]? <;> simp
def fullR (g r : List Int) : List Int := subTo (muchI g r) g (r.length - g.length) (scaleI (absI (topI g)) r) g.length
def stepR (g r : List Int) : List Int := (fullR g r).dropLast
def stepQ (g r q : List Int) : List Int := (scaleI (absI (topI g)) q).set (r.length - g.length) ((scaleI (absI (topI g)) q)[r.length - g.length]?.getD 0 + muchI g r)
theorem fullR_len (g r : List Int) : (fullR g r).length = r.length := by unfold fullR; rw [subTo_len, scaleI_len]
theorem stepR_len (g r : List Int) : (stepR g r).length = r.length - 1 := by unfold stepR; rw [List.length_dropLast, fullR_len]
theorem stepQ_len (g r q : List Int) : (stepQ g r q).length = q.length := by unfold stepQ; rw [List.length_set, scaleI_len]
theorem much_top (g r : List Int) : muchI g r * topI g = topI r * absI (topI g) := by
  unfold muchI absI
  split
  · rw [show ((topI g).natAbs : Int) = - topI g by omega]
    grind
  · rw [show ((topI g).natAbs : Int) = topI g by omega]
theorem fullR_top (g r : List Int) (h1 : g ≠ []) (h2 : g.length ≤ r.length) : topI (fullR g r) = 0 := by
  have hp : 0 < g.length := List.length_pos_iff.mpr h1
  have e := much_top g r
  unfold topI at *
  rw [fullR_len]
  unfold fullR
  rw [subTo_get _ _ _ _ _ (by rw [scaleI_len]; omega), if_pos (by omega), scaleI_get, show r.length - 1 - (r.length - g.length) = g.length - 1 by omega]
  unfold topI
  omega
theorem vl_dropLast {f : List Int} (h : topI f = 0) (x : Int) : vl f.dropLast x = vl f x := by
  by_cases z : f = []
  · rw [z]; rfl
  · have e := dropLast_last z
    have := vl_append x f.dropLast [f[f.length - 1]?.getD 0]
    rw [← e] at this
    unfold topI at h
    rw [this, h, vl_cons, vl_nil]
    simp
theorem stepR_vl (g r : List Int) (h1 : g ≠ []) (h2 : g.length ≤ r.length) (x : Int) : vl (stepR g r) x = vl r x * absI (topI g) - muchI g r * x ^ (r.length - g.length) * vl g x := by
  unfold stepR
  rw [vl_dropLast (fullR_top g r h1 h2)]
  unfold fullR
  rw [subTo_vl _ _ _ _ _ _ (Nat.le_refl _) (by rw [scaleI_len]; omega), List.take_length]
  unfold scaleI
  rw [vl_scale]
theorem stepQ_vl (g r q : List Int) (h : r.length - g.length < q.length) (x : Int) : vl (stepQ g r q) x = vl q x * absI (topI g) + muchI g r * x ^ (r.length - g.length) := by
  unfold stepQ
  rw [vl_set x _ _ _ (by rw [scaleI_len]; exact h)]
  unfold scaleI
  rw [vl_scale]
/-- so many steps -/
def divN (g : List Int) : Nat → List Int → List Int → List Int × List Int
  | 0, r, q => (r, q)
  | n + 1, r, q => divN g n (stepR g r) (stepQ g r q)
theorem divN_vl (g : List Int) (h1 : g ≠ []) (x : Int) : ∀ n (r q : List Int), r.length + 1 = g.length + n → n ≤ q.length → (divN g n r q).1.length + 1 = g.length ∧ (divN g n r q).2.length = q.length ∧
    vl (divN g n r q).2 x * vl g x + vl (divN g n r q).1 x = (vl q x * vl g x + vl r x) * absI (topI g) ^ n
  | 0, r, q, h, hq => ⟨show r.length + 1 = g.length by omega, rfl, by rw [divN]; simp⟩
  | n + 1, r, q, h, hq => by
    have hp : 0 < g.length := List.length_pos_iff.mpr h1
    have a := stepR_vl g r h1 (by omega) x
    have b := stepQ_vl g r q (by omega) x
    obtain ⟨k1, k2, k3⟩ := divN_vl g h1 x n (stepR g r) (stepQ g r q) (by rw [stepR_len]; omega) (by rw [stepQ_len]; omega)
    rw [divN]
    refine ⟨k1, by rw [k2, stepQ_len], ?_⟩
    rw [k3, a, b, Int.pow_succ]
    grind
/-- short rows are left -/
theorem divN_lt (g r q : List Int) : divN g 0 r q = (r, q) := rfl
theorem bd_dropLast {B : Nat} {f : List Int} (h : bd B f) : bd B f.dropLast := fun c hc => h c (List.dropLast_subset f hc)
theorem bd_scale {B L : Nat} {f : List Int} {l : Int} (h : bd B f) (hl : l.natAbs ≤ L) : bd (B * L) (scaleI l f) := fun c hc => by
  unfold scaleI at hc
  obtain ⟨y, hy, rfl⟩ := List.mem_map.mp hc
  rw [Int.natAbs_mul]
  exact Nat.mul_le_mul (h y hy) hl
theorem bd_of_get {B : Nat} {f : List Int} (h : ∀ k : Nat, (f[k]?.getD 0).natAbs ≤ B) : bd B f := fun c hc => by
  obtain ⟨k, hk, e⟩ := List.mem_iff_getElem.mp hc
  have := h k
  rw [List.getElem?_eq_getElem hk, Option.getD_some, e] at this
  exact this
theorem much_le {B : Nat} {g r : List Int} (h : bd B r) : (muchI g r).natAbs ≤ B := by
  have := bd_get h (r.length - 1)
  unfold muchI topI
  split <;> omega
theorem subTo_bd {B M G : Nat} {m : Int} {g r : List Int} {s : Nat} (hr : bd B r) (hm : m.natAbs ≤ M) (hg : bd G g) {k : Nat} (hk : s + k ≤ r.length) : bd (B + M * G) (subTo m g s r k) := bd_of_get fun j => by
  rw [subTo_get m g s r k hk]
  have a := bd_get hr j
  have b := bd_get hg (j - s)
  split
  · have := Int.natAbs_sub_le (r[j]?.getD 0) (m * g[j - s]?.getD 0)
    rw [Int.natAbs_mul] at this
    have := Nat.mul_le_mul hm b
    omega
  · have := Nat.zero_le (M * G)
    simp
    omega
theorem stepR_bd {B G : Nat} {g r : List Int} (hr : bd B r) (hg : bd G g) (h2 : g.length ≤ r.length) : bd (B * G * 2) (stepR g r) := by
  refine bd_dropLast (bd_mono (subTo_bd (bd_scale hr (L := G) (by have := bd_get hg (g.length - 1); unfold absI topI; omega)) (much_le hr) hg (by rw [scaleI_len]; omega)) ?_)
  omega
theorem stepQ_bd {B C G : Nat} {g r q : List Int} (hr : bd B r) (hq : bd C q) (hg : bd G g) : bd (C * G + B) (stepQ g r q) := bd_of_get fun j => by
  unfold stepQ
  have ha : (absI (topI g)).natAbs ≤ G := by have := bd_get hg (g.length - 1); unfold absI topI; omega
  have hs := bd_scale hq ha
  have hm := much_le (g := g) hr
  rw [List.getElem?_set]
  split
  · split
    · rw [Option.getD_some]
      have := bd_get hs (r.length - g.length)
      have := Int.natAbs_add_le ((scaleI (absI (topI g)) q)[r.length - g.length]?.getD 0) (muchI g r)
      omega
    · simp
  · have := bd_get hs j
    omega

/-! ### put low -/
/-- the greatest common part of a row -/
def rowG (f : List Int) : Nat := f.foldl (fun p c => Nat.gcd p c.natAbs) 0
theorem rowG_dvd (f : List Int) : ∀ p : Nat, (f.foldl (fun p c => Nat.gcd p c.natAbs) p ∣ p) ∧ ∀ c ∈ f, f.foldl (fun p c => Nat.gcd p c.natAbs) p ∣ c.natAbs := by
  induction f with
  | nil => exact fun p => ⟨Nat.dvd_refl _, fun c hc => nomatch hc⟩
  | cons x f ih =>
    intro p
    obtain ⟨h1, h2⟩ := ih (Nat.gcd p x.natAbs)
    refine ⟨Nat.dvd_trans h1 (Nat.gcd_dvd_left _ _), fun c hc => ?_⟩
    rcases List.mem_cons.mp hc with rfl | hc
    · exact Nat.dvd_trans h1 (Nat.gcd_dvd_right _ _)
    · exact h2 c hc
theorem rowG_le {f : List Int} {c : Int} (hc : c ∈ f) (h0 : c ≠ 0) : rowG f ≤ c.natAbs := Nat.le_of_dvd (by omega) ((rowG_dvd f 0).2 c hc)
theorem rowG_pos {f : List Int} {c : Int} (hc : c ∈ f) (h0 : c ≠ 0) : 0 < rowG f := by
  refine Nat.pos_of_ne_zero fun z => ?_
  have h := (rowG_dvd f 0).2 c hc
  change rowG f ∣ c.natAbs at h
  rw [z] at h
  have := Nat.eq_zero_of_zero_dvd h
  omega
theorem rowG_zero {f : List Int} (h : ∀ c ∈ f, c = 0) : rowG f = 0 := by
  unfold rowG
  refine foldl_inv (P := fun p => p = 0) f (fun b x hx hb => ?_) 0 rfl
  rw [hb, h x hx]
  rfl
theorem rowG_bd {B : Nat} {f : List Int} (h : bd B f) : rowG f ≤ B := by
  by_cases hz : ∀ c ∈ f, c = 0
  · rw [rowG_zero hz]; exact Nat.zero_le _
  · have : ∃ c ∈ f, c ≠ 0 := Classical.byContradiction fun q => hz fun c hc => Classical.byContradiction fun z => q ⟨c, hc, z⟩
    obtain ⟨c, hc, h0⟩ := this
    exact Nat.le_trans (rowG_le hc h0) (h c hc)
/-- put low -/
def lowR (f : List Int) : List Int := if rowG f = 0 then [] else f.map fun c => c.fdiv (rowG f)
theorem lowR_len (f : List Int) : (lowR f).length ≤ f.length := by
  unfold lowR
  split <;> simp
theorem lowR_bd {B : Nat} {f : List Int} (h : bd B f) : bd B (lowR f) := by
  unfold lowR
  split
  · intro c hc; cases hc
  · intro c hc
    obtain ⟨x, hx, rfl⟩ := List.mem_map.mp hc
    exact Nat.le_trans (natAbs_fdiv_le _ _) (h x hx)
theorem row_mem {f : List Int} (h : isRow f) (h0 : f ≠ []) : ∃ c ∈ f, c ≠ 0 := by
  have hl := isRow_last h h0
  have hp : 0 < f.length := List.length_pos_iff.mpr h0
  refine ⟨_, ?_, hl⟩
  rw [List.getElem?_eq_getElem (by omega)]
  exact List.getElem_mem _
theorem rowG_row {f : List Int} (h : isRow f) (h0 : f ≠ []) : 0 < rowG f := by
  obtain ⟨c, hc, hz⟩ := row_mem h h0
  exact rowG_pos hc hz
/-- a row is so many times itself put low -/
theorem low_times {f : List Int} (h : isRow f) : f = scaleI (rowG f : Int) (lowR f) := by
  by_cases h0 : f = []
  · subst h0; rfl
  · have g := rowG_row h h0
    rw [lowR, if_neg (by omega)]
    unfold scaleI
    rw [List.map_map]
    conv => lhs; rw [← List.map_id f]
    refine List.map_congr_left fun c hc => ?_
    have d : (rowG f : Int) ∣ c := Int.ofNat_dvd_left.mpr ((rowG_dvd f 0).2 c hc)
    show c = c.fdiv (rowG f) * (rowG f : Int)
    exact (Int.fdiv_mul_cancel d).symm
theorem isRow_scale {c : Int} {f : List Int} (hc : c ≠ 0) (h : isRow f) : isRow (scaleI c f) := by
  by_cases h0 : f = []
  · subst h0; rfl
  · refine isRow_of ?_
    rw [scaleI_len, scaleI_get]
    exact Int.mul_ne_zero (isRow_last h h0) hc
theorem scale_row {c : Int} {f : List Int} (h : isRow (scaleI c f)) : isRow f := by
  by_cases h0 : f = []
  · subst h0; rfl
  · refine isRow_of fun z => ?_
    have h1 : scaleI c f ≠ [] := fun q => h0 (by have := congrArg List.length q; rw [scaleI_len] at this; exact List.eq_nil_of_length_eq_zero this)
    have := isRow_last h h1
    rw [scaleI_len, scaleI_get, z, Int.zero_mul] at this
    exact this rfl
theorem isRow_low {f : List Int} (h : isRow f) : isRow (lowR f) := scale_row (c := (rowG f : Int)) (by rw [← low_times h]; exact h)
theorem low_nil {f : List Int} (h : isRow f) : lowR f = [] ↔ f = [] := by
  constructor
  · intro e
    rw [low_times h, e]
    rfl
  · intro e
    rw [e]
    rfl
theorem rowG_scale (c : Nat) (f : List Int) : ∀ p, (scaleI (c : Int) f).foldl (fun p c => Nat.gcd p c.natAbs) (p * c) = f.foldl (fun p c => Nat.gcd p c.natAbs) p * c := by
  induction f with
  | nil => exact fun p => rfl
  | cons a f ih =>
    intro p
    show (scaleI (c : Int) f).foldl _ (Nat.gcd (p * c) (a * c).natAbs) = f.foldl _ (Nat.gcd p a.natAbs) * c
    rw [Int.natAbs_mul, Int.natAbs_natCast, Nat.gcd_mul_right, ih]
theorem lowR_scale {c : Nat} (hc : 0 < c) (f : List Int) : lowR (scaleI (c : Int) f) = lowR f := by
  have e : rowG (scaleI (c : Int) f) = rowG f * c := by
    have := rowG_scale c f 0
    rw [Nat.zero_mul] at this
    exact this
  unfold lowR
  rw [e]
  by_cases h : rowG f = 0
  · rw [h, Nat.zero_mul, if_pos rfl, if_pos rfl]
  · have : rowG f * c ≠ 0 := Nat.mul_ne_zero h (by omega)
    rw [if_neg this, if_neg h]
    unfold scaleI
    rw [List.map_map]
    refine List.map_congr_left fun x hx => ?_
    show (x * (c : Int)).fdiv ((rowG f * c : Nat) : Int) = x.fdiv (rowG f)
    rw [Int.natCast_mul, Int.fdiv_eq_ediv_of_nonneg _ (by rw [← Int.natCast_mul]; omega), Int.fdiv_eq_ediv_of_nonneg _ (by omega), Int.mul_ediv_mul_of_pos_left _ _ (by omega)]
theorem vl_scaleI (c x : Int) (f : List Int) : vl (scaleI c f) x = vl f x * c := vl_scale c x f
/-- rows alike but for numbers above nought have one low row -/
theorem low_alike {f g : List Int} (hf : isRow f) (hg : isRow g) {c d : Nat} (hc : 0 < c) (hd : 0 < d) {N : Int} (h : ∀ x, N ≤ x → vl f x * c = vl g x * d) : lowR f = lowR g := by
  have e : scaleI (c : Int) f = scaleI (d : Int) g := vl_inj (isRow_scale (by omega) hf) (isRow_scale (by omega) hg) (N := N) fun x hx => by rw [vl_scaleI, vl_scaleI]; exact h x hx
  rw [← lowR_scale hc f, e, lowR_scale hd g]
theorem low_low {f : List Int} (h : isRow f) : lowR (lowR f) = lowR f := by
  by_cases h0 : f = []
  · subst h0; rfl
  · have g := rowG_row h h0
    exact (low_alike (isRow_low h) h g Nat.one_pos (N := 0) fun x _ => by
      have := vl_scaleI (rowG f : Int) x (lowR f)
      rw [← low_times h] at this
      rw [this]
      simp)
def negR (f : List Int) : List Int := f.map fun x => -x
/-- made plain -/
def plainR (f : List Int) : List Int := if 0 < (lowR f).length ∧ (lowR f)[(lowR f).length - 1]?.getD 0 < 0 then negR (lowR f) else lowR f
theorem atI_last' {ns : List Int} (h : ns ≠ []) : atI (zs ns) (-1) = some (.int (ns[ns.length - 1]?.getD 0)) := by
  have hl : 0 < ns.length := List.length_pos_iff.mpr h
  unfold atI ixN
  rw [if_neg (by omega), if_pos (by rw [zs_length]; omega), zs_length]
  have e : (-1 + (ns.length : Int)).toNat = ns.length - 1 := by omega
  rw [e]
  exact zs_get (by omega)
def nOw : Option Sl → Prop
  | some (.ow _) => False
  | some (.od _) => False
  | _ => True
theorem free_of {η : PD.Env} {i : Nat} {u : Option Sl} (h : η[i]? = some u) (hu : nOw u) : freeS η i = true := by
  unfold freeS
  rw [h]
  cases u with
  | none => rfl
  | some s =>
    cases s with
    | sh d => rfl
    | ow ds => exact hu.elim
    | od l => exact hu.elim
    | kk k => rfl

def divK (f g : List Int) : Nat := f.length + 1 - g.length
def divR (f g : List Int) : List Int × List Int := divN g (divK f g) f (List.replicate (divK f g) 0)
theorem divR_vl (f g : List Int) (h1 : g ≠ []) (x : Int) : (divR f g).1.length < g.length ∧ vl (divR f g).2 x * vl g x + vl (divR f g).1 x = vl f x * absI (topI g) ^ divK f g := by
  have hp : 0 < g.length := List.length_pos_iff.mpr h1
  unfold divR
  by_cases h : g.length ≤ f.length + 1
  · obtain ⟨k1, k2, k3⟩ := divN_vl g h1 x (divK f g) f (List.replicate (divK f g) 0) (by unfold divK; omega) (by simp)
    refine ⟨by omega, ?_⟩
    rw [k3, vl_zeros]
    simp
  · have z : divK f g = 0 := by unfold divK; omega
    rw [z, divN]
    refine ⟨show f.length < g.length by omega, ?_⟩
    simp [vl_nil]
theorem divN_bd (g : List Int) {G c : Nat} (hg : bd G g) (hG : G ≤ 2 ^ c) (h1 : g ≠ []) : ∀ (k b : Nat) (r q : List Int), bd (2 ^ b) r → r.length + 1 = g.length + k → bd (2 ^ (b + k * (c + 1))) (divN g k r q).1
  | 0, b, r, q, hr, _ => by simpa [divN] using hr
  | k + 1, b, r, q, hr, hl => by
    have hp : 0 < g.length := List.length_pos_iff.mpr h1
    have hkc : (k + 1) * (c + 1) = k * (c + 1) + (c + 1) := Nat.succ_mul _ _
    have e1 : (2 : Nat) ^ b * 2 ^ c * 2 = 2 ^ (b + c + 1) := by rw [Nat.pow_succ, Nat.pow_add]
    have br : bd (2 ^ (b + (c + 1))) (stepR g r) := bd_mono (stepR_bd hr hg (by omega)) (by
      have := Nat.mul_le_mul_right 2 (Nat.mul_le_mul_left (2 ^ b) hG)
      rw [e1] at this
      exact this)
    have := divN_bd g hg hG h1 k (b + (c + 1)) (stepR g r) (stepQ g r q) br (by rw [stepR_len]; omega)
    rw [show b + (c + 1) + k * (c + 1) = b + (k + 1) * (c + 1) by omega] at this
    exact this
theorem divR_bd (f g : List Int) {b c : Nat} (h1 : g ≠ []) (hf : bd (2 ^ b) f) (hg : bd (2 ^ c) g) : bd (2 ^ (b + divK f g * (c + 1))) (divR f g).1 := by
  have hp : 0 < g.length := List.length_pos_iff.mpr h1
  unfold divR
  by_cases h : g.length ≤ f.length + 1
  · exact divN_bd g hg (Nat.le_refl _) h1 _ _ _ _ hf (by unfold divK; omega)
  · have z : divK f g = 0 := by unfold divK; omega
    rw [z, divN]
    simpa using hf

def restR (f g : List Int) : List Int := lowR (trim (divR f g).1)
/-- what a rest is -/
theorem restR_vl (f g : List Int) (h1 : isRow g) (h2 : g ≠ []) : isRow (restR f g) ∧ (restR f g).length < g.length ∧ lowR (restR f g) = restR f g ∧
    ∃ (L c : Nat) (u : Int → Int), 0 < L ∧ 0 < c ∧ ∀ x, vl f x * L = u x * vl g x + vl (restR f g) x * c := by
  have hp : 0 < g.length := List.length_pos_iff.mpr h2
  have l := (divR_vl f g h2 0).1
  have lt := trim_len (divR f g).1
  have ll := lowR_len (trim (divR f g).1)
  have ha : absI (topI g) = ((topI g).natAbs : Int) := rfl
  have hL : 0 < (topI g).natAbs := by
    have := isRow_last h1 h2
    unfold topI
    omega
  refine ⟨isRow_low (isRow_trim _), by unfold restR; omega, low_low (isRow_trim _), (topI g).natAbs ^ divK f g, ?_⟩
  by_cases z : trim (divR f g).1 = []
  · refine ⟨1, fun x => vl (divR f g).2 x, Nat.pow_pos hL, by omega, fun x => ?_⟩
    have e := (divR_vl f g h2 x).2
    have e2 := vl_trim (divR f g).1 x
    rw [z, vl_nil] at e2
    rw [← e2, ha, ← Int.natCast_pow] at e
    unfold restR
    rw [z, ← e]
    show _ = _ + vl [] x * _
    rw [vl_nil]
    simp
  · refine ⟨rowG (trim (divR f g).1), fun x => vl (divR f g).2 x, Nat.pow_pos hL, rowG_row (isRow_trim _) z, fun x => ?_⟩
    have e := (divR_vl f g h2 x).2
    have e2 := vl_trim (divR f g).1 x
    have e3 := vl_scaleI (rowG (trim (divR f g).1) : Int) x (lowR (trim (divR f g).1))
    rw [← low_times (isRow_trim _)] at e3
    rw [ha, ← Int.natCast_pow] at e
    unfold restR
    rw [← e3, e2]
    exact e.symm
/-- a rest is told by what it is -/
theorem rest_one {f g r : List Int} (hg : isRow g) (h2 : g ≠ []) (hr : isRow r) (hl : r.length < g.length) {L c : Nat} {u : Int → Int} (hL : 0 < L) (hc : 0 < c) (h : ∀ x, vl f x * L = u x * vl g x + vl r x * c) : lowR r = restR f g := by
  obtain ⟨a1, a2, a3, L', c', u', b1, b2, b3⟩ := restR_vl f g hg h2
  have key : ∀ x, vl (scaleI ((c * L' : Nat) : Int) r) x = vl (scaleI ((c' * L : Nat) : Int) (restR f g)) x := by
    intro x
    let v := (List.range (max r.length (restR f g).length)).map fun k => r[k]?.getD 0 * ((c * L' : Nat) : Int) + (- (restR f g)[k]?.getD 0 * ((c' * L : Nat) : Int))
    have vx : ∀ x, vl v x = vl (scaleI ((c * L' : Nat) : Int) r) x + vl (scaleI (-((c' * L : Nat) : Int)) (restR f g)) x := fun x => vl_lin x fun k => by
      show ((List.range (max r.length (restR f g).length)).map fun k => r[k]?.getD 0 * ((c * L' : Nat) : Int) + (- (restR f g)[k]?.getD 0 * ((c' * L : Nat) : Int)))[k]?.getD 0 = _
      rw [map_range_get, scaleI_get, scaleI_get]
      split
      · grind
      · rw [List.getElem?_eq_none (by omega), List.getElem?_eq_none (by omega)]
        simp
    have z := rem_zero (u := fun x => u' x * L - u x * L') (g := g) (v := v) hg (by show ((List.range (max r.length (restR f g).length)).map _).length < _; rw [List.length_map, List.length_range]; omega) (fun x => by
      rw [vx, vl_scaleI, vl_scaleI]
      have e1 := h x
      have e2 := b3 x
      rw [Int.natCast_mul, Int.natCast_mul]
      grind)
    have := vl_all0 z x
    rw [vx] at this
    rw [vl_scaleI, vl_scaleI] at *
    grind
  rw [← a3]
  refine low_alike hr a1 (c := c * L') (d := c' * L) (Nat.mul_pos hc b1) (Nat.mul_pos b2 hL) (N := 0) fun x _ => ?_
  have := key x
  rw [vl_scaleI, vl_scaleI] at this
  exact this

theorem pad_get (f : List Int) (m k : Nat) : (f ++ List.replicate m 0)[k]?.getD 0 = f[k]?.getD 0 := by
  by_cases h : k < f.length
  · rw [List.getElem?_append_left h]
  · rw [List.getElem?_append_right (by omega), List.getElem?_eq_none (show f.length ≤ k by omega), List.getElem?_replicate]
    split <;> rfl
/-- two rows put together, place by place -/
def addL (f g : List Int) : List Int := (List.range (max f.length g.length)).map fun k => f[k]?.getD 0 + g[k]?.getD 0
theorem addL_get (f g : List Int) (k : Nat) : (addL f g)[k]?.getD 0 = f[k]?.getD 0 + g[k]?.getD 0 := by
  unfold addL
  rw [map_range_get]
  split
  · rfl
  · rw [List.getElem?_eq_none (by omega), List.getElem?_eq_none (by omega)]
    rfl
theorem addL_vl (f g : List Int) (x : Int) : vl (addL f g) x = vl f x + vl g x := vl_lin x (addL_get f g)
theorem addL_len (f g : List Int) : (addL f g).length = max f.length g.length := by simp [addL]
theorem addL_bd {A B : Nat} {f g : List Int} (hf : bd A f) (hg : bd B g) : bd (A + B) (addL f g) := bd_of_get fun k => by
  rw [addL_get]
  have a := bd_get hf k
  have b := bd_get hg k
  have := Int.natAbs_add_le (f[k]?.getD 0) (g[k]?.getD 0)
  omega

/-- the last place of a product is never written -/
theorem mulR_last (f g : List Int) : (mulR f g)[f.length + g.length - 1]?.getD 0 = 0 := by
  have st : ∀ i, i < f.length → ∀ acc : List Int, acc[f.length + g.length - 1]?.getD 0 = 0 → (mulRow f g acc i)[f.length + g.length - 1]?.getD 0 = 0 := fun i hi acc h => by
    unfold mulRow
    refine foldl_inv (P := fun b : List Int => b[f.length + g.length - 1]?.getD 0 = 0) (List.range g.length) (fun b j hj hb => ?_) acc h
    have hj := List.mem_range.mp hj
    unfold mulStep
    rw [List.getElem?_set_ne (by omega)]
    exact hb
  unfold mulR
  refine foldl_inv (P := fun b : List Int => b[f.length + g.length - 1]?.getD 0 = 0) (List.range f.length) (fun b i hi hb => st i (List.mem_range.mp hi) b hb) _ ?_
  rw [List.getElem?_replicate]
  split <;> rfl
theorem trim_lt {f : List Int} (h : f[f.length - 1]?.getD 0 = 0) : (trim f).length ≤ f.length - 1 := by
  unfold trim
  rw [List.length_take]
  cases e : f.length with
  | zero => simp
  | succ k =>
    rw [e, Nat.add_sub_cancel] at h
    rw [tlen, if_pos h]
    have := tlen_le f k
    omega
theorem mul_len (f g : List Int) : (trim (mulR f g)).length ≤ f.length + g.length - 1 := by
  have h := mulR_last f g
  rw [← mulR_len f g] at h
  have := trim_lt h
  rw [mulR_len] at this
  exact this

theorem mulR_bd2 {A B a b : Nat} {f g : List Int} (hf : bd A f) (hg : bd B g) (ha : A ≤ 2 ^ a) (hb : B ≤ 2 ^ b) (lf : f.length ≤ 32) (lg : g.length ≤ 32) : bd (2 ^ (a + b + 10)) (mulR f g) := by
  refine bd_mono (mulR_bd hf hg) ?_
  have h1 := Nat.mul_le_mul ha hb
  have h2 := Nat.mul_le_mul lf (Nat.mul_le_mul lg h1)
  refine Nat.le_trans h2 ?_
  rw [← Nat.pow_add, Nat.pow_add 2 (a + b) 10, Nat.mul_comm (2 ^ (a + b)), ← Nat.mul_assoc]
  exact Nat.le_refl _

/-! ### shared rows -/
theorem restR_len (f g : List Int) (h2 : g ≠ []) : (restR f g).length < g.length := by
  have l := (divR_vl f g h2 0).1
  have lt := trim_len (divR f g).1
  have ll := lowR_len (trim (divR f g).1)
  unfold restR
  omega
/-- the last row of the chain of rests that isn't nought -/
def euR (f g : List Int) : List Int := if h : g = [] then f else euR g (restR f g)
termination_by g.length
decreasing_by exact restR_len f g h
theorem euR_nil (f : List Int) : euR f [] = f := by rw [euR, dif_pos rfl]
theorem euR_step {f g : List Int} (h : g ≠ []) : euR f g = euR g (restR f g) := by rw [euR, dif_neg h]
theorem isRow_rest (f g : List Int) : isRow (restR f g) := isRow_low (isRow_trim _)
theorem isRow_eu : ∀ (k : Nat) (f g : List Int), g.length ≤ k → isRow f → isRow g → isRow (euR f g)
  | k, f, g, hk, hf, hg => by
    by_cases h : g = []
    · rw [h, euR_nil]; exact hf
    · have := restR_len f g h
      rw [euR_step h]
      cases k with
      | zero => exact absurd (List.eq_nil_of_length_eq_zero (by omega)) h
      | succ k => exact isRow_eu k g (restR f g) (by omega) hg (isRow_rest f g)
/-- D divides what F tells, over fractions -/
def Dv (D : List Int) (F : Int → Int) : Prop := ∃ (c : Int) (q : List Int), c ≠ 0 ∧ ∀ x, F x * c = vl q x * vl D x
theorem Dv.congr {D : List Int} {F G : Int → Int} (h : Dv D F) (e : ∀ x, F x = G x) : Dv D G := by
  obtain ⟨c, q, h1, h2⟩ := h
  exact ⟨c, q, h1, fun x => by rw [← e]; exact h2 x⟩
theorem Dv.refl (D : List Int) : Dv D (vl D) := ⟨1, [1], by omega, fun x => by rw [vl_cons, vl_nil]; grind⟩
theorem Dv.zero (D : List Int) : Dv D fun _ => 0 := ⟨1, [], by omega, fun x => by rw [vl_nil]; grind⟩
/-- F k = G u - H w, by known divisors -/
theorem Dv.comb {D u w : List Int} {F G H : Int → Int} {k : Int} (hG : Dv D G) (hH : Dv D H) (hk : k ≠ 0) (e : ∀ x, F x * k = vl u x * G x + vl w x * H x) : Dv D F := by
  obtain ⟨c, q, c0, hc⟩ := hG
  obtain ⟨d, p, d0, hd⟩ := hH
  refine ⟨k * c * d, addL (scaleI d (mulR u q)) (scaleI c (mulR w p)), Int.mul_ne_zero (Int.mul_ne_zero hk c0) d0, fun x => ?_⟩
  rw [addL_vl, vl_scaleI, vl_scaleI, vl_mulR, vl_mulR]
  have a := e x
  have b := hc x
  have b2 := hd x
  grind
theorem Dv.mul {D : List Int} {F : Int → Int} (h : Dv D F) (s : List Int) : Dv D fun x => F x * vl s x := by
  obtain ⟨c, q, h1, h2⟩ := h
  refine ⟨c, mulR q s, h1, fun x => ?_⟩
  rw [vl_mulR]
  have := h2 x
  grind
theorem Dv.trans {D E : List Int} {F : Int → Int} (h : Dv D F) (k : Dv E (vl D)) : Dv E F := by
  obtain ⟨c, q, h1, h2⟩ := h
  obtain ⟨d, p, k1, k2⟩ := k
  refine ⟨c * d, mulR q p, Int.mul_ne_zero h1 k1, fun x => ?_⟩
  rw [vl_mulR]
  have a := h2 x
  have b := k2 x
  grind
theorem rest_comb (f g : List Int) (h1 : isRow g) (h2 : g ≠ []) : ∃ (L c : Int) (q : List Int), L ≠ 0 ∧ c ≠ 0 ∧ ∀ x, vl f x * L = vl q x * vl g x + vl (restR f g) x * c := by
  have hL : 0 < (topI g).natAbs := by
    have := isRow_last h1 h2
    unfold topI
    omega
  have ha : absI (topI g) = ((topI g).natAbs : Int) := rfl
  have pw := Nat.pow_pos (n := divK f g) hL
  by_cases z : trim (divR f g).1 = []
  · refine ⟨((topI g).natAbs ^ divK f g : Nat), 1, (divR f g).2, by omega, by omega, fun x => ?_⟩
    have e := (divR_vl f g h2 x).2
    have e2 := vl_trim (divR f g).1 x
    rw [z, vl_nil] at e2
    rw [← e2, ha, ← Int.natCast_pow] at e
    unfold restR
    rw [z, ← e]
    show _ = _ + vl [] x * _
    rw [vl_nil]
    simp
  · have rg := rowG_row (isRow_trim _) z
    refine ⟨((topI g).natAbs ^ divK f g : Nat), rowG (trim (divR f g).1), (divR f g).2, by omega, by omega, fun x => ?_⟩
    have e := (divR_vl f g h2 x).2
    have e2 := vl_trim (divR f g).1 x
    have e3 := vl_scaleI (rowG (trim (divR f g).1) : Int) x (lowR (trim (divR f g).1))
    rw [← low_times (isRow_trim _)] at e3
    rw [ha, ← Int.natCast_pow] at e
    unfold restR
    rw [← e3, e2]
    exact e.symm
/-- it divides both -/
theorem eu_dvd : ∀ (k : Nat) (f g : List Int), g.length ≤ k → isRow f → isRow g → Dv (euR f g) (vl f) ∧ Dv (euR f g) (vl g)
  | k, f, g, hk, hf, hg => by
    by_cases h : g = []
    · subst h
      rw [euR_nil]
      exact ⟨Dv.refl f, (Dv.zero f).congr fun x => rfl⟩
    · have hl := restR_len f g h
      rw [euR_step h]
      cases k with
      | zero => exact absurd (List.eq_nil_of_length_eq_zero (by omega)) h
      | succ k =>
        obtain ⟨a, b⟩ := eu_dvd k g (restR f g) (by omega) hg (isRow_rest f g)
        obtain ⟨L, c, q, l0, c0, e⟩ := rest_comb f g hg h
        exact ⟨Dv.comb (u := q) (w := [c]) a b l0 fun x => by rw [e x, vl_cons, vl_nil]; grind, a⟩
/-- and what divides both (times some row) divides it (times that) -/
theorem eu_great : ∀ (k : Nat) (D s f g : List Int), g.length ≤ k → isRow f → isRow g → Dv D (fun x => vl f x * vl s x) → Dv D (fun x => vl g x * vl s x) → Dv D fun x => vl (euR f g) x * vl s x
  | k, D, s, f, g, hk, hf, hg, a, b => by
    by_cases h : g = []
    · subst h
      rw [euR_nil]
      exact a
    · have hl := restR_len f g h
      rw [euR_step h]
      cases k with
      | zero => exact absurd (List.eq_nil_of_length_eq_zero (by omega)) h
      | succ k =>
        obtain ⟨L, c, q, l0, c0, e⟩ := rest_comb f g hg h
        refine eu_great k D s g (restR f g) (by omega) hg (isRow_rest f g) b (Dv.comb (u := [L]) (w := scaleI (-1) q) a b c0 fun x => ?_)
        have := e x
        rw [vl_cons, vl_nil, vl_scaleI]
        grind
/-! rows that divide each other -/
theorem Dv.len {a b : List Int} (ha : isRow a) (h : Dv a (vl b)) (hb : isRow b) (b0 : b ≠ []) : a.length ≤ b.length := by
  obtain ⟨c, q, c0, e⟩ := h
  by_cases hl : a.length ≤ b.length
  · exact hl
  · exfalso
    have z := rem_zero (u := vl q) (g := a) (v := scaleI c b) ha (by rw [scaleI_len]; omega) (fun x => by rw [vl_scaleI]; exact (e x).symm)
    have := row_zero (isRow_scale c0 hb) z
    have := congrArg List.length this
    rw [scaleI_len] at this
    exact b0 (List.eq_nil_of_length_eq_zero this)
theorem low_neg (f : List Int) : lowR (negR f) = negR (lowR f) := by
  have e : rowG (negR f) = rowG f := by
    unfold rowG negR
    rw [List.foldl_map]
    simp
  unfold lowR
  rw [e]
  split
  · rfl
  · rename_i h
    unfold negR
    rw [List.map_map, List.map_map]
    refine List.map_congr_left fun x hx => ?_
    have d : (rowG f : Int) ∣ x := Int.ofNat_dvd_left.mpr ((rowG_dvd f 0).2 x hx)
    show (-x).fdiv _ = -(x.fdiv _)
    rw [Int.fdiv_eq_ediv_of_nonneg _ (by omega), Int.fdiv_eq_ediv_of_nonneg _ (by omega), Int.neg_ediv_of_dvd d]
theorem negR_neg (f : List Int) : negR (negR f) = f := by
  unfold negR
  rw [List.map_map]
  conv => rhs; rw [← List.map_id f]
  exact List.map_congr_left fun x _ => by simp
theorem negR_len (f : List Int) : (negR f).length = f.length := by simp [negR]
theorem topI_neg (f : List Int) : topI (negR f) = - topI f := by
  unfold topI negR
  rw [List.length_map, List.getElem?_map]
  cases f[f.length - 1]? <;> simp
theorem plain_neg {f : List Int} (hf : isRow f) : plainR (negR f) = plainR f := by
  by_cases h0 : f = []
  · subst h0; rfl
  have hl : lowR f ≠ [] := fun z => h0 ((low_nil hf).mp z)
  have hp : 0 < (lowR f).length := List.length_pos_iff.mpr hl
  have ht := isRow_last (isRow_low hf) hl
  have t := topI_neg (lowR f)
  unfold topI at t
  unfold plainR
  rw [low_neg, negR_neg]
  rw [negR_len] at t ⊢
  generalize hx : (lowR f)[(lowR f).length - 1]?.getD 0 = x at *
  rw [t]
  by_cases h : x < 0
  · rw [if_neg (by omega), if_pos ⟨hp, h⟩]
  · rw [if_pos (by omega), if_neg (by omega)]
theorem isRow_neg {f : List Int} (h : isRow f) : isRow (negR f) := by
  by_cases h0 : f = []
  · subst h0; rfl
  · refine isRow_of ?_
    have := isRow_last h h0
    have t := topI_neg f
    unfold topI at t
    rw [t]
    omega
theorem vl_negR (x : Int) (f : List Int) : vl (negR f) x = - vl f x := vl_neg x f
theorem plain_low {f g : List Int} (h : lowR f = lowR g) : plainR f = plainR g := by unfold plainR; rw [h]
/-- proportional rows are made plain alike -/
theorem plain_alike {f g : List Int} (hf : isRow f) (hg : isRow g) {a b : Int} (ha : a ≠ 0) (hb : b ≠ 0) {N : Int} (e : ∀ x, N ≤ x → vl f x * a = vl g x * b) : plainR f = plainR g := by
  have pos : ∀ {f g : List Int} {a b : Int}, isRow f → isRow g → 0 < a → 0 < b → (∀ x, N ≤ x → vl f x * a = vl g x * b) → plainR f = plainR g := fun {f g a b} hf hg ha hb e =>
    plain_low (low_alike hf hg (c := a.natAbs) (d := b.natAbs) (by omega) (by omega) (N := N) fun x hx => by
      have := e x hx
      rw [show (a.natAbs : Int) = a by omega, show (b.natAbs : Int) = b by omega]
      exact this)
  by_cases h1 : 0 < a
  · by_cases h2 : 0 < b
    · exact pos hf hg h1 h2 e
    · rw [← plain_neg hg]
      exact pos hf (isRow_neg hg) h1 (b := -b) (by omega) fun x hx => by rw [e x hx, vl_negR]; grind
  · rw [← plain_neg hf]
    by_cases h2 : 0 < b
    · exact pos (isRow_neg hf) hg (a := -a) (by omega) h2 fun x hx => by rw [← e x hx, vl_negR]; grind
    · rw [← plain_neg hg]
      exact pos (isRow_neg hf) (isRow_neg hg) (a := -a) (b := -b) (by omega) (by omega) fun x hx => by rw [vl_negR, vl_negR]; have := e x hx; grind
theorem mutual_plain {a b : List Int} (ha : isRow a) (hb : isRow b) (h1 : Dv a (vl b)) (h2 : Dv b (vl a)) : plainR a = plainR b := by
  by_cases a0 : a = []
  · subst a0
    obtain ⟨c, q, c0, e⟩ := h1
    have : b = [] := row_zero hb (vl_zero (N := 0) fun x _ => by
      have := e x
      rw [vl_nil, Int.mul_zero] at this
      rcases Int.mul_eq_zero.mp this with z | z
      · exact z
      · exact absurd z c0)
    rw [this]
  by_cases b0 : b = []
  · subst b0
    obtain ⟨c, q, c0, e⟩ := h2
    have : a = [] := row_zero ha (vl_zero (N := 0) fun x _ => by
      have := e x
      rw [vl_nil, Int.mul_zero] at this
      rcases Int.mul_eq_zero.mp this with z | z
      · exact z
      · exact absurd z c0)
    exact absurd this a0
  have l1 := Dv.len ha h1 hb b0
  have l2 := Dv.len hb h2 ha a0
  have la := isRow_last ha a0
  have lb := isRow_last hb b0
  have hp : 0 < a.length := List.length_pos_iff.mpr a0
  -- b times a's last, less a times b's last, is shorter, and a divides it
  obtain ⟨c, q, c0, e⟩ := h1
  have ll : a.length = b.length := by omega
  let v := ((List.range (a.length - 1)).map fun k => b[k]?.getD 0 * topI a - a[k]?.getD 0 * topI b)
  have vk : ∀ k : Nat, v[k]?.getD 0 = b[k]?.getD 0 * topI a - a[k]?.getD 0 * topI b := fun k => by
    show ((List.range (a.length - 1)).map fun k => b[k]?.getD 0 * topI a - a[k]?.getD 0 * topI b)[k]?.getD 0 = _
    rw [map_range_get]
    split
    · rfl
    · by_cases hk : k = a.length - 1
      · subst hk
        unfold topI
        rw [← ll]
        grind
      · rw [List.getElem?_eq_none (by omega), List.getElem?_eq_none (by omega)]
        simp
  have vx : ∀ x, vl v x = vl b x * topI a - vl a x * topI b := fun x => by
    have := vl_lin x (h := v) (f := scaleI (topI a) b) (g := scaleI (-topI b) a) (fun k => by rw [vk, scaleI_get, scaleI_get]; grind)
    rw [this, vl_scaleI, vl_scaleI]
    grind
  have z := rem_zero (u := fun x => vl q x * topI a - topI b * c) (g := a) (v := scaleI c v) ha (by rw [scaleI_len]; show ((List.range (a.length - 1)).map _).length < _; rw [List.length_map, List.length_range]; omega) (fun x => by
    rw [vl_scaleI, vx]
    have := e x
    grind)
  have key : ∀ x, vl a x * topI b = vl b x * topI a := fun x => by
    have := vl_all0 z x
    rw [vl_scaleI, vx] at this
    rcases Int.mul_eq_zero.mp this with w | w
    · omega
    · exact absurd w c0
  exact plain_alike ha hb (a := topI b) (b := topI a) lb la (N := 0) fun x _ => key x
/-- either way about -/
theorem eu_comm {f g : List Int} (hf : isRow f) (hg : isRow g) : plainR (euR f g) = plainR (euR g f) := by
  have one : ∀ {D : List Int} {F : Int → Int}, Dv D F → Dv D fun x => F x * vl [1] x := fun h => h.congr fun x => by rw [vl_cons, vl_nil]; grind
  have one' : ∀ {D E : List Int}, Dv D (fun x => vl E x * vl [1] x) → Dv D (vl E) := fun h => h.congr fun x => by rw [vl_cons, vl_nil]; grind
  obtain ⟨a1, a2⟩ := eu_dvd _ f g (Nat.le_refl _) hf hg
  obtain ⟨b1, b2⟩ := eu_dvd _ g f (Nat.le_refl _) hg hf
  refine mutual_plain (isRow_eu _ f g (Nat.le_refl _) hf hg) (isRow_eu _ g f (Nat.le_refl _) hg hf) ?_ ?_
  · exact one' (eu_great _ (euR f g) [1] g f (Nat.le_refl _) hg hf (one a2) (one a1))
  · exact one' (eu_great _ (euR g f) [1] f g (Nat.le_refl _) hf hg (one b2) (one b1))
/-- of both times a row it is it times that -/
theorem eu_mul {f g s : List Int} (hf : isRow f) (hg : isRow g) (hs : isRow s) (s0 : s ≠ []) : plainR (euR (trim (mulR f s)) (trim (mulR g s))) = plainR (trim (mulR (euR f g) s)) := by
  have vf : ∀ (f : List Int) x, vl (trim (mulR f s)) x = vl f x * vl s x := fun f x => by rw [vl_trim, vl_mulR]
  have one' : ∀ {D E : List Int}, Dv D (fun x => vl E x * vl [1] x) → Dv D (vl E) := fun h => h.congr fun x => by rw [vl_cons, vl_nil]; grind
  obtain ⟨a1, a2⟩ := eu_dvd _ f g (Nat.le_refl _) hf hg
  obtain ⟨b1, b2⟩ := eu_dvd _ (trim (mulR f s)) (trim (mulR g s)) (Nat.le_refl _) (isRow_trim _) (isRow_trim _)
  refine mutual_plain (isRow_eu _ _ _ (Nat.le_refl _) (isRow_trim _) (isRow_trim _)) (isRow_trim _) ?_ ?_
  · refine (eu_great _ (euR (trim (mulR f s)) (trim (mulR g s))) s f g (Nat.le_refl _) hf hg (b1.congr (vf f)) (b2.congr (vf g))).congr fun x => (vf _ x).symm
  · refine one' (eu_great _ (trim (mulR (euR f g) s)) [1] _ _ (Nat.le_refl _) (isRow_trim _) (isRow_trim _) ?_ ?_)
    · obtain ⟨c, q, c0, e⟩ := a1
      exact ⟨c, q, c0, fun x => by show vl (trim (mulR f s)) x * vl [1] x * c = _; rw [vf f, vf (euR f g), vl_cons, vl_nil]; have := e x; grind⟩
    · obtain ⟨c, q, c0, e⟩ := a2
      exact ⟨c, q, c0, fun x => by show vl (trim (mulR g s)) x * vl [1] x * c = _; rw [vf g, vf (euR f g), vl_cons, vl_nil]; have := e x; grind⟩
theorem eu_len : ∀ (k : Nat) (f g : List Int), g.length ≤ k → (euR f g).length ≤ max f.length g.length := by
  intro k
  induction k with
  | zero =>
    intro f g h
    rw [List.eq_nil_of_length_eq_zero (show g.length = 0 by omega), euR_nil]
    omega
  | succ k ih =>
    intro f g h
    by_cases z : g = []
    · rw [z, euR_nil]; omega
    · have := restR_len f g z
      have := ih g (restR f g) (by omega)
      rw [euR_step z]
      omega
theorem rest_nil {g : List Int} (h : g ≠ []) : restR [] g = [] := by
  have hp : 0 < g.length := List.length_pos_iff.mpr h
  have z : divK [] g = 0 := by unfold divK; simp; omega
  unfold restR divR
  rw [z, divN]
  rfl
theorem eu_nil (g : List Int) : euR [] g = g := by
  by_cases h : g = []
  · rw [h, euR_nil]
  · rw [euR_step h, rest_nil h, euR_nil]
theorem plain_len (f : List Int) : (plainR f).length ≤ f.length := by
  have := lowR_len f
  unfold plainR
  split
  · rw [negR_len]; exact this
  · exact this
theorem plain_bd {B : Nat} {f : List Int} (h : bd B f) : bd B (plainR f) := by
  have := lowR_bd h
  unfold plainR
  split
  · intro c hc
    obtain ⟨x, hx, rfl⟩ := List.mem_map.mp hc
    rw [Int.natAbs_neg]
    exact this x hx
  · exact this
theorem plain_row {f : List Int} (h : isRow f) : isRow (plainR f) := by
  unfold plainR
  split
  · exact isRow_neg (isRow_low h)
  · exact isRow_low h
/-- a row is so many times itself made plain -/
theorem plain_times {f : List Int} (h : isRow f) (h0 : f ≠ []) : ∃ a : Int, a ≠ 0 ∧ ∀ x, vl f x = vl (plainR f) x * a := by
  have g := rowG_row h h0
  have e : ∀ x, vl f x = vl (lowR f) x * (rowG f : Int) := fun x => by
    have := vl_scaleI (rowG f : Int) x (lowR f)
    rw [← low_times h] at this
    exact this
  unfold plainR
  split
  · exact ⟨-(rowG f : Int), by omega, fun x => by rw [vl_negR, e x]; grind⟩
  · exact ⟨(rowG f : Int), by omega, e⟩
theorem plain_mul {e s : List Int} (he : isRow e) : plainR (trim (mulR (plainR e) s)) = plainR (trim (mulR e s)) := by
  by_cases h0 : e = []
  · subst h0; rfl
  · obtain ⟨a, a0, h⟩ := plain_times he h0
    exact plain_alike (isRow_trim _) (isRow_trim _) (a := a) (b := 1) a0 (by omega) (N := 0) fun x _ => by
      rw [vl_trim, vl_trim, vl_mulR, vl_mulR, h x]
      grind
theorem mul_nil (f : List Int) : trim (mulR f []) = [] := by
  refine trim_zero (vl_zero (N := 0) fun x _ => ?_)
  rw [vl_mulR, vl_nil, Int.mul_zero]

/-! ### the chain, its numbers' size -/
/-- so great may a row of length l be -/
def wt (A N l : Nat) : Nat := A * (5 ^ (N - l) * 2 ^ l)
theorem wt_step {A N l : Nat} (h : l < N) : wt A N l * 2 = wt A N (l + 1) * 5 := by
  unfold wt
  have e : N - l = N - (l + 1) + 1 := by omega
  rw [e, Nat.pow_succ, Nat.pow_succ]
  generalize 5 ^ (N - (l + 1)) = p
  generalize 2 ^ l = q
  grind
theorem wt_le {A N l m : Nat} (h : l ≤ m) (hm : m ≤ N) : wt A N m ≤ wt A N l := by
  induction m with
  | zero => rw [show l = 0 by omega]; exact Nat.le_refl _
  | succ m ih =>
    by_cases e : l = m + 1
    · rw [e]; exact Nat.le_refl _
    · have := ih (by omega) (by omega)
      have := wt_step (A := A) (N := N) (l := m) (by omega)
      omega
theorem wt_drop {A N l : Nat} : ∀ d, l + d ≤ N → 1 ≤ d → wt A N (l + d) * (12 * (d + 1)) ≤ 10 * wt A N l
  | 0, _, h => by omega
  | 1, hl, _ => by
    have := wt_step (A := A) (N := N) (l := l) (by omega)
    omega
  | d + 2, hl, _ => by
    have ih := wt_drop (A := A) (N := N) (l := l) (d + 1) (by omega) (by omega)
    have := wt_step (A := A) (N := N) (l := l + (d + 1)) (by omega)
    rw [show l + (d + 1) + 1 = l + (d + 2) by omega] at this
    generalize wt A N (l + (d + 2)) = w at *
    generalize wt A N (l + (d + 1)) = v at *
    generalize wt A N l = u at *
    have e1 : w * (12 * (d + 2 + 1)) = w * 12 * d + w * 36 := by grind
    have e2 : v * (12 * (d + 1 + 1)) = v * 12 * d + v * 24 := by grind
    have e3 : w * 12 * d * 5 = v * 12 * d * 2 := by
      have : w * 5 = v * 2 := by omega
      grind
    rw [e1]
    rw [e2] at ih
    generalize w * 12 * d = wd at *
    generalize v * 12 * d = vd at *
    omega
/-- the numbers of two rows of a chain -/
structure Ch (A N : Nat) (f g : List Int) (b c : Nat) : Prop where
  bf : bd (2 ^ b) f
  bg : bd (2 ^ c) g
  lt : g.length < f.length
  le : f.length ≤ N
  x : (b + 1) * 2 ^ N ≤ wt A N f.length
  y : (c + 1) * (f.length - g.length + 1) * 2 ^ N ≤ 2 * wt A N g.length
section
variable {A N b c : Nat} {f g : List Int}
theorem wt_0 (A N : Nat) : wt A N 0 = A * 5 ^ N := by unfold wt; simp
/-- all stay below the bound -/
theorem Ch.small (h : Ch A N f g b c) (h0 : g ≠ []) (hA : A * 5 ^ N ≤ 39000000 * 2 ^ N) : b + 1 ≤ 39000000 ∧ (c + 1) * (f.length - g.length + 1) ≤ 31200000 ∧ c + 1 ≤ 15600000 := by
  have hp : 0 < g.length := List.length_pos_iff.mpr h0
  obtain ⟨_, _, h1, h2, h3, h4⟩ := h
  have w0 := wt_0 A N
  have w1 := wt_le (A := A) (N := N) (l := 0) (m := f.length) (by omega) h2
  have w2 := wt_le (A := A) (N := N) (l := 1) (m := g.length) (by omega) (by omega)
  have w3 := wt_step (A := A) (N := N) (l := 0) (by omega)
  rw [Nat.zero_add] at w3
  have p : 0 < 2 ^ N := Nat.pow_pos (by omega)
  have a1 : (b + 1) * 2 ^ N ≤ 39000000 * 2 ^ N := by omega
  have a2 : (c + 1) * (f.length - g.length + 1) * 2 ^ N ≤ 31200000 * 2 ^ N := by omega
  have k1 := Nat.le_of_mul_le_mul_right a1 p
  have k2 := Nat.le_of_mul_le_mul_right a2 p
  refine ⟨k1, k2, ?_⟩
  have : (c + 1) * 2 ≤ (c + 1) * (f.length - g.length + 1) := Nat.mul_le_mul_left _ (by omega)
  omega
theorem rest_bd {b c : Nat} (h0 : g ≠ []) (hd : bd (2 ^ (b + divK f g * (c + 1))) (divR f g).1) : bd (2 ^ (b + divK f g * (c + 1))) (restR f g) := lowR_bd (bd_trim hd)
theorem Ch.step (h : Ch A N f g b c) (h0 : g ≠ []) (hr : bd (2 ^ (b + divK f g * (c + 1))) (restR f g)) : Ch A N g (restR f g) c (b + divK f g * (c + 1)) := by
  have hl := restR_len f g h0
  obtain ⟨_, h6, h1, h2, h3, h4⟩ := h
  generalize hz : (restR f g).length = lr at hl
  have e1 : divK f g = f.length - g.length + 1 := by unfold divK; omega
  refine ⟨h6, hr, by omega, by omega, ?_, ?_⟩
  · have q : (c + 1) * 2 * 2 ^ N ≤ (c + 1) * (f.length - g.length + 1) * 2 ^ N := Nat.mul_le_mul_right _ (Nat.mul_le_mul_left _ (by omega))
    have q2 : (c + 1) * 2 * 2 ^ N = 2 * ((c + 1) * 2 ^ N) := by grind
    omega
  · rw [hz]
    obtain ⟨d, hd⟩ : ∃ d, g.length = lr + d := ⟨g.length - lr, by omega⟩
    have w1 := wt_le (A := A) (N := N) (l := g.length + 1) (m := f.length) (by omega) h2
    have w2 := wt_step (A := A) (N := N) (l := g.length) (by omega)
    have w3 := wt_drop (A := A) (N := N) (l := lr) d (by omega) (by omega)
    rw [← hd] at w3
    have e2 : (b + divK f g * (c + 1) + 1) * 2 ^ N = (b + 1) * 2 ^ N + (c + 1) * (f.length - g.length + 1) * 2 ^ N := by rw [e1]; grind
    have e3 : 5 * ((b + divK f g * (c + 1) + 1) * 2 ^ N) ≤ 12 * wt A N g.length := by omega
    have e4 := Nat.mul_le_mul_right (d + 1) e3
    have e5 : g.length - lr + 1 = d + 1 := by omega
    rw [e5]
    generalize wt A N g.length = u at *
    generalize wt A N lr = v at *
    generalize (b + divK f g * (c + 1) + 1) = t at *
    have e6 : 12 * u * (d + 1) = u * (12 * (d + 1)) := by grind
    have e7 : 5 * (t * 2 ^ N) * (d + 1) = 5 * (t * (d + 1) * 2 ^ N) := by grind
    omega
end
/-- the first step from rows of any lengths -/
theorem ch_start {N B : Nat} {f g : List Int} (z : g ≠ []) (hf : bd (2 ^ B) f) (hg : bd (2 ^ B) g) (lf : f.length ≤ N) (lg : g.length ≤ N) : Ch ((B + 1) * (N + 2)) N g (restR f g) B (B + divK f g * (B + 1)) := by
  have hp : 0 < g.length := List.length_pos_iff.mpr z
  have hr := rest_bd (b := B) (c := B) z (divR_bd f g z hf hg)
  have hl := restR_len f g z
  refine ⟨hg, hr, hl, lg, ?_, ?_⟩
  · unfold wt
    have q : 2 ^ N ≤ 5 ^ (N - g.length) * 2 ^ g.length := by
      rw [show N = N - g.length + g.length by omega, Nat.pow_add, show N - g.length + g.length - g.length = N - g.length by omega]
      exact Nat.mul_le_mul_right _ (Nat.pow_le_pow_left (by omega) _)
    have q2 : B + 1 ≤ (B + 1) * (N + 2) := Nat.le_mul_of_pos_right _ (by omega)
    exact Nat.mul_le_mul q2 q
  · generalize hz : (restR f g).length = lr at hl
    obtain ⟨d, hd⟩ : ∃ d, g.length = lr + d := ⟨g.length - lr, by omega⟩
    have w3 := wt_drop (A := (B + 1) * (N + 2)) (N := N) (l := lr) d (by omega) (by omega)
    rw [← hd] at w3
    have kk : divK f g ≤ N := by unfold divK; omega
    have e1 : B + divK f g * (B + 1) + 1 ≤ (B + 1) * (N + 1) := by
      have := Nat.mul_le_mul_right (B + 1) kk
      have : (B + 1) * (N + 1) = N * (B + 1) + (B + 1) := by grind
      omega
    have q : 2 ^ N ≤ 5 ^ (N - g.length) * 2 ^ g.length := by
      rw [show N = N - g.length + g.length by omega, Nat.pow_add, show N - g.length + g.length - g.length = N - g.length by omega]
      exact Nat.mul_le_mul_right _ (Nat.pow_le_pow_left (by omega) _)
    have e2 : (B + divK f g * (B + 1) + 1) * 2 ^ N ≤ wt ((B + 1) * (N + 2)) N g.length := by
      unfold wt
      exact Nat.mul_le_mul (Nat.le_trans e1 (Nat.mul_le_mul_left _ (by omega))) q
    rw [hd, Nat.add_sub_cancel_left]
    have e3 := Nat.mul_le_mul_right (12 * (d + 1)) e2
    generalize wt ((B + 1) * (N + 2)) N g.length = u at *
    generalize wt ((B + 1) * (N + 2)) N lr = v at *
    generalize (B + divK f g * (B + 1) + 1) = t at *
    have e7 : t * 2 ^ N * (12 * (d + 1)) = 12 * (t * (d + 1) * 2 ^ N) := by grind
    omega

/-! ### slopes of rows, by values -/
def drv (f : List Int) : List Int := (List.range (f.length - 1)).map fun (k : Nat) => ((k : Int) + 1) * f[k + 1]?.getD 0
theorem drv_get (f : List Int) (k : Nat) : (drv f)[k]?.getD 0 = ((k : Int) + 1) * f[k + 1]?.getD 0 := by
  unfold drv
  rw [map_range_get]
  split
  · rfl
  · rw [List.getElem?_eq_none (show f.length ≤ k + 1 by omega)]
    simp
theorem vl_coef {f g : List Int} (h : ∀ x, vl f x = vl g x) (k : Nat) : f[k]?.getD 0 = g[k]?.getD 0 := by
  have e := trim_inj (f := f) (g := g) (N := 0) fun x _ => h x
  rw [← trim_get f, e, trim_get]
theorem drv_vals {f g : List Int} (h : ∀ x, vl f x = vl g x) (x : Int) : vl (drv f) x = vl (drv g) x :=
  vl_ext x fun k => by rw [drv_get, drv_get, vl_coef h]
theorem drv_cons (a : Int) (f : List Int) (x : Int) : vl (drv (a :: f)) x = vl f x + x * vl (drv f) x := by
  have h : vl (drv (a :: f)) x = vl f x + vl (0 :: drv f) x := vl_lin x fun k => by
    rw [drv_get]
    cases k with
    | zero =>
      show (((0 : Nat) : Int) + 1) * f[0]?.getD 0 = f[0]?.getD 0 + 0
      omega
    | succ k =>
      show (((k + 1 : Nat) : Int) + 1) * f[k + 1]?.getD 0 = f[k + 1]?.getD 0 + (drv f)[k]?.getD 0
      rw [drv_get]
      have e : ((k + 1 : Nat) : Int) = (k : Int) + 1 := by omega
      rw [e, Int.add_mul _ 1, Int.one_mul]
      omega
  rw [h, vl_cons]
  omega
theorem drv_lin {h f g : List Int} (e : ∀ x, vl h x = vl f x + vl g x) (x : Int) : vl (drv h) x = vl (drv f) x + vl (drv g) x := by
  have e2 : ∀ x, vl h x = vl (addL f g) x := fun x => by rw [addL_vl, e]
  rw [drv_vals e2 x]
  exact vl_lin x fun k => by rw [drv_get, drv_get, drv_get, addL_get, Int.mul_add]
theorem drv_scale (a : Int) (g : List Int) (x : Int) : vl (drv (g.map fun y => y * a)) x = vl (drv g) x * a := by
  rw [← vl_scale]
  refine vl_ext x fun k => ?_
  rw [drv_get, List.getElem?_map, List.getElem?_map]
  have h := drv_get g k
  have e1 : ((g[k + 1]?).map fun y => y * a).getD 0 = g[k + 1]?.getD 0 * a := by
    cases g[k + 1]? with
    | none => simp
    | some y => rfl
  have e2 : (((drv g)[k]?).map fun y => y * a).getD 0 = (drv g)[k]?.getD 0 * a := by
    cases (drv g)[k]? with
    | none => simp
    | some y => rfl
  rw [e1, e2, h, Int.mul_assoc]
/-- the slope of a product -/
theorem drv_mul (g : List Int) : ∀ (f h : List Int), (∀ x, vl h x = vl f x * vl g x) → ∀ x, vl (drv h) x = vl (drv f) x * vl g x + vl f x * vl (drv g) x
  | [], h, e, x => by
    have e0 : ∀ x, vl h x = vl [] x := fun x => by rw [e, vl_nil, Int.zero_mul]
    rw [drv_vals e0 x, vl_nil]
    have d0 : drv [] = [] := rfl
    rw [d0, vl_nil, Int.zero_mul, Int.zero_mul]
    rfl
  | a :: f, h, e, x => by
    have ih := drv_mul g f (mulR f g) (fun x => vl_mulR f g x) x
    have e1 : ∀ x, vl h x = vl (g.map fun y => y * a) x + vl (0 :: mulR f g) x := fun x => by
      rw [e, vl_cons, vl_scale, vl_cons, vl_mulR, Int.add_mul, Int.zero_add, Int.mul_comm a, Int.mul_assoc]
    rw [drv_lin e1 x, drv_scale, drv_cons, drv_cons, vl_cons, ih, vl_mulR]
    grind

/-! ### rows without a part taken twice -/
theorem vl_eq_far {u v : List Int} {N : Int} (h : ∀ x, N ≤ x → vl u x = vl v x) (x : Int) : vl u x = vl v x := by
  have e := trim_inj (f := u) (g := v) h
  rw [← vl_trim u, e, vl_trim]
theorem vl_far_ne {g : List Int} (hg : isRow g) (h0 : g ≠ []) : ∃ N : Int, ∀ x, N ≤ x → vl g x ≠ 0 := by
  obtain ⟨N, _, h⟩ := vl_grow (g := g) (v := []) hg (List.length_pos_iff.mpr h0)
  exact ⟨N, fun x hx z => by
    have := h x hx
    rw [z, vl_nil] at this
    omega⟩
theorem vl_cancel {g u v : List Int} (hg : isRow g) (h0 : g ≠ []) (h : ∀ x, vl g x * vl u x = vl g x * vl v x) (x : Int) : vl u x = vl v x := by
  obtain ⟨N, hN⟩ := vl_far_ne hg h0
  exact vl_eq_far (N := N) (fun x hx => Int.eq_of_mul_eq_mul_left (hN x hx) (h x)) x
/-- rows of one length, the one by the other -/
theorem same_key {a b q : List Int} {c : Int} (ha : isRow a) (a0 : a ≠ []) (ll : a.length = b.length) (c0 : c ≠ 0) (e : ∀ x, vl b x * c = vl q x * vl a x) (x : Int) : vl a x * topI b = vl b x * topI a := by
  have la := isRow_last ha a0
  have hp : 0 < a.length := List.length_pos_iff.mpr a0
  let v := ((List.range (a.length - 1)).map fun k => b[k]?.getD 0 * topI a - a[k]?.getD 0 * topI b)
  have vk : ∀ k : Nat, v[k]?.getD 0 = b[k]?.getD 0 * topI a - a[k]?.getD 0 * topI b := fun k => by
    show ((List.range (a.length - 1)).map fun k => b[k]?.getD 0 * topI a - a[k]?.getD 0 * topI b)[k]?.getD 0 = _
    rw [map_range_get]
    split
    · rfl
    · by_cases hk : k = a.length - 1
      · subst hk
        unfold topI
        rw [← ll]
        grind
      · rw [List.getElem?_eq_none (by omega), List.getElem?_eq_none (by omega)]
        simp
  have vx : ∀ x, vl v x = vl b x * topI a - vl a x * topI b := fun x => by
    have := vl_lin x (h := v) (f := scaleI (topI a) b) (g := scaleI (-topI b) a) (fun k => by rw [vk, scaleI_get, scaleI_get]; grind)
    rw [this, vl_scaleI, vl_scaleI]
    grind
  have z := rem_zero (u := fun x => vl q x * topI a - topI b * c) (g := a) (v := scaleI c v) ha (by rw [scaleI_len]; show ((List.range (a.length - 1)).map _).length < _; rw [List.length_map, List.length_range]; omega) (fun x => by
    rw [vl_scaleI, vx]
    have := e x
    grind)
  have := vl_all0 z x
  rw [vl_scaleI, vx] at this
  rcases Int.mul_eq_zero.mp this with w | w
  · omega
  · exact absurd w c0
theorem topI_ne {a : List Int} (ha : isRow a) (a0 : a ≠ []) : topI a ≠ 0 := isRow_last ha a0
theorem Dv.flip {a b : List Int} (ha : isRow a) (a0 : a ≠ []) (hb : isRow b) (b0 : b ≠ []) (ll : a.length = b.length) (h : Dv a (vl b)) : Dv b (vl a) := by
  obtain ⟨c, q, c0, e⟩ := h
  have k := same_key ha a0 ll c0 e
  exact ⟨topI b, [topI a], topI_ne hb b0, fun x => by rw [k x, vl_cons, vl_nil]; grind⟩
theorem Dv.nil {b : List Int} (hb : isRow b) (h : Dv [] (vl b)) : b = [] := by
  obtain ⟨c, q, c0, e⟩ := h
  exact row_zero hb (vl_zero (N := 0) fun x _ => by
    have := e x
    rw [vl_nil, Int.mul_zero] at this
    rcases Int.mul_eq_zero.mp this with z | z
    · exact z
    · exact absurd z c0)
theorem Dv.const {k : Int} (hk : k ≠ 0) (f : List Int) : Dv [k] (vl f) := ⟨k, f, hk, fun x => by rw [vl_cons, vl_nil]; grind⟩
/-- a quotient is shorter -/
theorem quo_len {p q f : List Int} {c : Int} (hp : isRow p) (lp : 2 ≤ p.length) (hq : isRow q) (hf : isRow f) (f0 : f ≠ []) (c0 : c ≠ 0) (e : ∀ x, vl f x * c = vl q x * vl p x) : q.length < f.length ∧ q ≠ [] := by
  have q0 : q ≠ [] := fun z => by
    subst z
    exact f0 (row_zero hf (vl_zero (N := 0) fun x _ => by
      have := e x
      rw [vl_nil, Int.zero_mul] at this
      rcases Int.mul_eq_zero.mp this with z | z
      · exact z
      · exact absurd z c0))
  refine ⟨Classical.byContradiction fun hn => ?_, q0⟩
  have dq : Dv q (vl f) := ⟨c, p, c0, fun x => by rw [e x, Int.mul_comm]⟩
  have l1 := Dv.len hq dq hf f0
  have ll : q.length = f.length := by omega
  have k := same_key (a := q) (b := f) (q := p) hq q0 ll c0 (fun x => by rw [e x, Int.mul_comm])
  have tq := topI_ne hq q0
  have key : ∀ x, vl (scaleI (topI q) p) x = vl [c * topI f] x := fun x => by
    refine vl_cancel hq q0 (fun x => ?_) x
    rw [vl_scaleI, vl_cons, vl_nil]
    have := k x
    have := e x
    grind
  have e1 := trim_inj (N := 0) fun x _ => key x
  have e2 := congrArg List.length e1
  have tr := trim_row (isRow_scale tq hp)
  rw [tr, scaleI_len] at e2
  have := trim_len [c * topI f]
  rw [List.length_singleton] at this
  omega
/-- without a true part -/
def Irr (p : List Int) : Prop := isRow p ∧ 2 ≤ p.length ∧ ∀ a, isRow a → Dv a (vl p) → a.length ≤ 1 ∨ a.length = p.length
theorem Irr.ne {p : List Int} (h : Irr p) : p ≠ [] := fun z => by
  have := h.2.1
  rw [z] at this
  simp at this
theorem Dv.one {D E : List Int} (h : Dv D fun x => vl E x * vl [1] x) : Dv D (vl E) := h.congr fun x => by rw [vl_cons, vl_nil]; grind
theorem one_len {e : List Int} (h : e.length ≤ 1) (he : isRow e) (h0 : e ≠ []) : ∃ k : Int, k ≠ 0 ∧ e = [k] := by
  match e, h, he, h0 with
  | [k], _, he, h0 =>
    have := isRow_last he h0
    exact ⟨k, by simpa using this, rfl⟩
  | [], _, _, h0 => exact absurd rfl h0
theorem Irr.prime {p a b : List Int} (h : Irr p) (ha : isRow a) (d : Dv p fun x => vl a x * vl b x) : Dv p (vl a) ∨ Dv p (vl b) := by
  obtain ⟨hp, lp, ir⟩ := h
  have p0 : p ≠ [] := Irr.ne ⟨hp, lp, ir⟩
  obtain ⟨d1, d2⟩ := eu_dvd _ p a (Nat.le_refl _) hp ha
  have re := isRow_eu _ p a (Nat.le_refl _) hp ha
  have e0 : euR p a ≠ [] := fun z => by
    rw [z] at d1
    exact p0 (Dv.nil hp d1)
  rcases ir _ re d1 with l | l
  · right
    obtain ⟨k, k0, ek⟩ := one_len l re e0
    have g := eu_great _ p b p a (Nat.le_refl _) hp ha ((Dv.refl p).mul b) d
    rw [ek] at g
    obtain ⟨c, q, c0, e⟩ := g
    exact ⟨k * c, q, Int.mul_ne_zero k0 c0, fun x => by
      have this : vl [k] x * vl b x * c = vl q x * vl p x := e x
      rw [vl_cons, vl_nil] at this
      grind⟩
  · left
    exact d2.trans (Dv.flip re e0 hp p0 l d1)
/-- each row that isn't a number has a part of this kind -/
theorem irr_ex : ∀ (n : Nat) (f : List Int), f.length ≤ n → isRow f → 2 ≤ f.length → ∃ p, Irr p ∧ Dv p (vl f)
  | 0, f, h, _, l => by omega
  | n + 1, f, h, hf, l => by
    by_cases z : Irr f
    · exact ⟨f, z, Dv.refl f⟩
    · have f0 : f ≠ [] := fun z => by rw [z] at l; simp at l
      obtain ⟨a, ha, da, l1, l2⟩ : ∃ a, isRow a ∧ Dv a (vl f) ∧ 2 ≤ a.length ∧ a.length ≠ f.length := Classical.byContradiction fun hn => z ⟨hf, l, fun a ha da => Classical.byContradiction fun hc => hn ⟨a, ha, da, by omega, by omega⟩⟩
      have := Dv.len ha da hf f0
      obtain ⟨p, hp, dp⟩ := irr_ex n a (by omega) ha l1
      exact ⟨p, hp, da.trans dp⟩
/-! powers -/
def pwR (p : List Int) : Nat → List Int
  | 0 => [1]
  | k + 1 => mulR p (pwR p k)
theorem vl_pwR (p : List Int) (x : Int) : ∀ k, vl (pwR p k) x = vl p x ^ k
  | 0 => by
    show vl [1] x = _
    rw [vl_cons, vl_nil, Int.pow_zero]
    omega
  | k + 1 => by
    show vl (mulR p (pwR p k)) x = _
    rw [vl_mulR, vl_pwR p x k, Int.pow_succ, Int.mul_comm]
theorem drv_pwR (p : List Int) (x : Int) : ∀ k, vl (drv (pwR p (k + 1))) x = ((k : Int) + 1) * vl p x ^ k * vl (drv p) x
  | 0 => by
    have h := drv_mul (pwR p 0) p (pwR p 1) (fun x => vl_mulR _ _ x) x
    rw [h]
    have d0 : drv (pwR p 0) = [] := rfl
    have e0 : vl (pwR p 0) x = 1 := by rw [vl_pwR, Int.pow_zero]
    rw [d0, vl_nil, e0, Int.pow_zero]
    grind
  | k + 1 => by
    have h := drv_mul (pwR p (k + 1)) p (pwR p (k + 2)) (fun x => vl_mulR _ _ x) x
    rw [h, drv_pwR p x k, vl_pwR, Int.pow_succ]
    have e : ((k + 1 : Nat) : Int) = (k : Int) + 1 := by omega
    rw [e]
    grind
theorem isRow_quo {p f : List Int} (h : Dv p (vl f)) : ∃ (c : Int) (q : List Int), c ≠ 0 ∧ isRow q ∧ ∀ x, vl f x * c = vl q x * vl p x := by
  obtain ⟨c, q, c0, e⟩ := h
  exact ⟨c, trim q, c0, isRow_trim q, fun x => by rw [vl_trim]; exact e x⟩
/-- how often a part is in a row -/
theorem irr_mult {p : List Int} (h : Irr p) : ∀ (n : Nat) (f : List Int), f.length ≤ n → isRow f → f ≠ [] → ∃ (k : Nat) (g : List Int) (c : Int), c ≠ 0 ∧ isRow g ∧ ¬ Dv p (vl g) ∧ ∀ x, vl f x * c = vl p x ^ k * vl g x
  | 0, f, hn, _, f0 => absurd (List.eq_nil_of_length_eq_zero (by omega)) f0
  | n + 1, f, hn, hf, f0 => by
    by_cases z : Dv p (vl f)
    · obtain ⟨c, q, c0, hq, e⟩ := isRow_quo z
      obtain ⟨lq, q0⟩ := quo_len h.1 h.2.1 hq hf f0 c0 e
      obtain ⟨k, g, d, d0, hg, ng, e2⟩ := irr_mult h n q (by omega) hq q0
      refine ⟨k + 1, g, c * d, Int.mul_ne_zero c0 d0, hg, ng, fun x => ?_⟩
      have a := e x
      have b := e2 x
      rw [Int.pow_succ]
      grind
    · exact ⟨0, f, 1, by omega, hf, z, fun x => by rw [Int.pow_zero]; omega⟩
theorem Dv.scale {D : List Int} {F : Int → Int} {k : Int} (hk : k ≠ 0) (h : Dv D fun x => F x * k) : Dv D F := by
  obtain ⟨c, q, c0, e⟩ := h
  exact ⟨k * c, q, Int.mul_ne_zero hk c0, fun x => by have := e x; grind⟩
theorem Dv.scaled {D : List Int} {F : Int → Int} (k : Int) (h : Dv D F) : Dv D fun x => F x * k := by
  obtain ⟨c, q, c0, e⟩ := h
  exact ⟨c, scaleI k q, c0, fun x => by rw [vl_scaleI]; have := e x; grind⟩
/-- a power that divides a product divides what the part isn't in -/
theorem pow_part {p b d : List Int} (h : Irr p) (hb : isRow b) (nb : ¬ Dv p (vl b)) : ∀ (k : Nat) (d : List Int), Dv (pwR p k) (fun x => vl b x * vl d x) → Dv (pwR p k) (vl d)
  | 0, d, _ => ⟨1, d, by omega, fun x => by rw [vl_pwR, Int.pow_zero]⟩
  | k + 1, d, hd => by
    obtain ⟨c, q, c0, e⟩ := hd
    have dp : Dv p fun x => vl b x * vl d x := ⟨c, mulR q (pwR p k), c0, fun x => by
      have := e x
      rw [vl_pwR, Int.pow_succ] at this
      rw [vl_mulR, vl_pwR]
      grind⟩
    rcases h.prime hb dp with z | z
    · exact absurd z nb
    · obtain ⟨c1, d1, c10, e1⟩ := z
      have d2 : Dv (pwR p k) fun x => vl b x * vl d1 x := by
        refine ⟨c, scaleI c1 q, c0, fun x => ?_⟩
        have key := vl_cancel (g := p) (u := scaleI c (mulR b d1)) (v := scaleI c1 (mulR q (pwR p k))) h.1 h.ne (fun x => by
          rw [vl_scaleI, vl_scaleI, vl_mulR, vl_mulR, vl_pwR]
          have a := e x
          have b := e1 x
          rw [vl_pwR, Int.pow_succ] at a
          grind) x
        rw [vl_scaleI, vl_scaleI, vl_mulR, vl_mulR] at key
        rw [vl_scaleI]
        grind
      obtain ⟨c2, q2, c20, e2⟩ := pow_part (d := d) h hb nb k d1 d2
      refine ⟨c1 * c2, q2, Int.mul_ne_zero c10 c20, fun x => ?_⟩
      have a := e1 x
      have b := e2 x
      rw [vl_pwR] at b
      rw [vl_pwR, Int.pow_succ]
      grind
theorem pow_row {p : List Int} (h : Irr p) (k : Nat) : isRow (trim (pwR p k)) ∧ trim (pwR p k) ≠ [] := by
  refine ⟨isRow_trim _, fun z => ?_⟩
  obtain ⟨N, hN⟩ := vl_far_ne h.1 h.ne
  have e := vl_trim (pwR p k) N
  rw [z, vl_nil, vl_pwR] at e
  exact Int.pow_ne_zero (hN N (Int.le_refl _)) e.symm
theorem vl_tpw (p : List Int) (k : Nat) (x : Int) : vl (trim (pwR p k)) x = vl p x ^ k := by rw [vl_trim, vl_pwR]
/-- the slope of a part isn't divided by it -/
theorem irr_drv {p : List Int} (h : Irr p) : ¬ Dv p (vl (drv p)) := fun z => by
  have l : (drv p).length = p.length - 1 := by simp [drv]
  have lp := h.2.1
  have hd : isRow (drv p) := by
    refine isRow_of ?_
    have hl := isRow_last h.1 h.ne
    rw [drv_get, l, show p.length - 1 - 1 + 1 = p.length - 1 by omega]
    exact Int.mul_ne_zero (by omega) hl
  have d0 : drv p ≠ [] := fun z => by rw [z] at l; simp at l; omega
  have := Dv.len h.1 z hd d0
  omega

/-! ### bare rows -/
/-- what a row is by what it shares with its slope -/
structure IsBare (f b : List Int) : Prop where
  rf : isRow f
  f0 : f ≠ []
  rb : isRow b
  ex : ∃ (d : List Int) (c : Int), c ≠ 0 ∧ isRow d ∧ (∀ x, vl f x * c = vl b x * vl d x) ∧ Dv d (vl f) ∧ Dv d (vl (drv f)) ∧ ∀ D, Dv D (vl f) → Dv D (vl (drv f)) → Dv D (vl d)
/-- no part twice -/
def SF (b : List Int) : Prop := ∀ p, Irr p → ¬ Dv (pwR p 2) (vl b)
/-- the same parts -/
def Same1 (f b : List Int) : Prop := ∀ p, Irr p → (Dv p (vl f) ↔ Dv p (vl b))
theorem Dv.of_eq {D u v : List Int} {c k : Int} (hk : k ≠ 0) (h : Dv D (vl u)) (e : ∀ x, vl v x * k = vl u x * c) : Dv D (vl v) := by
  obtain ⟨d, q, d0, e1⟩ := h
  refine ⟨k * d, scaleI c q, Int.mul_ne_zero hk d0, fun x => ?_⟩
  rw [vl_scaleI]
  have a := e x
  have b := e1 x
  grind
section
variable {f b : List Int} (h : IsBare f b)
include h
theorem IsBare.dvd : Dv b (vl f) := by
  obtain ⟨d, c, c0, _, e, _⟩ := h.ex
  exact ⟨c, d, c0, fun x => by rw [e x, Int.mul_comm]⟩
theorem IsBare.b0 : b ≠ [] := fun z => h.f0 (Dv.nil h.rf (z ▸ h.dvd))
/-- the parts of the slope -/
theorem IsBare.mult {p : List Int} (ir : Irr p) : ∃ (k : Nat) (g w : List Int) (c1 : Int), c1 ≠ 0 ∧ isRow g ∧ ¬ Dv p (vl g) ∧ (∀ x, vl f x * c1 = vl p x ^ k * vl g x) ∧
    (1 ≤ k → ¬ Dv p (vl w) ∧ ∀ x, vl (drv f) x * c1 = vl p x ^ (k - 1) * vl w x) := by
  obtain ⟨k, g, c1, c10, hg, ng, e⟩ := irr_mult ir f.length f (Nat.le_refl _) h.rf h.f0
  cases k with
  | zero => exact ⟨0, g, [], c1, c10, hg, ng, e, fun z => by omega⟩
  | succ j =>
    refine ⟨j + 1, g, addL (scaleI ((j : Int) + 1) (mulR (drv p) g)) (mulR p (drv g)), c1, c10, hg, ng, e, fun _ => ⟨fun z => ?_, fun x => ?_⟩⟩
    · have z2 : Dv p fun x => vl (drv p) x * vl g x := by
        refine Dv.scale (k := (j : Int) + 1) (by omega) ?_
        refine Dv.comb (u := [1]) (w := scaleI (-1) (drv g)) (k := 1) z (Dv.refl p) (by omega) fun x => ?_
        rw [addL_vl, vl_scaleI, vl_mulR, vl_mulR, vl_scaleI, vl_cons, vl_nil]
        grind
      have hd : isRow (trim (drv p)) := isRow_trim _
      rcases ir.prime (a := trim (drv p)) (b := g) hd (z2.congr fun x => by rw [vl_trim]) with w | w
      · exact irr_drv ir (w.congr fun x => vl_trim _ x)
      · exact ng w
    · have m := drv_mul g (pwR p (j + 1)) (scaleI c1 f) (fun x => by rw [vl_scaleI, e x, vl_pwR]) x
      have s : vl (drv (scaleI c1 f)) x = vl (drv f) x * c1 := drv_scale c1 f x
      rw [s, drv_pwR, vl_pwR] at m
      rw [m, addL_vl, vl_scaleI, vl_mulR, vl_mulR, Nat.add_sub_cancel, Int.pow_succ]
      grind
theorem IsBare.part {p : List Int} (ir : Irr p) (hd : Dv p (vl f)) : Dv p (vl b) := by
  refine Classical.byContradiction fun nb => ?_
  obtain ⟨k, g, w, c1, c10, hg, ng, e1, ew⟩ := h.mult ir
  obtain ⟨d, c, c0, rd, e, df, dd, _⟩ := h.ex
  have hk : 1 ≤ k := Classical.byContradiction fun z => by
    have z : k = 0 := by omega
    subst z
    exact ng (Dv.of_eq (c := c1) (k := 1) (by omega) hd fun x => by have := e1 x; rw [Int.pow_zero] at this; grind)
  obtain ⟨nw, ew⟩ := ew hk
  -- the power divides what is shared, then the slope
  have a1 : Dv (pwR p k) fun x => vl b x * vl d x := ⟨c1, scaleI c g, c10, fun x => by
    rw [vl_scaleI, vl_pwR]
    have := e x
    have := e1 x
    grind⟩
  have a2 := pow_part (d := d) ir h.rb nb k d a1
  obtain ⟨t, q, t0, e2⟩ := dd.trans a2
  refine nw ⟨t, scaleI c1 q, t0, fun x => ?_⟩
  obtain ⟨rp, rp0⟩ := pow_row ir (k - 1)
  have key := vl_cancel (u := scaleI t w) (v := scaleI c1 (mulR q p)) rp rp0 (fun x => by
    rw [vl_tpw, vl_scaleI, vl_scaleI, vl_mulR]
    have a := e2 x
    have b := ew x
    rw [vl_pwR] at a
    have pk : vl p x ^ k = vl p x ^ (k - 1) * vl p x := by
      rw [← Int.pow_succ]
      congr 1
      omega
    rw [pk] at a
    grind) x
  rw [vl_scaleI, vl_scaleI, vl_mulR] at key
  rw [vl_scaleI]
  grind
theorem IsBare.same : Same1 f b := fun p ir => ⟨fun z => h.part ir z, fun z => h.dvd.trans z⟩
theorem IsBare.sf : SF b := fun p ir hp => by
  obtain ⟨k, g, w, c1, c10, hg, ng, e1, ew⟩ := h.mult ir
  obtain ⟨d, c, c0, rd, e, df, dd, gr⟩ := h.ex
  obtain ⟨s, q, s0, eq⟩ := hp
  have hpb : Dv p (vl b) := ⟨s, mulR q p, s0, fun x => by
    rw [eq x, vl_pwR, vl_mulR, Int.pow_succ, Int.pow_succ, Int.pow_zero]
    grind⟩
  have hk : 1 ≤ k := Classical.byContradiction fun z => by
    have z : k = 0 := by omega
    subst z
    have hd := h.dvd.trans hpb
    exact ng (Dv.of_eq (c := c1) (k := 1) (by omega) hd fun x => by have := e1 x; rw [Int.pow_zero] at this; grind)
  obtain ⟨nw, ew⟩ := ew hk
  have pk : ∀ x, vl p x ^ k = vl p x ^ (k - 1) * vl p x := fun x => by
    rw [← Int.pow_succ]
    congr 1
    omega
  have a1 : Dv (pwR p (k - 1)) (vl f) := ⟨c1, mulR p g, c10, fun x => by
    rw [vl_mulR, vl_pwR]
    have := e1 x
    rw [pk] at this
    grind⟩
  have a2 : Dv (pwR p (k - 1)) (vl (drv f)) := ⟨c1, w, c10, fun x => by
    rw [vl_pwR, ew x]
    grind⟩
  obtain ⟨t, r, t0, er⟩ := gr _ a1 a2
  refine ng ⟨c * s * t, scaleI c1 (mulR q r), Int.mul_ne_zero (Int.mul_ne_zero c0 s0) t0, fun x => ?_⟩
  obtain ⟨rp, rp0⟩ := pow_row ir k
  have key := vl_cancel (u := scaleI (c * s * t) g) (v := scaleI c1 (mulR (mulR q r) p)) rp rp0 (fun x => by
    rw [vl_tpw, vl_scaleI, vl_scaleI, vl_mulR, vl_mulR]
    have x1 := e x
    have x2 := e1 x
    have x3 := eq x
    have x4 := er x
    rw [vl_pwR] at x3 x4
    rw [pk] at x2 ⊢
    have p2 : vl p x ^ 2 = vl p x * vl p x := by rw [Int.pow_succ, Int.pow_succ, Int.pow_zero]; grind
    rw [p2] at x3
    generalize vl p x ^ (k - 1) = P at *
    generalize vl p x = y at *
    generalize vl g x = gx at *
    generalize vl q x = qx at *
    generalize vl r x = rx at *
    generalize vl d x = dx at *
    generalize vl b x = bx at *
    generalize vl f x = fx at *
    -- f c = b d, f c1 = P y g, b s = q y y, d t = r P
    have z1 : P * y * (gx * (c * s * t)) = (fx * c) * (c1 * (s * t)) := by rw [show fx * c * (c1 * (s * t)) = fx * c1 * (c * s * t) by grind, x2]; grind
    rw [z1, x1, show bx * dx * (c1 * (s * t)) = (bx * s) * (dx * t) * c1 by grind, x3, x4]
    grind) x
  rw [vl_scaleI, vl_scaleI, vl_mulR, vl_mulR] at key
  rw [vl_scaleI, vl_mulR]
  grind
end
/-- what has no part twice shares but a number with its slope -/
theorem SF.coprime {b e : List Int} (h : SF b) (re : isRow e) (e0 : e ≠ []) (d1 : Dv e (vl b)) (d2 : Dv e (vl (drv b))) : e.length = 1 := by
  have hp : 0 < e.length := List.length_pos_iff.mpr e0
  refine Classical.byContradiction fun z => ?_
  obtain ⟨p, ir, dp⟩ := irr_ex _ e (Nat.le_refl _) re (by omega)
  obtain ⟨c, q, c0, rq, eq⟩ := isRow_quo (d1.trans dp)
  have m := fun x => drv_mul q p (scaleI c b) (fun x => by rw [vl_scaleI, eq x, Int.mul_comm]) x
  have d3 : Dv p fun x => vl (trim (drv p)) x * vl q x := by
    refine Dv.comb (u := [c]) (w := scaleI (-1) (drv q)) (k := 1) (d2.trans dp) (Dv.refl p) (by omega) fun x => ?_
    have a := m x
    have s : vl (drv (scaleI c b)) x = vl (drv b) x * c := drv_scale c b x
    rw [s] at a
    rw [vl_trim, vl_scaleI, vl_cons, vl_nil]
    grind
  rcases ir.prime (a := trim (drv p)) (b := q) (isRow_trim _) d3 with w | w
  · exact irr_drv ir (w.congr fun x => vl_trim _ x)
  · obtain ⟨c2, q2, c20, e2⟩ := w
    refine h p ir ⟨c * c2, q2, Int.mul_ne_zero c0 c20, fun x => ?_⟩
    have a := eq x
    have b := e2 x
    have p2 : vl p x ^ 2 = vl p x * vl p x := by rw [Int.pow_succ, Int.pow_succ, Int.pow_zero]; grind
    rw [vl_pwR, p2]
    grind
/-- irreducible parts of one another -/
theorem irr_same {p r : List Int} (hp : Irr p) (hr : Irr r) (h : Dv r (vl p)) : Dv p (vl r) := by
  rcases hp.2.2 r hr.1 h with z | z
  · have := hr.2.1
    omega
  · exact Dv.flip hr.1 hr.ne hp.1 hp.ne z h
/-- without parts twice, and all parts in another one -/
theorem SF.dvd : ∀ (n : Nat) (a b : List Int), a.length ≤ n → isRow a → a ≠ [] → SF a → (∀ p, Irr p → Dv p (vl a) → Dv p (vl b)) → Dv a (vl b)
  | 0, a, b, hn, _, a0, _, _ => absurd (List.eq_nil_of_length_eq_zero (by omega)) a0
  | n + 1, a, b, hn, ra, a0, sf, hs => by
    by_cases l : a.length ≤ 1
    · obtain ⟨k, k0, e⟩ := one_len l ra a0
      rw [e]
      exact Dv.const k0 b
    · obtain ⟨p, ir, dp⟩ := irr_ex _ a (Nat.le_refl _) ra (by omega)
      obtain ⟨c, a1, c0, ra1, e⟩ := isRow_quo dp
      obtain ⟨l1, a10⟩ := quo_len ir.1 ir.2.1 ra1 ra a0 c0 e
      obtain ⟨d, b1, d0, e2⟩ := hs p ir dp
      have da1 : Dv a1 (vl a) := ⟨c, p, c0, fun x => by rw [e x, Int.mul_comm]⟩
      have sub : ∀ {D : List Int}, Dv D (vl a1) → Dv D (vl a) := fun h => da1.trans h
      have rc := SF.dvd n a1 b1 (by omega) ra1 a10 (fun r ir2 h2 => sf r ir2 (sub h2)) fun r ir2 h2 => by
        have h3 : Dv r fun x => vl p x * vl b1 x := by
          obtain ⟨t, q, t0, e3⟩ := hs r ir2 (sub h2)
          refine Dv.scale (k := 1) (by omega) ⟨t, scaleI d q, t0, fun x => ?_⟩
          rw [vl_scaleI]
          have := e2 x
          have := e3 x
          grind
        rcases ir2.prime ir.1 h3 with w | w
        · exfalso
          have w2 := irr_same ir ir2 w
          obtain ⟨t, q, t0, e3⟩ := h2.trans w2
          refine sf p ir ⟨c * t, q, Int.mul_ne_zero c0 t0, fun x => ?_⟩
          have a := e x
          have b := e3 x
          have p2 : vl p x ^ 2 = vl p x * vl p x := by rw [Int.pow_succ, Int.pow_succ, Int.pow_zero]; grind
          rw [vl_pwR, p2]
          grind
        · exact w
      obtain ⟨t, q, t0, e3⟩ := rc
      refine ⟨d * t, scaleI c q, Int.mul_ne_zero d0 t0, fun x => ?_⟩
      rw [vl_scaleI]
      have x1 := e x
      have x2 := e2 x
      have x3 := e3 x
      generalize vl p x = y at *
      generalize vl a1 x = u at *
      generalize vl b1 x = v at *
      rw [show vl b x * (d * t) = vl b x * d * t by grind, x2, show v * y * t = v * t * y by grind, x3, show vl q x * c * vl a x = vl q x * (vl a x * c) by grind, x1]
      grind
/-- both without parts twice, and with the same parts -/
theorem SF.eq {a b : List Int} (ra : isRow a) (a0 : a ≠ []) (sa : SF a) (rb : isRow b) (b0 : b ≠ []) (sb : SF b) (h : Same1 a b) : plainR a = plainR b :=
  mutual_plain ra rb (SF.dvd _ a b (Nat.le_refl _) ra a0 sa fun p ir z => (h p ir).mp z) (SF.dvd _ b a (Nat.le_refl _) rb b0 sb fun p ir z => (h p ir).mpr z)
/-- each row divides so great a power of one with its parts -/
theorem parts_pow : ∀ (n : Nat) (f b : List Int), f.length ≤ n + 1 → isRow f → f ≠ [] → (∀ p, Irr p → Dv p (vl f) → Dv p (vl b)) → Dv f (fun x => vl b x ^ n)
  | n, f, b, hn, rf, f0, hs => by
    by_cases l : f.length ≤ 1
    · obtain ⟨k, k0, e⟩ := one_len l rf f0
      rw [e]
      exact ⟨k, pwR b n, k0, fun x => by rw [vl_pwR, vl_cons, vl_nil]; grind⟩
    · obtain ⟨p, ir, dp⟩ := irr_ex _ f (Nat.le_refl _) rf (by omega)
      obtain ⟨c, f1, c0, rf1, e⟩ := isRow_quo dp
      obtain ⟨l1, f10⟩ := quo_len ir.1 ir.2.1 rf1 rf f0 c0 e
      obtain ⟨d, b1, d0, e2⟩ := hs p ir dp
      have df1 : Dv f1 (vl f) := ⟨c, p, c0, fun x => by rw [e x, Int.mul_comm]⟩
      cases n with
      | zero => omega
      | succ n =>
        obtain ⟨t, q, t0, e3⟩ := parts_pow n f1 b (by omega) rf1 f10 fun r ir2 h2 => hs r ir2 (df1.trans h2)
        refine ⟨d * t, scaleI c (mulR b1 q), Int.mul_ne_zero d0 t0, fun x => ?_⟩
        rw [vl_scaleI, vl_mulR]
        have x1 := e x
        have x2 := e2 x
        have x3 : vl b x ^ n * t = vl q x * vl f1 x := e3 x
        show vl b x ^ (n + 1) * (d * t) = _
        rw [Int.pow_succ, show vl b x ^ n * vl b x * (d * t) = (vl b x ^ n * t) * (vl b x * d) by grind, x2, x3, show vl b1 x * vl q x * c * vl f x = vl b1 x * vl q x * (vl f x * c) by grind, x1]
        grind

/-! ### the program's bare rows -/
theorem stepQ_bd2 {B G : Nat} {g r q : List Int} (hq : bd B q) (hr : bd B r) (hg : bd G g) : bd (B * G + B) (stepQ g r q) := fun c hc => by
  have ht : (absI (topI g)).natAbs ≤ G := by
    unfold absI topI
    rw [Int.natAbs_natCast]
    exact bd_get hg _
  have hs : ∀ k : Nat, ((scaleI (absI (topI g)) q)[k]?.getD 0).natAbs ≤ B * G := fun k => by
    rw [scaleI_get, Int.natAbs_mul]
    exact Nat.mul_le_mul (bd_get hq k) ht
  unfold stepQ at hc
  rcases List.mem_or_eq_of_mem_set hc with h | h
  · obtain ⟨x, hx, rfl⟩ := List.mem_map.mp h
    rw [Int.natAbs_mul]
    exact Nat.le_trans (Nat.mul_le_mul (hq x hx) ht) (by omega)
  · subst h
    have h1 := hs (r.length - g.length)
    have h2 : (muchI g r).natAbs ≤ B := by
      have := bd_get hr (r.length - 1)
      unfold muchI topI
      split
      · rw [Int.zero_sub, Int.natAbs_neg]; exact this
      · exact this
    omega
theorem divN_bd2 (g : List Int) {G c : Nat} (hg : bd G g) (hG : G ≤ 2 ^ c) (h1 : g ≠ []) : ∀ (k b : Nat) (r q : List Int), bd (2 ^ b) r → bd (2 ^ b) q → r.length + 1 = g.length + k → bd (2 ^ (b + k * (c + 1))) (divN g k r q).2
  | 0, b, r, q, _, hq, _ => by simpa [divN] using hq
  | k + 1, b, r, q, hr, hq, hl => by
    have hp : 0 < g.length := List.length_pos_iff.mpr h1
    have hkc : (k + 1) * (c + 1) = k * (c + 1) + (c + 1) := Nat.succ_mul _ _
    have e1 : (2 : Nat) ^ b * 2 ^ c * 2 = 2 ^ (b + c + 1) := by rw [Nat.pow_succ, Nat.pow_add]
    have br : bd (2 ^ (b + (c + 1))) (stepR g r) := bd_mono (stepR_bd hr hg (by omega)) (by
      have := Nat.mul_le_mul_right 2 (Nat.mul_le_mul_left (2 ^ b) hG)
      rw [e1] at this
      exact this)
    have bq : bd (2 ^ (b + (c + 1))) (stepQ g r q) := bd_mono (stepQ_bd2 (B := 2 ^ b) (G := G) hq hr hg) (by
      have h1 := Nat.mul_le_mul_left (2 ^ b) hG
      have h2 : 2 ^ b ≤ 2 ^ b * 2 ^ c := Nat.le_mul_of_pos_right _ (Nat.pow_pos (by omega))
      rw [show b + (c + 1) = b + c + 1 by omega, ← e1]
      generalize 2 ^ b * 2 ^ c = P at *
      generalize 2 ^ b = Q at *
      omega)
    have := divN_bd2 g hg hG h1 k (b + (c + 1)) (stepR g r) (stepQ g r q) br bq (by rw [stepR_len]; omega)
    rw [show b + (c + 1) + k * (c + 1) = b + (k + 1) * (c + 1) by omega] at this
    exact this
theorem divR_bd2 (f g : List Int) {b c : Nat} (h1 : g ≠ []) (hf : bd (2 ^ b) f) (hg : bd (2 ^ c) g) : bd (2 ^ (b + divK f g * (c + 1))) (divR f g).2 := by
  have hp : 0 < g.length := List.length_pos_iff.mpr h1
  have z0 : ∀ m, bd (2 ^ b) (List.replicate m (0 : Int)) := fun m c hc => by
    rw [(List.mem_replicate.mp hc).2]
    exact Nat.zero_le _
  unfold divR
  by_cases h : g.length ≤ f.length + 1
  · exact divN_bd2 g hg (Nat.le_refl _) h1 _ _ _ _ hf (z0 _) (by unfold divK; omega)
  · have z : divK f g = 0 := by unfold divK; omega
    rw [z, divN]
    simpa using z0 0
/-- what divides leaves no rest -/
theorem div_dv {f g : List Int} (hg : isRow g) (h2 : g ≠ []) (h : Dv g (vl f)) : trim (divR f g).1 = [] ∧ ∀ x, vl (divR f g).2 x * vl g x = vl f x * absI (topI g) ^ divK f g := by
  obtain ⟨c, q, c0, e⟩ := h
  have z := rem_zero (u := fun x => vl q x * absI (topI g) ^ divK f g - c * vl (divR f g).2 x) (g := g) (v := scaleI c (divR f g).1) hg (by rw [scaleI_len]; exact (divR_vl f g h2 0).1) (fun x => by
    have k := (divR_vl f g h2 x).2
    have a := e x
    rw [vl_scaleI]
    grind)
  have z0 : ∀ x, vl (divR f g).1 x = 0 := fun x => by
    have := vl_all0 z x
    rw [vl_scaleI] at this
    rcases Int.mul_eq_zero.mp this with w | w
    · exact w
    · exact absurd w c0
  refine ⟨trim_zero (vl_zero (N := 0) fun x _ => z0 x), fun x => ?_⟩
  have k := (divR_vl f g h2 x).2
  rw [z0 x] at k
  omega
theorem rest_dv {f g : List Int} (hg : isRow g) (h2 : g ≠ []) (h : Dv g (vl f)) : restR f g = [] := by
  unfold restR
  rw [(div_dv hg h2 h).1]
  rfl
def slR (f : List Int) : List Int := trim (drv f)
def comR (f : List Int) : List Int := plainR (euR f (slR f))
def bareR (f : List Int) : List Int := plainR (lowR (trim (divR f (comR f)).2))
theorem absI_pow_ne {g : List Int} (hg : isRow g) (h2 : g ≠ []) (k : Nat) : absI (topI g) ^ k ≠ 0 := by
  refine Int.pow_ne_zero ?_
  have := topI_ne hg h2
  unfold absI
  omega
theorem eu_ne {f g : List Int} (hf : isRow f) (f0 : f ≠ []) (hg : isRow g) : euR f g ≠ [] := fun z => by
  obtain ⟨a, _⟩ := eu_dvd _ f g (Nat.le_refl _) hf hg
  rw [z] at a
  exact f0 (Dv.nil hf a)
theorem plain_ne {f : List Int} (hf : isRow f) (f0 : f ≠ []) : plainR f ≠ [] := fun z => by
  obtain ⟨a, a0, e⟩ := plain_times hf f0
  rw [z] at e
  exact f0 (row_zero hf (vl_zero (N := 0) fun x _ => by rw [e x, vl_nil]; omega))
theorem plain_dv {f : List Int} (hf : isRow f) (f0 : f ≠ []) {F : Int → Int} : Dv (plainR f) F ↔ Dv f F := by
  obtain ⟨a, a0, e⟩ := plain_times hf f0
  constructor
  · rintro ⟨c, q, c0, h⟩
    exact ⟨c * a, q, Int.mul_ne_zero c0 a0, fun x => by rw [e x]; have := h x; grind⟩
  · rintro ⟨c, q, c0, h⟩
    exact ⟨c, scaleI a q, c0, fun x => by rw [vl_scaleI]; have := h x; rw [e x] at this; grind⟩
theorem dv_plain {f D : List Int} (hf : isRow f) (f0 : f ≠ []) : Dv D (vl (plainR f)) ↔ Dv D (vl f) := by
  obtain ⟨a, a0, e⟩ := plain_times hf f0
  constructor
  · intro h
    exact (h.scaled a).congr fun x => (e x).symm
  · intro h
    exact Dv.scale a0 (h.congr e)
theorem plain_plain {f : List Int} (hf : isRow f) : plainR (plainR f) = plainR f := by
  by_cases h0 : f = []
  · subst h0
    rfl
  · obtain ⟨a, a0, e⟩ := plain_times hf h0
    exact plain_alike (plain_row hf) hf (a := a) (b := 1) a0 (by omega) (N := 0) fun x _ => by rw [e x]; omega
theorem plain_lowR {f : List Int} (hf : isRow f) : plainR (lowR f) = plainR f := plain_low (low_low hf)
/-- shared rows: of all that divide both the greatest -/
structure IsCom (f s d : List Int) : Prop where
  rd : isRow d
  d0 : d ≠ []
  d1 : Dv d (vl f)
  d2 : Dv d (vl s)
  gr : ∀ D, Dv D (vl f) → Dv D (vl s) → Dv D (vl d)
theorem com_is {f s : List Int} (hf : isRow f) (f0 : f ≠ []) (hs : isRow s) : IsCom f s (plainR (euR f s)) := by
  obtain ⟨a, b⟩ := eu_dvd _ f s (Nat.le_refl _) hf hs
  have re := isRow_eu _ f s (Nat.le_refl _) hf hs
  have e0 := eu_ne hf f0 hs
  refine ⟨plain_row re, plain_ne re e0, (plain_dv re e0).mpr a, (plain_dv re e0).mpr b, fun D h1 h2 => (dv_plain re e0).mpr ?_⟩
  refine Dv.one (eu_great _ D [1] f s (Nat.le_refl _) hf hs ?_ ?_)
  · exact h1.congr fun x => by rw [vl_cons, vl_nil]; omega
  · exact h2.congr fun x => by rw [vl_cons, vl_nil]; omega
/-- a quotient by it is what we call bare -/
theorem IsCom.bare {f d b : List Int} (h : IsCom f (slR f) d) (hf : isRow f) (f0 : f ≠ []) (hb : isRow b) {c k : Int} (c0 : c ≠ 0) (k0 : k ≠ 0) (e : ∀ x, vl f x * c = vl b x * vl d x * k) : IsBare f b := by
  obtain ⟨rd, d0, d1, d2, gr⟩ := h
  have ds : ∀ x, vl (drv f) x = vl (slR f) x := fun x => (vl_trim _ x).symm
  refine ⟨hf, f0, hb, scaleI k d, c, c0, isRow_scale k0 rd, fun x => by rw [e x, vl_scaleI]; grind, ?_, ?_, fun D h1 h2 => ?_⟩
  · obtain ⟨t, q, t0, h⟩ := d1
    exact ⟨t * k, q, Int.mul_ne_zero t0 k0, fun x => by rw [vl_scaleI]; have := h x; grind⟩
  · obtain ⟨t, q, t0, h⟩ := d2
    exact ⟨t * k, q, Int.mul_ne_zero t0 k0, fun x => by rw [vl_scaleI, ds]; have := h x; grind⟩
  · have := gr D h1 (h2.congr ds)
    exact (this.scaled k).congr fun x => (vl_scaleI k x d).symm
theorem bare_is {f : List Int} (hf : isRow f) (f0 : f ≠ []) : IsBare f (bareR f) := by
  have ic := com_is hf f0 (isRow_trim (drv f))
  have hd : isRow (comR f) := ic.rd
  obtain ⟨_, e⟩ := div_dv ic.rd ic.d0 ic.d1
  have e : ∀ x, vl (divR f (comR f)).2 x * vl (comR f) x = vl f x * absI (topI (comR f)) ^ divK f (comR f) := e
  have rt := isRow_trim (divR f (comR f)).2
  have t0 : trim (divR f (comR f)).2 ≠ [] := fun z => by
    refine f0 (row_zero hf (vl_zero (N := 0) fun x _ => ?_))
    have a := e x
    rw [← vl_trim, z, vl_nil, Int.zero_mul] at a
    rcases Int.mul_eq_zero.mp a.symm with w | w
    · exact w
    · exact absurd w (absI_pow_ne hd ic.d0 _)
  have eb : bareR f = plainR (trim (divR f (comR f)).2) := plain_lowR rt
  obtain ⟨a, a0, ea⟩ := plain_times rt t0
  rw [← eb] at ea
  refine IsCom.bare ic hf f0 (b := bareR f) (plain_row (isRow_low rt)) (c := absI (topI (comR f)) ^ divK f (comR f)) (k := a) (absI_pow_ne hd ic.d0 _) a0 fun x => ?_
  rw [← e x, ← vl_trim (divR f (comR f)).2, ea x]
  show _ = vl (bareR f) x * vl (comR f) x * a
  grind
theorem bare_row {f : List Int} (hf : isRow f) (f0 : f ≠ []) : isRow (bareR f) ∧ bareR f ≠ [] ∧ plainR (bareR f) = bareR f := by
  have h := bare_is hf f0
  refine ⟨h.rb, h.b0, ?_⟩
  unfold bareR
  exact plain_plain (isRow_low (isRow_trim _))
/-- what is bare, and has the same parts, is it -/
theorem bare_one {f b : List Int} (hf : isRow f) (f0 : f ≠ []) (hb : isRow b) (b0 : b ≠ []) (sf : SF b) (s : Same1 f b) : bareR f = plainR b := by
  have h := bare_is hf f0
  obtain ⟨r, _, pp⟩ := bare_row hf f0
  rw [← pp]
  exact SF.eq h.rb h.b0 h.sf hb b0 sf fun p ir => (h.same p ir).symm.trans (s p ir)
theorem bare_same {f g : List Int} (hf : isRow f) (f0 : f ≠ []) (hg : isRow g) (g0 : g ≠ []) (s : Same1 f g) : bareR f = bareR g := by
  have h := bare_is hg g0
  rw [bare_one hf f0 h.rb h.b0 h.sf fun p ir => (s p ir).trans (h.same p ir), (bare_row hg g0).2.2]
theorem bare_bare {f : List Int} (hf : isRow f) (f0 : f ≠ []) : bareR (bareR f) = bareR f := by
  have h := bare_is hf f0
  exact bare_same h.rb h.b0 hf f0 fun p ir => (h.same p ir).symm
theorem mul_ne {f g : List Int} (hf : isRow f) (f0 : f ≠ []) (hg : isRow g) (g0 : g ≠ []) : trim (mulR f g) ≠ [] := fun z => by
  obtain ⟨N, hN⟩ := vl_far_ne hf f0
  obtain ⟨M, hM⟩ := vl_far_ne hg g0
  have e : ∀ x, vl f x * vl g x = 0 := fun x => by
    rw [← vl_mulR, ← vl_trim, z, vl_nil]
  rcases Int.mul_eq_zero.mp (e (max N M)) with w | w
  · exact hN _ (by omega) w
  · exact hM _ (by omega) w
theorem dv_mul_iff {p f g : List Int} (ir : Irr p) (hf : isRow f) : Dv p (vl (trim (mulR f g))) ↔ Dv p (vl f) ∨ Dv p (vl g) := by
  have e : ∀ x, vl (trim (mulR f g)) x = vl f x * vl g x := fun x => by rw [vl_trim, vl_mulR]
  constructor
  · exact fun h => ir.prime hf (h.congr e)
  · rintro (h | h)
    · exact (h.mul g).congr fun x => (e x).symm
    · exact (h.mul f).congr fun x => by rw [e, Int.mul_comm]
theorem bare_mul {f g : List Int} (hf : isRow f) (f0 : f ≠ []) (hg : isRow g) (g0 : g ≠ []) : bareR (trim (mulR f g)) = bareR (trim (mulR (bareR f) (bareR g))) := by
  have h1 := bare_is hf f0
  have h2 := bare_is hg g0
  exact bare_same (isRow_trim _) (mul_ne hf f0 hg g0) (isRow_trim _) (mul_ne h1.rb h1.b0 h2.rb h2.b0) fun p ir => by
    rw [dv_mul_iff ir hf, dv_mul_iff ir h1.rb, h1.same p ir, h2.same p ir]
theorem bare_part {f g : List Int} (hf : isRow f) (f0 : f ≠ []) (hg : isRow g) (g0 : g ≠ []) : Dv (bareR f) (vl (bareR (trim (mulR f g)))) := by
  have h1 := bare_is hf f0
  have h2 := bare_is (isRow_trim (mulR f g)) (mul_ne hf f0 hg g0)
  exact SF.dvd _ _ _ (Nat.le_refl _) h1.rb h1.b0 h1.sf fun p ir hp => (h2.same p ir).mp ((dv_mul_iff ir hf).mpr (.inl ((h1.same p ir).mpr hp)))
/-! sizes -/
section
variable {A N b c : Nat} {f g : List Int}
theorem eu_wt : ∀ (k : Nat) (f g : List Int) (b c : Nat), g.length ≤ k → Ch A N f g b c → ∃ e, bd (2 ^ e) (euR f g) ∧ (e + 1) * 2 ^ N ≤ wt A N (euR f g).length := by
  intro k
  induction k with
  | zero =>
    intro f g b c hk h
    rw [List.eq_nil_of_length_eq_zero (show g.length = 0 by omega), euR_nil]
    exact ⟨b, h.bf, h.x⟩
  | succ k ih =>
    intro f g b c hk h
    by_cases z : g = []
    · rw [z, euR_nil]
      exact ⟨b, h.bf, h.x⟩
    · have hl := restR_len f g z
      rw [euR_step z]
      exact ih g (restR f g) _ _ (by omega) (h.step z (rest_bd z (divR_bd f g z h.bf h.bg)))
theorem ch_slope {B : Nat} (hf : isRow f) (f0 : f ≠ []) (bf : bd (2 ^ B) f) (l : f.length ≤ N) (hN : N ≤ 100) : Ch (B + 8) N f (slR f) B (B + 7) := by
  have hp : 0 < f.length := List.length_pos_iff.mpr f0
  have ld : (drv f).length = f.length - 1 := by simp [drv]
  have ls : (slR f).length ≤ f.length - 1 := by have := trim_len (drv f); unfold slR; omega
  have rd : isRow (drv f) := by
    by_cases z : f.length = 1
    · have : drv f = [] := List.eq_nil_of_length_eq_zero (by omega)
      rw [this]
      exact isRow_nil
    · refine isRow_of ?_
      rw [drv_get, ld, show f.length - 1 - 1 + 1 = f.length - 1 by omega]
      exact Int.mul_ne_zero (by omega) (isRow_last hf f0)
  have es : slR f = drv f := trim_row rd
  have q : ∀ l, l ≤ N → 2 ^ N ≤ 5 ^ (N - l) * 2 ^ l := fun l hl => by
    have h : 2 ^ N = 2 ^ (N - l) * 2 ^ l := by rw [← Nat.pow_add]; congr 1; omega
    rw [h]
    exact Nat.mul_le_mul_right _ (Nat.pow_le_pow_left (by omega) _)
  refine ⟨bf, bd_trim fun c hc => ?_, by omega, l, ?_, ?_⟩
  · obtain ⟨k, hk, rfl⟩ := List.mem_map.mp hc
    have hk := List.mem_range.mp hk
    rw [Int.natAbs_mul, Nat.pow_add, Nat.mul_comm (2 ^ B)]
    exact Nat.mul_le_mul (by omega) (bd_get bf _)
  · unfold wt
    exact Nat.mul_le_mul (by omega) (q _ l)
  · rw [es, ld, show f.length - (f.length - 1) + 1 = 2 by omega]
    have w := wt_step (A := B + 8) (N := N) (l := f.length - 1) (by omega)
    rw [show f.length - 1 + 1 = f.length by omega] at w
    have w2 : (B + 8) * 2 ^ N ≤ wt (B + 8) N f.length := by
      unfold wt
      exact Nat.mul_le_mul (Nat.le_refl _) (q _ l)
    have e2 : (B + 7 + 1) * 2 * 2 ^ N = 2 * ((B + 8) * 2 ^ N) := by grind
    omega
end
/-- how great what a row shares with its slope is -/
theorem com_bd {N B M : Nat} {f : List Int} (hf : isRow f) (f0 : f ≠ []) (bf : bd (2 ^ B) f) (l : f.length ≤ N) (hN : N ≤ 100) (h2 : 2 ≤ N) (hM : (B + 8) * 5 ^ (N - 2) * 4 ≤ (M + 1) * 2 ^ N) : bd (2 ^ M) (comR f) := by
  have ic := com_is hf f0 (isRow_trim (drv f))
  have re := isRow_eu _ f (slR f) (Nat.le_refl _) hf (isRow_trim _)
  have e0 := eu_ne hf f0 (isRow_trim (drv f))
  have hp := List.length_pos_iff.mpr e0
  obtain ⟨e, he, hw⟩ := eu_wt (A := B + 8) (N := N) _ f (slR f) _ _ (Nat.le_refl _) (ch_slope hf f0 bf l hN)
  have el := eu_len _ f (slR f) (Nat.le_refl _)
  have ls : (slR f).length ≤ f.length - 1 := by
    have := trim_len (drv f)
    have : (drv f).length = f.length - 1 := by simp [drv]
    unfold slR
    omega
  by_cases h1 : (euR f (slR f)).length ≤ 1
  · obtain ⟨k, k0, ek⟩ := one_len h1 re e0
    have : comR f = [1] := by
      unfold comR
      rw [ek]
      have a := plain_alike (f := [k]) (g := [1]) (by rw [← ek]; exact re) (isRow_of (by simp)) (a := 1) (b := k) (by omega) k0 (N := 0) (fun x _ => by rw [vl_cons, vl_nil, vl_cons, vl_nil]; grind)
      rw [a]
      rfl
    rw [this]
    intro c hc
    rw [List.mem_singleton.mp hc]
    exact Nat.one_le_two_pow
  · have w := wt_le (A := B + 8) (N := N) (l := 2) (m := (euR f (slR f)).length) (by omega) (by omega)
    have w2 : wt (B + 8) N 2 = (B + 8) * 5 ^ (N - 2) * 4 := by
      unfold wt
      rw [Nat.mul_assoc]
    have h3 : (e + 1) * 2 ^ N ≤ (M + 1) * 2 ^ N := by omega
    have h4 := Nat.le_of_mul_le_mul_right h3 (Nat.pow_pos (by omega))
    exact plain_bd (bd_mono he (Nat.pow_le_pow_right (by omega) (by omega)))
theorem bare_bd {N B M : Nat} {f : List Int} (hf : isRow f) (f0 : f ≠ []) (bf : bd (2 ^ B) f) (l : f.length ≤ N) (hM : bd (2 ^ M) (comR f)) : bd (2 ^ (B + N * (M + 1))) (bareR f) ∧ (bareR f).length ≤ f.length := by
  have ic := com_is hf f0 (isRow_trim (drv f))
  have c0 : comR f ≠ [] := ic.d0
  have hp : 0 < (comR f).length := List.length_pos_iff.mpr c0
  have h := divR_bd2 f (comR f) c0 bf hM
  have k : divK f (comR f) ≤ N := by unfold divK; omega
  refine ⟨plain_bd (lowR_bd (bd_trim (bd_mono h (Nat.pow_le_pow_right (by omega) (by have := Nat.mul_le_mul_right (M + 1) k; omega))))), ?_⟩
  have d := (bare_is hf f0).dvd
  exact Dv.len (bare_is hf f0).rb d hf f0

/-! ### the law's quotients: each step times the square of the last number -/
def timR (g r : List Int) : List Int := (subTo (topI r * topI g) g (r.length - g.length) (scaleI (topI g * topI g) r) g.length).dropLast
def timQ (g r q : List Int) : List Int := (scaleI (topI g * topI g) q).set (r.length - g.length) ((scaleI (topI g * topI g) q)[r.length - g.length]?.getD 0 + topI r * topI g)
theorem timR_len (g r : List Int) : (timR g r).length = r.length - 1 := by unfold timR; rw [List.length_dropLast, subTo_len, scaleI_len]
theorem timQ_len (g r q : List Int) : (timQ g r q).length = q.length := by unfold timQ; rw [List.length_set, scaleI_len]
theorem timR_top (g r : List Int) (h1 : g ≠ []) (h2 : g.length ≤ r.length) : topI (subTo (topI r * topI g) g (r.length - g.length) (scaleI (topI g * topI g) r) g.length) = 0 := by
  have hp : 0 < g.length := List.length_pos_iff.mpr h1
  unfold topI
  rw [subTo_len, scaleI_len, subTo_get _ _ _ _ _ (by rw [scaleI_len]; omega), if_pos (by omega), scaleI_get, show r.length - 1 - (r.length - g.length) = g.length - 1 by omega]
  grind
theorem tim_vl (g r q : List Int) (h1 : g ≠ []) (h2 : g.length ≤ r.length) (h3 : r.length - g.length < q.length) (x : Int) :
    vl (timQ g r q) x * vl g x + vl (timR g r) x = (vl q x * vl g x + vl r x) * (topI g * topI g) := by
  unfold timQ timR
  rw [vl_set x _ _ _ (by rw [scaleI_len]; exact h3), vl_dropLast (timR_top g r h1 h2), subTo_vl _ _ _ _ _ _ (Nat.le_refl _) (by rw [scaleI_len]; omega), List.take_length, vl_scaleI, vl_scaleI]
  grind
theorem tim_bdR {B G : Nat} {g r : List Int} (hr : bd B r) (hg : bd G g) (h2 : g.length ≤ r.length) : bd (B * (G * G) * 2) (timR g r) := by
  have tg : (topI g).natAbs ≤ G := bd_get hg _
  have tt : (topI g * topI g).natAbs ≤ G * G := by rw [Int.natAbs_mul]; exact Nat.mul_le_mul tg tg
  have tr : (topI r * topI g).natAbs ≤ B * G := by rw [Int.natAbs_mul]; exact Nat.mul_le_mul (bd_get hr _) tg
  refine bd_dropLast (bd_mono (subTo_bd (bd_scale hr tt) tr hg (by rw [scaleI_len]; omega)) ?_)
  have : B * G * G = B * (G * G) := Nat.mul_assoc _ _ _
  omega
theorem tim_bdQ {B C G : Nat} {g r q : List Int} (hr : bd B r) (hq : bd C q) (hg : bd G g) : bd (C * (G * G) + B * G) (timQ g r q) := fun c hc => by
  have tg : (topI g).natAbs ≤ G := bd_get hg _
  have tt : (topI g * topI g).natAbs ≤ G * G := by rw [Int.natAbs_mul]; exact Nat.mul_le_mul tg tg
  have tr : (topI r * topI g).natAbs ≤ B * G := by rw [Int.natAbs_mul]; exact Nat.mul_le_mul (bd_get hr _) tg
  have hs := bd_scale hq tt
  unfold timQ at hc
  rcases List.mem_or_eq_of_mem_set hc with h | h
  · have := hs c h
    omega
  · subst h
    have := bd_get hs (r.length - g.length)
    omega

/-! ### rows without true parts -/
theorem slR_row {f : List Int} (hf : isRow f) (f0 : f ≠ []) : slR f = drv f := by
  have hp : 0 < f.length := List.length_pos_iff.mpr f0
  have ld : (drv f).length = f.length - 1 := by simp [drv]
  refine trim_row ?_
  by_cases z : f.length = 1
  · have : drv f = [] := List.eq_nil_of_length_eq_zero (by omega)
    rw [this]
    exact isRow_nil
  · refine isRow_of ?_
    rw [drv_get, ld, show f.length - 1 - 1 + 1 = f.length - 1 by omega]
    exact Int.mul_ne_zero (by omega) (isRow_last hf f0)
theorem pv_of_vl {f g : List Int} (h : ∀ x, vl f x = vl g x) (q : Rat) : pv f q = pv g q := by
  have e := trim_inj (f := f) (g := g) (N := 0) fun x _ => h x
  rw [← pv_trim f, e, pv_trim]
/-- how long a product is -/
theorem prod_len {g : List Int} (hg : isRow g) (g0 : g ≠ []) : ∀ f : List Int, isRow f → f ≠ [] → (trim (mulR f g)).length = f.length + g.length - 1
  | [], _, f0 => absurd rfl f0
  | c :: f, hf, _ => by
    have gp : 0 < g.length := List.length_pos_iff.mpr g0
    by_cases z : f = []
    · subst z
      have c0 : c ≠ 0 := by
        have := isRow_last hf (by simp)
        simpa using this
      have e : trim (mulR [c] g) = trim (scaleI c g) := trim_inj (N := 0) fun x _ => by rw [vl_mulR, vl_scaleI, vl_cons, vl_nil]; grind
      rw [e, trim_row (isRow_scale c0 hg), scaleI_len, List.length_singleton]
      omega
    · have fp : 0 < f.length := List.length_pos_iff.mpr z
      have rf : isRow f := by
        refine isRow_of ?_
        have := isRow_last hf (by simp)
        rw [List.length_cons, show f.length + 1 - 1 = (f.length - 1) + 1 by omega, List.getElem?_cons_succ] at this
        exact this
      have ih := prod_len hg g0 f rf z
      have rh := isRow_trim (mulR f g)
      have e : trim (mulR (c :: f) g) = trim (addL (scaleI c g) (0 :: trim (mulR f g))) := trim_inj (N := 0) fun x _ => by
        rw [vl_mulR, addL_vl, vl_scaleI, vl_cons, vl_cons, vl_trim, vl_mulR]
        grind
      rw [e]
      generalize trim (mulR f g) = h at *
      have ll : (addL (scaleI c g) (0 :: h)).length = h.length + 1 := by
        rw [addL_len, scaleI_len, List.length_cons]
        omega
      have hh : h ≠ [] := fun z => by
        rw [z, List.length_nil] at ih
        omega
      have r : isRow (addL (scaleI c g) (0 :: h)) := by
        refine isRow_of ?_
        rw [ll, addL_get, List.getElem?_eq_none (show (scaleI c g).length ≤ h.length + 1 - 1 by rw [scaleI_len]; omega), show h.length + 1 - 1 = (h.length - 1) + 1 by omega, List.getElem?_cons_succ]
        have := isRow_last rh hh
        simpa using this
      rw [trim_row r, ll, ih, List.length_cons]
      omega
theorem quo_len2 {p q f : List Int} {c : Int} (hp : isRow p) (p0 : p ≠ []) (hq : isRow q) (q0 : q ≠ []) (hf : isRow f) (c0 : c ≠ 0) (e : ∀ x, vl f x * c = vl q x * vl p x) : f.length = q.length + p.length - 1 := by
  rw [← prod_len hp p0 q hq q0]
  have t : trim (scaleI c f) = trim (mulR q p) := trim_inj (N := 0) fun x _ => by rw [vl_scaleI, vl_mulR, e x]
  rw [← t, trim_row (isRow_scale c0 hf), scaleI_len]
theorem irr_two {p : List Int} (hp : isRow p) (l : p.length = 2) : Irr p := by
  have p0 : p ≠ [] := fun z => by rw [z] at l; simp at l
  refine ⟨hp, by omega, fun a ha h => ?_⟩
  have := Dv.len ha h hp p0
  omega
/-- a row of two has a fraction at which it is nought -/
theorem two_root {a : List Int} (ha : isRow a) (l : a.length = 2) : ∃ r : Rat, pv a r = 0 := by
  match a, l with
  | [u, v], _ =>
    have v0 : v ≠ 0 := by
      have := isRow_last ha (by simp)
      simpa using this
    have v1 : (v : Rat) ≠ 0 := by
      rw [Ne, Rat.intCast_eq_zero_iff]
      exact v0
    refine ⟨-(u : Rat) / (v : Rat), ?_⟩
    rw [pv_cons, pv_cons, pv_nil, Rat.mul_zero, Rat.add_zero, Rat.div_mul_cancel v1]
    grind
theorem irr_small {p : List Int} (hp : isRow p) (l : p.length = 3 ∨ p.length = 4) (h : ∀ r : Rat, pv p r ≠ 0) : Irr p := by
  have p0 : p ≠ [] := fun z => by rw [z] at l; simp at l
  have no : ∀ (a b : List Int) (c : Int), isRow a → a.length = 2 → c ≠ 0 → (∀ x, vl p x * c = vl b x * vl a x) → False := fun a b c ha la c0 e => by
    obtain ⟨r, hr⟩ := two_root ha la
    have k := pv_of_vl (f := scaleI c p) (g := mulR b a) (fun x => by rw [vl_scaleI, vl_mulR, e x]) r
    have s : pv (scaleI c p) r = pv p r * (c : Rat) := by
      clear k e h p0 l hp
      induction p with
      | nil =>
        show (0 : Rat) = 0 * (c : Rat)
        rw [Rat.zero_mul]
      | cons d f ih =>
        show pv (d * c :: scaleI c f) r = _
        rw [pv_cons, pv_cons, ih, Rat.intCast_mul]
        grind
    rw [s, pv_mulR, hr, Rat.mul_zero] at k
    rcases Rat.mul_eq_zero.mp k with z | z
    · exact h r z
    · rw [Rat.intCast_eq_zero_iff] at z
      exact c0 z
  refine ⟨hp, by omega, fun a ha d => ?_⟩
  obtain ⟨c, b, c0, hb, e⟩ := isRow_quo d
  have la := Dv.len ha d hp p0
  by_cases l2 : a.length = 2
  · exact (no a b c ha l2 c0 e).elim
  · by_cases l3 : a.length ≤ 1 ∨ a.length = p.length
    · exact l3
    · exfalso
      have a0 : a ≠ [] := fun z => by rw [z] at l3; simp at l3
      obtain ⟨lb, b0⟩ := quo_len ha (by omega) hb hp p0 c0 e
      have q := quo_len2 ha a0 hb b0 hp c0 e
      exact no b a c hb (by omega) c0 fun x => by rw [e x, Int.mul_comm]
/-! four of them -/
theorem num_den (r : Rat) : r * ((r.den : Int) : Rat) = (r.num : Rat) := by
  have hd : ((r.den : Int) : Rat) ≠ 0 := by
    rw [Ne, Rat.intCast_eq_zero_iff]
    have := r.den_pos
    omega
  conv => lhs; lhs; rw [← Rat.num_divInt_den r]
  rw [Rat.divInt_eq_div, Rat.div_mul_cancel hd]
theorem irr_special : Irr [1, 0, 1] ∧ Irr [-2, 0, 1] ∧ Irr [1, 1, 1] ∧ Irr [-3, 0, 0, 1] := by
  have rints : ∀ (r : Rat), ∃ (a : Int) (d : Nat), 0 < d ∧ Nat.Coprime a.natAbs d ∧ r * ((d : Int) : Rat) = (a : Rat) := fun r => ⟨r.num, r.den, r.den_pos, r.reduced, num_den r⟩
  have cast : ∀ {a b : Int}, (a : Rat) = (b : Rat) → a = b := fun h => Rat.intCast_inj.mp h
  have v3 : ∀ (u v w : Int) (r : Rat), pv [u, v, w] r = (u : Rat) + r * ((v : Rat) + r * (w : Rat)) := fun u v w r => by
    rw [pv_cons, pv_cons, pv_cons, pv_nil, Rat.mul_zero, Rat.add_zero]
  -- u d d + v a d + w a a = 0
  have key : ∀ (u v w : Int) (r : Rat), pv [u, v, w] r = 0 → ∃ (a : Int) (d : Nat), 0 < d ∧ Nat.Coprime a.natAbs d ∧ u * (d : Int) * (d : Int) + v * a * (d : Int) + w * a * a = 0 := fun u v w r h => by
    obtain ⟨a, d, d0, cp, e⟩ := rints r
    refine ⟨a, d, d0, cp, cast ?_⟩
    rw [v3] at h
    rw [Rat.intCast_add, Rat.intCast_add, Rat.intCast_mul, Rat.intCast_mul, Rat.intCast_mul, Rat.intCast_mul, Rat.intCast_mul, Rat.intCast_mul, ← e]
    have z : ((0 : Int) : Rat) = 0 := rfl
    rw [z]
    grind
  have sq : ∀ a : Int, 0 ≤ a * a := fun a => by
    rcases Int.le_total 0 a with h | h
    · exact Int.mul_nonneg h h
    · exact Int.mul_nonneg_of_nonpos_of_nonpos h h
  have pos : ∀ d : Nat, 0 < d → 0 < (d : Int) * (d : Int) := fun d h => Int.mul_pos (by omega) (by omega)
  refine ⟨irr_small (isRow_of (by decide)) (.inl rfl) fun r h => ?_, irr_small (isRow_of (by decide)) (.inl rfl) fun r h => ?_, irr_small (isRow_of (by decide)) (.inl rfl) fun r h => ?_, irr_small (isRow_of (by decide)) (.inr rfl) fun r h => ?_⟩
  · obtain ⟨a, d, d0, cp, e⟩ := key _ _ _ r h
    have h1 := sq a
    have h2 := pos d d0
    rw [Int.one_mul, Int.one_mul, Int.zero_mul, Int.zero_mul] at e
    omega
  · obtain ⟨a, d, d0, cp, e⟩ := key _ _ _ r h
    have e2 : a * a = 2 * (d : Int) * (d : Int) := by grind
    have e3 : a.natAbs * a.natAbs = d * (2 * d) := by
      have := congrArg Int.natAbs e2
      rw [Int.natAbs_mul, Int.natAbs_mul, Int.natAbs_mul, Int.natAbs_natCast] at this
      rw [this]
      show 2 * d * d = d * (2 * d)
      rw [Nat.mul_comm]
    have d1 : d = 1 := Nat.Coprime.eq_one_of_dvd (Nat.Coprime.mul_right cp.symm cp.symm) ⟨2 * d, e3⟩
    rw [d1] at e3
    generalize a.natAbs = m at e3
    by_cases h2 : m ≤ 1
    · have : m = 0 ∨ m = 1 := by omega
      rcases this with e | e <;> rw [e] at e3 <;> omega
    · have := Nat.mul_le_mul (show 2 ≤ m by omega) (show 2 ≤ m by omega)
      omega
  · obtain ⟨a, d, d0, cp, e⟩ := key _ _ _ r h
    have h1 := sq (2 * a + d)
    have h2 := pos d d0
    have e2 : (2 * a + d) * (2 * a + d) = 4 * (1 * (d : Int) * (d : Int) + 1 * a * (d : Int) + 1 * a * a) - 3 * ((d : Int) * (d : Int)) := by grind
    rw [e] at e2
    omega
  · obtain ⟨a, d, d0, cp, e⟩ := rints r
    have h' : r * (r * r) = 3 := by
      rw [pv_cons, pv_cons, pv_cons, pv_cons, pv_nil, Rat.mul_zero, Rat.add_zero] at h
      have z0 : ((0 : Int) : Rat) = 0 := rfl
      have z1 : ((1 : Int) : Rat) = 1 := rfl
      have z3 : ((-3 : Int) : Rat) = -3 := rfl
      rw [z0, z1, z3] at h
      grind
    have e2 : a * a * a = 3 * (d : Int) * (d : Int) * (d : Int) := cast (by
      rw [Rat.intCast_mul, Rat.intCast_mul, Rat.intCast_mul, Rat.intCast_mul, Rat.intCast_mul, ← e]
      have z3 : ((3 : Int) : Rat) = 3 := rfl
      rw [z3]
      grind)
    have e3 : a.natAbs * a.natAbs * a.natAbs = d * (3 * d * d) := by
      have := congrArg Int.natAbs e2
      rw [Int.natAbs_mul, Int.natAbs_mul, Int.natAbs_mul, Int.natAbs_mul, Int.natAbs_mul, Int.natAbs_natCast] at this
      rw [this]
      show 3 * d * d * d = d * (3 * d * d)
      rw [Nat.mul_comm]
    have d1 : d = 1 := Nat.Coprime.eq_one_of_dvd (Nat.Coprime.mul_right (Nat.Coprime.mul_right cp.symm cp.symm) cp.symm) ⟨3 * d * d, e3⟩
    rw [d1] at e3
    generalize a.natAbs = m at e3
    by_cases h2 : m ≤ 1
    · have : m = 0 ∨ m = 1 := by omega
      rcases this with e | e <;> rw [e] at e3 <;> omega
    · have := Nat.mul_le_mul (Nat.mul_le_mul (show 2 ≤ m by omega) (show 2 ≤ m by omega)) (show 2 ≤ m by omega)
      omega
/-! products of unlike ones -/
theorem SF.step {b l : List Int} (sf : SF b) (il : Irr l) (n : ¬ Dv l (vl b)) : SF (trim (mulR b l)) := fun p ir h => by
  have e : ∀ x, vl (trim (mulR b l)) x = vl l x * vl b x := fun x => by rw [vl_trim, vl_mulR, Int.mul_comm]
  have h2 := h.congr e
  by_cases d : Dv p (vl l)
  · obtain ⟨c, q, c0, e1⟩ := irr_same il ir d
    obtain ⟨t, s, t0, e2⟩ := h2
    refine n ⟨t * (c * c), mulR s (mulR q q), Int.mul_ne_zero t0 (Int.mul_ne_zero c0 c0), fun x => ?_⟩
    have key := vl_cancel (u := scaleI (t * (c * c)) b) (v := mulR (mulR s (mulR q q)) l) il.1 il.ne (fun x => by
      rw [vl_scaleI, vl_mulR, vl_mulR, vl_mulR]
      have a := e1 x
      have b2 := e2 x
      have p2 : vl p x ^ 2 = vl p x * vl p x := by rw [Int.pow_succ, Int.pow_succ, Int.pow_zero]; grind
      rw [vl_pwR, p2] at b2
      have z1 : vl l x * (vl b x * (t * (c * c))) = (vl l x * vl b x * t) * (c * c) := by grind
      rw [z1, b2, show vl s x * (vl p x * vl p x) * (c * c) = vl s x * (vl p x * c) * (vl p x * c) by grind, a]
      grind) x
    rw [vl_scaleI, vl_mulR] at key
    rw [key]
  · exact sf p ir (pow_part (d := b) ir il.1 d 2 b h2)
/-- what rows a product has for parts -/
def Parts (P : List (List Int)) (b : List Int) : Prop := isRow b ∧ b ≠ [] ∧ ∀ p, Irr p → (Dv p (vl b) ↔ ∃ l ∈ P, Dv p (vl l))
theorem Parts.step {P : List (List Int)} {b l : List Int} (h : Parts P b) (il : Irr l) : Parts (P ++ [l]) (trim (mulR b l)) := by
  refine ⟨isRow_trim _, mul_ne h.1 h.2.1 il.1 il.ne, fun p ir => ?_⟩
  rw [dv_mul_iff ir h.1, h.2.2 p ir]
  constructor
  · rintro (⟨r, hr, d⟩ | d)
    · exact ⟨r, List.mem_append_left _ hr, d⟩
    · exact ⟨l, List.mem_append_right _ (List.mem_singleton.mpr rfl), d⟩
  · rintro ⟨r, hr, d⟩
    rcases List.mem_append.mp hr with hr | hr
    · exact .inl ⟨r, hr, d⟩
    · rw [List.mem_singleton.mp hr] at d
      exact .inr d
theorem Parts.again {P : List (List Int)} {b l : List Int} (h : Parts P b) (il : Irr l) (hl : l ∈ P) : Parts P (trim (mulR b l)) := by
  refine ⟨isRow_trim _, mul_ne h.1 h.2.1 il.1 il.ne, fun p ir => ?_⟩
  rw [dv_mul_iff ir h.1, h.2.2 p ir]
  exact ⟨fun z => z.elim id fun d => ⟨l, hl, d⟩, .inl⟩
theorem Parts.num {c : Int} (h : c ≠ 0) : Parts [] [c] := by
  refine ⟨isRow_of (by simpa using h), by simp, fun p ir => ⟨fun d => ?_, fun ⟨_, z, _⟩ => (List.not_mem_nil z).elim⟩⟩
  have := Dv.len ir.1 d (isRow_of (by simpa using h)) (by simp)
  have := ir.2.1
  simp at *
  omega
theorem Parts.scale {P : List (List Int)} {b : List Int} (h : Parts P b) {c : Int} (hc : c ≠ 0) : Parts P (scaleI c b) := by
  refine ⟨isRow_scale hc h.1, fun z => h.2.1 ?_, fun p ir => ?_⟩
  · have := congrArg List.length z
    rw [scaleI_len] at this
    exact List.eq_nil_of_length_eq_zero this
  · rw [← h.2.2 p ir]
    constructor
    · intro d
      exact Dv.scale hc (d.congr fun x => vl_scaleI c x b)
    · intro d
      exact (d.scaled c).congr fun x => (vl_scaleI c x b).symm
/-- plain rows that divide each other are one -/
theorem plain_irr {p r : List Int} (hp : Irr p) (hr : Irr r) (pp : plainR p = p) (pr : plainR r = r) (h : Dv r (vl p)) : p = r := by
  have := mutual_plain hp.1 hr.1 (irr_same hp hr h) h
  rw [pp, pr] at this
  exact this

def addR (f g : List Int) : List Int := (List.range (max f.length g.length)).map fun k => f[k]?.getD 0 + g[k]?.getD 0
def subR (f g : List Int) : List Int := (List.range (max f.length g.length)).map fun k => f[k]?.getD 0 - g[k]?.getD 0

/-! ### lists of rows -/
def rws (l : List (List Int)) : List D := l.map fun r => PyData.tuple (zs r)
@[simp] theorem rws_len (l : List (List Int)) : (rws l).length = l.length := by simp [rws]
theorem rws_snoc (l : List (List Int)) (r : List Int) : rws l ++ [PyData.tuple (zs r)] = rws (l ++ [r]) := by simp [rws]
@[simp] theorem lfAll_rws (l : List (List Int)) : lfAll (rws l) = true := by
  induction l with
  | nil => rfl
  | cons r l ih =>
    show (lf (.tuple (zs r)) && lfAll (rws l)) = true
    rw [ih]
    simp
theorem canLay_rws (l : List (List Int)) : PyData.canLayAll0 (rws l) = true := by
  induction l with
  | nil => rfl
  | cons r l ih =>
    show (PyData.canLay0 (.tuple (zs r)) && PyData.canLayAll0 (rws l)) = true
    rw [ih, PyData.canLay0, canLay_zs]
    rfl
theorem depth_rws (l : List (List Int)) : PyData.depthAll (rws l) ≤ 1 := by
  induction l with
  | nil => exact Nat.zero_le _
  | cons r l ih =>
    show max (PyData.depth (.tuple (zs r))) (PyData.depthAll (rws l)) ≤ 1
    rw [PyData.depth, depth_zs]
    omega
theorem shaped_rl (l : List (List Int)) : SeqAt.shaped (.list (rws l)) = true := by
  unfold SeqAt.shaped
  rw [PyData.canLay0, canLay_rws, PyData.depth]
  have := depth_rws l
  simp
  omega
theorem shaped_rt (l : List (List Int)) : SeqAt.shaped (.tuple (rws l)) = true := by
  unfold SeqAt.shaped
  rw [PyData.canLay0, canLay_rws, PyData.depth]
  have := depth_rws l
  simp
  omega
theorem eqvAll_rws : ∀ a b : List (List Int), PyData.eqvAll (rws a) (rws b) = decide (a = b)
  | [], [] => by simp [rws, PyData.eqvAll]
  | [], _ :: _ => by simp [rws, PyData.eqvAll]
  | _ :: _, [] => by simp [rws, PyData.eqvAll]
  | x :: a, y :: b => by
    show (PyData.eqv (.tuple (zs x)) (.tuple (zs y)) && PyData.eqvAll (rws a) (rws b)) = _
    rw [eqvAll_rws a b, PyData.eqv, eqvAll_zs]
    by_cases h : x = y
    · subst h; simp
    · simp [h]
theorem eqD_rl (a b : List (List Int)) : eqD (.list (rws a)) (.list (rws b)) = .ok (decide (a = b)) := by
  have : eqD (.list (rws a)) (.list (rws b)) = if SeqAt.shaped (.list (rws a)) = true ∧ SeqAt.shaped (.list (rws b)) = true then .ok (PyData.eqv (.list (rws a)) (.list (rws b))) else .st := rfl
  rw [this, if_pos ⟨shaped_rl a, shaped_rl b⟩, PyData.eqv, eqvAll_rws]
theorem eqD_rt (a b : List (List Int)) : eqD (.tuple (rws a)) (.tuple (rws b)) = .ok (decide (a = b)) := by
  have : eqD (.tuple (rws a)) (.tuple (rws b)) = if SeqAt.shaped (.tuple (rws a)) = true ∧ SeqAt.shaped (.tuple (rws b)) = true then .ok (PyData.eqv (.tuple (rws a)) (.tuple (rws b))) else .st := rfl
  rw [this, if_pos ⟨shaped_rt a, shaped_rt b⟩, PyData.eqv, eqvAll_rws]

/-! ### the program's boards -/
@[simp] theorem rws_nil : rws [] = [] := rfl
theorem rws_take (B : List (List Int)) (k : Nat) : (rws B).take k = rws (B.take k) := by simp [rws]
theorem rws_set (B : List (List Int)) (k : Nat) (r : List Int) : (rws B).set k (.tuple (zs r)) = rws (B.set k r) := by simp [rws, List.map_set]
theorem atI_rws {B : List (List Int)} {k : Nat} (h : k < B.length) : atI (rws B) (k : Int) = some (.tuple (zs (B[k]?.getD []))) := by
  unfold atI
  rw [rws_len, ixN_nat h]
  show (rws B)[k]? = _
  rw [rws, List.getElem?_map, List.getElem?_eq_getElem h]
  rfl
theorem eqD_t0 (r : List Int) : eqD (.tuple (zs r)) (.tuple []) = .ok (decide (r = [])) := by
  have h := eqD_tz r []
  rw [zs_nil] at h
  exact h
def bdB (b : Nat) (B : List (List Int)) : Prop := ∀ r ∈ B, bd (2 ^ b) r
theorem bdB.get {b : Nat} {B : List (List Int)} (h : bdB b B) (k : Nat) : bd (2 ^ b) (B[k]?.getD []) := by
  cases e : B[k]? with
  | none => exact fun _ z => (List.not_mem_nil z).elim
  | some r => exact h r (List.mem_of_getElem? e)

/-! ### greatest common parts -/
theorem fmod_nat (a b : Nat) : ((a : Int)).fmod (b : Int) = ((a % b : Nat) : Int) := by
  rw [Int.fmod_eq_emod_of_nonneg _ (by omega)]
  exact (Int.natCast_emod a b).symm
theorem gcd_step (a b : Nat) : Nat.gcd a b = Nat.gcd b (a % b) := by
  rw [Nat.gcd_comm a b, Nat.gcd_rec b a, Nat.gcd_comm]
theorem r_shared_part (n : Nat) (a b : Int) : runF pr (n + 1) k_shared_part [.int a, .int b] = .ok (.int ((Nat.gcd a.natAbs b.natAbs : Nat) : Int)) := by
  rw [st_shared_part]
  have loop : ∀ b a : Nat, whS (evt (tbl pr n) c_shared_part_1) (exS (tbl pr n) w_shared_part_1) [some (.sh (.int (a : Int))), some (.sh (.int (b : Int)))] = .nx [some (.sh (.int ((Nat.gcd a b : Nat) : Int))), some (.sh (.int 0))] := by
    intro b
    induction b using Nat.strongRecOn with
    | ind b ih =>
      intro a
      by_cases h : b = 0
      · subst h
        rw [Nat.gcd_zero_right]
        exact wh_end (by simp [c_shared_part_1])
      · rw [gcd_step, ← ih (a % b) (Nat.mod_lt _ (by omega)) b]
        have e : ¬ (b : Int) = 0 := by omega
        have e2 : (0 : Int) < (b : Int) := by omega
        refine wh_step (by simp only [c_shared_part_1, evt_tcmp, ev_var, slotV_s, slotV_0, upB_cl, Res.bind_ok, ev_int, gt_i, decide_eq_true e2]) ?_
        simp only [w_shared_part_1, exS_seq, exS_par, ev_var, ev_bin, slotV_s, slotV_0, upB_cl, Fl.of_ok, Res.bind_ok, mod_i, if_neg e, fmod_nat, sh_cl, Fl.on_some, asgL_cons, asgV_cl, List.length_cons, List.length_nil, Nat.zero_add, Nat.reduceAdd, Nat.reduceLT, if_true, Option.bind_some, List.length_set, asgL_nil, List.set_cons_succ, List.set_cons_zero, Fl.seq_nx, exS_skip]
  simp [b_shared_part, loop]

theorem r_trimmed (n : Nat) (ns : List Int) : runF pr (n + 1) k_trimmed [.list (zs ns)] = .ok (.tuple (zs (trim ns))) := by
  rw [st_trimmed]
  have loop : ∀ k, k ≤ ns.length → whS (evt (tbl pr n) c_trimmed_1) (exS (tbl pr n) w_trimmed_1) [some (.sh (.list (zs ns))), some (.sh (.int k))] = .nx [some (.sh (.list (zs ns))), some (.sh (.int (tlen ns k)))] := by
    intro k
    induction k with
    | zero => exact fun _ => wh_end (by simp [c_trimmed_1])
    | succ k ih =>
      intro hk
      have e : ((k + 1 : Nat) : Int) - 1 = k := by omega
      have e2 : (0 : Int) < ((k + 1 : Nat) : Int) := by omega
      by_cases h0 : ns[k]?.getD 0 = 0
      · rw [tlen, if_pos h0, ← ih (by omega)]
        exact wh_step (by simp [c_trimmed_1, -Int.natCast_add, e, e2, atI_zs (show k < ns.length by omega), h0]) (by simp [w_trimmed_1, -Int.natCast_add, e])
      · rw [tlen, if_neg h0]
        exact wh_end (by simp [c_trimmed_1, -Int.natCast_add, e, e2, atI_zs (show k < ns.length by omega), h0])
  simp [b_trimmed, loop _ (Nat.le_refl _), cutD_take, trim]

theorem mulOk_bd {A B a b : Nat} {x y : Int} (hx : x.natAbs ≤ A) (hy : y.natAbs ≤ B) (hA : A < 2 ^ a) (hB : B < 2 ^ b) (h : a + b ≤ 133999990) : MuOk x y :=
  mulOk_of (Nat.lt_of_le_of_lt hx hA) (Nat.lt_of_le_of_lt hy hB) h

def slopeR (f : List Int) : List Int := (List.range (f.length - 1)).map fun (k : Nat) => (1 + (k : Int)) * f[1 + k]?.getD 0
theorem rngD_one (m : Nat) : rngD 1 m = (List.range m).map fun (k : Nat) => PyData.int (1 + (k : Int)) := rfl
theorem r_slope (n : Nat) (f : List Int) (hf : f.length ≤ 1000) {B b : Nat} (hB : bd B f) (hB2 : B < 2 ^ b) (hbb : b ≤ 900000) : runF pr (n + 2) k_slope [.tuple (zs f)] = .ok (.tuple (zs (trim (slopeR f)))) := by
  rw [st_slope]
  have hb : big = 16777216 := rfl
  have em : ((f.length : Int) - 1).toNat = f.length - 1 := by omega
  have s1 : small 1 := small_nat (n := 1) (by omega)
  have c := ev_comp_map (T := tbl pr (n + 1)) (η := [some (.sh (.tuple (zs f))), none]) (v := 1) (it := .ir2 (.int 1) (.bi .len (.cons (.var 0) .nil))) (e := .bin .mul (.var 1) (.idx (.var 0) (.var 1)))
    (w := .r 1 (f.length - 1)) (List.range (f.length - 1)) (fun (k : Nat) => .int (1 + (k : Int))) (fun (k : Nat) => .int ((1 + (k : Int)) * f[1 + k]?.getD 0)) rfl (by simp [s1, small_nat (show f.length ≤ big by omega), em]) (rngD_one _) (by simp; omega)
    (fun k hk => by
      have hk := List.mem_range.mp hk
      have e1 : 1 + (k : Int) = ((1 + k : Nat) : Int) := by omega
      have a := atI_zs (ns := f) (k := 1 + k) (by omega)
      have mk : MuOk ((1 + k : Nat) : Int) (f[1 + k]?.getD 0) := mulOk_of (a := 20) (b := b) (by omega) (Nat.lt_of_le_of_lt (bd_get hB _) hB2) (by omega)
      rw [e1]
      simp [-Int.natCast_add, a, mk])
  have e : (List.range (f.length - 1)).map (fun (k : Nat) => PyData.int ((1 + (k : Int)) * f[1 + k]?.getD 0)) = zs (slopeR f) := by simp [slopeR, zs]
  rw [e] at c
  simp [b_slope, c, r_trimmed]
theorem slopeR_row {f : List Int} (h : isRow f) : trim (slopeR f) = slopeR f := by
  refine trim_row ?_
  have el : (slopeR f).length = f.length - 1 := by simp [slopeR]
  by_cases h1 : f.length ≤ 1
  · have : slopeR f = [] := List.eq_nil_of_length_eq_zero (by omega)
    rw [this]
    rfl
  · refine isRow_of ?_
    have hl := isRow_last h (fun z => by rw [z] at h1; simp at h1)
    have e2 : (slopeR f)[(slopeR f).length - 1]?.getD 0 = (1 + ((f.length - 1 - 1 : Nat) : Int)) * f[1 + (f.length - 1 - 1)]?.getD 0 := by
      rw [el]
      unfold slopeR
      rw [List.getElem?_map, List.getElem?_range (by omega)]
      rfl
    rw [e2, show 1 + (f.length - 1 - 1) = f.length - 1 by omega]
    exact Int.mul_ne_zero (by omega) hl

theorem r_put_low (n : Nat) (f : List Int) (hf : f.length ≤ 1000) : runF pr (n + 2) k_put_low [.tuple (zs f)] = .ok (.tuple (zs (lowR f))) := by
  rw [st_put_low]
  have hb : big = 16777216 := rfl
  obtain ⟨η', e, u, e2, hu⟩ := loop_rel (α := Int) (f := foB (tbl pr (n + 1)) 2 w_put_low_1) (g := PyData.int) (stp := fun (p : Nat) c => Nat.gcd p c.natAbs)
    (σ := Nat) (R := fun (p : Nat) η => ∃ u, η = [some (.sh (.tuple (zs f))), some (.sh (.int (p : Int))), u] ∧ nOw u) f
    (fun (p : Nat) c η hc hR => by
      obtain ⟨u, rfl, _⟩ := hR
      refine ⟨_, ?_, some (.sh (.int c)), rfl, trivial⟩
      simp [foB, w_put_low_1, r_shared_part]) 0 [some (.sh (.tuple (zs f))), some (.sh (.int 0)), none] ⟨none, rfl, trivial⟩
  subst e2
  change loopF _ (zs f) _ = .nx [some (.sh (.tuple (zs f))), some (.sh (.int ((rowG f : Nat) : Int))), u] at e
  by_cases h0 : rowG f = 0
  · rw [h0] at e
    have el : lowR f = [] := by rw [lowR, if_pos h0]
    rw [el, zs_nil]
    simp [b_put_low, e]
  · have el : lowR f = f.map fun c => c.fdiv (rowG f) := by rw [lowR, if_neg h0]
    have h0' : ¬ ((rowG f : Nat) : Int) = 0 := by omega
    have dk : ∀ x : Int, DivOk x (rowG f : Int) := fun x => show ((rowG f : Nat) : Int) ≠ 0 by omega
    have c := ev_comp_map (T := tbl pr (n + 1)) (η := [some (.sh (.tuple (zs f))), some (.sh (.int ((rowG f : Nat) : Int))), u]) (v := 2) (it := .itv (.var 0)) (e := .bin .fdiv (.var 2) (.var 1))
      (w := .v (.cl (.tuple (zs f)))) f PyData.int (fun x => .int (x.fdiv (rowG f))) (free_of rfl hu) (by simp) rfl (by omega) (fun x _ => by simp [dk])
    have em : f.map (fun x => PyData.int (x.fdiv (rowG f))) = zs (lowR f) := by rw [el]; simp [zs]
    rw [em] at c
    simp [b_put_low, e, h0, c]

theorem r_plain_row (n : Nat) (f : List Int) (hf : f.length ≤ 1000) : runF pr (n + 3) k_plain_row [.tuple (zs f)] = .ok (.tuple (zs (plainR f))) := by
  rw [st_plain_row]
  have hb : big = 16777216 := rfl
  have hp := r_put_low n f hf
  have ll := lowR_len f
  generalize hl : lowR f = l at hp ll
  have e : plainR f = if 0 < l.length ∧ l[l.length - 1]?.getD 0 < 0 then negR l else l := by rw [plainR, hl]
  have c := ev_comp_map (T := tbl pr (n + 2)) (η := [some (.sh (.tuple (zs f))), some (.sh (.tuple (zs l))), none]) (v := 2) (it := .itv (.var 1)) (e := .bin .sub (.int 0) (.var 2))
    (w := .v (.cl (.tuple (zs l)))) l PyData.int (fun x => .int (-x)) rfl (by simp) rfl (by omega) (fun x _ => by simp)
  have em : l.map (fun x => PyData.int (-x)) = zs (negR l) := by simp [zs, negR]
  rw [em] at c
  rw [e]
  by_cases h0 : l = []
  · subst h0
    simp [b_plain_row, hp]
  · have h1 : 0 < l.length := List.length_pos_iff.mpr h0
    have a := atI_last' h0
    by_cases h2 : l[l.length - 1]?.getD 0 < 0
    · rw [if_pos ⟨h1, h2⟩]
      simp [b_plain_row, hp, h1, a, h2, c]
    · rw [if_neg fun z => h2 z.2]
      simp [b_plain_row, hp, h1, a, h2]

/-! ### divided -/
theorem div_inner (n : Nat) (e0 e2 e4 e5 e8 : Option Sl) (g r : List Int) (m : Int) (s : Nat) {G b c : Nat} (hm : m.natAbs ≤ 2 ^ b) (hg : bd G g) (hG : G ≤ 2 ^ c) (hbc : b + c + 2 ≤ 133999000) (hs : s + g.length ≤ r.length) (hgl : g.length ≤ big) (u7 : Option Sl) :
    ∃ u7', loopF (foB (tbl pr n) 7 w_divided_2) (rngD 0 g.length) [e0, some (.sh (.tuple (zs g))), e2, some (.ow (zs r)), e4, some (.sh (.int (s : Int))), some (.sh (.int m)), u7, e8]
      = .nx [e0, some (.sh (.tuple (zs g))), e2, some (.ow (zs (subTo m g s r g.length))), e4, some (.sh (.int (s : Int))), some (.sh (.int m)), u7', e8] := by
  obtain ⟨η', h1, u, h2⟩ := loop_rng (f := foB (tbl pr n) 7 w_divided_2) (lo := 0) (n := g.length)
    (R := fun k η => ∃ u, η = [e0, some (.sh (.tuple (zs g))), e2, some (.ow (zs (subTo m g s r k))), e4, some (.sh (.int (s : Int))), some (.sh (.int m)), u, e8])
    (fun k η hk hR => by
      obtain ⟨u, rfl⟩ := hR
      have sl : (subTo m g s r k).length = r.length := subTo_len _ _ _ _ _
      have e1 : (s : Int) + (k : Int) = ((s + k : Nat) : Int) := by omega
      have mk : MuOk m (g[k]?.getD 0) := mulOk_of (a := b + 1) (b := c + 1) (Nat.lt_of_le_of_lt hm (Nat.pow_lt_pow_right (by omega) (by omega))) (Nat.lt_of_le_of_lt (bd_get hg k) (Nat.lt_of_le_of_lt hG (Nat.pow_lt_pow_right (by omega) (by omega)))) (by omega)
      have a1 := atI_zs (ns := subTo m g s r k) (k := s + k) (by omega)
      have a2 := atI_zs (ns := g) (k := k) hk
      have x1 := ixN_nat (n := (subTo m g s r k).length) (k := s + k) (by omega)
      refine ⟨_, ?_, some (.sh (.int k)), rfl⟩
      rw [Int.zero_add]
      simp [foB, w_divided_2, e1, -Int.natCast_add, a1, a2, mk, x1, subTo]) [e0, some (.sh (.tuple (zs g))), e2, some (.ow (zs r)), e4, some (.sh (.int (s : Int))), some (.sh (.int m)), u7, e8] ⟨u7, rfl⟩
  exact ⟨u, by rw [h1, h2]⟩
theorem div_turn (n : Nat) (e0 : Option Sl) (g r q : List Int) (u5 u6 u7 : Option Sl) {G b c : Nat} (hr : bd (2 ^ b) r) (hq : bd (2 ^ b) q) (hg : bd G g) (hG : G ≤ 2 ^ c) (hbc : b + c + 2 ≤ 133999000) (h1 : g ≠ []) (h2 : g.length ≤ r.length) (hl : r.length ≤ 1000) (hql : q.length ≤ 1000) (h3 : r.length - g.length < q.length) :
    ∃ u5' u6' u7', exS (tbl pr n) w_divided_1 [e0, some (.sh (.tuple (zs g))), some (.sh (.int (topI g))), some (.ow (zs r)), some (.ow (zs q)), u5, u6, u7, none]
      = .nx [e0, some (.sh (.tuple (zs g))), some (.sh (.int (topI g))), some (.ow (zs (stepR g r))), some (.ow (zs (stepQ g r q))), u5', u6', u7', none] := by
  have hb : big = 16777216 := rfl
  have hp : 0 < g.length := List.length_pos_iff.mpr h1
  have er : r ≠ [] := fun z => by rw [z, List.length_nil] at h2; omega
  have at1 := atI_last' er
  have es : (r.length : Int) - (g.length : Int) = ((r.length - g.length : Nat) : Int) := by omega
  have tg : (topI g).natAbs ≤ 2 ^ c := Nat.le_trans (bd_get hg _) hG
  have tg2 : ((((topI g).natAbs : Nat) : Int)).natAbs < 2 ^ (c + 1) := by
    rw [Int.natAbs_natCast]
    exact Nat.lt_of_le_of_lt tg (Nat.pow_lt_pow_right (by omega) (by omega))
  have mk : ∀ x : Int, x.natAbs ≤ 2 ^ b → MuOk x (((topI g).natAbs : Nat) : Int) := fun x hx => mulOk_of (a := b + 1) (b := c + 1) (Nat.lt_of_le_of_lt hx (Nat.pow_lt_pow_right (by omega) (by omega))) tg2 (by omega)
  have c1 : ∀ a5 a6 : Option Sl, ev (tbl pr n) (.comp 8 (.itv (.var 3)) .nop (.bin .mul (.var 8) (.bi .abs (.cons (.var 2) .nil)))) [e0, some (.sh (.tuple (zs g))), some (.sh (.int (topI g))), some (.ow (zs r)), some (.ow (zs q)), a5, a6, u7, none] = .ok (.nw (zs (scaleI (absI (topI g)) r))) := fun a5 a6 => by
    rw [ev_comp_map (w := .v (.br 3 (zs r))) r PyData.int (fun x => .int (x * absI (topI g))) rfl (by simp) rfl (by omega) (fun x hx => by simp [mk x (hr x hx), absI])]
    simp [zs, scaleI]
  have c2 : ∀ a5 a6 : Option Sl, ∀ r' : List Int, ev (tbl pr n) (.comp 8 (.itv (.var 4)) .nop (.bin .mul (.var 8) (.bi .abs (.cons (.var 2) .nil)))) [e0, some (.sh (.tuple (zs g))), some (.sh (.int (topI g))), some (.ow (zs r')), some (.ow (zs q)), a5, a6, u7, none] = .ok (.nw (zs (scaleI (absI (topI g)) q))) := fun a5 a6 r' => by
    rw [ev_comp_map (w := .v (.br 4 (zs q))) q PyData.int (fun x => .int (x * absI (topI g))) rfl (by simp) rfl (by omega) (fun x hx => by simp [mk x (hq x hx), absI])]
    simp [zs, scaleI]
  have a4 := atI_zs (ns := scaleI (absI (topI g)) q) (k := r.length - g.length) (by rw [scaleI_len]; exact h3)
  have x4 := ixN_nat (n := (scaleI (absI (topI g)) q).length) (k := r.length - g.length) (by rw [scaleI_len]; exact h3)
  obtain ⟨u7', inn⟩ := div_inner n e0 (some (.sh (.int (topI g)))) (some (.ow (zs (stepQ g r q)))) (some (.sh (.int ((r.length - g.length : Nat) : Int)))) none g (scaleI (absI (topI g)) r) (muchI g r) (r.length - g.length) (G := G) (b := b) (c := c) (much_le hr) hg hG hbc (by rw [scaleI_len]; omega) (by omega) u7
  have fl : (fullR g r) = subTo (muchI g r) g (r.length - g.length) (scaleI (absI (topI g)) r) g.length := rfl
  rw [← fl] at inn
  have flen := fullR_len g r
  have fl1 : (zs (fullR g r))[(zs (fullR g r)).length - 1]? = some (.int ((fullR g r)[(fullR g r).length - 1]?.getD 0)) := by
    rw [zs_length]
    exact zs_get (by omega)
  have sg := small_nat (show g.length ≤ big by omega)
  have sq : stepQ g r q = (scaleI (absI (topI g)) q).set (r.length - g.length) ((scaleI (absI (topI g)) q)[r.length - g.length]?.getD 0 + muchI g r) := rfl
  rw [zs_length] at fl1
  have sr : stepR g r = (fullR g r).dropLast := rfl
  have tr : r[r.length - 1]?.getD 0 = topI r := rfl
  rw [tr] at at1
  have go : ∀ m, muchI g r = m → exS (tbl pr n) w_divided_1 [e0, some (.sh (.tuple (zs g))), some (.sh (.int (topI g))), some (.ow (zs r)), some (.ow (zs q)), u5, u6, u7, none]
      = .nx [e0, some (.sh (.tuple (zs g))), some (.sh (.int (topI g))), some (.ow (zs (stepR g r))), some (.ow (zs (stepQ g r q))), some (.sh (.int ((r.length - g.length : Nat) : Int))), some (.sh (.int m)), u7', none] := by
    intro m hm
    rw [hm] at inn sq
    have at2 : atI (zs r) (-1) = some (.int (topI r)) := at1
    have pop : exS (tbl pr n) (.seq (.pop 3) .skip) [e0, some (.sh (.tuple (zs g))), some (.sh (.int (topI g))), some (.ow (zs (fullR g r))), some (.ow (zs (stepQ g r q))), some (.sh (.int ((r.length - g.length : Nat) : Int))), some (.sh (.int m)), u7', none]
        = .nx [e0, some (.sh (.tuple (zs g))), some (.sh (.int (topI g))), some (.ow (zs (stepR g r))), some (.ow (zs (stepQ g r q))), some (.sh (.int ((r.length - g.length : Nat) : Int))), some (.sh (.int m)), u7', none] := by
      simp [fl1, sr]
    have a6 : ∀ u : Option Sl, exS (tbl pr n) (.ite (.tcmp .lt (.var 2) (.int 0)) (.seq (.asg 6 (.bin .sub (.int 0) (.var 6))) .skip) .skip) [e0, some (.sh (.tuple (zs g))), some (.sh (.int (topI g))), some (.ow (zs r)), some (.ow (zs q)), u, some (.sh (.int (topI r))), u7, none]
        = .nx [e0, some (.sh (.tuple (zs g))), some (.sh (.int (topI g))), some (.ow (zs r)), some (.ow (zs q)), u, some (.sh (.int m)), u7, none] := by
      intro u
      unfold muchI at hm
      by_cases hneg : topI g < 0
      · rw [if_pos hneg] at hm
        subst hm
        simp [hneg]
      · rw [if_neg hneg] at hm
        subst hm
        simp [hneg]
    have seq : ∀ (a b : S) (η η' : PD.Env), exS (tbl pr n) a η = .nx η' → exS (tbl pr n) (.seq a b) η = exS (tbl pr n) b η' := fun a b η η' h => by rw [exS_seq, h, Fl.seq_nx]
    unfold w_divided_1
    rw [seq _ _ _ [e0, some (.sh (.tuple (zs g))), some (.sh (.int (topI g))), some (.ow (zs r)), some (.ow (zs q)), some (.sh (.int ((r.length - g.length : Nat) : Int))), u6, u7, none] (by simp [es])]
    rw [seq _ _ _ [e0, some (.sh (.tuple (zs g))), some (.sh (.int (topI g))), some (.ow (zs r)), some (.ow (zs q)), some (.sh (.int ((r.length - g.length : Nat) : Int))), some (.sh (.int (topI r))), u7, none] (by simp [at2])]
    rw [seq _ _ _ _ (a6 _)]
    rw [seq _ _ _ [e0, some (.sh (.tuple (zs g))), some (.sh (.int (topI g))), some (.ow (zs (scaleI (absI (topI g)) r))), some (.ow (zs q)), some (.sh (.int ((r.length - g.length : Nat) : Int))), some (.sh (.int m)), u7, none] (by simp [c1])]
    rw [seq _ _ _ [e0, some (.sh (.tuple (zs g))), some (.sh (.int (topI g))), some (.ow (zs (scaleI (absI (topI g)) r))), some (.ow (zs (scaleI (absI (topI g)) q))), some (.sh (.int ((r.length - g.length : Nat) : Int))), some (.sh (.int m)), u7, none] (by simp [c2])]
    rw [seq _ _ _ [e0, some (.sh (.tuple (zs g))), some (.sh (.int (topI g))), some (.ow (zs (scaleI (absI (topI g)) r))), some (.ow (zs (stepQ g r q))), some (.sh (.int ((r.length - g.length : Nat) : Int))), some (.sh (.int m)), u7, none] (by
      have x5 : ixN q.length ((r.length - g.length : Nat) : Int) = some (r.length - g.length) := by rw [scaleI_len] at x4; exact x4
      simp [a4, x5, sq])]
    rw [seq _ _ _ _ (by
      rw [exS_fo]
      simp only [evi_r1, ev_bi, evs_cons, evs_nil, ev_var, slotV_s, slotV_0, upB_cl, Res.bind_ok, len_t, intOf_i, zs_length, if_pos sg, Fl.of_ok, wk_r, pre_r, Int.toNat_natCast]
      exact inn)]
    exact pop
  exact ⟨_, _, _, go _ rfl⟩
theorem div_loop (n : Nat) (e0 : Option Sl) (g : List Int) {G c : Nat} (hg : bd G g) (hG : G ≤ 2 ^ c) (h1 : g ≠ []) : ∀ (k b : Nat) (r q : List Int) (u5 u6 u7 : Option Sl), bd (2 ^ b) r → bd (2 ^ b) q → b + k * (c + 1) + c + 2 ≤ 133999000 → r.length ≤ 1000 → q.length ≤ 1000 →
    r.length + 1 = g.length + k → k ≤ q.length → ∃ u5' u6' u7', whS (evt (tbl pr n) c_divided_1) (exS (tbl pr n) w_divided_1) [e0, some (.sh (.tuple (zs g))), some (.sh (.int (topI g))), some (.ow (zs r)), some (.ow (zs q)), u5, u6, u7, none]
      = .nx [e0, some (.sh (.tuple (zs g))), some (.sh (.int (topI g))), some (.ow (zs (divN g k r q).1)), some (.ow (zs (divN g k r q).2)), u5', u6', u7', none] ∧ bd (2 ^ (b + k * (c + 1))) (divN g k r q).1 ∧ bd (2 ^ (b + k * (c + 1))) (divN g k r q).2
  | 0, b, r, q, u5, u6, u7, hr, hq, hb, _, _, hl, _ => ⟨u5, u6, u7, wh_end (by
      have : ¬ (g.length : Int) ≤ (r.length : Int) := by omega
      simp [c_divided_1]
      omega), by simpa [divN] using hr, by simpa [divN] using hq⟩
  | k + 1, b, r, q, u5, u6, u7, hr, hq, hb, l1, l2, hl, hk => by
    have hp : 0 < g.length := List.length_pos_iff.mpr h1
    have hkc : (k + 1) * (c + 1) = k * (c + 1) + (c + 1) := Nat.succ_mul _ _
    obtain ⟨a5, a6, a7, t⟩ := div_turn n e0 g r q u5 u6 u7 hr hq hg hG (by omega) h1 (by omega) l1 l2 (by omega)
    have e1 : (2 : Nat) ^ b * 2 ^ c * 2 = 2 ^ (b + c + 1) := by rw [Nat.pow_succ, Nat.pow_add]
    have br : bd (2 ^ (b + (c + 1))) (stepR g r) := bd_mono (stepR_bd hr hg (by omega)) (by
      have := Nat.mul_le_mul_right 2 (Nat.mul_le_mul_left (2 ^ b) hG)
      rw [e1] at this
      exact this)
    have bq : bd (2 ^ (b + (c + 1))) (stepQ g r q) := bd_mono (stepQ_bd hr hq hg) (by
      have h2 := Nat.mul_le_mul_left (2 ^ b) hG
      have h3 : (2 : Nat) ^ b ≤ 2 ^ b * 2 ^ c := Nat.le_mul_of_pos_right _ (Nat.pow_pos (by omega))
      rw [show b + (c + 1) = b + c + 1 by omega]
      omega)
    obtain ⟨u5', u6', u7', h, h2, h3⟩ := div_loop n e0 g hg hG h1 k (b + (c + 1)) (stepR g r) (stepQ g r q) a5 a6 a7 br bq (by omega) (by rw [stepR_len]; omega) (by rw [stepQ_len]; omega) (by rw [stepR_len]; omega) (by rw [stepQ_len]; omega)
    have eb : b + (c + 1) + k * (c + 1) = b + (k + 1) * (c + 1) := by omega
    rw [eb] at h2 h3
    refine ⟨u5', u6', u7', ?_, h2, h3⟩
    rw [wh_step (η' := [e0, some (.sh (.tuple (zs g))), some (.sh (.int (topI g))), some (.ow (zs (stepR g r))), some (.ow (zs (stepQ g r q))), a5, a6, a7, none]) (by
      have : (g.length : Int) ≤ (r.length : Int) := by omega
      simp [c_divided_1]
      omega) t]
    exact h
theorem r_divided (n : Nat) (f g : List Int) {G b c : Nat} (h1 : g ≠ []) (hf : bd (2 ^ b) f) (hg : bd G g) (hG : G ≤ 2 ^ c) (hl : f.length ≤ 900) (hgl : g.length ≤ 900) (hb : b + divK f g * (c + 1) + c + 2 ≤ 133999000) :
    runF pr (n + 2) k_divided [.tuple (zs f), .tuple (zs g)] = .ok (.tuple [.tuple (zs (trim (divR f g).2)), .tuple (zs (trim (divR f g).1))]) ∧ bd (2 ^ (b + divK f g * (c + 1))) (divR f g).1 ∧ bd (2 ^ (b + divK f g * (c + 1))) (divR f g).2 := by
  have hp : 0 < g.length := List.length_pos_iff.mpr h1
  have at1 := atI_last' h1
  have at2 : atI (zs g) (-1) = some (.int (topI g)) := at1
  have rep : repL [PyData.int 0] (max 0 ((f.length : Int) - (g.length : Int) + 1)) = .ok (.nw (zs (List.replicate (divK f g) 0))) := by
    have e : max 0 ((f.length : Int) - (g.length : Int) + 1) = ((divK f g : Nat) : Int) := by unfold divK; omega
    have hb2 : big = 16777216 := rfl
    rw [e, repL_one (by unfold divK; omega), zs_rep]
  have fin : ∃ u5' u6' u7', whS (evt (tbl pr (n + 1)) c_divided_1) (exS (tbl pr (n + 1)) w_divided_1) [some (.sh (.tuple (zs f))), some (.sh (.tuple (zs g))), some (.sh (.int (topI g))), some (.ow (zs f)), some (.ow (zs (List.replicate (divK f g) 0))), none, none, none, none]
      = .nx [some (.sh (.tuple (zs f))), some (.sh (.tuple (zs g))), some (.sh (.int (topI g))), some (.ow (zs (divR f g).1)), some (.ow (zs (divR f g).2)), u5', u6', u7', none] ∧ bd (2 ^ (b + divK f g * (c + 1))) (divR f g).1 ∧ bd (2 ^ (b + divK f g * (c + 1))) (divR f g).2 := by
    by_cases h : g.length ≤ f.length + 1
    · exact div_loop (n + 1) (some (.sh (.tuple (zs f)))) g hg hG h1 (divK f g) b f (List.replicate (divK f g) 0) none none none hf (fun x hx => by rw [(List.mem_replicate.mp hx).2]; exact Nat.zero_le _) (by omega) (by omega) (by simp [divK]; omega) (by unfold divK; omega) (by simp)
    · have z : divK f g = 0 := by unfold divK; omega
      unfold divR
      rw [z, divN]
      refine ⟨none, none, none, wh_end (by
        have : ¬ (g.length : Int) ≤ (f.length : Int) := by omega
        simp [c_divided_1]
        omega), by simpa using hf, fun x hx => ?_⟩
      simp at hx
  obtain ⟨u5, u6, u7, w, b1, b2⟩ := fin
  refine ⟨?_, b1, b2⟩
  rw [st_divided]
  have t1 := r_trimmed n (divR f g).1
  have t2 := r_trimmed n (divR f g).2
  simp [b_divided, at2, rep, w, t1, t2]

theorem r_rest_of (n : Nat) (f g : List Int) {G b c : Nat} (h1 : g ≠ []) (hf : bd (2 ^ b) f) (hg : bd G g) (hG : G ≤ 2 ^ c) (hl : f.length ≤ 900) (hgl : g.length ≤ 900) (hb : b + divK f g * (c + 1) + c + 2 ≤ 133999000) :
    runF pr (n + 3) k_rest_of [.tuple (zs f), .tuple (zs g)] = .ok (.tuple (zs (restR f g))) := by
  have hp : 0 < g.length := List.length_pos_iff.mpr h1
  obtain ⟨d, _, _⟩ := r_divided n f g h1 hf hg hG hl hgl hb
  have l := (divR_vl f g h1 0).1
  have lt := trim_len (divR f g).1
  have p := r_put_low n (trim (divR f g).1) (by omega)
  rw [st_rest_of]
  have e : ¬ ((g.length : Int) = 0) := by omega
  have i1 : atI [PyData.tuple (zs (trim (divR f g).2)), PyData.tuple (zs (trim (divR f g).1))] 1 = some (PyData.tuple (zs (trim (divR f g).1))) := rfl
  simp [b_rest_of, h1, d, i1, p, restR]

theorem sh_loop (n : Nat) (A N : Nat) (hN : N ≤ 100) (hA : A * 5 ^ N ≤ 39000000 * 2 ^ N) : ∀ (k : Nat) (f g : List Int) (b c : Nat), g.length ≤ k → Ch A N f g b c →
    whS (evt (tbl pr (n + 3)) c_shared_row_1) (exS (tbl pr (n + 3)) w_shared_row_1) [some (.sh (.tuple (zs f))), some (.sh (.tuple (zs g)))] = .nx [some (.sh (.tuple (zs (euR f g)))), some (.sh (.tuple []))] ∧ ∃ e, e ≤ 39000000 ∧ bd (2 ^ e) (euR f g) := by
  intro k
  induction k with
  | zero =>
    intro f g b c hk h
    have z : g = [] := List.eq_nil_of_length_eq_zero (by omega)
    subst z
    rw [euR_nil]
    refine ⟨wh_end (by simp [c_shared_row_1]), b, ?_, h.bf⟩
    have w1 := wt_le (A := A) (N := N) (l := 0) (m := f.length) (by omega) h.le
    rw [wt_0] at w1
    have a1 : b * 2 ^ N ≤ 39000000 * 2 ^ N := by
      have := h.x
      have : b * 2 ^ N ≤ (b + 1) * 2 ^ N := Nat.mul_le_mul_right _ (by omega)
      omega
    exact Nat.le_of_mul_le_mul_right a1 (Nat.pow_pos (by omega))
  | succ k ih =>
    intro f g b c hk h
    by_cases z : g = []
    · subst z
      rw [euR_nil]
      refine ⟨wh_end (by simp [c_shared_row_1]), b, ?_, h.bf⟩
      have w1 := wt_le (A := A) (N := N) (l := 0) (m := f.length) (by omega) h.le
      rw [wt_0] at w1
      have a1 : b * 2 ^ N ≤ 39000000 * 2 ^ N := by
        have := h.x
        have : b * 2 ^ N ≤ (b + 1) * 2 ^ N := Nat.mul_le_mul_right _ (by omega)
        omega
      exact Nat.le_of_mul_le_mul_right a1 (Nat.pow_pos (by omega))
    · have hp : 0 < g.length := List.length_pos_iff.mpr z
      obtain ⟨s1, s2, s3⟩ := h.small z hA
      have e1 : divK f g = f.length - g.length + 1 := by have := h.lt; unfold divK; omega
      have e2 : divK f g * (c + 1) = (c + 1) * (f.length - g.length + 1) := by rw [e1, Nat.mul_comm]
      have hb : b + divK f g * (c + 1) + c + 2 ≤ 133999000 := by omega
      have lN := h.le
      have lt := h.lt
      have r := r_rest_of n f g z (b := b) (c := c) h.bf h.bg (Nat.le_refl _) (by omega) (by omega) hb
      have hr := rest_bd (b := b) (c := c) z (divR_bd f g z h.bf h.bg)
      have hl := restR_len f g z
      obtain ⟨w, e⟩ := ih g (restR f g) _ _ (by omega) (h.step z hr)
      rw [euR_step z]
      refine ⟨?_, e⟩
      rw [wh_step (η' := [some (.sh (.tuple (zs g))), some (.sh (.tuple (zs (restR f g))))]) (by simp [c_shared_row_1, hp]) (by simp [w_shared_row_1, r])]
      exact w
theorem r_shared_row (n : Nat) (f g : List Int) {N B : Nat} (hf : bd (2 ^ B) f) (hg : bd (2 ^ B) g) (lf : f.length ≤ N) (lg : g.length ≤ N) (hN : N ≤ 100) (hA : (B + 1) * (N + 2) * 5 ^ N ≤ 39000000 * 2 ^ N) (hB : B ≤ 1000000) :
    runF pr (n + 4) k_shared_row [.tuple (zs f), .tuple (zs g)] = .ok (.tuple (zs (plainR (euR f g)))) ∧ ∃ e, e ≤ 39000000 ∧ bd (2 ^ e) (euR f g) := by
  have l := eu_len _ f g (Nat.le_refl _)
  have pl := r_plain_row n (euR f g) (by omega)
  have key : whS (evt (tbl pr (n + 3)) c_shared_row_1) (exS (tbl pr (n + 3)) w_shared_row_1) [some (.sh (.tuple (zs f))), some (.sh (.tuple (zs g)))] = .nx [some (.sh (.tuple (zs (euR f g)))), some (.sh (.tuple []))] ∧ ∃ e, e ≤ 39000000 ∧ bd (2 ^ e) (euR f g) := by
    by_cases z : g = []
    · subst z
      rw [euR_nil]
      exact ⟨wh_end (by simp [c_shared_row_1]), B, by omega, hf⟩
    · have hp : 0 < g.length := List.length_pos_iff.mpr z
      have kk : divK f g ≤ N := by unfold divK; omega
      have kb : divK f g * (B + 1) ≤ 100 * (B + 1) := Nat.mul_le_mul_right _ (by omega)
      have r := r_rest_of n f g z (b := B) (c := B) hf hg (Nat.le_refl _) (by omega) (by omega) (by omega)
      obtain ⟨w, e⟩ := sh_loop n _ N hN hA _ g (restR f g) _ _ (Nat.le_refl _) (ch_start z hf hg lf lg)
      rw [euR_step z]
      refine ⟨?_, e⟩
      rw [wh_step (η' := [some (.sh (.tuple (zs g))), some (.sh (.tuple (zs (restR f g))))]) (by simp [c_shared_row_1, hp]) (by simp [w_shared_row_1, r])]
      exact w
  refine ⟨?_, key.2⟩
  rw [st_shared_row]
  simp [b_shared_row, key.1, pl]

/-! ### quotients -/
/-- told by what it is: f = h g -/
theorem div_exact {f g h : List Int} (hg : isRow g) (h2 : g ≠ []) (hh : isRow h) (e : ∀ x, vl f x = vl h x * vl g x) : trim (divR f g).1 = [] ∧ lowR (trim (divR f g).2) = lowR h := by
  have hL : 0 < (topI g).natAbs := by
    have := isRow_last hg h2
    unfold topI
    omega
  have z := rem_zero (u := fun x => vl h x * absI (topI g) ^ divK f g - vl (divR f g).2 x) hg (divR_vl f g h2 0).1 (fun x => by
    have k := (divR_vl f g h2 x).2
    rw [e x] at k
    grind)
  refine ⟨trim_zero z, low_alike (isRow_trim _) hh (c := 1) (d := (topI g).natAbs ^ divK f g) (by omega) (Nat.pow_pos hL) (N := 1) ?_⟩
  obtain ⟨N, n1, n2⟩ := vl_grow hg (v := []) (by have : 0 < g.length := List.length_pos_iff.mpr h2; simpa using this)
  -- the values agree wherever g isn't nought, so everywhere
  have tr : trim (divR f g).2 = scaleI (((topI g).natAbs ^ divK f g : Nat) : Int) h := by
    refine vl_inj (isRow_trim _) (isRow_scale (by have := Nat.pow_pos (n := divK f g) hL; omega) hh) (N := N) fun x hx => ?_
    have k := (divR_vl f g h2 x).2
    have k0 := vl_all0 z x
    have nz : vl g x ≠ 0 := by
      have := n2 x hx
      omega
    rw [k0, e x, Int.add_zero] at k
    rw [vl_trim, vl_scaleI, Int.natCast_pow]
    refine Int.eq_of_mul_eq_mul_right nz ?_
    show _ = vl h x * absI (topI g) ^ divK f g * vl g x
    rw [k]
    grind
  intro x _
  rw [tr, vl_scaleI, Int.natCast_one, Int.mul_one]
/-- told by what it is: f = h g and more, more shorter than g, not nought -/
theorem div_bent {f g h m : List Int} (hg : isRow g) (h2 : g ≠ []) (hm : isRow m) (m0 : m ≠ []) (hl : m.length < g.length) (e : ∀ x, vl f x = vl h x * vl g x + vl m x) : trim (divR f g).1 ≠ [] := by
  intro z
  have hL : 0 < (topI g).natAbs := by
    have := isRow_last hg h2
    unfold topI
    omega
  have z0 : ∀ x, vl (divR f g).1 x = 0 := fun x => by
    have := vl_trim (divR f g).1 x
    rw [z] at this
    exact this.symm
  have pw := Nat.pow_pos (n := divK f g) hL
  have q := rem_zero (u := fun x => vl (divR f g).2 x - vl h x * absI (topI g) ^ divK f g) (v := scaleI (((topI g).natAbs ^ divK f g : Nat) : Int) m) hg (by rw [scaleI_len]; exact hl) (fun x => by
    have k := (divR_vl f g h2 x).2
    rw [z0 x, e x, Int.add_zero] at k
    rw [vl_scaleI, Int.natCast_pow]
    show _ = vl m x * absI (topI g) ^ divK f g
    grind)
  have := row_zero (isRow_scale (by omega) hm) q
  have := congrArg List.length this
  rw [scaleI_len] at this
  exact m0 (List.eq_nil_of_length_eq_zero this)

theorem r_quotient_of (n : Nat) (f g : List Int) {G b c : Nat} (h1 : g ≠ []) (hf : bd (2 ^ b) f) (hg : bd G g) (hG : G ≤ 2 ^ c) (hl : f.length ≤ 900) (hgl : g.length ≤ 900) (hb : b + divK f g * (c + 1) + c + 2 ≤ 133999000) :
    runF pr (n + 3) k_quotient_of [.tuple (zs f), .tuple (zs g)] = if trim (divR f g).1 = [] then .ok (.tuple (zs (lowR (trim (divR f g).2)))) else .ex 2 := by
  have hp : 0 < g.length := List.length_pos_iff.mpr h1
  obtain ⟨d, _, _⟩ := r_divided n f g h1 hf hg hG hl hgl hb
  have l : (divR f g).2.length ≤ 1000 := by
    unfold divR
    by_cases h : g.length ≤ f.length + 1
    · obtain ⟨_, k2, _⟩ := divN_vl g h1 0 (divK f g) f (List.replicate (divK f g) 0) (by unfold divK; omega) (by simp)
      rw [k2, List.length_replicate]
      unfold divK
      omega
    · have z : divK f g = 0 := by unfold divK; omega
      rw [z, divN]
      simp
  have lt := trim_len (divR f g).2
  have p := r_put_low n (trim (divR f g).2) (by omega)
  rw [st_quotient_of]
  have e : ¬ ((g.length : Int) = 0) := by omega
  by_cases z : trim (divR f g).1 = []
  · rw [if_pos z]
    rw [z] at d
    simp [b_quotient_of, h1, d, p]
  · rw [if_neg z]
    have z1 : 0 < (trim (divR f g).1).length := List.length_pos_iff.mpr z
    simp [b_quotient_of, h1, d, p, z1]
theorem r_quotient_of0 (n : Nat) (f : List Int) : runF pr (n + 1) k_quotient_of [.tuple (zs f), .tuple []] = .ex 2 := by
  rw [st_quotient_of]
  simp [b_quotient_of]

/-! the program's bare rows, as they are told -/
theorem slopeR_drv (f : List Int) : slopeR f = drv f := by
  unfold slopeR drv
  congr 1
  funext k
  rw [Nat.add_comm 1 k, Int.add_comm 1]
theorem r_slope_sl (n : Nat) (f : List Int) (hf : f.length ≤ 1000) {B : Nat} (hB : bd (2 ^ B) f) (hbb : B ≤ 800000) : runF pr (n + 2) k_slope [.tuple (zs f)] = .ok (.tuple (zs (slR f))) := by
  have h := r_slope n f hf hB (b := B + 1) (Nat.pow_lt_pow_right (by decide) (by omega)) (by omega)
  rw [slopeR_drv] at h
  exact h
theorem slR_len (f : List Int) : (slR f).length ≤ f.length - 1 := by
  have := trim_len (drv f)
  have : (drv f).length = f.length - 1 := by simp [drv]
  unfold slR
  omega
theorem r_shared_slope (n : Nat) {f : List Int} {N B : Nat} (hf : isRow f) (f0 : f ≠ []) (bf : bd (2 ^ B) f) (l : f.length ≤ N) (hN : N ≤ 100) (hA : (B + 8) * 5 ^ N ≤ 39000000 * 2 ^ N) :
    runF pr (n + 4) k_shared_row [.tuple (zs f), .tuple (zs (slR f))] = .ok (.tuple (zs (comR f))) := by
  have el := eu_len _ f (slR f) (Nat.le_refl _)
  have ls := slR_len f
  have pl := r_plain_row n (euR f (slR f)) (by omega)
  obtain ⟨w, _⟩ := sh_loop n (B + 8) N hN hA _ f (slR f) B (B + 7) (Nat.le_refl _) (ch_slope hf f0 bf l hN)
  rw [st_shared_row]
  simp [b_shared_row, w, pl]
  rfl
theorem r_bare_row (n : Nat) {f : List Int} {N B M : Nat} (hf : isRow f) (f0 : f ≠ []) (bf : bd (2 ^ B) f) (l : f.length ≤ N) (hN : N ≤ 100) (h2 : 2 ≤ N) (hA : (B + 8) * 5 ^ N ≤ 39000000 * 2 ^ N)
    (hM : (B + 8) * 5 ^ (N - 2) * 4 ≤ (M + 1) * 2 ^ N) (hB : B ≤ 800000) (hb : B + N * (M + 1) + M + 2 ≤ 133999000) :
    runF pr (n + 5) k_bare_row [.tuple (zs f)] = .ok (.tuple (zs (bareR f))) ∧ bd (2 ^ (B + N * (M + 1))) (bareR f) ∧ (bareR f).length ≤ f.length := by
  have hp : 0 < f.length := List.length_pos_iff.mpr f0
  have cb := com_bd hf f0 bf l hN h2 hM
  have bb := bare_bd hf f0 bf l cb
  have ic := com_is hf f0 (isRow_trim (drv f))
  obtain ⟨z, e⟩ := div_dv ic.rd ic.d0 ic.d1
  have z : trim (divR f (comR f)).1 = [] := z
  have e : ∀ x, vl (divR f (comR f)).2 x * vl (comR f) x = vl f x * absI (topI (comR f)) ^ divK f (comR f) := e
  have c0 : comR f ≠ [] := ic.d0
  have rd : isRow (comR f) := ic.rd
  have cl := Dv.len rd ic.d1 hf f0
  have cp : 0 < (comR f).length := List.length_pos_iff.mpr c0
  have k : divK f (comR f) ≤ N := by unfold divK; omega
  have km := Nat.mul_le_mul_right (M + 1) k
  have q := r_quotient_of (n + 1) f (comR f) c0 bf cb (Nat.le_refl _) (by omega) (by omega) (by omega)
  rw [if_pos z] at q
  have tl : (trim (divR f (comR f)).2).length ≤ f.length := Dv.len (isRow_trim _) ⟨absI (topI (comR f)) ^ divK f (comR f), comR f, absI_pow_ne rd c0 _, fun x => by rw [vl_trim, ← e x, Int.mul_comm]⟩ hf f0
  have ll := lowR_len (trim (divR f (comR f)).2)
  have p := r_plain_row (n + 1) (lowR (trim (divR f (comR f)).2)) (by omega)
  have s := r_slope_sl (n + 2) f (by omega) bf hB
  have sh := r_shared_slope n hf f0 bf l hN hA
  refine ⟨?_, bb⟩
  rw [st_bare_row]
  have hl : ¬ ((f.length : Int) = 0) := by omega
  simp [b_bare_row, f0, s, sh, q, p]
  rfl
theorem r_bare_rowE (n : Nat) {f : List Int} {N B M E : Nat} (hf : isRow f) (f0 : f ≠ []) (bf : bd (2 ^ B) f) (l : f.length ≤ N) (hN : N ≤ 100) (h2 : 2 ≤ N) (hA : (B + 8) * 5 ^ N ≤ 39000000 * 2 ^ N)
    (hM : (B + 8) * 5 ^ (N - 2) * 4 ≤ (M + 1) * 2 ^ N) (hB : B ≤ 800000) (hb : B + N * (M + 1) + M + 2 ≤ 133999000) (hE : B + N * (M + 1) ≤ E) :
    runF pr (n + 5) k_bare_row [.tuple (zs f)] = .ok (.tuple (zs (bareR f))) ∧ bd (2 ^ E) (bareR f) ∧ (bareR f).length ≤ f.length := by
  obtain ⟨a, b, c⟩ := r_bare_row n hf f0 bf l hN h2 hA hM hB hb
  exact ⟨a, bd_mono b (Nat.pow_le_pow_right (by decide) hE), c⟩
theorem com_of {f : List Int} (hf : isRow f) (f0 : f ≠ []) : IsCom f (slR f) (comR f) := com_is hf f0 (isRow_trim (drv f))
theorem com_one {f : List Int} (hf : isRow f) (f0 : f ≠ []) (sf : SF f) : (comR f).length = 1 := by
  have ic := com_of hf f0
  refine sf.coprime ic.rd ic.d0 ic.d1 (ic.d2.congr fun x => ?_)
  unfold slR
  exact vl_trim _ x

theorem eqD_00 : eqD (.list []) (.list []) = .ok true := by
  have h := eqD_lz [] []
  rw [zs_nil] at h
  rw [h]
  rfl
theorem r__law_trim (n : Nat) (d : D) (ns : List Int) (hd : d.seq = some (zs ns)) : runF pr (n + 1) k__law_trim [d] = .ok (.tuple (zs (trim ns))) := by
  rw [st__law_trim]
  have loop : ∀ k, k ≤ ns.length → whS (evt (tbl pr n) c__law_trim_1) (exS (tbl pr n) w__law_trim_1) [some (.sh d), some (.ow (zs (ns.take k)))] = .nx [some (.sh d), some (.ow (zs (ns.take (tlen ns k))))] := by
    intro k
    induction k with
    | zero => exact fun _ => wh_end (by simp [c__law_trim_1, zs_nil, eqD_00])
    | succ k ih =>
      intro hk
      have e0 : (ns.take (k + 1)).length = k + 1 := by simp; omega
      have e : ((ns.take (k + 1)).length : Int) - 1 = (k : Int) := by rw [e0]; omega
      have a := atI_zs (ns := ns.take (k + 1)) (k := k) (by omega)
      have e3 : (ns.take (k + 1))[k]? = ns[k]? := by rw [List.getElem?_take, if_pos (by omega)]
      rw [e3] at a
      have ne : ns.take (k + 1) ≠ [] := fun z => by rw [z] at e0; simp at e0
      have c : evt (tbl pr n) c__law_trim_1 [some (.sh d), some (.ow (zs (ns.take (k + 1))))] = .ok (decide (ns[k]?.getD 0 = 0)) := by
        simp only [c__law_trim_1, evt_tbop, evt_tbone, evt_tcmp, ev_var, ev_lst, evs_nil, ev_idx, ev_bin, ev_bi, evs_cons, ev_int, slotV_s, slotV_0o, upB_br, Res.bind_ok, shAll_nil, oOk_some, Res.map_ok, ne_v, d_br, d_nw, eqD_l0, decide_eq_false ne, Bool.not_false, if_true, len_b, zs_length, sub_i, e, idx_b, a, eq_v, d_cl, eqD_i]
      by_cases h0 : ns[k]?.getD 0 = 0
      · rw [tlen, if_pos h0, ← ih (by omega)]
        have dl : (ns.take (k + 1)).dropLast = ns.take k := by
          rw [List.dropLast_eq_take, e0, List.take_take]
          congr 1
          omega
        have gl : (zs (ns.take (k + 1)))[(ns.take (k + 1)).length - 1]? = some (.int (ns[k]?.getD 0)) := by
          rw [e0, Nat.add_sub_cancel, zs_get (by omega), e3]
        refine wh_step (by rw [c, h0]; rfl) ?_
        simp only [w__law_trim_1, exS_seq, exS_pop, owOf_s, owOf_0, Fl.on_some, zs_length, gl, zs_dropLast, dl, List.set_cons_succ, List.set_cons_zero, Fl.seq_nx, exS_skip]
      · rw [tlen, if_neg h0]
        exact wh_end (by rw [c, decide_eq_false h0])
  have l := loop ns.length (Nat.le_refl _)
  rw [List.take_length] at l
  have e1 : biV .list1 [.cl d] = .ok (.nw (zs ns)) := by
    show (oOk (Val.d (.cl d)).seq).map Val.nw = _
    rw [d_cl, hd]
    rfl
  simp [b__law_trim, e1, l, trim]
theorem r__law_trim_l (n : Nat) (ns : List Int) : runF pr (n + 1) k__law_trim [.list (zs ns)] = .ok (.tuple (zs (trim ns))) := r__law_trim n _ ns rfl

/-! ### the laws' own helpers -/
theorem r__law_cell (n : Nat) (ns : List Int) : ∃ c, runF pr (n + 1) k__law_cell [.list (zs ns), .int 0] = .ok (.int c) := by
  rw [st__law_cell]
  by_cases h : 0 < ns.length
  · have h' : (0 : Int) < ns.length := by omega
    have a := atI_zs (ns := ns) (k := 0) h
    rw [show ((0 : Nat) : Int) = 0 from rfl] at a
    exact ⟨_, by simp [b__law_cell, h, a]; rfl⟩
  · have e : ns = [] := List.eq_nil_of_length_eq_zero (by omega)
    subst e
    have m1 : MuOk 0 0 := mulOk_of (a := 8) (b := 8) (by omega) (by omega) (by omega)
    have m2 : MuOk 7 0 := mulOk_of (a := 8) (b := 8) (by omega) (by omega) (by omega)
    have m3 : MuOk 48271 11 := mulOk_of (a := 32) (b := 8) (by omega) (by omega) (by omega)
    have ec : cutD (zs []) none (some 3) = [] := cutD_take (zs []) 3
    exact ⟨_, by simp [b__law_cell, m1, m2, m3, ec, loopF]; rfl⟩
theorem idx2 (a b : Int) (t : Bool) : atI [PyData.int a, PyData.int b] (if t = true then 1 else 0) = some (.int (if t = true then b else a)) := by
  cases t <;> rfl
theorem r__law_numbers (n : Nat) (c : Int) (m : Nat) (hm : m ≤ 1000) : ∃ xs : List Int, runF pr (n + 1) k__law_numbers [.int c, .int (m : Int)] = .ok (.list (zs xs)) ∧ xs.length = m ∧ ∀ x ∈ xs, 0 ≤ x ∧ x < 2000000000 := by
  rw [st__law_numbers]
  have hb : big = 16777216 := rfl
  have loop : ∀ (dg st : Int) (u : Option Sl), 0 ≤ st → st < 1999999973 → ∃ η', loopF (foB (tbl pr n) 5 w__law_numbers_1) (rngD 0 m) [some (.sh (.int c)), some (.sh (.int m)), some (.ow []), some (.sh (.int st)), some (.sh (.int dg)), u] = .nx η' ∧
      ∃ xs a b d, η' = [some (.sh (.int c)), some (.sh (.int m)), some (.ow (zs xs)), a, b, d] ∧ xs.length = m ∧ ∀ x ∈ xs, 0 ≤ x ∧ x < 2000000000 := by
    intro dg st u h0 h1
    obtain ⟨η', e, xs, a, b, d, e2, hl, hx, _⟩ := loop_rng (f := foB (tbl pr n) 5 w__law_numbers_1) (lo := 0) (n := m)
      (R := fun k η => ∃ (xs : List Int) (st dg : Int) (d : Option Sl), η = [some (.sh (.int c)), some (.sh (.int m)), some (.ow (zs xs)), some (.sh (.int st)), some (.sh (.int dg)), d] ∧ xs.length = k ∧ (∀ x ∈ xs, 0 ≤ x ∧ x < 2000000000) ∧ 0 ≤ st ∧ st < 1999999973)
      (fun k η hk hR => by
        obtain ⟨xs, st, dg, d, rfl, hl, hx, h0, h1⟩ := hR
        have f0 := fmod_lo st (j := 65521) (by omega)
        have f1 := fmod_hi st (j := 65521) (by omega)
        have m1 : MuOk st (st.fmod 65521 + 40487) := mulOk_of (a := 32) (b := 20) (by omega) (by omega) (by omega)
        have m2 : MuOk 7 (k : Int) := mulOk_of (a := 8) (b := 20) (by omega) (by omega) (by omega)
        have dk : DivOk dg 1000000 := divOk_small (by omega) (by omega)
        have s1 : Sm (xs.length + 1) := show _ ≤ big by omega
        generalize hst : (st * (st.fmod 65521 + 40487) + 7 * (k : Int) + 5).fmod 1999999973 = st2
        have g0 : 0 ≤ st2 := by rw [← hst]; exact fmod_lo _ (by omega)
        have g1 : st2 < 1999999973 := by rw [← hst]; exact fmod_hi _ (by omega)
        generalize hz : (if decide (0 < dg) = true then dg.fmod 1000000 else st2) = z
        have z0 : 0 ≤ z ∧ z < 2000000000 := by
          rw [← hz]
          have q0 := fmod_lo dg (j := 1000000) (by omega)
          have q1 := fmod_hi dg (j := 1000000) (by omega)
          split <;> omega
        refine ⟨_, ?_, xs ++ [z], st2, dg.fdiv 1000000, some (.sh (.int k)), rfl, by simp [hl], fun x hx' => ?_, g0, g1⟩
        · simp only [foB, w__law_numbers_1, exS_seq, exS_asg, exS_app, exS_skip, ev_bin, ev_var, ev_int, ev_idx, ev_lst, ev_bi, ev_cmp, evs_cons, evs_nil, slotV_s, slotV_0, upB_cl, Res.bind_ok, mod_i, mul_i, add_i, asgV_cl, List.length_cons, List.length_nil, Fl.on_some, Fl.of_ok, Fl.seq_nx, List.set_cons_succ, List.set_cons_zero, Nat.reduceAdd, Nat.reduceLT, if_true, Int.zero_add,
            if_neg (show ¬ (65521 : Int) = 0 by omega), if_neg (show ¬ (1999999973 : Int) = 0 by omega), if_neg (show ¬ (1000000 : Int) = 0 by omega), if_pos m1, if_pos m2, hst, owOf_s, owOf_0, shAll_cl, shAll_nil, Option.map_some, oOk_some, Res.map_ok, gt_i, int_b, idx_n, idx2, hz, sh_cl, zs_length, if_pos s1, zs_snoc, fdiv_i, if_pos dk]
        · rcases List.mem_append.mp hx' with q | q
          · exact hx x q
          · rw [List.mem_singleton.mp q]; exact z0) _ ⟨[], st, dg, u, rfl, rfl, by simp, h0, h1⟩
    exact ⟨η', e, xs, _, _, _, e2, hl, hx⟩
  have f0 := fmod_lo c (j := 1999999973) (by omega)
  have f1 := fmod_hi c (j := 1999999973) (by omega)
  have m1 : MuOk (c.fmod 1999999973 + 31) 765432101 := mulOk_of (a := 32) (b := 32) (by omega) (by omega) (by omega)
  have p1 : PowOk 10 18 := ⟨by omega, by omega, by omega⟩
  generalize hst : ((c.fmod 1999999973 + 31) * 765432101).fmod 1999999973 = st
  have g0 : 0 ≤ st := by rw [← hst]; exact fmod_lo _ (by omega)
  have g1 : st < 1999999973 := by rw [← hst]; exact fmod_hi _ (by omega)
  by_cases hc : c < 0 ∨ (1000000000000000000 : Int) ≤ c
  · obtain ⟨η', e, xs, a, b, d, e2, hl, hx⟩ := loop (c.natAbs : Int) st none g0 g1
    refine ⟨xs, ?_, hl, hx⟩
    subst e2
    by_cases h0 : c < 0
    · simp [b__law_numbers, m1, hst, h0, small_nat (show m ≤ big by omega), e]
    · have h1 : (1000000000000000000 : Int) ≤ c := by omega
      simp [b__law_numbers, m1, hst, h0, p1, h1, small_nat (show m ≤ big by omega), e]
  · obtain ⟨η', e, xs, a, b, d, e2, hl, hx⟩ := loop 0 st none g0 g1
    refine ⟨xs, ?_, hl, hx⟩
    subst e2
    have h0 : ¬ c < 0 := fun z => hc (.inl z)
    have h1 : ¬ (1000000000000000000 : Int) ≤ c := fun z => hc (.inr z)
    simp [b__law_numbers, m1, hst, h0, p1, h1, small_nat (show m ≤ big by omega), e]

theorem r__law_times (n : Nat) (f g : List Int) (hf : f.length ≤ 1000) (hg : g.length ≤ 1000) {A B a b : Nat} (bf : bd A f) (bg : bd B g) (hA : A < 2 ^ a) (hB : B < 2 ^ b) (hab : a + b ≤ 133999990) :
    runF pr (n + 2) k__law_times [.tuple (zs f), .tuple (zs g)] = .ok (.tuple (zs (trim (mulR f g)))) := by
  rw [st__law_times]
  have hb : big = 16777216 := rfl
  have inner : ∀ (i : Nat) (hi : i < f.length) (acc : List Int) (u : Option Sl), acc.length = f.length + g.length →
      ∃ u', loopF (foB (tbl pr (n + 1)) 4 w__law_times_2) (rngD 0 g.length) [some (.sh (.tuple (zs f))), some (.sh (.tuple (zs g))), some (.ow (zs acc)), some (.sh (.int i)), u]
        = .nx [some (.sh (.tuple (zs f))), some (.sh (.tuple (zs g))), some (.ow (zs (mulRow f g acc i))), some (.sh (.int i)), u'] := by
    intro i hi acc u hl
    rw [rngD_zero]
    obtain ⟨η', h1, u', h2, _⟩ := loop_rel (α := Nat) (f := foB (tbl pr (n + 1)) 4 w__law_times_2) (g := fun (k : Nat) => PyData.int (k : Int)) (stp := mulStep f g i)
      (R := fun acc η => ∃ u, η = [some (.sh (.tuple (zs f))), some (.sh (.tuple (zs g))), some (.ow (zs acc)), some (.sh (.int i)), u] ∧ acc.length = f.length + g.length) (List.range g.length)
      (fun acc j η hj hR => by
        obtain ⟨u, rfl, hl⟩ := hR
        have hj := List.mem_range.mp hj
        have e1 : (i : Int) + (j : Int) = ((i + j : Nat) : Int) := by omega
        refine ⟨_, ?_, some (.sh (.int j)), rfl, by rw [mulStep_len]; exact hl⟩
        simp [foB, w__law_times_2, e1, -Int.natCast_add, atI_zs (show i + j < acc.length by omega), atI_zs hi, atI_zs hj, mulOk_bd (bd_get bf i) (bd_get bg j) hA hB hab, ixN_nat (show i + j < acc.length by omega), mulStep]) acc _ ⟨u, rfl, hl⟩
    exact ⟨u', by rw [h1, h2]; rfl⟩
  have outer : ∀ (u v : Option Sl), ∃ u' v', loopF (foB (tbl pr (n + 1)) 3 w__law_times_1) (rngD 0 f.length) [some (.sh (.tuple (zs f))), some (.sh (.tuple (zs g))), some (.ow (zs (List.replicate (f.length + g.length) 0))), u, v]
        = .nx [some (.sh (.tuple (zs f))), some (.sh (.tuple (zs g))), some (.ow (zs (mulR f g))), u', v'] := by
    intro u v
    rw [rngD_zero]
    obtain ⟨η', h1, u', v', h2, _⟩ := loop_rel (α := Nat) (f := foB (tbl pr (n + 1)) 3 w__law_times_1) (g := fun (k : Nat) => PyData.int (k : Int)) (stp := mulRow f g)
      (R := fun acc η => ∃ u v, η = [some (.sh (.tuple (zs f))), some (.sh (.tuple (zs g))), some (.ow (zs acc)), u, v] ∧ acc.length = f.length + g.length) (List.range f.length)
      (fun acc i η hi hR => by
        obtain ⟨u, v, rfl, hl⟩ := hR
        have hi := List.mem_range.mp hi
        obtain ⟨v', h⟩ := inner i hi acc v hl
        refine ⟨_, ?_, some (.sh (.int i)), v', rfl, by rw [mulRow_len]; exact hl⟩
        rw [foB]
        simp [w__law_times_1, small_nat (show g.length ≤ big by omega), h]) (List.replicate (f.length + g.length) 0) _ ⟨u, v, rfl, by simp⟩
    exact ⟨u', v', by rw [h1, h2]; rfl⟩
  obtain ⟨u', v', h⟩ := outer none none
  have e2 : (f.length : Int) + (g.length : Int) = ((f.length + g.length : Nat) : Int) := by omega
  have e3 : repL [PyData.int 0] ((f.length + g.length : Nat) : Int) = .ok (.nw (zs (List.replicate (f.length + g.length) 0))) := by
    rw [repL_one (by omega), zs_rep]
  simp [b__law_times, e2, -Int.natCast_add, zs_cons, zs_nil, e3, small_nat (show f.length ≤ big by omega), h, r__law_trim_l]

theorem zs_one (a : Int) : [PyData.int a] = zs [a] := rfl
theorem idx4 {i : Int} (h0 : 0 ≤ i) (h1 : i < 4) : ∃ s : Int, atI [PyData.int 9, .int 3, .int 1, .int 1000] i = some (.int s) ∧ 1 ≤ s ∧ s ≤ 1000 := by
  have h : i = 0 ∨ i = 1 ∨ i = 2 ∨ i = 3 := by omega
  rcases h with rfl | rfl | rfl | rfl
  · exact ⟨9, rfl, by omega, by omega⟩
  · exact ⟨3, rfl, by omega, by omega⟩
  · exact ⟨1, rfl, by omega, by omega⟩
  · exact ⟨1000, rfl, by omega, by omega⟩
theorem atI_0 {ns : List Int} (h : 0 < ns.length) : atI (zs ns) 0 = some (.int (ns[0]?.getD 0)) := atI_zs (k := 0) h
theorem atI_1 {ns : List Int} (h : 1 < ns.length) : atI (zs ns) 1 = some (.int (ns[1]?.getD 0)) := atI_zs (k := 1) h
theorem r__law_some_row (n : Nat) (xs : List Int) (most : Nat) (h2 : 2 ≤ xs.length) (h3 : xs.length ≤ 1000) (hm : most ≤ 100) :
    ∃ row, runF pr (n + 2) k__law_some_row [.list (zs xs), .int (most : Int)] = .ok (.tuple (zs row)) ∧ isRow row ∧ row.length ≤ most + 1 ∧ bd 1000 row := by
  rw [st__law_some_row]
  have hb : big = 16777216 := rfl
  generalize hx0 : xs[0]?.getD 0 = x0
  generalize hx1 : xs[1]?.getD 0 = x1
  have a0 : atI (zs xs) 0 = some (.int x0) := by rw [← hx0]; exact atI_0 (by omega)
  have a1 : atI (zs xs) 1 = some (.int x1) := by rw [← hx1]; exact atI_1 (by omega)
  obtain ⟨s, a4, s1, s2⟩ := idx4 (fmod_lo x0 (j := 4) (by omega)) (fmod_hi x0 (j := 4) (by omega))
  have f0 := fmod_lo x1 (j := (most : Int) + 1) (by omega)
  have f1 := fmod_hi x1 (j := (most : Int) + 1) (by omega)
  obtain ⟨jn, hj⟩ : ∃ jn : Nat, x1.fmod ((most : Int) + 1) = jn := ⟨(x1.fmod ((most : Int) + 1)).toNat, by omega⟩
  have e3 : (3 : Int) + (jn : Int) = ((3 + jn : Nat) : Int) := by omega
  have ec : cutD (zs xs) (some 2) (some ((3 + jn : Nat) : Int)) = zs ((xs.drop 2).take (3 + jn - 2)) := by
    have := cutD_both (zs xs) 2 (3 + jn)
    rw [show ((2 : Nat) : Int) = 2 from rfl] at this
    rw [this]
    simp
  generalize hys : (xs.drop 2).take (3 + jn - 2) = ys
  rw [hys] at ec
  have yl : ys.length ≤ most + 1 := by
    rw [← hys, List.length_take]
    omega
  have m1 : MuOk 2 s := mulOk_of (a := 8) (b := 20) (by omega) (by omega) (by omega)
  have c := ev_comp_map (T := tbl pr (n + 1)) (η := [some (.sh (.list (zs xs))), some (.sh (.int most)), some (.sh (.int s)), none]) (v := 3)
    (it := .itv (.sl (.var 0) (.sop (.int 2)) (.sop (.bin .add (.int 3) (.bin .mod (.idx (.var 0) (.int 1)) (.bin .add (.var 1) (.int 1)))))))
    (e := .bin .sub (.bin .mod (.var 3) (.bin .add (.bin .mul (.int 2) (.var 2)) (.int 1))) (.var 2))
    (w := .v (.nw (zs ys))) ys PyData.int (fun x => .int (x.fmod (2 * s + 1) - s)) rfl
    (by simp [a1, hj, e3, -Int.natCast_add, ec, if_neg (show ¬ (most : Int) + 1 = 0 by omega)]) rfl (by omega)
    (fun x _ => by simp [m1, if_neg (show ¬ 2 * s + 1 = 0 by omega)])
  have em : ys.map (fun x => PyData.int (x.fmod (2 * s + 1) - s)) = zs (ys.map fun x => x.fmod (2 * s + 1) - s) := by simp [zs]
  rw [em] at c
  refine ⟨trim (ys.map fun x => x.fmod (2 * s + 1) - s), ?_, isRow_trim _, Nat.le_trans (trim_len _) (by simpa using yl), bd_trim fun d hd => ?_⟩
  · simp [b__law_some_row, a0, a4, c, r__law_trim_l]
  · obtain ⟨x, _, rfl⟩ := List.mem_map.mp hd
    have q0 := fmod_lo x (j := 2 * s + 1) (by omega)
    have q1 := fmod_hi x (j := 2 * s + 1) (by omega)
    omega
/-- m factors put together -/
def Good (m : Nat) (f : List Int) : Prop := isRow f ∧ f.length ≤ m + 1 ∧ bd (4 * 128 ^ m) f
theorem Good.mono {m k : Nat} {f : List Int} (h : Good m f) (hk : m ≤ k) : Good k f :=
  ⟨h.1, by have := h.2.1; omega, bd_mono h.2.2 (Nat.mul_le_mul_left _ (Nat.pow_le_pow_right (by omega) hk))⟩
theorem Good.step {m : Nat} {f g : List Int} (h : Good m f) (hm : m ≤ 7) (hg : g.length = 2) (bg : bd 4 g) : Good (m + 1) (trim (mulR f g)) := by
  obtain ⟨h1, h2, h3⟩ := h
  refine ⟨isRow_trim _, ?_, bd_trim (bd_mono (mulR_bd h3 bg) ?_)⟩
  · have := mul_len f g
    omega
  · rw [hg, Nat.pow_succ]
    generalize 128 ^ m = M
    have : f.length * (2 * (4 * M * 4)) ≤ 16 * (2 * (4 * M * 4)) := Nat.mul_le_mul_right _ (by omega)
    omega
theorem Good.lt {m : Nat} (hm : m ≤ 7) : 4 * 128 ^ m < 2 ^ 64 := by
  have h : 128 ^ m ≤ 128 ^ 7 := Nat.pow_le_pow_right (by omega) hm
  have : (128 : Nat) ^ 7 = 562949953421312 := by decide
  omega
theorem r__law_planted (n : Nat) (xs : List Int) (h8 : 8 ≤ xs.length) : ∃ row, runF pr (n + 3) k__law_planted [.list (zs xs)] = .ok (.tuple (zs row)) ∧ Good 6 row := by
  rw [st__law_planted]
  have hb : big = 16777216 := rfl
  generalize hx0 : xs[0]?.getD 0 = x0
  generalize hx1 : xs[1]?.getD 0 = x1
  have a0 : atI (zs xs) 0 = some (.int x0) := by rw [← hx0]; exact atI_0 (by omega)
  have a1 : atI (zs xs) 1 = some (.int x1) := by rw [← hx1]; exact atI_1 (by omega)
  have c0 := fmod_lo x1 (j := 4) (by omega)
  have c1 := fmod_hi x1 (j := 4) (by omega)
  obtain ⟨cn, hc⟩ : ∃ cn : Nat, x1.fmod 4 = cn := ⟨(x1.fmod 4).toNat, by omega⟩
  -- the loop
  have loop : ∀ f, Good 0 f → ∀ u v w, ∃ η', loopF (foB (tbl pr (n + 2)) 2 w__law_planted_1) (rngD 0 cn) [some (.sh (.list (zs xs))), some (.sh (.tuple (zs f))), u, v, w] = .nx η' ∧
      ∃ f' u v w, η' = [some (.sh (.list (zs xs))), some (.sh (.tuple (zs f'))), u, v, w] ∧ Good 6 f' := by
    intro f gf u v w
    obtain ⟨η', e, f', u', v', w', e2, gf'⟩ := loop_rng (f := foB (tbl pr (n + 2)) 2 w__law_planted_1) (lo := 0) (n := cn)
      (R := fun k η => ∃ f u v w, η = [some (.sh (.list (zs xs))), some (.sh (.tuple (zs f))), u, v, w] ∧ Good (2 * k) f)
      (fun k η hk hR => by
        obtain ⟨f, u, v, w, rfl, gf⟩ := hR
        have ei2 : (2 : Int) + 2 * (k : Int) = ((2 + 2 * k : Nat) : Int) := by omega
        have ei3 : (3 : Int) + 2 * (k : Int) = ((3 + 2 * k : Nat) : Int) := by omega
        generalize hy2 : xs[2 + 2 * k]?.getD 0 = y2
        generalize hy3 : xs[3 + 2 * k]?.getD 0 = y3
        have a2 : atI (zs xs) ((2 + 2 * k : Nat) : Int) = some (.int y2) := by rw [← hy2]; exact atI_zs (by omega)
        have a3 : atI (zs xs) ((3 + 2 * k : Nat) : Int) = some (.int y3) := by rw [← hy3]; exact atI_zs (by omega)
        have m1 : MuOk 2 (k : Int) := mulOk_of (a := 8) (b := 20) (by omega) (by omega) (by omega)
        have d9 : DivOk y2 9 := divOk_small (by omega) (by omega)
        have p0 := fmod_lo y2 (j := 9) (by omega)
        have p1 := fmod_hi y2 (j := 9) (by omega)
        have p2 := fmod_lo y3 (j := 3) (by omega)
        have p3 := fmod_hi y3 (j := 3) (by omega)
        have r0 := fmod_lo (y2.fdiv 9) (j := 2) (by omega)
        have r1 := fmod_hi (y2.fdiv 9) (j := 2) (by omega)
        obtain ⟨rn, hr⟩ : ∃ rn : Nat, 1 + (y2.fdiv 9).fmod 2 = rn := ⟨(1 + (y2.fdiv 9).fmod 2).toNat, by omega⟩
        generalize hfac : [y2.fmod 9 - 4, 1 + y3.fmod 3] = fac
        have ef : [PyData.int (y2.fmod 9 - 4), PyData.int (1 + y3.fmod 3)] = zs fac := by rw [← hfac]; rfl
        have fl : fac.length = 2 := by rw [← hfac]; rfl
        have fb : bd 4 fac := fun c hc => by
          rw [← hfac] at hc
          simp only [List.mem_cons, List.not_mem_nil, or_false] at hc
          rcases hc with rfl | rfl <;> omega
        obtain ⟨η', e, f', w', e2, gf'⟩ := loop_rng (f := foB (tbl pr (n + 2)) 4 w__law_planted_2) (lo := 0) (n := rn)
          (R := fun j η => ∃ f w, η = [some (.sh (.list (zs xs))), some (.sh (.tuple (zs f))), some (.sh (.int (k : Int))), some (.sh (.tuple (zs fac))), w] ∧ Good (2 * k + j) f)
          (fun j η hj hR => by
            obtain ⟨f, w, rfl, gf⟩ := hR
            have ht := r__law_times n f fac (by have := gf.2.1; omega) (by omega) gf.2.2 fb (Good.lt (by omega)) (show 4 < 2 ^ 3 by omega) (by omega)
            exact ⟨_, by simp [foB, w__law_planted_2, ht]; rfl, _, _, rfl, gf.step (by omega) fl fb⟩) _ ⟨f, w, rfl, gf⟩
        subst e2
        refine ⟨_, ?_, f', some (.sh (.int (k : Int))), some (.sh (.tuple (zs fac))), w', rfl, gf'.mono (by omega)⟩
        rw [foB]
        simp [w__law_planted_1, m1, ei2, ei3, -Int.natCast_add, -Int.natCast_mul, a2, a3, d9, ef, hr, small_nat (show rn ≤ big by omega), e]) _ ⟨f, u, v, w, rfl, gf⟩
    exact ⟨η', e, f', u', v', w', e2, gf'.mono (by omega)⟩
  have d3 : DivOk x0 3 := divOk_small (by omega) (by omega)
  have z0 := fmod_lo x0 (j := 3) (by omega)
  have z1 := fmod_hi x0 (j := 3) (by omega)
  have one : ∀ c : Int, c ≠ 0 → c.natAbs ≤ 4 → Good 0 [c] := fun c h0 h1 => ⟨isRow_of (by simpa using h0), by simp, fun d hd => by rw [List.mem_singleton.mp hd]; simpa using h1⟩
  by_cases hw : (x0.fdiv 3).fmod 2 = 1
  · obtain ⟨η', e, f', u, v, w, e2, gf⟩ := loop [-1 - x0.fmod 3] (one _ (by omega) (by omega)) none none none
    subst e2
    exact ⟨f', by simp [b__law_planted, a0, a1, d3, hw, zs_one, hc, small_nat (show cn ≤ big by omega), e], gf⟩
  · obtain ⟨η', e, f', u, v, w, e2, gf⟩ := loop [1 + x0.fmod 3] (one _ (by omega) (by omega)) none none none
    subst e2
    exact ⟨f', by simp [b__law_planted, a0, a1, d3, hw, zs_one, hc, small_nat (show cn ≤ big by omega), e], gf⟩

/-- a row that a law draws -/
def Drawn1 (f : List Int) : Prop := isRow f ∧ f.length ≤ 9 ∧ bd (2 ^ 60) f
theorem r__law_row (n : Nat) (c : Int) (most : Nat) (hm : most ≤ 8) : ∃ row, runF pr (n + 4) k__law_row [.int c, .int (most : Int)] = .ok (.tuple (zs row)) ∧ Drawn1 row := by
  rw [st__law_row]
  have hb : big = 16777216 := rfl
  obtain ⟨xs, hn, hl, hx⟩ := r__law_numbers (n + 2) c 22 (by omega)
  rw [show ((22 : Nat) : Int) = 22 from rfl] at hn
  generalize hx0 : xs[0]?.getD 0 = x0
  have a0 : atI (zs xs) 0 = some (.int x0) := by rw [← hx0]; exact atI_0 (by omega)
  have c1 : cutD (zs xs) (some 1) none = zs (xs.drop 1) := by
    have := cutD_drop (zs xs) 1
    rw [show ((1 : Nat) : Int) = 1 from rfl] at this
    rw [this, zs_drop]
  have c12 : cutD (zs xs) (some 12) none = zs (xs.drop 12) := by
    have := cutD_drop (zs xs) 12
    rw [show ((12 : Nat) : Int) = 12 from rfl] at this
    rw [this, zs_drop]
  have c15 : cutD (zs xs) (some 1) (some 5) = zs ((xs.drop 1).take 4) := by
    have := cutD_both (zs xs) 1 5
    rw [show ((1 : Nat) : Int) = 1 from rfl, show ((5 : Nat) : Int) = 5 from rfl] at this
    rw [this, zs_drop, zs_take]
  have ly1 : (xs.drop 1).length = 21 := by rw [List.length_drop]; omega
  have ly12 : (xs.drop 12).length = 10 := by rw [List.length_drop]; omega
  have ly15 : ((xs.drop 1).take 4).length = 4 := by rw [List.length_take]; omega
  generalize (xs.drop 1).take 4 = y15 at c15 ly15
  generalize xs.drop 1 = y1 at c1 ly1
  generalize xs.drop 12 = y12 at c12 ly12
  have good : ∀ {f}, Good 6 f → Drawn1 f := fun {f} g => ⟨g.1, by have := g.2.1; omega, bd_mono g.2.2 (by decide)⟩
  have some_ : ∀ {f : List Int} {m : Nat}, isRow f → f.length ≤ m + 1 → m ≤ 8 → bd 1000 f → Drawn1 f := fun {f m} h1 h2 h3 h4 => ⟨h1, by omega, bd_mono h4 (by decide)⟩
  by_cases w0 : x0.fmod 5 = 0
  · obtain ⟨row, h1, h2⟩ := r__law_planted n y1 (by omega)
    exact ⟨row, by simp [b__law_row, hn, a0, w0, c1, h1], good h2⟩
  · by_cases w1 : x0.fmod 5 = 1
    · obtain ⟨z6, e6, lz6⟩ : ∃ z6 : List Int, repL [PyData.int 0] 6 = .ok (.nw (zs z6)) ∧ z6.length = 6 := by
        have := repL_one (d := .int 0) (k := 6) (by omega)
        rw [show ((6 : Nat) : Int) = 6 from rfl] at this
        exact ⟨List.replicate 6 0, by rw [this, zs_rep], by simp⟩
      obtain ⟨p, cat, lp⟩ : ∃ p : List Int, catL (zs y15) (zs z6) = .ok (.nw (zs p)) ∧ p.length = 10 :=
        ⟨y15 ++ z6, by rw [catL_ok (by rw [zs_length, zs_length]; omega), zs_append], by rw [List.length_append]; omega⟩
      obtain ⟨r1, h1, g1⟩ := r__law_planted n p (by omega)
      obtain ⟨r2, h2, i2, l2, b2⟩ := r__law_some_row (n + 1) y12 2 (by omega) (by omega) (by omega)
      rw [show ((2 : Nat) : Int) = 2 from rfl] at h2
      have l1 := g1.2.1
      have h3 := r__law_times (n + 1) r1 r2 (by omega) (by omega) g1.2.2 b2 (Good.lt (by omega)) (show 1000 < 2 ^ 10 by omega) (by omega)
      refine ⟨trim (mulR r1 r2), ?_, isRow_trim _, ?_, bd_trim (bd_mono (mulR_bd g1.2.2 b2) ?_)⟩
      · simp [b__law_row, hn, a0, w0, w1, c15, c12, e6, cat, h1, h2, h3]
      · have := mul_len r1 r2
        omega
      · have e : 4 * 128 ^ 6 = 17592186044416 := by decide
        rw [e]
        have : r1.length * (r2.length * (17592186044416 * 1000)) ≤ 13 * (3 * (17592186044416 * 1000)) := Nat.mul_le_mul (by omega) (Nat.mul_le_mul_right _ (by omega))
        omega
    · by_cases w2 : x0.fmod 5 = 2
      · obtain ⟨r1, h1, i1, l1, b1⟩ := r__law_some_row (n + 1) y1 2 (by omega) (by omega) (by omega)
        obtain ⟨r2, h2, i2, l2, b2⟩ := r__law_some_row (n + 1) y12 2 (by omega) (by omega) (by omega)
        rw [show ((2 : Nat) : Int) = 2 from rfl] at h1 h2
        have h3 := r__law_times (n + 1) r1 r2 (by omega) (by omega) b1 b2 (show 1000 < 2 ^ 10 by omega) (show 1000 < 2 ^ 10 by omega) (by omega)
        refine ⟨trim (mulR r1 r2), ?_, isRow_trim _, ?_, bd_trim (bd_mono (mulR_bd b1 b2) ?_)⟩
        · simp [b__law_row, hn, a0, w0, w1, w2, c1, c12, h1, h2, h3]
        · have := mul_len r1 r2
          omega
        · have : r1.length * (r2.length * (1000 * 1000)) ≤ 3 * (3 * (1000 * 1000)) := Nat.mul_le_mul (by omega) (Nat.mul_le_mul_right _ (by omega))
          omega
      · obtain ⟨r1, h1, i1, l1, b1⟩ := r__law_some_row (n + 1) y1 most (by omega) (by omega) (by omega)
        exact ⟨r1, by simp [b__law_row, hn, a0, w0, w1, w2, c1, h1], some_ i1 l1 hm b1⟩

/-! ### the law's own division -/
def leftR (g r : List Int) : List Int := subTo (topI r * topI g) g (r.length - g.length) (scaleI (topI g * topI g) r.dropLast) (g.length - 1)
def leftN (g : List Int) : Nat → List Int → List Int
  | 0, r => r
  | n + 1, r => leftN g n (leftR g r)
theorem leftR_len (g r : List Int) : (leftR g r).length = r.length - 1 := by
  unfold leftR
  rw [subTo_len, scaleI_len, List.length_dropLast]
theorem dropLast_get (f : List Int) (k : Nat) (h : k < f.length - 1) : f.dropLast[k]?.getD 0 = f[k]?.getD 0 := by
  rw [List.dropLast_eq_take, List.getElem?_take, if_pos h]
theorem much_abs (g r : List Int) : absI (topI g) * muchI g r = topI r * topI g := by
  unfold muchI absI
  split
  · rw [show ((topI g).natAbs : Int) = - topI g by omega]
    grind
  · rw [show ((topI g).natAbs : Int) = topI g by omega]
    grind
theorem topI_scale (C : Int) (r : List Int) : topI (scaleI C r) = topI r * C := by
  unfold topI
  rw [scaleI_len, scaleI_get]
theorem leftR_scale (g r : List Int) (C : Int) (h1 : g ≠ []) (h2 : g.length ≤ r.length) : leftR g (scaleI C r) = scaleI (C * absI (topI g)) (stepR g r) := by
  have hp : 0 < g.length := List.length_pos_iff.mpr h1
  refine getD_ext (by rw [leftR_len, scaleI_len, scaleI_len, stepR_len]) fun k => ?_
  rw [scaleI_get]
  by_cases hk : k < r.length - 1
  · unfold leftR stepR
    rw [subTo_get _ _ _ _ _ (by simp; omega), scaleI_get, dropLast_get _ _ (by rw [scaleI_len]; exact hk), scaleI_get, dropLast_get _ _ (by rw [fullR_len]; exact hk)]
    unfold fullR
    rw [subTo_get _ _ _ _ _ (by rw [scaleI_len]; omega), scaleI_get, scaleI_len, topI_scale]
    have e := much_abs g r
    have e2 : absI (topI g) * absI (topI g) = topI g * topI g := by unfold absI; exact Int.natAbs_mul_self' _
    by_cases q : r.length - g.length ≤ k
    · rw [if_pos (by omega), if_pos (by omega)]
      grind
    · rw [if_neg (by omega), if_neg (by omega)]
      grind
  · rw [List.getElem?_eq_none (by rw [leftR_len, scaleI_len]; omega), List.getElem?_eq_none (by rw [stepR_len]; omega)]
    simp
theorem leftN_scale (g : List Int) (h1 : g ≠ []) : ∀ (n : Nat) (r q : List Int) (C : Int), r.length + 1 = g.length + n → leftN g n (scaleI C r) = scaleI (C * absI (topI g) ^ n) (divN g n r q).1
  | 0, r, q, C, _ => by rw [leftN, divN, Int.pow_zero, Int.mul_one]
  | n + 1, r, q, C, h => by
    have hp : 0 < g.length := List.length_pos_iff.mpr h1
    rw [leftN, divN, leftR_scale g r C h1 (by omega), leftN_scale g h1 n (stepR g r) (stepQ g r q) _ (by rw [stepR_len]; omega), Int.pow_succ]
    congr 1
    grind
theorem leftR_bd {B G : Nat} {g r : List Int} (hr : bd B r) (hg : bd G g) (h1 : g ≠ []) (h2 : g.length ≤ r.length) : bd (B * (G * G) * 2) (leftR g r) := by
  have hp : 0 < g.length := List.length_pos_iff.mpr h1
  have hg' := bd_get hg (g.length - 1)
  have hr' := bd_get hr (r.length - 1)
  have a : (topI g * topI g).natAbs ≤ G * G := by rw [Int.natAbs_mul]; exact Nat.mul_le_mul hg' hg'
  have b : (topI r * topI g).natAbs ≤ B * G := by rw [Int.natAbs_mul]; exact Nat.mul_le_mul hr' hg'
  refine bd_mono (subTo_bd (bd_scale (bd_dropLast hr) a) b hg (by rw [scaleI_len, List.length_dropLast]; omega)) ?_
  rw [Nat.mul_assoc B G G]
  omega
theorem left_inner (n : Nat) (e0 e7 : Option Sl) (g r : List Int) (t l : Int) (s : Nat) {G b c : Nat} (ht : t.natAbs ≤ 2 ^ b) (hl : l.natAbs ≤ 2 ^ c) (hg : bd G g) (hG : G ≤ 2 ^ c) (hbc : b + c + c + 4 ≤ 133999000) (h1 : g ≠ []) (hs : s + (g.length - 1) ≤ r.length) (hgl : g.length ≤ big) (u6 : Option Sl) :
    ∃ u6', loopF (foB (tbl pr n) 6 w__law_left_2) (rngD 0 (g.length - 1)) [e0, some (.sh (.tuple (zs g))), some (.sh (.int l)), some (.ow (zs r)), some (.sh (.int t)), some (.sh (.int (s : Int))), u6, e7]
      = .nx [e0, some (.sh (.tuple (zs g))), some (.sh (.int l)), some (.ow (zs (subTo (t * l) g s r (g.length - 1)))), some (.sh (.int t)), some (.sh (.int (s : Int))), u6', e7] := by
  obtain ⟨η', h1, u, h2⟩ := loop_rng (f := foB (tbl pr n) 6 w__law_left_2) (lo := 0) (n := g.length - 1)
    (R := fun k η => ∃ u, η = [e0, some (.sh (.tuple (zs g))), some (.sh (.int l)), some (.ow (zs (subTo (t * l) g s r k))), some (.sh (.int t)), some (.sh (.int (s : Int))), u, e7])
    (fun k η hk hR => by
      obtain ⟨u, rfl⟩ := hR
      have sl : (subTo (t * l) g s r k).length = r.length := subTo_len _ _ _ _ _
      have e1 : (s : Int) + (k : Int) = ((s + k : Nat) : Int) := by omega
      have m1 : MuOk t l := mulOk_of (a := b + 1) (b := c + 1) (Nat.lt_of_le_of_lt ht (Nat.pow_lt_pow_right (by omega) (by omega))) (Nat.lt_of_le_of_lt hl (Nat.pow_lt_pow_right (by omega) (by omega))) (by omega)
      have m2 : (t * l).natAbs < 2 ^ (b + c + 1) := by
        rw [Int.natAbs_mul]
        have := Nat.mul_le_mul ht hl
        rw [← Nat.pow_add] at this
        exact Nat.lt_of_le_of_lt this (Nat.pow_lt_pow_right (by omega) (by omega))
      have mk : MuOk (t * l) (g[k]?.getD 0) := mulOk_of (a := b + c + 1) (b := c + 1) m2 (Nat.lt_of_le_of_lt (bd_get hg k) (Nat.lt_of_le_of_lt hG (Nat.pow_lt_pow_right (by omega) (by omega)))) (by omega)
      have a1 := atI_zs (ns := subTo (t * l) g s r k) (k := s + k) (by omega)
      have a2 := atI_zs (ns := g) (k := k) (by omega)
      have x1 := ixN_nat (n := (subTo (t * l) g s r k).length) (k := s + k) (by omega)
      refine ⟨_, ?_, some (.sh (.int k)), rfl⟩
      rw [Int.zero_add]
      simp [foB, w__law_left_2, e1, -Int.natCast_add, a1, a2, m1, mk, x1, subTo]) [e0, some (.sh (.tuple (zs g))), some (.sh (.int l)), some (.ow (zs r)), some (.sh (.int t)), some (.sh (.int (s : Int))), u6, e7] ⟨u6, rfl⟩
  exact ⟨u, by rw [h1, h2]⟩
theorem left_turn (n : Nat) (e0 : Option Sl) (g r : List Int) (u4 u5 u6 : Option Sl) {G b c : Nat} (hr : bd (2 ^ b) r) (hg : bd G g) (hG : G ≤ 2 ^ c) (hbc : b + c + c + 4 ≤ 133999000) (h1 : g ≠ []) (h2 : g.length ≤ r.length) (hl : r.length ≤ 1000) :
    ∃ u4' u5' u6', exS (tbl pr n) w__law_left_1 [e0, some (.sh (.tuple (zs g))), some (.sh (.int (topI g))), some (.ow (zs r)), u4, u5, u6, none]
      = .nx [e0, some (.sh (.tuple (zs g))), some (.sh (.int (topI g))), some (.ow (zs (leftR g r))), u4', u5', u6', none] := by
  have hb : big = 16777216 := rfl
  have hp : 0 < g.length := List.length_pos_iff.mpr h1
  have tg : (topI g).natAbs ≤ 2 ^ c := Nat.le_trans (bd_get hg _) hG
  have p2 : (2 : Nat) ^ c < 2 ^ (c + 1) := Nat.pow_lt_pow_right (by omega) (by omega)
  have m1 : ∀ x : Int, x.natAbs ≤ 2 ^ b → MuOk x (topI g) := fun x hx => mulOk_of (a := b + 1) (b := c + 1) (Nat.lt_of_le_of_lt hx (Nat.pow_lt_pow_right (by omega) (by omega))) (by omega) (by omega)
  have m2 : ∀ x : Int, x.natAbs ≤ 2 ^ b → MuOk (x * topI g) (topI g) := fun x hx => mulOk_of (a := b + c + 1) (b := c + 1) (by
    rw [Int.natAbs_mul]
    have := Nat.mul_le_mul hx tg
    rw [← Nat.pow_add] at this
    exact Nat.lt_of_le_of_lt this (Nat.pow_lt_pow_right (by omega) (by omega))) (by omega) (by omega)
  have last : (zs r)[r.length - 1]? = some (.int (topI r)) := zs_get (by omega)
  have dl : r.dropLast.length = r.length - 1 := List.length_dropLast
  have es : ((r.length - 1 : Nat) : Int) - (g.length : Int) + 1 = ((r.length - g.length : Nat) : Int) := by omega
  have c1 : ∀ a4 a5 : Option Sl, ev (tbl pr n) (.comp 7 (.itv (.var 3)) .nop (.bin .mul (.bin .mul (.var 7) (.var 2)) (.var 2))) [e0, some (.sh (.tuple (zs g))), some (.sh (.int (topI g))), some (.ow (zs r.dropLast)), a4, a5, u6, none] = .ok (.nw (zs (scaleI (topI g * topI g) r.dropLast))) := fun a4 a5 => by
    rw [ev_comp_map (w := .v (.br 3 (zs r.dropLast))) r.dropLast PyData.int (fun x => .int (x * (topI g * topI g))) rfl (by simp) rfl (by rw [dl]; omega) (fun x hx => by simp [m1 x (bd_dropLast hr x hx), m2 x (bd_dropLast hr x hx), Int.mul_assoc])]
    simp [zs, scaleI]
    rfl
  have eg : (g.length : Int) - 1 = ((g.length - 1 : Nat) : Int) := by omega
  obtain ⟨u6', inn⟩ := left_inner n e0 none g (scaleI (topI g * topI g) r.dropLast) (topI r) (topI g) (r.length - g.length) (G := G) (b := b) (c := c) (bd_get hr _) tg hg hG hbc h1 (by rw [scaleI_len, dl]; omega) (by omega) u6
  have sg := small_nat (show g.length - 1 ≤ big by omega)
  exact ⟨_, _, _, by
    simp [w__law_left_1, last, dl, es, c1, eg, sg, inn, leftR]
    exact ⟨rfl, rfl, rfl⟩⟩
theorem left_loop (n : Nat) (e0 : Option Sl) (g : List Int) {G c : Nat} (hg : bd G g) (hG : G ≤ 2 ^ c) (h1 : g ≠ []) : ∀ (k b : Nat) (r : List Int) (u4 u5 u6 : Option Sl), bd (2 ^ b) r → b + k * (c + c + 1) + c + c + 4 ≤ 133999000 → r.length ≤ 1000 →
    r.length + 1 = g.length + k → ∃ u4' u5' u6', whS (evt (tbl pr n) c__law_left_1) (exS (tbl pr n) w__law_left_1) [e0, some (.sh (.tuple (zs g))), some (.sh (.int (topI g))), some (.ow (zs r)), u4, u5, u6, none]
      = .nx [e0, some (.sh (.tuple (zs g))), some (.sh (.int (topI g))), some (.ow (zs (leftN g k r))), u4', u5', u6', none]
  | 0, b, r, u4, u5, u6, hr, hb, _, hl => ⟨u4, u5, u6, wh_end (by
      have : ¬ (g.length : Int) ≤ (r.length : Int) := by omega
      simp [c__law_left_1]
      omega)⟩
  | k + 1, b, r, u4, u5, u6, hr, hb, l1, hl => by
    have hp : 0 < g.length := List.length_pos_iff.mpr h1
    have hkc : (k + 1) * (c + c + 1) = k * (c + c + 1) + (c + c + 1) := Nat.succ_mul _ _
    obtain ⟨a4, a5, a6, t⟩ := left_turn n e0 g r u4 u5 u6 hr hg hG (by omega) h1 (by omega) l1
    have br : bd (2 ^ (b + (c + c + 1))) (leftR g r) := bd_mono (leftR_bd hr hg h1 (by omega)) (by
      have := Nat.mul_le_mul_right 2 (Nat.mul_le_mul_left (2 ^ b) (Nat.mul_le_mul hG hG))
      rw [← Nat.pow_add, ← Nat.pow_add, ← Nat.pow_succ] at this
      exact this)
    obtain ⟨u4', u5', u6', h⟩ := left_loop n e0 g hg hG h1 k (b + (c + c + 1)) (leftR g r) a4 a5 a6 br (by omega) (by rw [leftR_len]; omega) (by rw [leftR_len]; omega)
    refine ⟨u4', u5', u6', ?_⟩
    rw [wh_step (η' := [e0, some (.sh (.tuple (zs g))), some (.sh (.int (topI g))), some (.ow (zs (leftR g r))), a4, a5, a6, none]) (by
      have : (g.length : Int) ≤ (r.length : Int) := by omega
      simp [c__law_left_1]
      omega) t]
    exact h
theorem scaleI_one (r : List Int) : scaleI 1 r = r := by simp [scaleI]
theorem r__law_left (n : Nat) (f g : List Int) {G b c : Nat} (h1 : g ≠ []) (hf : bd (2 ^ b) f) (hg : bd G g) (hG : G ≤ 2 ^ c) (hl : f.length ≤ 900) (hb : b + divK f g * (c + c + 1) + c + c + 4 ≤ 133999000) :
    runF pr (n + 2) k__law_left [.tuple (zs f), .tuple (zs g)] = .ok (.tuple (zs (trim (scaleI (absI (topI g) ^ divK f g) (divR f g).1)))) := by
  have hp : 0 < g.length := List.length_pos_iff.mpr h1
  have eg : (g.length : Int) - 1 = ((g.length - 1 : Nat) : Int) := by omega
  have a1 : atI (zs g) ((g.length - 1 : Nat) : Int) = some (.int (topI g)) := atI_zs (by omega)
  have fin : ∃ u4 u5 u6, whS (evt (tbl pr (n + 1)) c__law_left_1) (exS (tbl pr (n + 1)) w__law_left_1) [some (.sh (.tuple (zs f))), some (.sh (.tuple (zs g))), some (.sh (.int (topI g))), some (.ow (zs f)), none, none, none, none]
      = .nx [some (.sh (.tuple (zs f))), some (.sh (.tuple (zs g))), some (.sh (.int (topI g))), some (.ow (zs (scaleI (absI (topI g) ^ divK f g) (divR f g).1))), u4, u5, u6, none] := by
    by_cases h : g.length ≤ f.length + 1
    · obtain ⟨u4, u5, u6, w⟩ := left_loop (n + 1) (some (.sh (.tuple (zs f)))) g hg hG h1 (divK f g) b f none none none hf (by omega) (by omega) (by unfold divK; omega)
      refine ⟨u4, u5, u6, ?_⟩
      rw [w]
      have := leftN_scale g h1 (divK f g) f (List.replicate (divK f g) 0) 1 (by unfold divK; omega)
      rw [scaleI_one, Int.one_mul] at this
      rw [this]
      rfl
    · have z : divK f g = 0 := by unfold divK; omega
      refine ⟨none, none, none, ?_⟩
      unfold divR
      rw [z, divN, Int.pow_zero, scaleI_one]
      exact wh_end (by
        have : ¬ (g.length : Int) ≤ (f.length : Int) := by omega
        simp [c__law_left_1]
        omega)
  obtain ⟨u4, u5, u6, w⟩ := fin
  rw [st__law_left]
  simp [b__law_left, eg, a1, w, r__law_trim_l]
theorem due_eq (f g : List Int) (hg : isRow g) (h : g ≠ []) : lowR (trim (scaleI (absI (topI g) ^ divK f g) (divR f g).1)) = restR f g := by
  have hL : 0 < (topI g).natAbs := by
    have := isRow_last hg h
    unfold topI
    omega
  unfold restR
  refine low_alike (isRow_trim _) (isRow_trim _) (c := 1) (d := (topI g).natAbs ^ divK f g) (by omega) (Nat.pow_pos hL) (N := 0) fun x _ => ?_
  rw [vl_trim, vl_scaleI, vl_trim, Int.natCast_pow]
  show _ * _ ^ _ * _ = _
  unfold absI
  simp

theorem r__law_put_low (n : Nat) (f : List Int) (hf : isRow f) (hl : f.length ≤ 1000) : runF pr (n + 1) k__law_put_low [.tuple (zs f)] = .ok (.tuple (zs (lowR f))) := by
  rw [st__law_put_low]
  have hb : big = 16777216 := rfl
  have loop : ∀ b a : Nat, whS (evt (tbl pr n) c__law_put_low_2) (exS (tbl pr n) w__law_put_low_2) [some (.sh (.tuple (zs f))), some (.sh (.int (a : Int))), some (.sh (.int (b : Int)))] = .nx [some (.sh (.tuple (zs f))), some (.sh (.int ((Nat.gcd a b : Nat) : Int))), some (.sh (.int 0))] := by
    intro b
    induction b using Nat.strongRecOn with
    | ind b ih =>
      intro a
      by_cases h : b = 0
      · subst h
        rw [Nat.gcd_zero_right]
        exact wh_end (by simp [c__law_put_low_2])
      · rw [gcd_step, ← ih (a % b) (Nat.mod_lt _ (by omega)) b]
        have e : ¬ (b : Int) = 0 := by omega
        have e2 : (0 : Int) < (b : Int) := by omega
        refine wh_step (by simp only [c__law_put_low_2, evt_tcmp, ev_var, slotV_s, slotV_0, upB_cl, Res.bind_ok, ev_int, gt_i, decide_eq_true e2]) ?_
        simp [w__law_put_low_2, h, e, fmod_nat, -Int.natCast_emod]
  obtain ⟨η', e, u, e2, hu⟩ := loop_rel (α := Int) (f := foB (tbl pr n) 2 w__law_put_low_1) (g := PyData.int) (stp := fun (p : Nat) c => Nat.gcd p c.natAbs) (σ := Nat)
    (R := fun (p : Nat) η => ∃ u, η = [some (.sh (.tuple (zs f))), some (.sh (.int (p : Int))), u] ∧ nOw u) f
    (fun (p : Nat) c η hc hR => by
      obtain ⟨u, rfl, _⟩ := hR
      refine ⟨_, ?_, some (.sh (.int 0)), rfl, trivial⟩
      simp [foB, w__law_put_low_1, loop]) 0 [some (.sh (.tuple (zs f))), some (.sh (.int 0)), none] ⟨none, rfl, trivial⟩
  subst e2
  change loopF _ (zs f) _ = .nx [some (.sh (.tuple (zs f))), some (.sh (.int ((rowG f : Nat) : Int))), u] at e
  have c := ev_comp_map (T := tbl pr n) (η := [some (.sh (.tuple (zs f))), some (.sh (.int ((rowG f : Nat) : Int))), u]) (v := 2) (it := .itv (.var 0)) (e := .bin .fdiv (.var 2) (.bi .max2 (.cons (.int 1) (.cons (.var 1) .nil))))
    (w := .v (.cl (.tuple (zs f)))) f PyData.int (fun x => .int (x.fdiv (max 1 (rowG f : Int)))) (free_of rfl hu) (by simp) rfl (by omega) (fun x _ => by
      have dk : DivOk x (max 1 (rowG f : Int)) := show max 1 (rowG f : Int) ≠ 0 by omega
      simp [dk])
  have em : f.map (fun x => PyData.int (x.fdiv (max 1 (rowG f : Int)))) = zs (lowR f) := by
    by_cases h0 : f = []
    · subst h0; rfl
    · have g := rowG_row hf h0
      have e1 : max 1 (rowG f : Int) = (rowG f : Int) := by omega
      rw [e1, lowR, if_neg (by omega)]
      simp [zs]
  rw [em] at c
  simp [b__law_put_low, e, c]

theorem r__law_plain (n : Nat) (f : List Int) (hf : isRow f) (hl : f.length ≤ 1000) : runF pr (n + 2) k__law_plain [.tuple (zs f)] = .ok (.tuple (zs (plainR f))) := by
  rw [st__law_plain]
  have hb : big = 16777216 := rfl
  have hp := r__law_put_low n f hf hl
  have ll := lowR_len f
  generalize hl2 : lowR f = l at hp ll
  have e : plainR f = if 0 < l.length ∧ l[l.length - 1]?.getD 0 < 0 then negR l else l := by rw [plainR, hl2]
  have c := ev_comp_map (T := tbl pr (n + 1)) (η := [some (.sh (.tuple (zs f))), some (.sh (.tuple (zs l))), none]) (v := 2) (it := .itv (.var 1)) (e := .bin .sub (.int 0) (.var 2))
    (w := .v (.cl (.tuple (zs l)))) l PyData.int (fun x => .int (-x)) rfl (by simp) rfl (by omega) (fun x _ => by simp)
  have em : l.map (fun x => PyData.int (-x)) = zs (negR l) := by simp [zs, negR]
  rw [em] at c
  rw [e]
  by_cases h0 : l = []
  · subst h0
    simp [b__law_plain, hp]
  · have h1 : 0 < l.length := List.length_pos_iff.mpr h0
    have el : (l.length : Int) - 1 = ((l.length - 1 : Nat) : Int) := by omega
    have a := atI_zs (ns := l) (k := l.length - 1) (by omega)
    by_cases h2 : l[l.length - 1]?.getD 0 < 0
    · rw [if_pos ⟨h1, h2⟩]
      simp [b__law_plain, hp, h0, el, a, h2, c]
    · rw [if_neg fun z => h2 z.2]
      simp [b__law_plain, hp, h0, el, a, h2]

theorem law_rest (n : Nat) (f g : List Int) {b c : Nat} (z : g ≠ []) (hg : isRow g) (bf : bd (2 ^ b) f) (bg : bd (2 ^ c) g) (lf : f.length ≤ 900) (lg : g.length ≤ 900) (hb : b + divK f g * (c + c + 1) + c + c + 4 ≤ 133999000) :
    (runF pr (n + 2) k__law_left [.tuple (zs f), .tuple (zs g)]).bind (fun d => runF pr (n + 2) k__law_put_low [d]) = .ok (.tuple (zs (restR f g))) := by
  have r := r__law_left n f g z (b := b) (c := c) bf bg (Nat.le_refl _) lf hb
  have l1 := (divR_vl f g z 0).1
  have l2 := trim_len (scaleI (absI (topI g) ^ divK f g) (divR f g).1)
  rw [scaleI_len] at l2
  have pl := r__law_put_low (n + 1) (trim (scaleI (absI (topI g) ^ divK f g) (divR f g).1)) (isRow_trim _) (by omega)
  rw [due_eq f g hg z] at pl
  rw [r, Res.bind_ok]
  exact pl
theorem lsh_loop (n : Nat) (A N : Nat) (hN : N ≤ 100) (hA : A * 5 ^ N ≤ 39000000 * 2 ^ N) : ∀ (k : Nat) (f g : List Int) (b c : Nat), g.length ≤ k → isRow g → Ch A N f g b c →
    whS (evt (tbl pr (n + 2)) c__law_shared_1) (exS (tbl pr (n + 2)) w__law_shared_1) [some (.sh (.tuple (zs f))), some (.sh (.tuple (zs g)))] = .nx [some (.sh (.tuple (zs (euR f g)))), some (.sh (.tuple []))] := by
  have z0 : ∀ f : List Int, whS (evt (tbl pr (n + 2)) c__law_shared_1) (exS (tbl pr (n + 2)) w__law_shared_1) [some (.sh (.tuple (zs f))), some (.sh (.tuple (zs [])))] = .nx [some (.sh (.tuple (zs (euR f [])))), some (.sh (.tuple []))] := fun f => by
    rw [euR_nil]
    exact wh_end (by simp [c__law_shared_1])
  intro k
  induction k with
  | zero =>
    intro f g b c hk _ h
    rw [List.eq_nil_of_length_eq_zero (show g.length = 0 by omega)]
    exact z0 f
  | succ k ih =>
    intro f g b c hk hg h
    by_cases z : g = []
    · subst z
      exact z0 f
    · have hp : 0 < g.length := List.length_pos_iff.mpr z
      obtain ⟨s1, s2, s3⟩ := h.small z hA
      have e1 : divK f g = f.length - g.length + 1 := by have := h.lt; unfold divK; omega
      have e2 : divK f g * (c + c + 1) ≤ 2 * ((c + 1) * (f.length - g.length + 1)) := by
        rw [e1]
        generalize f.length - g.length + 1 = d
        have : 2 * ((c + 1) * d) = d * (c + c + 1) + d := by grind
        omega
      have lN := h.le
      have lt := h.lt
      have r := law_rest n f g (b := b) (c := c) z hg h.bf h.bg (by omega) (by omega) (by omega)
      have hr := rest_bd (b := b) (c := c) z (divR_bd f g z h.bf h.bg)
      have hl := restR_len f g z
      have w := ih g (restR f g) _ _ (by omega) (isRow_rest f g) (h.step z hr)
      rw [euR_step z]
      have body : exS (tbl pr (n + 2)) w__law_shared_1 [some (.sh (.tuple (zs f))), some (.sh (.tuple (zs g)))] = .nx [some (.sh (.tuple (zs g))), some (.sh (.tuple (zs (restR f g))))] := by
        cases q : runF pr (n + 2) k__law_left [.tuple (zs f), .tuple (zs g)] with
        | ok d =>
          rw [q, Res.bind_ok] at r
          have dd : ∃ ds, d = .tuple ds := by
            have := r__law_left n f g z (b := b) (c := c) h.bf h.bg (Nat.le_refl _) (by omega) (by omega)
            rw [q] at this
            exact ⟨_, Res.ok.inj this⟩
          obtain ⟨ds, rfl⟩ := dd
          simp [w__law_shared_1, q, r]
        | ex e => rw [q] at r; cases r
        | st => rw [q] at r; cases r
      rw [wh_step (η' := [some (.sh (.tuple (zs g))), some (.sh (.tuple (zs (restR f g))))]) (by simp [c__law_shared_1, z]) body]
      exact w
theorem r__law_shared (n : Nat) (f g : List Int) (hf : isRow f) (hg : isRow g) {N B : Nat} (bf : bd (2 ^ B) f) (bg : bd (2 ^ B) g) (lf : f.length ≤ N) (lg : g.length ≤ N) (hN : N ≤ 100) (hA : (B + 1) * (N + 2) * 5 ^ N ≤ 39000000 * 2 ^ N) (hB : B ≤ 100000) :
    runF pr (n + 3) k__law_shared [.tuple (zs f), .tuple (zs g)] = .ok (.tuple (zs (plainR (euR f g)))) := by
  have l := eu_len _ f g (Nat.le_refl _)
  have pl := r__law_plain n (euR f g) (isRow_eu _ f g (Nat.le_refl _) hf hg) (by omega)
  have key : whS (evt (tbl pr (n + 2)) c__law_shared_1) (exS (tbl pr (n + 2)) w__law_shared_1) [some (.sh (.tuple (zs f))), some (.sh (.tuple (zs g)))] = .nx [some (.sh (.tuple (zs (euR f g)))), some (.sh (.tuple []))] := by
    by_cases z : g = []
    · subst z
      rw [euR_nil]
      exact wh_end (by simp [c__law_shared_1])
    · have hp : 0 < g.length := List.length_pos_iff.mpr z
      have kk : divK f g ≤ N := by unfold divK; omega
      have kb : divK f g * (B + B + 1) ≤ 100 * (B + B + 1) := Nat.mul_le_mul_right _ (by omega)
      have r := law_rest n f g (b := B) (c := B) z hg bf bg (by omega) (by omega) (by omega)
      have w := lsh_loop n _ N hN hA _ g (restR f g) _ _ (Nat.le_refl _) (isRow_rest f g) (ch_start z bf bg lf lg)
      rw [euR_step z]
      have body : exS (tbl pr (n + 2)) w__law_shared_1 [some (.sh (.tuple (zs f))), some (.sh (.tuple (zs g)))] = .nx [some (.sh (.tuple (zs g))), some (.sh (.tuple (zs (restR f g))))] := by
        cases q : runF pr (n + 2) k__law_left [.tuple (zs f), .tuple (zs g)] with
        | ok d =>
          rw [q, Res.bind_ok] at r
          have dd : ∃ ds, d = .tuple ds := by
            have := r__law_left n f g z (b := B) (c := B) bf bg (Nat.le_refl _) (by omega) (by omega)
            rw [q] at this
            exact ⟨_, Res.ok.inj this⟩
          obtain ⟨ds, rfl⟩ := dd
          simp [w__law_shared_1, q, r]
        | ex e => rw [q] at r; cases r
        | st => rw [q] at r; cases r
      rw [wh_step (η' := [some (.sh (.tuple (zs g))), some (.sh (.tuple (zs (restR f g))))]) (by simp [c__law_shared_1, z]) body]
      exact w
  rw [st__law_shared]
  simp [b__law_shared, key, pl]

theorem r__law_whole (n : Nat) (x : Int) : runF pr (n + 1) k__law_whole [.int x] = .ok (.bool true) := by
  rw [st__law_whole]
  simp [b__law_whole]

theorem r__law_right (n : Nat) (a : List Int) (ha : a.length ≤ 1000) : runF pr (n + 2) k__law_right [.tuple (zs a), .tuple (zs a)] = .ok (.bool true) := by
  rw [st__law_right]
  have hb : big = 16777216 := rfl
  have c := ev_comp_map (T := tbl pr (n + 1)) (η := [some (.sh (.tuple (zs a))), some (.sh (.tuple (zs a))), none]) (v := 2) (it := .itv (.var 0)) (e := .call k__law_whole (.cons (.var 2) .nil))
    (w := .v (.cl (.tuple (zs a)))) a PyData.int (fun _ => .bool true) rfl (by simp) rfl (by omega) (fun x _ => by simp [r__law_whole])
  have al := all1_n a (fun _ => true)
  simp [b__law_right, c, al]

theorem tin_inner (n : Nat) (e0 e2 e8 : Option Sl) (g r : List Int) (t l : Int) (s : Nat) {G b c : Nat} (ht : t.natAbs ≤ 2 ^ b) (hl : l.natAbs ≤ 2 ^ c) (hg : bd G g) (hG : G ≤ 2 ^ c) (hbc : b + c + c + 4 ≤ 133999000) (hs : s + g.length ≤ r.length) (u7 : Option Sl) :
    ∃ u7', loopF (foB (tbl pr n) 7 w__law_times_in_2) (rngD 0 g.length) [e0, some (.sh (.tuple (zs g))), e2, some (.ow (zs r)), some (.sh (.int l)), some (.sh (.int (s : Int))), some (.sh (.int t)), u7, e8]
      = .nx [e0, some (.sh (.tuple (zs g))), e2, some (.ow (zs (subTo (t * l) g s r g.length))), some (.sh (.int l)), some (.sh (.int (s : Int))), some (.sh (.int t)), u7', e8] := by
  obtain ⟨η', h1, u, h2⟩ := loop_rng (f := foB (tbl pr n) 7 w__law_times_in_2) (lo := 0) (n := g.length)
    (R := fun k η => ∃ u, η = [e0, some (.sh (.tuple (zs g))), e2, some (.ow (zs (subTo (t * l) g s r k))), some (.sh (.int l)), some (.sh (.int (s : Int))), some (.sh (.int t)), u, e8])
    (fun k η hk hR => by
      obtain ⟨u, rfl⟩ := hR
      have sl : (subTo (t * l) g s r k).length = r.length := subTo_len _ _ _ _ _
      have e1 : (s : Int) + (k : Int) = ((s + k : Nat) : Int) := by omega
      have m1 : MuOk t l := mulOk_of (a := b + 1) (b := c + 1) (Nat.lt_of_le_of_lt ht (Nat.pow_lt_pow_right (by omega) (by omega))) (Nat.lt_of_le_of_lt hl (Nat.pow_lt_pow_right (by omega) (by omega))) (by omega)
      have m2 : (t * l).natAbs < 2 ^ (b + c + 1) := by
        rw [Int.natAbs_mul]
        have := Nat.mul_le_mul ht hl
        rw [← Nat.pow_add] at this
        exact Nat.lt_of_le_of_lt this (Nat.pow_lt_pow_right (by omega) (by omega))
      have mk : MuOk (t * l) (g[k]?.getD 0) := mulOk_of (a := b + c + 1) (b := c + 1) m2 (Nat.lt_of_le_of_lt (bd_get hg k) (Nat.lt_of_le_of_lt hG (Nat.pow_lt_pow_right (by omega) (by omega)))) (by omega)
      have a1 := atI_zs (ns := subTo (t * l) g s r k) (k := s + k) (by omega)
      have a2 := atI_zs (ns := g) (k := k) (by omega)
      have x1 := ixN_nat (n := (subTo (t * l) g s r k).length) (k := s + k) (by omega)
      refine ⟨_, ?_, some (.sh (.int k)), rfl⟩
      rw [Int.zero_add]
      simp [foB, w__law_times_in_2, e1, -Int.natCast_add, a1, a2, m1, mk, x1, subTo]) [e0, some (.sh (.tuple (zs g))), e2, some (.ow (zs r)), some (.sh (.int l)), some (.sh (.int (s : Int))), some (.sh (.int t)), u7, e8] ⟨u7, rfl⟩
  exact ⟨u, by rw [h1, h2]⟩
theorem tin_turn (n : Nat) (e0 : Option Sl) (g r q : List Int) (u5 u6 u7 : Option Sl) {G b c : Nat} (hr : bd (2 ^ b) r) (hq : bd (2 ^ b) q) (hg : bd G g) (hG : G ≤ 2 ^ c) (hbc : b + c + c + 4 ≤ 133999000) (h1 : g ≠ []) (h2 : g.length ≤ r.length) (hl : r.length ≤ 1000) (hql : q.length ≤ 1000) (h3 : r.length - g.length < q.length) :
    ∃ u5' u6' u7', exS (tbl pr n) w__law_times_in_1 [e0, some (.sh (.tuple (zs g))), some (.ow (zs q)), some (.ow (zs r)), some (.sh (.int (topI g))), u5, u6, u7, none]
      = .nx [e0, some (.sh (.tuple (zs g))), some (.ow (zs (timQ g r q))), some (.ow (zs (timR g r))), some (.sh (.int (topI g))), u5', u6', u7', none] := by
  have hb : big = 16777216 := rfl
  have hp : 0 < g.length := List.length_pos_iff.mpr h1
  have tg : (topI g).natAbs ≤ 2 ^ c := Nat.le_trans (bd_get hg _) hG
  have p2 : (2 : Nat) ^ c < 2 ^ (c + 1) := Nat.pow_lt_pow_right (by omega) (by omega)
  have m1 : ∀ x : Int, x.natAbs ≤ 2 ^ b → MuOk x (topI g) := fun x hx => mulOk_of (a := b + 1) (b := c + 1) (Nat.lt_of_le_of_lt hx (Nat.pow_lt_pow_right (by omega) (by omega))) (by omega) (by omega)
  have m2 : ∀ x : Int, x.natAbs ≤ 2 ^ b → MuOk (x * topI g) (topI g) := fun x hx => mulOk_of (a := b + c + 1) (b := c + 1) (by
    rw [Int.natAbs_mul]
    have := Nat.mul_le_mul hx tg
    rw [← Nat.pow_add] at this
    exact Nat.lt_of_le_of_lt this (Nat.pow_lt_pow_right (by omega) (by omega))) (by omega) (by omega)
  have es : (r.length : Int) - (g.length : Int) = ((r.length - g.length : Nat) : Int) := by omega
  have el : (r.length : Int) - 1 = ((r.length - 1 : Nat) : Int) := by omega
  have a1 : atI (zs r) ((r.length - 1 : Nat) : Int) = some (.int (topI r)) := atI_zs (by omega)
  have c1 : ∀ a5 a6 : Option Sl, ev (tbl pr n) (.comp 8 (.itv (.var 2)) .nop (.bin .mul (.bin .mul (.var 8) (.var 4)) (.var 4))) [e0, some (.sh (.tuple (zs g))), some (.ow (zs q)), some (.ow (zs r)), some (.sh (.int (topI g))), a5, a6, u7, none] = .ok (.nw (zs (scaleI (topI g * topI g) q))) := fun a5 a6 => by
    rw [ev_comp_map (w := .v (.br 2 (zs q))) q PyData.int (fun x => .int (x * (topI g * topI g))) rfl (by simp) rfl (by omega) (fun x hx => by simp [m1 x (hq x hx), m2 x (hq x hx), Int.mul_assoc])]
    simp [zs, scaleI]
  have c2 : ∀ a2 a5 a6 : Option Sl, ev (tbl pr n) (.comp 8 (.itv (.var 3)) .nop (.bin .mul (.bin .mul (.var 8) (.var 4)) (.var 4))) [e0, some (.sh (.tuple (zs g))), a2, some (.ow (zs r)), some (.sh (.int (topI g))), a5, a6, u7, none] = .ok (.nw (zs (scaleI (topI g * topI g) r))) := fun a2 a5 a6 => by
    rw [ev_comp_map (w := .v (.br 3 (zs r))) r PyData.int (fun x => .int (x * (topI g * topI g))) rfl (by simp) rfl (by omega) (fun x hx => by simp [m1 x (hr x hx), m2 x (hr x hx), Int.mul_assoc])]
    simp [zs, scaleI]
  have a2 := atI_zs (ns := scaleI (topI g * topI g) q) (k := r.length - g.length) (by rw [scaleI_len]; exact h3)
  have x2 := ixN_nat (n := (scaleI (topI g * topI g) q).length) (k := r.length - g.length) (by rw [scaleI_len]; exact h3)
  rw [scaleI_len] at x2
  have mt := m1 (topI r) (bd_get hr _)
  obtain ⟨u7', inn⟩ := tin_inner n e0 (some (.ow (zs (timQ g r q)))) none g (scaleI (topI g * topI g) r) (topI r) (topI g) (r.length - g.length) (G := G) (b := b) (c := c) (bd_get hr _) tg hg hG hbc (by rw [scaleI_len]; omega) u7
  have sg := small_nat (show g.length ≤ big by omega)
  have tq : (scaleI (topI g * topI g) q).set (r.length - g.length) ((scaleI (topI g * topI g) q)[r.length - g.length]?.getD 0 + topI r * topI g) = timQ g r q := rfl
  have sl : (subTo (topI r * topI g) g (r.length - g.length) (scaleI (topI g * topI g) r) g.length).length = r.length := by rw [subTo_len, scaleI_len]
  have tp := zs_get (ns := subTo (topI r * topI g) g (r.length - g.length) (scaleI (topI g * topI g) r) g.length) (k := (subTo (topI r * topI g) g (r.length - g.length) (scaleI (topI g * topI g) r) g.length).length - 1) (by omega)
  have tr : (zs (subTo (topI r * topI g) g (r.length - g.length) (scaleI (topI g * topI g) r) g.length)).dropLast = zs (timR g r) := by
    rw [zs_dropLast]
    rfl
  exact ⟨some (.sh (.int ((r.length - g.length : Nat) : Int))), some (.sh (.int (topI r))), u7', by
    simp [-Int.natCast_sub, w__law_times_in_1, es, el, a1, c1, a2, x2, mt, tq, c2, sg, inn, tp, tr]⟩
theorem tin_loop (n : Nat) (e0 : Option Sl) (g : List Int) {G c : Nat} (hg : bd G g) (hG : G ≤ 2 ^ c) (h1 : g ≠ []) : ∀ (k b : Nat) (r q : List Int) (u5 u6 u7 : Option Sl), bd (2 ^ b) r → bd (2 ^ b) q → b + k * (c + c + 1) + c + c + 4 ≤ 133999000 → r.length ≤ 1000 → q.length ≤ 1000 →
    r.length + 1 = g.length + k → k ≤ q.length → ∃ u5' u6' u7' q' r', whS (evt (tbl pr n) c__law_times_in_1) (exS (tbl pr n) w__law_times_in_1) [e0, some (.sh (.tuple (zs g))), some (.ow (zs q)), some (.ow (zs r)), some (.sh (.int (topI g))), u5, u6, u7, none]
      = .nx [e0, some (.sh (.tuple (zs g))), some (.ow (zs q')), some (.ow (zs r')), some (.sh (.int (topI g))), u5', u6', u7', none] ∧ r'.length < g.length ∧ q'.length = q.length ∧ ∀ x, vl q' x * vl g x + vl r' x = (vl q x * vl g x + vl r x) * (topI g * topI g) ^ k := by
  intro k
  induction k with
  | zero =>
    intro b r q u5 u6 u7 hr hq hb _ _ hl hk
    refine ⟨u5, u6, u7, q, r, wh_end ?_, by omega, rfl, fun x => by rw [Int.pow_zero, Int.mul_one]⟩
    have : ¬ (g.length : Int) ≤ (r.length : Int) := by omega
    simp [c__law_times_in_1]
    omega
  | succ k ih =>
    intro b r q u5 u6 u7 hr hq hb l1 l2 hl hk
    have hp : 0 < g.length := List.length_pos_iff.mpr h1
    have hkc : (k + 1) * (c + c + 1) = k * (c + c + 1) + (c + c + 1) := Nat.succ_mul _ _
    obtain ⟨a5, a6, a7, t⟩ := tin_turn n e0 g r q u5 u6 u7 hr hq hg hG (by omega) h1 (by omega) l1 l2 (by omega)
    have e1 : 2 ^ b * (2 ^ c * 2 ^ c) * 2 = 2 ^ (b + (c + c + 1)) := by rw [← Nat.pow_add, ← Nat.pow_add, ← Nat.pow_succ]; congr 1
    have GG := Nat.mul_le_mul_left (2 ^ b) (Nat.mul_le_mul hG hG)
    have br : bd (2 ^ (b + (c + c + 1))) (timR g r) := bd_mono (tim_bdR hr hg (by omega)) (by omega)
    have bq : bd (2 ^ (b + (c + c + 1))) (timQ g r q) := bd_mono (tim_bdQ hr hq hg) (by
      have g1 : 2 ^ b * G ≤ 2 ^ b * (2 ^ c * 2 ^ c) := Nat.mul_le_mul_left _ (Nat.le_trans hG (Nat.le_mul_of_pos_right _ (Nat.pow_pos (by omega))))
      omega)
    obtain ⟨u5', u6', u7', q', r', w, w1, w2, w3⟩ := ih (b + (c + c + 1)) (timR g r) (timQ g r q) a5 a6 a7 br bq (by omega) (by rw [timR_len]; omega) (by rw [timQ_len]; omega) (by rw [timR_len]; omega) (by rw [timQ_len]; omega)
    refine ⟨u5', u6', u7', q', r', ?_, w1, by rw [w2, timQ_len], fun x => ?_⟩
    · rw [wh_step (η' := [e0, some (.sh (.tuple (zs g))), some (.ow (zs (timQ g r q))), some (.ow (zs (timR g r))), some (.sh (.int (topI g))), a5, a6, a7, none]) (by
        have : (g.length : Int) ≤ (r.length : Int) := by omega
        simp [c__law_times_in_1]
        omega) t]
      exact w
    · rw [w3, tim_vl g r q h1 (by omega) (by omega), Int.pow_succ]
      grind
/-- what it tells, by values -/
theorem r__law_times_in (n : Nat) (f g : List Int) {G b c : Nat} (h1 : g ≠ []) (hgl : g.length ≤ f.length) (hf : bd (2 ^ b) f) (hg : bd G g) (hG : G ≤ 2 ^ c) (hl : f.length ≤ 900) (hb : b + divK f g * (c + c + 1) + c + c + 4 ≤ 133999000) :
    ∃ (q r : List Int) (k : Nat), runF pr (n + 2) k__law_times_in [.tuple (zs f), .tuple (zs g)] = .ok (.tuple (zs (trim q))) ∧ r.length < g.length ∧ q.length ≤ f.length ∧ ∀ x, vl q x * vl g x + vl r x = vl f x * (topI g * topI g) ^ k := by
  have hbig : big = 16777216 := rfl
  have hp : 0 < g.length := List.length_pos_iff.mpr h1
  have kd : divK f g = f.length - g.length + 1 := by unfold divK; omega
  have eg : (g.length : Int) - 1 = ((g.length - 1 : Nat) : Int) := by omega
  have a1 : atI (zs g) ((g.length - 1 : Nat) : Int) = some (.int (topI g)) := atI_zs (by omega)
  have ek : (f.length : Int) - (g.length : Int) + 1 = ((f.length - g.length + 1 : Nat) : Int) := by omega
  have z0 : bd (2 ^ b) (List.replicate (f.length - g.length + 1) (0 : Int)) := fun c hc => by
    rw [(List.mem_replicate.mp hc).2]
    exact Nat.zero_le _
  obtain ⟨u5, u6, u7, q, r, w, w1, w2, w3⟩ := tin_loop (n + 1) (some (.sh (.tuple (zs f)))) g hg hG h1 (f.length - g.length + 1) b f (List.replicate (f.length - g.length + 1) 0) none none none hf z0 (by rw [← kd]; exact hb) (by omega) (by simp; omega) (by omega) (by simp)
  have rp : repL [PyData.int 0] ((f.length - g.length + 1 : Nat) : Int) = .ok (.nw (zs (List.replicate (f.length - g.length + 1) 0))) := by
    rw [repL_one (by omega), zs_rep]
  refine ⟨q, r, f.length - g.length + 1, ?_, w1, by rw [w2, List.length_replicate]; omega, fun x => ?_⟩
  · rw [st__law_times_in]
    simp [-Int.natCast_add, b__law_times_in, ek, rp, eg, a1, w, r__law_trim_l]
  · rw [w3, vl_zeros]
    congr 1
    omega

/-! one statement after another -/
def tlS : Nat → S → S
  | 0, s => s
  | n + 1, .seq _ r => tlS n r
  | _ + 1, s => s
def hdS : Nat → S → S
  | 0, .seq a _ => a
  | n + 1, .seq _ r => hdS n r
  | _, s => s
theorem exS_step {T : Tb} {s a r : S} {η η' : PD.Env} (h : s = .seq a r) (e : exS T a η = .nx η') : exS T s η = exS T r η' := by
  subst h
  rw [exS_seq, e]
  rfl

/-! ### the law's planted rows -/
structure Fac (L : List (List Int)) : Prop where
  ir : ∀ l ∈ L, Irr l ∧ plainR l = l ∧ l.length ≤ 4 ∧ bd (2 ^ 4) l
  nd : L.Nodup
def sumL (L : List (List Int)) : Nat := (L.map fun l => l.length - 1).sum
theorem sumL_snoc (L : List (List Int)) (l : List Int) : sumL (L ++ [l]) = sumL L + (l.length - 1) := by simp [sumL]
theorem memD_row (l : List Int) (L : List (List Int)) : memD (.tuple (zs l)) (.list (rws L)) = .ok (decide (l ∈ L)) := by
  have h : memD (.tuple (zs l)) (.list (rws L)) = if SeqAt.shaped (.tuple (zs l)) = true ∧ SeqAt.shaped (.list (rws L)) = true then .ok ((rws L).any fun z => PyData.eqv z (.tuple (zs l))) else .st := rfl
  rw [h, if_pos ⟨shaped_t l, shaped_rl L⟩]
  congr 1
  induction L with
  | nil => rfl
  | cons r L ih =>
    show (PyData.eqv (.tuple (zs r)) (.tuple (zs l)) || (rws L).any fun z => PyData.eqv z (.tuple (zs l))) = _
    rw [ih rfl, PyData.eqv, eqvAll_zs]
    by_cases e : r = l
    · subst e; simp
    · have e2 : ¬ l = r := fun z => e z.symm
      simp [e, e2]
theorem plain_two {t s : Int} (hs : s ≠ 0) : Irr (plainR [t, s]) ∧ plainR (plainR [t, s]) = plainR [t, s] ∧ (plainR [t, s]).length = 2 := by
  have r : isRow [t, s] := isRow_of (by simpa using hs)
  have n : ([t, s] : List Int) ≠ [] := by simp
  have l1 := Dv.len (plain_row r) ((plain_dv r n).mpr (Dv.refl _)) r n
  have l2 := Dv.len r ((dv_plain r n).mpr (Dv.refl _)) (plain_row r) (plain_ne r n)
  have l : (plainR [t, s]).length = 2 := by
    have : ([t, s] : List Int).length = 2 := rfl
    omega
  exact ⟨irr_two (plain_row r) l, plain_plain r, l⟩
theorem grown_one (n : Nat) (xs : List Int) (L : List (List Int)) (k : Nat) (hk : k ≤ 2) (h15 : 15 ≤ xs.length) (hL : Fac L) (hl : L.length ≤ k) (h2 : ∀ l ∈ L, l.length = 2) (a4 a5 a6 : Option Sl) (u2 u3 : Option Sl) :
    ∃ (L' : List (List Int)) (u3' : Option Sl), Fac L' ∧ L'.length ≤ k + 1 ∧ (∀ l ∈ L', l.length = 2) ∧ foB (tbl pr (n + 2)) 2 w__law_grown_3 (.int (k : Int)) [some (.sh (.list (zs xs))), some (.ow (rws L)), u2, u3, a4, a5, a6, none]
      = .nx [some (.sh (.list (zs xs))), some (.ow (rws L')), some (.sh (.int (k : Int))), u3', a4, a5, a6, none] := by
  have hbig : big = 16777216 := rfl
  have m1 : MuOk 2 (k : Int) := mulOk_of (a := 2) (b := 3) (by decide) (by omega) (by omega)
  have e1 : (1 : Int) + 2 * (k : Int) = ((1 + 2 * k : Nat) : Int) := by omega
  have e2 : (2 : Int) + 2 * (k : Int) = ((2 + 2 * k : Nat) : Int) := by omega
  have b1 : atI (zs xs) (1 + 2 * (k : Int)) = some (.int (xs[1 + 2 * k]?.getD 0)) := by rw [e1]; exact atI_zs (by omega)
  have b2 : atI (zs xs) (2 + 2 * (k : Int)) = some (.int (xs[2 + 2 * k]?.getD 0)) := by rw [e2]; exact atI_zs (by omega)
  generalize xs[1 + 2 * k]?.getD 0 = x at b1
  generalize xs[2 + 2 * k]?.getD 0 = y at b2
  have f1 := fmod_lo x (j := 9) (by omega)
  have f2 := fmod_hi x (j := 9) (by omega)
  have f3 := fmod_lo y (j := 4) (by omega)
  have f4 := fmod_hi y (j := 4) (by omega)
  obtain ⟨p1, p2, p3⟩ := plain_two (t := x.fmod 9 - 4) (s := 1 + y.fmod 4) (by omega)
  have pb : bd (2 ^ 4) (plainR [x.fmod 9 - 4, 1 + y.fmod 4]) := plain_bd fun c hc => by
    rcases List.mem_cons.mp hc with e | hc
    · rw [e]; omega
    · rw [List.mem_singleton.mp hc]; omega
  have pl := r__law_plain n [x.fmod 9 - 4, 1 + y.fmod 4] (isRow_of (by simp; omega)) (by simp)
  have ez : zs [x.fmod 9 - 4, 1 + y.fmod 4] = [.int (x.fmod 9 - 4), .int (1 + y.fmod 4)] := rfl
  rw [ez] at pl
  generalize plainR [x.fmod 9 - 4, 1 + y.fmod 4] = f at *
  have sm : Sm (L.length + 1) := show _ ≤ big by omega
  by_cases h : f ∈ L
  · refine ⟨L, some (.sh (.tuple (zs f))), hL, by omega, h2, ?_⟩
    simp [foB, w__law_grown_3, m1, b1, b2, pl, memD_row, h]
  · refine ⟨L ++ [f], some (.sh (.tuple (zs f))), ⟨fun l hl => ?_, ?_⟩, by simp; omega, fun l hl => ?_, ?_⟩
    · rcases List.mem_append.mp hl with z | z
      · exact hL.ir l z
      · rw [List.mem_singleton.mp z]
        exact ⟨p1, p2, by omega, pb⟩
    · rw [List.nodup_append]
      exact ⟨hL.nd, by simp, fun a ha b hb z => h (by rw [List.mem_singleton.mp hb] at z; rw [← z]; exact ha)⟩
    · rcases List.mem_append.mp hl with z | z
      · exact h2 l z
      · rw [List.mem_singleton.mp z]
        exact p3
    · simp [foB, w__law_grown_3, m1, b1, b2, pl, memD_row, h, sm, rws_snoc]
theorem tmul_bd' {a b c : Nat} {f g : List Int} (hf : bd (2 ^ a) f) (hg : bd (2 ^ b) g) (lf : f.length ≤ 32) (lg : g.length ≤ 32) (h : a + b + 10 ≤ c) : bd (2 ^ c) (trim (mulR f g)) := bd_mono (bd_trim (mulR_bd2 hf hg (Nat.le_refl _) (Nat.le_refl _) lf lg)) (Nat.pow_le_pow_right (by omega) h)
theorem r_ltimes (n : Nat) (f g : List Int) {a b : Nat} (hf : bd (2 ^ a) f) (hg : bd (2 ^ b) g) (lf : f.length ≤ 32) (lg : g.length ≤ 32) (hab : a + b ≤ 133000000) : runF pr (n + 2) k__law_times [.tuple (zs f), .tuple (zs g)] = .ok (.tuple (zs (trim (mulR f g)))) :=
  r__law_times n f g (by omega) (by omega) hf hg (Nat.pow_lt_pow_right (by decide) (Nat.lt_succ_self a)) (Nat.pow_lt_pow_right (by decide) (Nat.lt_succ_self b)) (by omega)
theorem grown_more (n : Nat) {xs : List Int} {L P : List (List Int)} {l : List Int} {k : Nat} (hk : k < L.length) (hL4 : L.length ≤ 4) (el : L[k]? = some l) (il : Irr l) (ll : l.length ≤ 4) (lb : bd (2 ^ 4) l) (hP : l ∈ P) {S a : Nat} (hS : 5 ≤ S) (hS2 : S ≤ 11) (ha : a ≤ 500) (e3 e5 : Option Sl) (j : Nat) (hj : j ≤ 2) (row : List Int) (pr0 : Parts P row) (lr : row.length ≤ S) (br : bd (2 ^ a) row) (u6 : Option Sl) :
    ∃ (row' : List Int) (u6' : Option Sl), Parts P row' ∧ row'.length ≤ S ∧ bd (2 ^ (a + 14 * j)) row' ∧ loopF (foB (tbl pr (n + 2)) 6 w__law_grown_2) (rngD 0 j) [some (.sh (.list (zs xs))), some (.ow (rws L)), some (.sh (.int (k : Int))), e3, some (.sh (.tuple (zs row))), e5, u6, none]
      = .nx [some (.sh (.list (zs xs))), some (.ow (rws L)), some (.sh (.int (k : Int))), e3, some (.sh (.tuple (zs row'))), e5, u6', none] := by
  have hbig : big = 16777216 := rfl
  have al : atI (rws L) (k : Int) = some (.tuple (zs l)) := by rw [atI_rws hk, el]; rfl
  obtain ⟨η', e, row', u6', h1, h2, h3, h4⟩ := loop_rng (f := foB (tbl pr (n + 2)) 6 w__law_grown_2) (lo := 0) (n := j)
    (R := fun i η => ∃ (row : List Int) (u : Option Sl), η = [some (.sh (.list (zs xs))), some (.ow (rws L)), some (.sh (.int (k : Int))), e3, some (.sh (.tuple (zs row))), e5, u, none] ∧ Parts P row ∧ row.length ≤ S ∧ bd (2 ^ (a + 14 * i)) row)
    (fun i η hi hR => by
      obtain ⟨row, u, rfl, q1, q2, q3⟩ := hR
      by_cases h : row.length + l.length < 7
      · have t := r_ltimes n row l q3 lb (by omega) (by omega) (by omega)
        have tl := mul_len row l
        have lp := il.2.1
        refine ⟨_, ?_, trim (mulR row l), some (.sh (.int (i : Int))), rfl, q1.again il hP, by omega, tmul_bd' q3 lb (by omega) (by omega) (by omega)⟩
        have h' : (row.length : Int) + (l.length : Int) < 7 := by omega
        simp [foB, w__law_grown_2, al, h', t]
      · refine ⟨_, ?_, row, some (.sh (.int (i : Int))), rfl, q1, q2, bd_mono q3 (Nat.pow_le_pow_right (by omega) (by omega))⟩
        have h' : ¬ (row.length : Int) + (l.length : Int) < 7 := by omega
        simp [foB, w__law_grown_2, al, h']) _ ⟨row, u6, rfl, pr0, lr, by simpa using br⟩
  subst h1
  exact ⟨row', u6', h2, h3, h4, e⟩
theorem grown_two (n : Nat) {xs : List Int} {L : List (List Int)} (h15 : 15 ≤ xs.length) (hL : Fac L) (hL4 : L.length ≤ 4) (hs : sumL L ≤ 6) (k : Nat) (hk : k < L.length) (row bare : List Int) (p1 : Parts (L.take k) row) (p2 : Parts (L.take k) bare) (sf : SF bare)
    (l1 : row.length ≤ 5 + sumL (L.take k)) (l2 : bare.length ≤ 1 + sumL (L.take k)) (b1 : bd (2 ^ (3 + 42 * k)) row) (b2 : bd (2 ^ (1 + 14 * k)) bare) (e3 u2 u6 : Option Sl) :
    ∃ (row' bare' : List Int) (u6' : Option Sl), Parts (L.take (k + 1)) row' ∧ Parts (L.take (k + 1)) bare' ∧ SF bare' ∧ row'.length ≤ 5 + sumL (L.take (k + 1)) ∧ bare'.length ≤ 1 + sumL (L.take (k + 1)) ∧ bd (2 ^ (3 + 42 * (k + 1))) row' ∧ bd (2 ^ (1 + 14 * (k + 1))) bare' ∧
      foB (tbl pr (n + 2)) 2 w__law_grown_1 (.int (k : Int)) [some (.sh (.list (zs xs))), some (.ow (rws L)), u2, e3, some (.sh (.tuple (zs row))), some (.sh (.tuple (zs bare))), u6, none]
      = .nx [some (.sh (.list (zs xs))), some (.ow (rws L)), some (.sh (.int (k : Int))), e3, some (.sh (.tuple (zs row'))), some (.sh (.tuple (zs bare'))), u6', none] := by
  have hbig : big = 16777216 := rfl
  have el : L[k]? = some L[k] := List.getElem?_eq_getElem hk
  have tk : L.take (k + 1) = L.take k ++ [L[k]] := by rw [List.take_add_one, el]; rfl
  have ml : L[k] ∈ L := List.getElem_mem hk
  have al : atI (rws L) (k : Int) = some (.tuple (zs L[k])) := by rw [atI_rws hk, el]; rfl
  have sm : sumL (L.take (k + 1)) = sumL (L.take k) + (L[k].length - 1) := by rw [tk, sumL_snoc]
  have st : sumL (L.take (k + 1)) ≤ 6 := by
    have e : sumL (L.take (k + 1)) + sumL (L.drop (k + 1)) = sumL L := by
      unfold sumL
      rw [← List.sum_append, ← List.map_append, List.take_append_drop]
    omega
  have nd := hL.nd
  have nin : L[k] ∉ L.take k := fun z => by
    obtain ⟨i, hi, e⟩ := List.mem_iff_getElem.mp z
    rw [List.length_take] at hi
    rw [List.getElem_take] at e
    have := (List.getElem_inj nd).mp e
    omega
  obtain ⟨il, pl, ll, lb⟩ := hL.ir _ ml
  have ndv : ¬ Dv L[k] (vl bare) := fun z => by
    obtain ⟨r, hr, d⟩ := (p2.2.2 _ il).mp z
    obtain ⟨ir, pr2, _⟩ := hL.ir r (List.mem_of_mem_take hr)
    exact nin (by rw [← plain_irr ir il pr2 pl d]; exact hr)
  generalize hl : L[k] = l at *
  have lp := il.2.1
  have t1 := r_ltimes n bare l b2 lb (by omega) (by omega) (by omega)
  have t2 := r_ltimes n row l b1 lb (by omega) (by omega) (by omega)
  have m1 := mul_len bare l
  have m2 := mul_len row l
  have a10 : atI (zs xs) (10 + (k : Int)) = some (.int (xs[10 + k]?.getD 0)) := by
    rw [show (10 : Int) + (k : Int) = ((10 + k : Nat) : Int) by omega]
    exact atI_zs (by omega)
  generalize xs[10 + k]?.getD 0 = w at a10
  have f1 := fmod_lo w (j := 3) (by omega)
  have f2 := fmod_hi w (j := 3) (by omega)
  obtain ⟨j, hj⟩ : ∃ j : Nat, w.fmod 3 = (j : Int) := ⟨(w.fmod 3).toNat, by omega⟩
  have np1 : Parts (L.take (k + 1)) (trim (mulR row l)) := by rw [tk]; exact p1.step il
  have np2 : Parts (L.take (k + 1)) (trim (mulR bare l)) := by rw [tk]; exact p2.step il
  obtain ⟨row', u6', q1, q2, q3, lo⟩ := grown_more n (xs := xs) (L := L) (P := L.take (k + 1)) (l := l) hk hL4 el il ll lb (by rw [tk]; exact List.mem_append_right _ (List.mem_singleton.mpr rfl)) (S := 5 + sumL (L.take (k + 1))) (a := 3 + 42 * k + 14) (by omega) (by omega) (by omega) e3 (some (.sh (.tuple (zs (trim (mulR bare l)))))) j (by omega) (trim (mulR row l)) np1 (by omega) (tmul_bd' b1 lb (by omega) (by omega) (by omega)) u6
  have sj : small (j : Int) := small_nat (by omega)
  refine ⟨row', trim (mulR bare l), u6', q1, np2, sf.step il ndv, q2, by omega, bd_mono q3 (Nat.pow_le_pow_right (by omega) (by omega)), tmul_bd' b2 lb (by omega) (by omega) (by omega), ?_⟩
  simp [foB, w__law_grown_1, al, t1, t2, a10, hj, sj, lo]
theorem r__law_grown (n : Nat) (xs : List Int) (h15 : 15 ≤ xs.length) : ∃ f d : List Int, runF pr (n + 3) k__law_grown [.list (zs xs)] = .ok (.tuple [.tuple (zs f), .tuple (zs d)]) ∧ isRow f ∧ f ≠ [] ∧ f.length ≤ 11 ∧ bd (2 ^ 171) f ∧ isRow d ∧ d ≠ [] ∧ d.length ≤ 7 ∧ bd (2 ^ 57) d ∧ bareR f = d ∧ bareR d = d := by
  rw [st__law_grown]
  have hbig : big = 16777216 := rfl
  have a0 : atI (zs xs) 0 = some (.int (xs[0]?.getD 0)) := atI_zs (k := 0) (by omega)
  have a7 : atI (zs xs) 7 = some (.int (xs[7]?.getD 0)) := atI_zs (k := 7) (by omega)
  have a8 : atI (zs xs) 8 = some (.int (xs[8]?.getD 0)) := atI_zs (k := 8) (by omega)
  have a9 : atI (zs xs) 9 = some (.int (xs[9]?.getD 0)) := atI_zs (k := 9) (by omega)
  have a14 : atI (zs xs) 14 = some (.int (xs[14]?.getD 0)) := atI_zs (k := 14) (by omega)
  generalize xs[0]?.getD 0 = x0 at a0
  generalize xs[7]?.getD 0 = x7 at a7
  generalize xs[8]?.getD 0 = x8 at a8
  generalize xs[9]?.getD 0 = x9 at a9
  generalize xs[14]?.getD 0 = x14 at a14
  have f1 := fmod_lo x0 (j := 3) (by omega)
  have f2 := fmod_hi x0 (j := 3) (by omega)
  obtain ⟨m, hm⟩ : ∃ m : Nat, 1 + x0.fmod 3 = (m : Int) := ⟨(1 + x0.fmod 3).toNat, by omega⟩
  have smm : small (m : Int) := small_nat (by omega)
  obtain ⟨η1, e1, L, u2, u3, r1, hL, hl, hl2⟩ := loop_rng (f := foB (tbl pr (n + 2)) 2 w__law_grown_3) (lo := 0) (n := m)
    (R := fun k η => ∃ (L : List (List Int)) (u2 u3 : Option Sl), η = [some (.sh (.list (zs xs))), some (.ow (rws L)), u2, u3, none, none, none, none] ∧ Fac L ∧ L.length ≤ k ∧ ∀ l ∈ L, l.length = 2)
    (fun k η hk hR => by
      obtain ⟨L, u2, u3, rfl, q1, q2, q3⟩ := hR
      obtain ⟨L', u3', w1, w2, w3, w4⟩ := grown_one n xs L k (by omega) h15 q1 q2 q3 none none none u2 u3
      rw [Int.zero_add]
      exact ⟨_, w4, L', _, u3', rfl, w1, w2, w3⟩) [some (.sh (.list (zs xs))), some (.ow (rws [])), none, none, none, none, none, none] ⟨[], none, none, rfl, ⟨fun l h => (List.not_mem_nil h).elim, List.nodup_nil⟩, Nat.le_refl _, fun l h => (List.not_mem_nil h).elim⟩
  subst r1
  have s2 : sumL L = L.length := by
    clear e1 hL hl
    induction L with
    | nil => rfl
    | cons l L ih =>
      have h1 := hl2 l List.mem_cons_self
      have := ih fun r hr => hl2 r (List.mem_cons_of_mem _ hr)
      unfold sumL at *
      rw [List.map_cons, List.sum_cons, List.length_cons, this]
      omega
  -- the one more
  obtain ⟨L2, hF, h4, h6, step⟩ : ∃ L2, Fac L2 ∧ L2.length ≤ 4 ∧ sumL L2 ≤ 6 ∧ exS (tbl pr (n + 2)) (hdS 2 b__law_grown) [some (.sh (.list (zs xs))), some (.ow (rws L)), u2, u3, none, none, none, none] = .nx [some (.sh (.list (zs xs))), some (.ow (rws L2)), u2, u3, none, none, none, none] := by
    by_cases h : x7.fmod 2 = 1
    · obtain ⟨i1, i2, i3, i4⟩ := irr_special
      have g1 := fmod_lo x8 (j := 4) (by omega)
      have g2 := fmod_hi x8 (j := 4) (by omega)
      obtain ⟨s, es, is, ps, ls, ls3, bs⟩ : ∃ s : List Int, atI [PyData.tuple [.int 1, .int 0, .int 1], .tuple [.int (-2), .int 0, .int 1], .tuple [.int 1, .int 1, .int 1], .tuple [.int (-3), .int 0, .int 0, .int 1]] (x8.fmod 4) = some (.tuple (zs s)) ∧ Irr s ∧ plainR s = s ∧ s.length ≤ 4 ∧ 3 ≤ s.length ∧ bd (2 ^ 4) s := by
        have hx : x8.fmod 4 = 0 ∨ x8.fmod 4 = 1 ∨ x8.fmod 4 = 2 ∨ x8.fmod 4 = 3 := by omega
        rcases hx with e | e | e | e <;> rw [e]
        · exact ⟨[1, 0, 1], rfl, i1, by decide, by decide, by decide, by unfold bd; decide⟩
        · exact ⟨[-2, 0, 1], rfl, i2, by decide, by decide, by decide, by unfold bd; decide⟩
        · exact ⟨[1, 1, 1], rfl, i3, by decide, by decide, by decide, by unfold bd; decide⟩
        · exact ⟨[-3, 0, 0, 1], rfl, i4, by decide, by decide, by decide, by unfold bd; decide⟩
      have sm : Sm (L.length + 1) := show _ ≤ big by omega
      refine ⟨L ++ [s], ⟨fun l hl => ?_, ?_⟩, by simp; omega, by rw [sumL_snoc]; omega, ?_⟩
      · rcases List.mem_append.mp hl with z | z
        · exact hL.ir l z
        · rw [List.mem_singleton.mp z]
          exact ⟨is, ps, ls, bs⟩
      · rw [List.nodup_append]
        refine ⟨hL.nd, by simp, fun a ha b hb z => ?_⟩
        have := hl2 a ha
        rw [z, List.mem_singleton.mp hb] at this
        omega
      · simp [hdS, b__law_grown, a7, h, a8, es, sm, rws_snoc]
    · exact ⟨L, hL, by omega, by omega, by simp [hdS, b__law_grown, a7, h]⟩
  have g1 := fmod_lo x9 (j := 6) (by omega)
  have g2 := fmod_hi x9 (j := 6) (by omega)
  have sf1 : SF [1] := fun p ir d => by
    have := Dv.len ir.1 (show Dv p (vl [1]) from by
      obtain ⟨c, q, c0, e⟩ := d
      exact ⟨c, mulR q p, c0, fun x => by
        rw [e x, vl_pwR, vl_mulR, Int.pow_succ, Int.pow_succ, Int.pow_zero]
        grind⟩) (isRow_of (by decide)) (by simp)
    have := ir.2.1
    simp at *
    omega
  obtain ⟨η2, e2, row, bare, v2, v6, r2, q1, q2, q3, q4, q5, q6, q7⟩ := loop_rng (f := foB (tbl pr (n + 2)) 2 w__law_grown_1) (lo := 0) (n := L2.length)
    (R := fun k η => ∃ (row bare : List Int) (v2 v6 : Option Sl), η = [some (.sh (.list (zs xs))), some (.ow (rws L2)), v2, u3, some (.sh (.tuple (zs row))), some (.sh (.tuple (zs bare))), v6, none] ∧ Parts (L2.take k) row ∧ Parts (L2.take k) bare ∧ SF bare ∧ row.length ≤ 5 + sumL (L2.take k) ∧ bare.length ≤ 1 + sumL (L2.take k) ∧ bd (2 ^ (3 + 42 * k)) row ∧ bd (2 ^ (1 + 14 * k)) bare)
    (fun k η hk hR => by
      obtain ⟨row, bare, v2, v6, rfl, q1, q2, q3, q4, q5, q6, q7⟩ := hR
      obtain ⟨row', bare', u6', w1, w2, w3, w4, w5, w6, w7, w8⟩ := grown_two n (xs := xs) h15 hF h4 h6 k hk row bare q1 q2 q3 q4 q5 q6 q7 u3 v2 v6
      rw [Int.zero_add]
      exact ⟨_, w8, row', bare', _, u6', rfl, w1, w2, w3, w4, w5, w6, w7⟩) [some (.sh (.list (zs xs))), some (.ow (rws L2)), u2, u3, some (.sh (.tuple (zs [1 + x9.fmod 6]))), some (.sh (.tuple (zs [1]))), none, none]
      ⟨[1 + x9.fmod 6], [1], u2, none, rfl, Parts.num (by omega), Parts.num (by omega), sf1, by simp; omega, by simp, fun c hc => by rw [List.mem_singleton.mp hc]; omega, fun c hc => by rw [List.mem_singleton.mp hc]; decide⟩
  subst r2
  have tk : L2.take L2.length = L2 := List.take_length
  rw [tk] at q1 q2 q4 q5
  have q6 : bd (2 ^ 171) row := bd_mono q6 (Nat.pow_le_pow_right (by omega) (by omega))
  have q7 : bd (2 ^ 57) bare := bd_mono q7 (Nat.pow_le_pow_right (by omega) (by omega))
  obtain ⟨s, es, s0, sb⟩ : ∃ s : Int, atI [PyData.int 1, .int (-1)] (x14.fmod 2) = some (.int s) ∧ s ≠ 0 ∧ s.natAbs = 1 := by
    have g1 := fmod_lo x14 (j := 2) (by omega)
    have g2 := fmod_hi x14 (j := 2) (by omega)
    have hx : x14.fmod 2 = 0 ∨ x14.fmod 2 = 1 := by omega
    rcases hx with e | e <;> rw [e]
    · exact ⟨1, rfl, by decide, by decide⟩
    · exact ⟨-1, rfl, by decide, by decide⟩
  have c := ev_comp_map (T := tbl pr (n + 2)) (η := [some (.sh (.list (zs xs))), some (.ow (rws L2)), v2, u3, some (.sh (.tuple (zs row))), some (.sh (.tuple (zs bare))), v6, none]) (v := 7) (it := .itv (.var 4)) (e := .bin .mul (.var 7) (.idx (.lst (.cons (.int 1) (.cons (.neg (.int 1)) .nil))) (.bin .mod (.idx (.var 0) (.int 14)) (.int 2))))
    (w := .v (.cl (.tuple (zs row)))) row PyData.int (fun x => .int (x * s)) rfl (by simp) rfl (by omega) (fun x hx => by
      have mk : MuOk x s := mulOk_of (a := 172) (b := 2) (Nat.lt_of_le_of_lt (q6 x hx) (Nat.pow_lt_pow_right (by decide) (by omega))) (by omega) (by omega)
      simp [a14, es, mk])
  have em : row.map (fun x => PyData.int (x * s)) = zs (scaleI s row) := by simp [zs, scaleI]
  rw [em] at c
  have pl := r__law_plain n bare q2.1 (by omega)
  have ps := q1.scale s0
  have sd : SF (plainR bare) := fun p ir d => q3 p ir ((dv_plain q2.1 q2.2.1).mp d)
  have pd := plain_row q2.1
  have pn := plain_ne q2.1 q2.2.1
  have pp := plain_plain q2.1
  have b1 : bareR (scaleI s row) = plainR bare := bare_one ps.1 ps.2.1 q2.1 q2.2.1 q3 fun p ir => by rw [ps.2.2 p ir, q2.2.2 p ir]
  have b2 : bareR (plainR bare) = plainR bare := by
    rw [bare_one pd pn pd pn sd (fun p ir => Iff.rfl), pp]
  have bs : bd (2 ^ 171) (scaleI s row) := fun c hc => by
    obtain ⟨x, hx, rfl⟩ := List.mem_map.mp hc
    rw [Int.natAbs_mul, sb, Nat.mul_one]
    exact q6 x hx
  have sl : small (L2.length : Int) := small_nat (by omega)
  refine ⟨scaleI s row, plainR bare, ?_, ps.1, ps.2.1, by rw [scaleI_len]; omega, bs, pd, pn, by have := plain_len bare; omega, plain_bd q7, b1, b2⟩
  have e1 : loopF (foB (tbl pr (n + 2)) 2 w__law_grown_3) (rngD 0 m) [some (.sh (.list (zs xs))), some (.ow []), none, none, none, none, none, none] = _ := e1
  have ez1 : zs [1 + x9.fmod 6] = [.int (1 + x9.fmod 6)] := rfl
  have ez2 : zs [1] = [.int 1] := rfl
  rw [ez1, ez2] at e2
  have g0 : exS (tbl pr (n + 2)) (hdS 0 b__law_grown) [some (.sh (.list (zs xs))), none, none, none, none, none, none, none] = .nx [some (.sh (.list (zs xs))), some (.ow []), none, none, none, none, none, none] := by simp [hdS, b__law_grown]
  have g1' : exS (tbl pr (n + 2)) (hdS 1 b__law_grown) [some (.sh (.list (zs xs))), some (.ow []), none, none, none, none, none, none] = .nx [some (.sh (.list (zs xs))), some (.ow (rws L)), u2, u3, none, none, none, none] := by simp [hdS, b__law_grown, a0, hm, smm, e1]
  rw [exS_step (s := b__law_grown) (a := hdS 0 b__law_grown) (r := tlS 1 b__law_grown) rfl g0, exS_step (s := tlS 1 b__law_grown) (a := hdS 1 b__law_grown) (r := tlS 2 b__law_grown) rfl g1', exS_step (s := tlS 2 b__law_grown) (a := hdS 2 b__law_grown) (r := tlS 3 b__law_grown) rfl step]
  simp [tlS, b__law_grown, a9, sl, e2, c, pl]

theorem bare_by {f q r : List Int} {k : Nat} (hf : isRow f) (f0 : f ≠ []) (hl : r.length < (comR f).length) (e : ∀ x, vl q x * vl (comR f) x + vl r x = vl f x * (topI (comR f) * topI (comR f)) ^ k) : plainR (trim q) = bareR f := by
  have ic := com_of hf f0
  have t0 := topI_ne ic.rd ic.d0
  have T0 : (topI (comR f) * topI (comR f)) ^ k ≠ 0 := Int.pow_ne_zero (Int.mul_ne_zero t0 t0)
  obtain ⟨c, s, c0, es⟩ := ic.d1
  have z := rem_zero (u := fun x => vl s x * (topI (comR f) * topI (comR f)) ^ k - c * vl q x) (g := comR f) (v := scaleI c r) ic.rd (by rw [scaleI_len]; exact hl) (fun x => by
    have a := e x
    have b := es x
    rw [vl_scaleI]
    grind)
  have z0 : ∀ x, vl r x = 0 := fun x => by
    have := vl_all0 z x
    rw [vl_scaleI] at this
    rcases Int.mul_eq_zero.mp this with w | w
    · exact w
    · exact absurd w c0
  have e2 : ∀ x, vl f x * (topI (comR f) * topI (comR f)) ^ k = vl (trim q) x * vl (comR f) x * 1 := fun x => by
    have := e x
    rw [z0 x] at this
    rw [vl_trim]
    omega
  have hb := IsCom.bare ic hf f0 (isRow_trim q) T0 (k := 1) (by omega) e2
  exact (bare_one hf f0 hb.rb hb.b0 hb.sf hb.same).symm
theorem r__law_bare (n : Nat) {f : List Int} (hf : isRow f) (f0 : f ≠ []) (l : f.length ≤ 9) (bf : bd (2 ^ 60) f) : runF pr (n + 4) k__law_bare [.tuple (zs f)] = .ok (.tuple (zs (bareR f))) := by
  rw [st__law_bare]
  have hb : big = 16777216 := rfl
  have fp : 0 < f.length := List.length_pos_iff.mpr f0
  have em : ((f.length : Int) - 1).toNat = f.length - 1 := by omega
  have s1 : small 1 := small_nat (n := 1) (by omega)
  have c := ev_comp_map (T := tbl pr (n + 3)) (η := [some (.sh (.tuple (zs f))), none, none]) (v := 2) (it := .ir2 (.int 1) (.bi .len (.cons (.var 0) .nil))) (e := .bin .mul (.var 2) (.idx (.var 0) (.var 2)))
    (w := .r 1 (f.length - 1)) (List.range (f.length - 1)) (fun (k : Nat) => .int (1 + (k : Int))) (fun (k : Nat) => .int ((1 + (k : Int)) * f[1 + k]?.getD 0)) rfl (by simp [s1, small_nat (show f.length ≤ big by omega), em]) (rngD_one _) (by simp; omega)
    (fun k hk => by
      have hk := List.mem_range.mp hk
      have e1 : 1 + (k : Int) = ((1 + k : Nat) : Int) := by omega
      have a := atI_zs (ns := f) (k := 1 + k) (by omega)
      have mk : MuOk ((1 + k : Nat) : Int) (f[1 + k]?.getD 0) := mulOk_of (a := 20) (b := 61) (by omega) (Nat.lt_of_le_of_lt (bd_get bf _) (by decide)) (by omega)
      rw [e1]
      simp [-Int.natCast_add, a, mk])
  have e : (List.range (f.length - 1)).map (fun (k : Nat) => PyData.int ((1 + (k : Int)) * f[1 + k]?.getD 0)) = zs (slR f) := by
    rw [slR_row hf f0, ← slopeR_drv]
    simp [slopeR, zs]
  rw [e] at c
  have ls := slR_len f
  obtain ⟨B, hB⟩ : ∃ B : Nat, B = 67 := ⟨_, rfl⟩
  obtain ⟨M, hM⟩ : ∃ M : Nat, M = 41600 := ⟨_, rfl⟩
  have bf2 : bd (2 ^ B) f := bd_mono bf (Nat.pow_le_pow_right (by omega) (by omega))
  have bs : bd (2 ^ B) (slR f) := bd_trim fun c hc => by
    obtain ⟨k, hk, rfl⟩ := List.mem_map.mp hc
    have hk := List.mem_range.mp hk
    rw [Int.natAbs_mul, hB, show 67 = 7 + 60 from rfl, Nat.pow_add]
    exact Nat.mul_le_mul (by omega) (bd_get bf _)
  have sh := r__law_shared n f (slR f) hf (isRow_trim _) (N := 9) (B := B) bf2 bs l (by omega) (by omega) (by omega) (by omega)
  have cb := com_bd (N := 9) (B := 60) (M := M) hf f0 bf l (by omega) (by omega) (by omega)
  have ic := com_of hf f0
  have cl := Dv.len ic.rd ic.d1 hf f0
  have cp := List.length_pos_iff.mpr ic.d0
  have sh : runF pr (n + 3) k__law_shared [.tuple (zs f), .tuple (zs (slR f))] = .ok (.tuple (zs (comR f))) := sh
  have kd : divK f (comR f) ≤ 10 := by unfold divK; omega
  obtain ⟨q, r, k, t, hr, hq, ev⟩ := r__law_times_in (n + 1) f (comR f) ic.d0 cl bf cb (Nat.le_refl _) (by omega) (by
    have := Nat.mul_le_mul_right (M + M + 1) kd
    omega)
  have tl := trim_len q
  have pl := r__law_plain (n + 1) (trim q) (isRow_trim _) (by omega)
  rw [bare_by hf f0 hr ev] at pl
  simp [b__law_bare, c, sh, t, pl]
theorem law_turn (n : Nat) (sc : D) (c : Int) (u1 u2 u3 : Option Sl) : ∃ v2 v3, foB (tbl pr (n + 6)) 1 w_law_1 (.int c) [some (.sh sc), u1, u2, u3, none] = .nx [some (.sh sc), some (.sh (.int c)), v2, v3, none] := by
  have hbig : big = 16777216 := rfl
  obtain ⟨row, rr, d1, d2, d3⟩ := r__law_row (n + 2) c 6 (by omega)
  rw [show ((6 : Nat) : Int) = 6 from rfl] at rr
  have g0 : exS (tbl pr (n + 6)) (hdS 0 w_law_1) [some (.sh sc), some (.sh (.int c)), u2, u3, none] = .nx [some (.sh sc), some (.sh (.int c)), some (.sh (.tuple (zs row))), u3, none] := by
    simp [hdS, w_law_1, rr]
  obtain ⟨f, rf, f0, lf, bf, g1⟩ : ∃ f : List Int, isRow f ∧ f ≠ [] ∧ f.length ≤ 9 ∧ bd (2 ^ 60) f ∧ exS (tbl pr (n + 6)) (hdS 1 w_law_1) [some (.sh sc), some (.sh (.int c)), some (.sh (.tuple (zs row))), u3, none] = .nx [some (.sh sc), some (.sh (.int c)), some (.sh (.tuple (zs f))), u3, none] := by
    by_cases z : row = []
    · refine ⟨[0, 1], isRow_of (by decide), by simp, by simp, fun c hc => ?_, ?_⟩
      · rcases List.mem_cons.mp hc with e | hc
        · rw [e]; decide
        · rw [List.mem_singleton.mp hc]; decide
      · simp [hdS, w_law_1, z]
        rfl
    · exact ⟨row, d1, z, by omega, d3, by simp [hdS, w_law_1, z]⟩
  obtain ⟨M, hM⟩ : ∃ M : Nat, M = 41600 := ⟨_, rfl⟩
  obtain ⟨p1, _, bl⟩ := r_bare_row (n + 1) rf f0 (N := 9) (B := 60) (M := M) bf lf (by omega) (by omega) (by omega) (by omega) (by omega) (by omega)
  have p2 := r__law_bare (n + 2) rf f0 lf bf
  have rt := r__law_right (n + 4) (bareR f) (by omega)
  have g2 : exS (tbl pr (n + 6)) (hdS 2 w_law_1) [some (.sh sc), some (.sh (.int c)), some (.sh (.tuple (zs f))), u3, none] = .nx [some (.sh sc), some (.sh (.int c)), some (.sh (.tuple (zs f))), u3, none] := by
    simp [hdS, w_law_1, p1, p2, rt]
  have d3' : DivOk c 3 := divOk_small (by omega) (by omega)
  obtain ⟨xs, hn, hl, hx⟩ := r__law_numbers (n + 5) (c.fdiv 3 + 1) 15 (by omega)
  rw [show ((15 : Nat) : Int) = 15 from rfl] at hn
  obtain ⟨h, d, gr, h1, h2, h3, h4, h5, h6, h7, h8, h9, h10⟩ := r__law_grown (n + 3) xs (by omega)
  have g3 : exS (tbl pr (n + 6)) (hdS 3 w_law_1) [some (.sh sc), some (.sh (.int c)), some (.sh (.tuple (zs f))), u3, none] = .nx [some (.sh sc), some (.sh (.int c)), some (.sh (.tuple (zs h))), some (.sh (.tuple (zs d))), none] := by
    simp [hdS, w_law_1, d3', hn, gr]
  obtain ⟨M2, hM2⟩ : ∃ M : Nat, M = 682900 := ⟨_, rfl⟩
  obtain ⟨M3, hM3⟩ : ∃ M : Nat, M = 6400 := ⟨_, rfl⟩
  obtain ⟨q1, _, _⟩ := r_bare_row (n + 1) h1 h2 (N := 11) (B := 171) (M := M2) h4 h3 (by omega) (by omega) (by omega) (by omega) (by omega) (by omega)
  obtain ⟨q2, _, _⟩ := r_bare_row (n + 1) h5 h6 (N := 7) (B := 57) (M := M3) h8 h7 (by omega) (by omega) (by omega) (by omega) (by omega) (by omega)
  rw [h9] at q1
  rw [h10] at q2
  have rt2 := r__law_right (n + 4) d (by omega)
  have g4 : exS (tbl pr (n + 6)) (tlS 4 w_law_1) [some (.sh sc), some (.sh (.int c)), some (.sh (.tuple (zs h))), some (.sh (.tuple (zs d))), none] = .nx [some (.sh sc), some (.sh (.int c)), some (.sh (.tuple (zs h))), some (.sh (.tuple (zs d))), none] := by
    simp [tlS, w_law_1, q1, q2, rt2]
  refine ⟨some (.sh (.tuple (zs h))), some (.sh (.tuple (zs d))), ?_⟩
  rw [foB]
  show exS (tbl pr (n + 6)) w_law_1 [some (.sh sc), some (.sh (.int c)), u2, u3, none] = _
  rw [exS_step (s := w_law_1) (a := hdS 0 w_law_1) (r := tlS 1 w_law_1) rfl g0, exS_step (s := tlS 1 w_law_1) (a := hdS 1 w_law_1) (r := tlS 2 w_law_1) rfl g1, exS_step (s := tlS 2 w_law_1) (a := hdS 2 w_law_1) (r := tlS 3 w_law_1) rfl g2, exS_step (s := tlS 3 w_law_1) (a := hdS 3 w_law_1) (r := tlS 4 w_law_1) rfl g3, g4]
theorem main (ns : List Int) (hl : ns.length ≤ 63) (_hb : ∀ z ∈ ns, Builtin.Int.intBits z ≤ 1048576) : runF pr 40 k_law [.list (zs ns)] = .ok (.bool true) := by
  have hb : big = 16777216 := rfl
  rw [st_law]
  obtain ⟨c0, h0⟩ := r__law_cell 38 ns
  have ec : cutD (zs ns) (some 1) (some 8) = zs ((ns.drop 1).take 7) := by
    have := cutD_both (zs ns) 1 8
    rw [show ((1 : Nat) : Int) = 1 from rfl, show ((8 : Nat) : Int) = 8 from rfl] at this
    rw [this, zs_drop, zs_take]
  have lc : ((ns.drop 1).take 7).length ≤ 7 := by rw [List.length_take]; omega
  generalize (ns.drop 1).take 7 = ys at ec lc
  have cat : catL [PyData.int c0] (zs ys) = .ok (.nw (zs (c0 :: ys))) := by
    rw [catL_ok (by simp; omega)]
    rfl
  obtain ⟨η', e, v1, v2, v3, e2⟩ := loop_rel (α := Int) (σ := Unit) (f := foB (tbl pr 39) 1 w_law_1) (g := PyData.int) (stp := fun s _ => s)
    (R := fun _ η => ∃ u1 u2 u3, η = [some (.sh (.list (zs ns))), u1, u2, u3, none]) (c0 :: ys)
    (fun _ c η _ hR => by
      obtain ⟨u1, u2, u3, rfl⟩ := hR
      obtain ⟨v2, v3, h⟩ := law_turn 33 (.list (zs ns)) c u1 u2 u3
      exact ⟨_, h, _, v2, v3, rfl⟩) () [some (.sh (.list (zs ns))), none, none, none, none] ⟨none, none, none, rfl⟩
  rw [zs_map] at e
  subst e2
  have rb : runF pr 39 k_bare_row [.tuple []] = .ex 2 := by
    rw [st_bare_row]
    simp [b_bare_row]
  have e3 : heB 2 (.only 1) = true := by decide
  simp [b_law, h0, ec, cat, e, exS_tryA, rb, hsF, subX, heD, e3]

end Lw
/-! the table against the text, and the end -/
namespace Lw
open PySem PySem.Spec PyProof.Rows L2 PD
theorem ok_shared_part : defOk pr (topS 11) i_shared_part = true := by decide +kernel
theorem bi_shared_part : ∀ (kV doc pm : Value) (an : Option Addr) (cdv ct : Value) (us : List Value), us.length = (i_shared_part.N.take i_shared_part.np).length → bindArgs (PySem.W.fnOf "shared_part" "shared_part" (defArgs (topS 11)) (defBody (topS 11)) (defScope (topS 11)) .none kV doc pm an cdv ct) ⟨us, []⟩ = pure ((i_shared_part.N.take i_shared_part.np).zip us) :=
  fun _ _ _ _ _ _ us hl => match us, hl with | [_, _], _ => rfl
theorem ok_trimmed : defOk pr (topS 13) i_trimmed = true := by decide +kernel
theorem bi_trimmed : ∀ (kV doc pm : Value) (an : Option Addr) (cdv ct : Value) (us : List Value), us.length = (i_trimmed.N.take i_trimmed.np).length → bindArgs (PySem.W.fnOf "trimmed" "trimmed" (defArgs (topS 13)) (defBody (topS 13)) (defScope (topS 13)) .none kV doc pm an cdv ct) ⟨us, []⟩ = pure ((i_trimmed.N.take i_trimmed.np).zip us) :=
  fun _ _ _ _ _ _ us hl => match us, hl with | [_], _ => rfl
theorem ok_slope : defOk pr (topS 14) i_slope = true := by decide +kernel
theorem bi_slope : ∀ (kV doc pm : Value) (an : Option Addr) (cdv ct : Value) (us : List Value), us.length = (i_slope.N.take i_slope.np).length → bindArgs (PySem.W.fnOf "slope" "slope" (defArgs (topS 14)) (defBody (topS 14)) (defScope (topS 14)) .none kV doc pm an cdv ct) ⟨us, []⟩ = pure ((i_slope.N.take i_slope.np).zip us) :=
  fun _ _ _ _ _ _ us hl => match us, hl with | [_], _ => rfl
theorem ok_put_low : defOk pr (topS 15) i_put_low = true := by decide +kernel
theorem bi_put_low : ∀ (kV doc pm : Value) (an : Option Addr) (cdv ct : Value) (us : List Value), us.length = (i_put_low.N.take i_put_low.np).length → bindArgs (PySem.W.fnOf "put_low" "put_low" (defArgs (topS 15)) (defBody (topS 15)) (defScope (topS 15)) .none kV doc pm an cdv ct) ⟨us, []⟩ = pure ((i_put_low.N.take i_put_low.np).zip us) :=
  fun _ _ _ _ _ _ us hl => match us, hl with | [_], _ => rfl
theorem ok_plain_row : defOk pr (topS 16) i_plain_row = true := by decide +kernel
theorem bi_plain_row : ∀ (kV doc pm : Value) (an : Option Addr) (cdv ct : Value) (us : List Value), us.length = (i_plain_row.N.take i_plain_row.np).length → bindArgs (PySem.W.fnOf "plain_row" "plain_row" (defArgs (topS 16)) (defBody (topS 16)) (defScope (topS 16)) .none kV doc pm an cdv ct) ⟨us, []⟩ = pure ((i_plain_row.N.take i_plain_row.np).zip us) :=
  fun _ _ _ _ _ _ us hl => match us, hl with | [_], _ => rfl
theorem ok_divided : defOk pr (topS 18) i_divided = true := by decide +kernel
theorem bi_divided : ∀ (kV doc pm : Value) (an : Option Addr) (cdv ct : Value) (us : List Value), us.length = (i_divided.N.take i_divided.np).length → bindArgs (PySem.W.fnOf "divided" "divided" (defArgs (topS 18)) (defBody (topS 18)) (defScope (topS 18)) .none kV doc pm an cdv ct) ⟨us, []⟩ = pure ((i_divided.N.take i_divided.np).zip us) :=
  fun _ _ _ _ _ _ us hl => match us, hl with | [_, _], _ => rfl
theorem ok_rest_of : defOk pr (topS 19) i_rest_of = true := by decide +kernel
theorem bi_rest_of : ∀ (kV doc pm : Value) (an : Option Addr) (cdv ct : Value) (us : List Value), us.length = (i_rest_of.N.take i_rest_of.np).length → bindArgs (PySem.W.fnOf "rest_of" "rest_of" (defArgs (topS 19)) (defBody (topS 19)) (defScope (topS 19)) .none kV doc pm an cdv ct) ⟨us, []⟩ = pure ((i_rest_of.N.take i_rest_of.np).zip us) :=
  fun _ _ _ _ _ _ us hl => match us, hl with | [_, _], _ => rfl
theorem ok_shared_row : defOk pr (topS 20) i_shared_row = true := by decide +kernel
theorem bi_shared_row : ∀ (kV doc pm : Value) (an : Option Addr) (cdv ct : Value) (us : List Value), us.length = (i_shared_row.N.take i_shared_row.np).length → bindArgs (PySem.W.fnOf "shared_row" "shared_row" (defArgs (topS 20)) (defBody (topS 20)) (defScope (topS 20)) .none kV doc pm an cdv ct) ⟨us, []⟩ = pure ((i_shared_row.N.take i_shared_row.np).zip us) :=
  fun _ _ _ _ _ _ us hl => match us, hl with | [_, _], _ => rfl
theorem ok_quotient_of : defOk pr (topS 21) i_quotient_of = true := by decide +kernel
theorem bi_quotient_of : ∀ (kV doc pm : Value) (an : Option Addr) (cdv ct : Value) (us : List Value), us.length = (i_quotient_of.N.take i_quotient_of.np).length → bindArgs (PySem.W.fnOf "quotient_of" "quotient_of" (defArgs (topS 21)) (defBody (topS 21)) (defScope (topS 21)) .none kV doc pm an cdv ct) ⟨us, []⟩ = pure ((i_quotient_of.N.take i_quotient_of.np).zip us) :=
  fun _ _ _ _ _ _ us hl => match us, hl with | [_, _], _ => rfl
theorem ok_bare_row : defOk pr (topS 22) i_bare_row = true := by decide +kernel
theorem bi_bare_row : ∀ (kV doc pm : Value) (an : Option Addr) (cdv ct : Value) (us : List Value), us.length = (i_bare_row.N.take i_bare_row.np).length → bindArgs (PySem.W.fnOf "bare_row" "bare_row" (defArgs (topS 22)) (defBody (topS 22)) (defScope (topS 22)) .none kV doc pm an cdv ct) ⟨us, []⟩ = pure ((i_bare_row.N.take i_bare_row.np).zip us) :=
  fun _ _ _ _ _ _ us hl => match us, hl with | [_], _ => rfl
theorem ok__law_cell : defOk pr (topS 24) i__law_cell = true := by decide +kernel
theorem bi__law_cell : ∀ (kV doc pm : Value) (an : Option Addr) (cdv ct : Value) (us : List Value), us.length = (i__law_cell.N.take i__law_cell.np).length → bindArgs (PySem.W.fnOf "_law_cell" "_law_cell" (defArgs (topS 24)) (defBody (topS 24)) (defScope (topS 24)) .none kV doc pm an cdv ct) ⟨us, []⟩ = pure ((i__law_cell.N.take i__law_cell.np).zip us) :=
  fun _ _ _ _ _ _ us hl => match us, hl with | [_, _], _ => rfl
theorem ok__law_numbers : defOk pr (topS 25) i__law_numbers = true := by decide +kernel
theorem bi__law_numbers : ∀ (kV doc pm : Value) (an : Option Addr) (cdv ct : Value) (us : List Value), us.length = (i__law_numbers.N.take i__law_numbers.np).length → bindArgs (PySem.W.fnOf "_law_numbers" "_law_numbers" (defArgs (topS 25)) (defBody (topS 25)) (defScope (topS 25)) .none kV doc pm an cdv ct) ⟨us, []⟩ = pure ((i__law_numbers.N.take i__law_numbers.np).zip us) :=
  fun _ _ _ _ _ _ us hl => match us, hl with | [_, _], _ => rfl
theorem ok__law_whole : defOk pr (topS 26) i__law_whole = true := by decide +kernel
theorem bi__law_whole : ∀ (kV doc pm : Value) (an : Option Addr) (cdv ct : Value) (us : List Value), us.length = (i__law_whole.N.take i__law_whole.np).length → bindArgs (PySem.W.fnOf "_law_whole" "_law_whole" (defArgs (topS 26)) (defBody (topS 26)) (defScope (topS 26)) .none kV doc pm an cdv ct) ⟨us, []⟩ = pure ((i__law_whole.N.take i__law_whole.np).zip us) :=
  fun _ _ _ _ _ _ us hl => match us, hl with | [_], _ => rfl
theorem ok__law_trim : defOk pr (topS 28) i__law_trim = true := by decide +kernel
theorem bi__law_trim : ∀ (kV doc pm : Value) (an : Option Addr) (cdv ct : Value) (us : List Value), us.length = (i__law_trim.N.take i__law_trim.np).length → bindArgs (PySem.W.fnOf "_law_trim" "_law_trim" (defArgs (topS 28)) (defBody (topS 28)) (defScope (topS 28)) .none kV doc pm an cdv ct) ⟨us, []⟩ = pure ((i__law_trim.N.take i__law_trim.np).zip us) :=
  fun _ _ _ _ _ _ us hl => match us, hl with | [_], _ => rfl
theorem ok__law_times : defOk pr (topS 29) i__law_times = true := by decide +kernel
theorem bi__law_times : ∀ (kV doc pm : Value) (an : Option Addr) (cdv ct : Value) (us : List Value), us.length = (i__law_times.N.take i__law_times.np).length → bindArgs (PySem.W.fnOf "_law_times" "_law_times" (defArgs (topS 29)) (defBody (topS 29)) (defScope (topS 29)) .none kV doc pm an cdv ct) ⟨us, []⟩ = pure ((i__law_times.N.take i__law_times.np).zip us) :=
  fun _ _ _ _ _ _ us hl => match us, hl with | [_, _], _ => rfl
theorem ok__law_some_row : defOk pr (topS 30) i__law_some_row = true := by decide +kernel
theorem bi__law_some_row : ∀ (kV doc pm : Value) (an : Option Addr) (cdv ct : Value) (us : List Value), us.length = (i__law_some_row.N.take i__law_some_row.np).length → bindArgs (PySem.W.fnOf "_law_some_row" "_law_some_row" (defArgs (topS 30)) (defBody (topS 30)) (defScope (topS 30)) .none kV doc pm an cdv ct) ⟨us, []⟩ = pure ((i__law_some_row.N.take i__law_some_row.np).zip us) :=
  fun _ _ _ _ _ _ us hl => match us, hl with | [_, _], _ => rfl
theorem ok__law_planted : defOk pr (topS 31) i__law_planted = true := by decide +kernel
theorem bi__law_planted : ∀ (kV doc pm : Value) (an : Option Addr) (cdv ct : Value) (us : List Value), us.length = (i__law_planted.N.take i__law_planted.np).length → bindArgs (PySem.W.fnOf "_law_planted" "_law_planted" (defArgs (topS 31)) (defBody (topS 31)) (defScope (topS 31)) .none kV doc pm an cdv ct) ⟨us, []⟩ = pure ((i__law_planted.N.take i__law_planted.np).zip us) :=
  fun _ _ _ _ _ _ us hl => match us, hl with | [_], _ => rfl
theorem ok__law_row : defOk pr (topS 32) i__law_row = true := by decide +kernel
theorem bi__law_row : ∀ (kV doc pm : Value) (an : Option Addr) (cdv ct : Value) (us : List Value), us.length = (i__law_row.N.take i__law_row.np).length → bindArgs (PySem.W.fnOf "_law_row" "_law_row" (defArgs (topS 32)) (defBody (topS 32)) (defScope (topS 32)) .none kV doc pm an cdv ct) ⟨us, []⟩ = pure ((i__law_row.N.take i__law_row.np).zip us) :=
  fun _ _ _ _ _ _ us hl => match us, hl with | [_, _], _ => rfl
theorem ok__law_left : defOk pr (topS 33) i__law_left = true := by decide +kernel
theorem bi__law_left : ∀ (kV doc pm : Value) (an : Option Addr) (cdv ct : Value) (us : List Value), us.length = (i__law_left.N.take i__law_left.np).length → bindArgs (PySem.W.fnOf "_law_left" "_law_left" (defArgs (topS 33)) (defBody (topS 33)) (defScope (topS 33)) .none kV doc pm an cdv ct) ⟨us, []⟩ = pure ((i__law_left.N.take i__law_left.np).zip us) :=
  fun _ _ _ _ _ _ us hl => match us, hl with | [_, _], _ => rfl
theorem ok__law_put_low : defOk pr (topS 34) i__law_put_low = true := by decide +kernel
theorem bi__law_put_low : ∀ (kV doc pm : Value) (an : Option Addr) (cdv ct : Value) (us : List Value), us.length = (i__law_put_low.N.take i__law_put_low.np).length → bindArgs (PySem.W.fnOf "_law_put_low" "_law_put_low" (defArgs (topS 34)) (defBody (topS 34)) (defScope (topS 34)) .none kV doc pm an cdv ct) ⟨us, []⟩ = pure ((i__law_put_low.N.take i__law_put_low.np).zip us) :=
  fun _ _ _ _ _ _ us hl => match us, hl with | [_], _ => rfl
theorem ok__law_plain : defOk pr (topS 35) i__law_plain = true := by decide +kernel
theorem bi__law_plain : ∀ (kV doc pm : Value) (an : Option Addr) (cdv ct : Value) (us : List Value), us.length = (i__law_plain.N.take i__law_plain.np).length → bindArgs (PySem.W.fnOf "_law_plain" "_law_plain" (defArgs (topS 35)) (defBody (topS 35)) (defScope (topS 35)) .none kV doc pm an cdv ct) ⟨us, []⟩ = pure ((i__law_plain.N.take i__law_plain.np).zip us) :=
  fun _ _ _ _ _ _ us hl => match us, hl with | [_], _ => rfl
theorem ok__law_shared : defOk pr (topS 36) i__law_shared = true := by decide +kernel
theorem bi__law_shared : ∀ (kV doc pm : Value) (an : Option Addr) (cdv ct : Value) (us : List Value), us.length = (i__law_shared.N.take i__law_shared.np).length → bindArgs (PySem.W.fnOf "_law_shared" "_law_shared" (defArgs (topS 36)) (defBody (topS 36)) (defScope (topS 36)) .none kV doc pm an cdv ct) ⟨us, []⟩ = pure ((i__law_shared.N.take i__law_shared.np).zip us) :=
  fun _ _ _ _ _ _ us hl => match us, hl with | [_, _], _ => rfl
theorem ok__law_right : defOk pr (topS 37) i__law_right = true := by decide +kernel
theorem bi__law_right : ∀ (kV doc pm : Value) (an : Option Addr) (cdv ct : Value) (us : List Value), us.length = (i__law_right.N.take i__law_right.np).length → bindArgs (PySem.W.fnOf "_law_right" "_law_right" (defArgs (topS 37)) (defBody (topS 37)) (defScope (topS 37)) .none kV doc pm an cdv ct) ⟨us, []⟩ = pure ((i__law_right.N.take i__law_right.np).zip us) :=
  fun _ _ _ _ _ _ us hl => match us, hl with | [_, _], _ => rfl
theorem ok__law_times_in : defOk pr (topS 38) i__law_times_in = true := by decide +kernel
theorem bi__law_times_in : ∀ (kV doc pm : Value) (an : Option Addr) (cdv ct : Value) (us : List Value), us.length = (i__law_times_in.N.take i__law_times_in.np).length → bindArgs (PySem.W.fnOf "_law_times_in" "_law_times_in" (defArgs (topS 38)) (defBody (topS 38)) (defScope (topS 38)) .none kV doc pm an cdv ct) ⟨us, []⟩ = pure ((i__law_times_in.N.take i__law_times_in.np).zip us) :=
  fun _ _ _ _ _ _ us hl => match us, hl with | [_, _], _ => rfl
theorem ok__law_bare : defOk pr (topS 39) i__law_bare = true := by decide +kernel
theorem bi__law_bare : ∀ (kV doc pm : Value) (an : Option Addr) (cdv ct : Value) (us : List Value), us.length = (i__law_bare.N.take i__law_bare.np).length → bindArgs (PySem.W.fnOf "_law_bare" "_law_bare" (defArgs (topS 39)) (defBody (topS 39)) (defScope (topS 39)) .none kV doc pm an cdv ct) ⟨us, []⟩ = pure ((i__law_bare.N.take i__law_bare.np).zip us) :=
  fun _ _ _ _ _ _ us hl => match us, hl with | [_], _ => rfl
theorem ok__law_grown : defOk pr (topS 40) i__law_grown = true := by decide +kernel
theorem bi__law_grown : ∀ (kV doc pm : Value) (an : Option Addr) (cdv ct : Value) (us : List Value), us.length = (i__law_grown.N.take i__law_grown.np).length → bindArgs (PySem.W.fnOf "_law_grown" "_law_grown" (defArgs (topS 40)) (defBody (topS 40)) (defScope (topS 40)) .none kV doc pm an cdv ct) ⟨us, []⟩ = pure ((i__law_grown.N.take i__law_grown.np).zip us) :=
  fun _ _ _ _ _ _ us hl => match us, hl with | [_], _ => rfl
theorem ok_law : defOk pr (topS 41) i_law = true := by decide +kernel
theorem bi_law : ∀ (kV doc pm : Value) (an : Option Addr) (cdv ct : Value) (us : List Value), us.length = (i_law.N.take i_law.np).length → bindArgs (PySem.W.fnOf "law" "law" (defArgs (topS 41)) (defBody (topS 41)) (defScope (topS 41)) .none kV doc pm an cdv ct) ⟨us, []⟩ = pure ((i_law.N.take i_law.np).zip us) :=
  fun _ _ _ _ _ _ us hl => match us, hl with | [_], _ => rfl
theorem at_law {K : Fg} {mg : Str → Option Value} {h : Heap} (X : K.In h) (G : h.Ns mainGlobals mg) {fa : Addr} (hmg : mg "law" = some (.ref fa)) {P : Program} {w : World} (htr : P.given.tree = none)
    {f0 : Addr} {od0 an0 : Option Addr} {sl0 : Array (Option Value)} {oc0 kV0 dc0 pm0 cd0 ct0 : Value}
    (a0 : PySem.W.nsIn K mainGlobals "shared_part" = some (some (.ref f0))) (l0 : K.lookup f0 = some ⟨oc0, od0, .func (PySem.W.fnOf "shared_part" "shared_part" (defArgs (topS 11)) (defBody (topS 11)) (defScope (topS 11)) .none kV0 dc0 pm0 an0 cd0 ct0), sl0⟩) (c0 : PySem.W.codeIn K cd0 "shared_part" = true) (k0 : PySem.W.keepIn K (.ref f0) = true)
    {f1 : Addr} {od1 an1 : Option Addr} {sl1 : Array (Option Value)} {oc1 kV1 dc1 pm1 cd1 ct1 : Value}
    (a1 : PySem.W.nsIn K mainGlobals "trimmed" = some (some (.ref f1))) (l1 : K.lookup f1 = some ⟨oc1, od1, .func (PySem.W.fnOf "trimmed" "trimmed" (defArgs (topS 13)) (defBody (topS 13)) (defScope (topS 13)) .none kV1 dc1 pm1 an1 cd1 ct1), sl1⟩) (c1 : PySem.W.codeIn K cd1 "trimmed" = true) (k1 : PySem.W.keepIn K (.ref f1) = true)
    {f2 : Addr} {od2 an2 : Option Addr} {sl2 : Array (Option Value)} {oc2 kV2 dc2 pm2 cd2 ct2 : Value}
    (a2 : PySem.W.nsIn K mainGlobals "slope" = some (some (.ref f2))) (l2 : K.lookup f2 = some ⟨oc2, od2, .func (PySem.W.fnOf "slope" "slope" (defArgs (topS 14)) (defBody (topS 14)) (defScope (topS 14)) .none kV2 dc2 pm2 an2 cd2 ct2), sl2⟩) (c2 : PySem.W.codeIn K cd2 "slope" = true) (k2 : PySem.W.keepIn K (.ref f2) = true)
    {f3 : Addr} {od3 an3 : Option Addr} {sl3 : Array (Option Value)} {oc3 kV3 dc3 pm3 cd3 ct3 : Value}
    (a3 : PySem.W.nsIn K mainGlobals "put_low" = some (some (.ref f3))) (l3 : K.lookup f3 = some ⟨oc3, od3, .func (PySem.W.fnOf "put_low" "put_low" (defArgs (topS 15)) (defBody (topS 15)) (defScope (topS 15)) .none kV3 dc3 pm3 an3 cd3 ct3), sl3⟩) (c3 : PySem.W.codeIn K cd3 "put_low" = true) (k3 : PySem.W.keepIn K (.ref f3) = true)
    {f4 : Addr} {od4 an4 : Option Addr} {sl4 : Array (Option Value)} {oc4 kV4 dc4 pm4 cd4 ct4 : Value}
    (a4 : PySem.W.nsIn K mainGlobals "plain_row" = some (some (.ref f4))) (l4 : K.lookup f4 = some ⟨oc4, od4, .func (PySem.W.fnOf "plain_row" "plain_row" (defArgs (topS 16)) (defBody (topS 16)) (defScope (topS 16)) .none kV4 dc4 pm4 an4 cd4 ct4), sl4⟩) (c4 : PySem.W.codeIn K cd4 "plain_row" = true) (k4 : PySem.W.keepIn K (.ref f4) = true)
    {f5 : Addr} {od5 an5 : Option Addr} {sl5 : Array (Option Value)} {oc5 kV5 dc5 pm5 cd5 ct5 : Value}
    (a5 : PySem.W.nsIn K mainGlobals "divided" = some (some (.ref f5))) (l5 : K.lookup f5 = some ⟨oc5, od5, .func (PySem.W.fnOf "divided" "divided" (defArgs (topS 18)) (defBody (topS 18)) (defScope (topS 18)) .none kV5 dc5 pm5 an5 cd5 ct5), sl5⟩) (c5 : PySem.W.codeIn K cd5 "divided" = true) (k5 : PySem.W.keepIn K (.ref f5) = true)
    {f6 : Addr} {od6 an6 : Option Addr} {sl6 : Array (Option Value)} {oc6 kV6 dc6 pm6 cd6 ct6 : Value}
    (a6 : PySem.W.nsIn K mainGlobals "rest_of" = some (some (.ref f6))) (l6 : K.lookup f6 = some ⟨oc6, od6, .func (PySem.W.fnOf "rest_of" "rest_of" (defArgs (topS 19)) (defBody (topS 19)) (defScope (topS 19)) .none kV6 dc6 pm6 an6 cd6 ct6), sl6⟩) (c6 : PySem.W.codeIn K cd6 "rest_of" = true) (k6 : PySem.W.keepIn K (.ref f6) = true)
    {f7 : Addr} {od7 an7 : Option Addr} {sl7 : Array (Option Value)} {oc7 kV7 dc7 pm7 cd7 ct7 : Value}
    (a7 : PySem.W.nsIn K mainGlobals "shared_row" = some (some (.ref f7))) (l7 : K.lookup f7 = some ⟨oc7, od7, .func (PySem.W.fnOf "shared_row" "shared_row" (defArgs (topS 20)) (defBody (topS 20)) (defScope (topS 20)) .none kV7 dc7 pm7 an7 cd7 ct7), sl7⟩) (c7 : PySem.W.codeIn K cd7 "shared_row" = true) (k7 : PySem.W.keepIn K (.ref f7) = true)
    {f8 : Addr} {od8 an8 : Option Addr} {sl8 : Array (Option Value)} {oc8 kV8 dc8 pm8 cd8 ct8 : Value}
    (a8 : PySem.W.nsIn K mainGlobals "quotient_of" = some (some (.ref f8))) (l8 : K.lookup f8 = some ⟨oc8, od8, .func (PySem.W.fnOf "quotient_of" "quotient_of" (defArgs (topS 21)) (defBody (topS 21)) (defScope (topS 21)) .none kV8 dc8 pm8 an8 cd8 ct8), sl8⟩) (c8 : PySem.W.codeIn K cd8 "quotient_of" = true) (k8 : PySem.W.keepIn K (.ref f8) = true)
    {f9 : Addr} {od9 an9 : Option Addr} {sl9 : Array (Option Value)} {oc9 kV9 dc9 pm9 cd9 ct9 : Value}
    (a9 : PySem.W.nsIn K mainGlobals "bare_row" = some (some (.ref f9))) (l9 : K.lookup f9 = some ⟨oc9, od9, .func (PySem.W.fnOf "bare_row" "bare_row" (defArgs (topS 22)) (defBody (topS 22)) (defScope (topS 22)) .none kV9 dc9 pm9 an9 cd9 ct9), sl9⟩) (c9 : PySem.W.codeIn K cd9 "bare_row" = true) (k9 : PySem.W.keepIn K (.ref f9) = true)
    {f10 : Addr} {od10 an10 : Option Addr} {sl10 : Array (Option Value)} {oc10 kV10 dc10 pm10 cd10 ct10 : Value}
    (a10 : PySem.W.nsIn K mainGlobals "_law_cell" = some (some (.ref f10))) (l10 : K.lookup f10 = some ⟨oc10, od10, .func (PySem.W.fnOf "_law_cell" "_law_cell" (defArgs (topS 24)) (defBody (topS 24)) (defScope (topS 24)) .none kV10 dc10 pm10 an10 cd10 ct10), sl10⟩) (c10 : PySem.W.codeIn K cd10 "_law_cell" = true) (k10 : PySem.W.keepIn K (.ref f10) = true)
    {f11 : Addr} {od11 an11 : Option Addr} {sl11 : Array (Option Value)} {oc11 kV11 dc11 pm11 cd11 ct11 : Value}
    (a11 : PySem.W.nsIn K mainGlobals "_law_numbers" = some (some (.ref f11))) (l11 : K.lookup f11 = some ⟨oc11, od11, .func (PySem.W.fnOf "_law_numbers" "_law_numbers" (defArgs (topS 25)) (defBody (topS 25)) (defScope (topS 25)) .none kV11 dc11 pm11 an11 cd11 ct11), sl11⟩) (c11 : PySem.W.codeIn K cd11 "_law_numbers" = true) (k11 : PySem.W.keepIn K (.ref f11) = true)
    {f12 : Addr} {od12 an12 : Option Addr} {sl12 : Array (Option Value)} {oc12 kV12 dc12 pm12 cd12 ct12 : Value}
    (a12 : PySem.W.nsIn K mainGlobals "_law_whole" = some (some (.ref f12))) (l12 : K.lookup f12 = some ⟨oc12, od12, .func (PySem.W.fnOf "_law_whole" "_law_whole" (defArgs (topS 26)) (defBody (topS 26)) (defScope (topS 26)) .none kV12 dc12 pm12 an12 cd12 ct12), sl12⟩) (c12 : PySem.W.codeIn K cd12 "_law_whole" = true) (k12 : PySem.W.keepIn K (.ref f12) = true)
    {f13 : Addr} {od13 an13 : Option Addr} {sl13 : Array (Option Value)} {oc13 kV13 dc13 pm13 cd13 ct13 : Value}
    (a13 : PySem.W.nsIn K mainGlobals "_law_trim" = some (some (.ref f13))) (l13 : K.lookup f13 = some ⟨oc13, od13, .func (PySem.W.fnOf "_law_trim" "_law_trim" (defArgs (topS 28)) (defBody (topS 28)) (defScope (topS 28)) .none kV13 dc13 pm13 an13 cd13 ct13), sl13⟩) (c13 : PySem.W.codeIn K cd13 "_law_trim" = true) (k13 : PySem.W.keepIn K (.ref f13) = true)
    {f14 : Addr} {od14 an14 : Option Addr} {sl14 : Array (Option Value)} {oc14 kV14 dc14 pm14 cd14 ct14 : Value}
    (a14 : PySem.W.nsIn K mainGlobals "_law_times" = some (some (.ref f14))) (l14 : K.lookup f14 = some ⟨oc14, od14, .func (PySem.W.fnOf "_law_times" "_law_times" (defArgs (topS 29)) (defBody (topS 29)) (defScope (topS 29)) .none kV14 dc14 pm14 an14 cd14 ct14), sl14⟩) (c14 : PySem.W.codeIn K cd14 "_law_times" = true) (k14 : PySem.W.keepIn K (.ref f14) = true)
    {f15 : Addr} {od15 an15 : Option Addr} {sl15 : Array (Option Value)} {oc15 kV15 dc15 pm15 cd15 ct15 : Value}
    (a15 : PySem.W.nsIn K mainGlobals "_law_some_row" = some (some (.ref f15))) (l15 : K.lookup f15 = some ⟨oc15, od15, .func (PySem.W.fnOf "_law_some_row" "_law_some_row" (defArgs (topS 30)) (defBody (topS 30)) (defScope (topS 30)) .none kV15 dc15 pm15 an15 cd15 ct15), sl15⟩) (c15 : PySem.W.codeIn K cd15 "_law_some_row" = true) (k15 : PySem.W.keepIn K (.ref f15) = true)
    {f16 : Addr} {od16 an16 : Option Addr} {sl16 : Array (Option Value)} {oc16 kV16 dc16 pm16 cd16 ct16 : Value}
    (a16 : PySem.W.nsIn K mainGlobals "_law_planted" = some (some (.ref f16))) (l16 : K.lookup f16 = some ⟨oc16, od16, .func (PySem.W.fnOf "_law_planted" "_law_planted" (defArgs (topS 31)) (defBody (topS 31)) (defScope (topS 31)) .none kV16 dc16 pm16 an16 cd16 ct16), sl16⟩) (c16 : PySem.W.codeIn K cd16 "_law_planted" = true) (k16 : PySem.W.keepIn K (.ref f16) = true)
    {f17 : Addr} {od17 an17 : Option Addr} {sl17 : Array (Option Value)} {oc17 kV17 dc17 pm17 cd17 ct17 : Value}
    (a17 : PySem.W.nsIn K mainGlobals "_law_row" = some (some (.ref f17))) (l17 : K.lookup f17 = some ⟨oc17, od17, .func (PySem.W.fnOf "_law_row" "_law_row" (defArgs (topS 32)) (defBody (topS 32)) (defScope (topS 32)) .none kV17 dc17 pm17 an17 cd17 ct17), sl17⟩) (c17 : PySem.W.codeIn K cd17 "_law_row" = true) (k17 : PySem.W.keepIn K (.ref f17) = true)
    {f18 : Addr} {od18 an18 : Option Addr} {sl18 : Array (Option Value)} {oc18 kV18 dc18 pm18 cd18 ct18 : Value}
    (a18 : PySem.W.nsIn K mainGlobals "_law_left" = some (some (.ref f18))) (l18 : K.lookup f18 = some ⟨oc18, od18, .func (PySem.W.fnOf "_law_left" "_law_left" (defArgs (topS 33)) (defBody (topS 33)) (defScope (topS 33)) .none kV18 dc18 pm18 an18 cd18 ct18), sl18⟩) (c18 : PySem.W.codeIn K cd18 "_law_left" = true) (k18 : PySem.W.keepIn K (.ref f18) = true)
    {f19 : Addr} {od19 an19 : Option Addr} {sl19 : Array (Option Value)} {oc19 kV19 dc19 pm19 cd19 ct19 : Value}
    (a19 : PySem.W.nsIn K mainGlobals "_law_put_low" = some (some (.ref f19))) (l19 : K.lookup f19 = some ⟨oc19, od19, .func (PySem.W.fnOf "_law_put_low" "_law_put_low" (defArgs (topS 34)) (defBody (topS 34)) (defScope (topS 34)) .none kV19 dc19 pm19 an19 cd19 ct19), sl19⟩) (c19 : PySem.W.codeIn K cd19 "_law_put_low" = true) (k19 : PySem.W.keepIn K (.ref f19) = true)
    {f20 : Addr} {od20 an20 : Option Addr} {sl20 : Array (Option Value)} {oc20 kV20 dc20 pm20 cd20 ct20 : Value}
    (a20 : PySem.W.nsIn K mainGlobals "_law_plain" = some (some (.ref f20))) (l20 : K.lookup f20 = some ⟨oc20, od20, .func (PySem.W.fnOf "_law_plain" "_law_plain" (defArgs (topS 35)) (defBody (topS 35)) (defScope (topS 35)) .none kV20 dc20 pm20 an20 cd20 ct20), sl20⟩) (c20 : PySem.W.codeIn K cd20 "_law_plain" = true) (k20 : PySem.W.keepIn K (.ref f20) = true)
    {f21 : Addr} {od21 an21 : Option Addr} {sl21 : Array (Option Value)} {oc21 kV21 dc21 pm21 cd21 ct21 : Value}
    (a21 : PySem.W.nsIn K mainGlobals "_law_shared" = some (some (.ref f21))) (l21 : K.lookup f21 = some ⟨oc21, od21, .func (PySem.W.fnOf "_law_shared" "_law_shared" (defArgs (topS 36)) (defBody (topS 36)) (defScope (topS 36)) .none kV21 dc21 pm21 an21 cd21 ct21), sl21⟩) (c21 : PySem.W.codeIn K cd21 "_law_shared" = true) (k21 : PySem.W.keepIn K (.ref f21) = true)
    {f22 : Addr} {od22 an22 : Option Addr} {sl22 : Array (Option Value)} {oc22 kV22 dc22 pm22 cd22 ct22 : Value}
    (a22 : PySem.W.nsIn K mainGlobals "_law_right" = some (some (.ref f22))) (l22 : K.lookup f22 = some ⟨oc22, od22, .func (PySem.W.fnOf "_law_right" "_law_right" (defArgs (topS 37)) (defBody (topS 37)) (defScope (topS 37)) .none kV22 dc22 pm22 an22 cd22 ct22), sl22⟩) (c22 : PySem.W.codeIn K cd22 "_law_right" = true) (k22 : PySem.W.keepIn K (.ref f22) = true)
    {f23 : Addr} {od23 an23 : Option Addr} {sl23 : Array (Option Value)} {oc23 kV23 dc23 pm23 cd23 ct23 : Value}
    (a23 : PySem.W.nsIn K mainGlobals "_law_times_in" = some (some (.ref f23))) (l23 : K.lookup f23 = some ⟨oc23, od23, .func (PySem.W.fnOf "_law_times_in" "_law_times_in" (defArgs (topS 38)) (defBody (topS 38)) (defScope (topS 38)) .none kV23 dc23 pm23 an23 cd23 ct23), sl23⟩) (c23 : PySem.W.codeIn K cd23 "_law_times_in" = true) (k23 : PySem.W.keepIn K (.ref f23) = true)
    {f24 : Addr} {od24 an24 : Option Addr} {sl24 : Array (Option Value)} {oc24 kV24 dc24 pm24 cd24 ct24 : Value}
    (a24 : PySem.W.nsIn K mainGlobals "_law_bare" = some (some (.ref f24))) (l24 : K.lookup f24 = some ⟨oc24, od24, .func (PySem.W.fnOf "_law_bare" "_law_bare" (defArgs (topS 39)) (defBody (topS 39)) (defScope (topS 39)) .none kV24 dc24 pm24 an24 cd24 ct24), sl24⟩) (c24 : PySem.W.codeIn K cd24 "_law_bare" = true) (k24 : PySem.W.keepIn K (.ref f24) = true)
    {f25 : Addr} {od25 an25 : Option Addr} {sl25 : Array (Option Value)} {oc25 kV25 dc25 pm25 cd25 ct25 : Value}
    (a25 : PySem.W.nsIn K mainGlobals "_law_grown" = some (some (.ref f25))) (l25 : K.lookup f25 = some ⟨oc25, od25, .func (PySem.W.fnOf "_law_grown" "_law_grown" (defArgs (topS 40)) (defBody (topS 40)) (defScope (topS 40)) .none kV25 dc25 pm25 an25 cd25 ct25), sl25⟩) (c25 : PySem.W.codeIn K cd25 "_law_grown" = true) (k25 : PySem.W.keepIn K (.ref f25) = true)
    {f26 : Addr} {od26 an26 : Option Addr} {sl26 : Array (Option Value)} {oc26 kV26 dc26 pm26 cd26 ct26 : Value}
    (a26 : PySem.W.nsIn K mainGlobals "law" = some (some (.ref f26))) (l26 : K.lookup f26 = some ⟨oc26, od26, .func (PySem.W.fnOf "law" "law" (defArgs (topS 41)) (defBody (topS 41)) (defScope (topS 41)) .none kV26 dc26 pm26 an26 cd26 ct26), sl26⟩) (c26 : PySem.W.codeIn K cd26 "law" = true) (k26 : PySem.W.keepIn K (.ref f26) = true)
    (z0 : PySem.W.nsIn K mainGlobals "len" = some none)
    (z1 : PySem.W.nsIn K mainGlobals "abs" = some none)
    (z2 : PySem.W.nsIn K mainGlobals "max" = some none)
    (z3 : PySem.W.nsIn K mainGlobals "min" = some none)
    (z4 : PySem.W.nsIn K mainGlobals "int" = some none)
    (z5 : PySem.W.nsIn K mainGlobals "tuple" = some none)
    (z6 : PySem.W.nsIn K mainGlobals "list" = some none)
    (z7 : PySem.W.nsIn K mainGlobals "all" = some none)
    (z8 : PySem.W.nsIn K mainGlobals "any" = some none)
    (z9 : PySem.W.nsIn K mainGlobals "bool" = some none)
    (z10 : PySem.W.nsIn K mainGlobals "str" = some none)
    (z11 : PySem.W.nsIn K mainGlobals "isinstance" = some none)
    (z12 : PySem.W.nsIn K mainGlobals "range" = some none)
    {e0 : Addr} (ea0 : PySem.W.nsIn K mainGlobals "StackError" = some (some (.ref e0))) (ek0 : PySem.W.keepIn K (.ref e0) = true) (ex0 : PySem.W.excIn K e0 [.type "ValueError", .type "Exception", .type "BaseException", .type "object"] "ValueError.__new__" = true) (es0 : PySem.W.subIn K (.ref e0) (.type "BaseException") = some true) (et0 : PySem.W.typeIn K (.ref e0) = some (.type "type"))
    {e1 : Addr} (ea1 : PySem.W.nsIn K mainGlobals "NoNumber" = some (some (.ref e1))) (ek1 : PySem.W.keepIn K (.ref e1) = true) (ex1 : PySem.W.excIn K e1 [.type "ValueError", .type "Exception", .type "BaseException", .type "object"] "ValueError.__new__" = true) (es1 : PySem.W.subIn K (.ref e1) (.type "BaseException") = some true) (et1 : PySem.W.typeIn K (.ref e1) = some (.type "type"))
    {e2 : Addr} (ea2 : PySem.W.nsIn K mainGlobals "NoRow" = some (some (.ref e2))) (ek2 : PySem.W.keepIn K (.ref e2) = true) (ex2 : PySem.W.excIn K e2 [.type "ValueError", .type "Exception", .type "BaseException", .type "object"] "ValueError.__new__" = true) (es2 : PySem.W.subIn K (.ref e2) (.type "BaseException") = some true) (et2 : PySem.W.typeIn K (.ref e2) = some (.type "type"))
    {e3 : Addr} (ea3 : PySem.W.nsIn K mainGlobals "NoEnds" = some (some (.ref e3))) (ek3 : PySem.W.keepIn K (.ref e3) = true) (ex3 : PySem.W.excIn K e3 [.type "ValueError", .type "Exception", .type "BaseException", .type "object"] "ValueError.__new__" = true) (es3 : PySem.W.subIn K (.ref e3) (.type "BaseException") = some true) (et3 : PySem.W.typeIn K (.ref e3) = some (.type "type"))
    {e4 : Addr} (ea4 : PySem.W.nsIn K mainGlobals "NoPlace" = some (some (.ref e4))) (ek4 : PySem.W.keepIn K (.ref e4) = true) (ex4 : PySem.W.excIn K e4 [.type "ValueError", .type "Exception", .type "BaseException", .type "object"] "ValueError.__new__" = true) (es4 : PySem.W.subIn K (.ref e4) (.type "BaseException") = some true) (et4 : PySem.W.typeIn K (.ref e4) = some (.type "type"))
    {e5 : Addr} (ea5 : PySem.W.nsIn K mainGlobals "NoText" = some (some (.ref e5))) (ek5 : PySem.W.keepIn K (.ref e5) = true) (ex5 : PySem.W.excIn K e5 [.type "ValueError", .type "Exception", .type "BaseException", .type "object"] "ValueError.__new__" = true) (es5 : PySem.W.subIn K (.ref e5) (.type "BaseException") = some true) (et5 : PySem.W.typeIn K (.ref e5) = some (.type "type"))
    {e6 : Addr} (ea6 : PySem.W.nsIn K mainGlobals "NoKind" = some (some (.ref e6))) (ek6 : PySem.W.keepIn K (.ref e6) = true) (ex6 : PySem.W.excIn K e6 [.type "ValueError", .type "Exception", .type "BaseException", .type "object"] "ValueError.__new__" = true) (es6 : PySem.W.subIn K (.ref e6) (.type "BaseException") = some true) (et6 : PySem.W.typeIn K (.ref e6) = some (.type "type"))
    {e7 : Addr} (ea7 : PySem.W.nsIn K mainGlobals "NoHeight" = some (some (.ref e7))) (ek7 : PySem.W.keepIn K (.ref e7) = true) (ex7 : PySem.W.excIn K e7 [.type "ValueError", .type "Exception", .type "BaseException", .type "object"] "ValueError.__new__" = true) (es7 : PySem.W.subIn K (.ref e7) (.type "BaseException") = some true) (et7 : PySem.W.typeIn K (.ref e7) = some (.type "type"))
    {e8 : Addr} (ea8 : PySem.W.nsIn K mainGlobals "NoLine" = some (some (.ref e8))) (ek8 : PySem.W.keepIn K (.ref e8) = true) (ex8 : PySem.W.excIn K e8 [.type "ValueError", .type "Exception", .type "BaseException", .type "object"] "ValueError.__new__" = true) (es8 : PySem.W.subIn K (.ref e8) (.type "BaseException") = some true) (et8 : PySem.W.typeIn K (.ref e8) = some (.type "type"))
    (em0_0 : PySem.W.exmOne K (.ref e0) (.ref e0) = some true)
    (em0_1 : PySem.W.exmOne K (.ref e1) (.ref e0) = some true)
    (em0_2 : PySem.W.exmOne K (.ref e2) (.ref e0) = some true)
    (em0_3 : PySem.W.exmOne K (.ref e3) (.ref e0) = some true)
    (em0_4 : PySem.W.exmOne K (.ref e4) (.ref e0) = some true)
    (em0_5 : PySem.W.exmOne K (.ref e5) (.ref e0) = some true)
    (em0_6 : PySem.W.exmOne K (.ref e6) (.ref e0) = some true)
    (em0_7 : PySem.W.exmOne K (.ref e7) (.ref e0) = some true)
    (em0_8 : PySem.W.exmOne K (.ref e8) (.ref e0) = some true)
    (vz : PySem.W.nsIn K mainGlobals "ValueError" = some none) (vn : PySem.W.specialIn K (.builtin "object.__class__") "__get__" = some (some (.builtin "getset_descriptor.__get__"))) (vt : PySem.W.takesIn K (.builtin "object.__class__") = some true)
    (xg0 : PySem.W.findIn K (.ref e0) "__getattribute__" = some (some (.builtin "BaseException.__getattribute__"))) (xk0 : PySem.W.findIn K (.ref e0) "__getattr__" = some none) (xd0 : PySem.W.hasDictIn K e0 = true) (xc0 : PySem.W.findIn K (.ref e0) "__class__" = some (some (.builtin "object.__class__"))) (xm0 : PySem.W.mroIn K e0 (.type "object") = some true) (xv0 : PySem.W.kitOne K (.ref e0) (.type "ValueError") = some true)
    (y0_0 : PySem.W.kitOne K (.ref e0) (.ref e0) = some true)
    (y0_1 : PySem.W.kitOne K (.ref e0) (.ref e1) = some false)
    (y0_2 : PySem.W.kitOne K (.ref e0) (.ref e2) = some false)
    (y0_3 : PySem.W.kitOne K (.ref e0) (.ref e3) = some false)
    (y0_4 : PySem.W.kitOne K (.ref e0) (.ref e4) = some false)
    (y0_5 : PySem.W.kitOne K (.ref e0) (.ref e5) = some false)
    (y0_6 : PySem.W.kitOne K (.ref e0) (.ref e6) = some false)
    (y0_7 : PySem.W.kitOne K (.ref e0) (.ref e7) = some false)
    (y0_8 : PySem.W.kitOne K (.ref e0) (.ref e8) = some false)
    (xg1 : PySem.W.findIn K (.ref e1) "__getattribute__" = some (some (.builtin "BaseException.__getattribute__"))) (xk1 : PySem.W.findIn K (.ref e1) "__getattr__" = some none) (xd1 : PySem.W.hasDictIn K e1 = true) (xc1 : PySem.W.findIn K (.ref e1) "__class__" = some (some (.builtin "object.__class__"))) (xm1 : PySem.W.mroIn K e1 (.type "object") = some true) (xv1 : PySem.W.kitOne K (.ref e1) (.type "ValueError") = some true)
    (y1_0 : PySem.W.kitOne K (.ref e1) (.ref e0) = some true)
    (y1_1 : PySem.W.kitOne K (.ref e1) (.ref e1) = some true)
    (y1_2 : PySem.W.kitOne K (.ref e1) (.ref e2) = some false)
    (y1_3 : PySem.W.kitOne K (.ref e1) (.ref e3) = some false)
    (y1_4 : PySem.W.kitOne K (.ref e1) (.ref e4) = some false)
    (y1_5 : PySem.W.kitOne K (.ref e1) (.ref e5) = some false)
    (y1_6 : PySem.W.kitOne K (.ref e1) (.ref e6) = some false)
    (y1_7 : PySem.W.kitOne K (.ref e1) (.ref e7) = some false)
    (y1_8 : PySem.W.kitOne K (.ref e1) (.ref e8) = some false)
    (xg2 : PySem.W.findIn K (.ref e2) "__getattribute__" = some (some (.builtin "BaseException.__getattribute__"))) (xk2 : PySem.W.findIn K (.ref e2) "__getattr__" = some none) (xd2 : PySem.W.hasDictIn K e2 = true) (xc2 : PySem.W.findIn K (.ref e2) "__class__" = some (some (.builtin "object.__class__"))) (xm2 : PySem.W.mroIn K e2 (.type "object") = some true) (xv2 : PySem.W.kitOne K (.ref e2) (.type "ValueError") = some true)
    (y2_0 : PySem.W.kitOne K (.ref e2) (.ref e0) = some true)
    (y2_1 : PySem.W.kitOne K (.ref e2) (.ref e1) = some false)
    (y2_2 : PySem.W.kitOne K (.ref e2) (.ref e2) = some true)
    (y2_3 : PySem.W.kitOne K (.ref e2) (.ref e3) = some false)
    (y2_4 : PySem.W.kitOne K (.ref e2) (.ref e4) = some false)
    (y2_5 : PySem.W.kitOne K (.ref e2) (.ref e5) = some false)
    (y2_6 : PySem.W.kitOne K (.ref e2) (.ref e6) = some false)
    (y2_7 : PySem.W.kitOne K (.ref e2) (.ref e7) = some false)
    (y2_8 : PySem.W.kitOne K (.ref e2) (.ref e8) = some false)
    (xg3 : PySem.W.findIn K (.ref e3) "__getattribute__" = some (some (.builtin "BaseException.__getattribute__"))) (xk3 : PySem.W.findIn K (.ref e3) "__getattr__" = some none) (xd3 : PySem.W.hasDictIn K e3 = true) (xc3 : PySem.W.findIn K (.ref e3) "__class__" = some (some (.builtin "object.__class__"))) (xm3 : PySem.W.mroIn K e3 (.type "object") = some true) (xv3 : PySem.W.kitOne K (.ref e3) (.type "ValueError") = some true)
    (y3_0 : PySem.W.kitOne K (.ref e3) (.ref e0) = some true)
    (y3_1 : PySem.W.kitOne K (.ref e3) (.ref e1) = some false)
    (y3_2 : PySem.W.kitOne K (.ref e3) (.ref e2) = some false)
    (y3_3 : PySem.W.kitOne K (.ref e3) (.ref e3) = some true)
    (y3_4 : PySem.W.kitOne K (.ref e3) (.ref e4) = some false)
    (y3_5 : PySem.W.kitOne K (.ref e3) (.ref e5) = some false)
    (y3_6 : PySem.W.kitOne K (.ref e3) (.ref e6) = some false)
    (y3_7 : PySem.W.kitOne K (.ref e3) (.ref e7) = some false)
    (y3_8 : PySem.W.kitOne K (.ref e3) (.ref e8) = some false)
    (xg4 : PySem.W.findIn K (.ref e4) "__getattribute__" = some (some (.builtin "BaseException.__getattribute__"))) (xk4 : PySem.W.findIn K (.ref e4) "__getattr__" = some none) (xd4 : PySem.W.hasDictIn K e4 = true) (xc4 : PySem.W.findIn K (.ref e4) "__class__" = some (some (.builtin "object.__class__"))) (xm4 : PySem.W.mroIn K e4 (.type "object") = some true) (xv4 : PySem.W.kitOne K (.ref e4) (.type "ValueError") = some true)
    (y4_0 : PySem.W.kitOne K (.ref e4) (.ref e0) = some true)
    (y4_1 : PySem.W.kitOne K (.ref e4) (.ref e1) = some false)
    (y4_2 : PySem.W.kitOne K (.ref e4) (.ref e2) = some false)
    (y4_3 : PySem.W.kitOne K (.ref e4) (.ref e3) = some false)
    (y4_4 : PySem.W.kitOne K (.ref e4) (.ref e4) = some true)
    (y4_5 : PySem.W.kitOne K (.ref e4) (.ref e5) = some false)
    (y4_6 : PySem.W.kitOne K (.ref e4) (.ref e6) = some false)
    (y4_7 : PySem.W.kitOne K (.ref e4) (.ref e7) = some false)
    (y4_8 : PySem.W.kitOne K (.ref e4) (.ref e8) = some false)
    (xg5 : PySem.W.findIn K (.ref e5) "__getattribute__" = some (some (.builtin "BaseException.__getattribute__"))) (xk5 : PySem.W.findIn K (.ref e5) "__getattr__" = some none) (xd5 : PySem.W.hasDictIn K e5 = true) (xc5 : PySem.W.findIn K (.ref e5) "__class__" = some (some (.builtin "object.__class__"))) (xm5 : PySem.W.mroIn K e5 (.type "object") = some true) (xv5 : PySem.W.kitOne K (.ref e5) (.type "ValueError") = some true)
    (y5_0 : PySem.W.kitOne K (.ref e5) (.ref e0) = some true)
    (y5_1 : PySem.W.kitOne K (.ref e5) (.ref e1) = some false)
    (y5_2 : PySem.W.kitOne K (.ref e5) (.ref e2) = some false)
    (y5_3 : PySem.W.kitOne K (.ref e5) (.ref e3) = some false)
    (y5_4 : PySem.W.kitOne K (.ref e5) (.ref e4) = some false)
    (y5_5 : PySem.W.kitOne K (.ref e5) (.ref e5) = some true)
    (y5_6 : PySem.W.kitOne K (.ref e5) (.ref e6) = some false)
    (y5_7 : PySem.W.kitOne K (.ref e5) (.ref e7) = some false)
    (y5_8 : PySem.W.kitOne K (.ref e5) (.ref e8) = some false)
    (xg6 : PySem.W.findIn K (.ref e6) "__getattribute__" = some (some (.builtin "BaseException.__getattribute__"))) (xk6 : PySem.W.findIn K (.ref e6) "__getattr__" = some none) (xd6 : PySem.W.hasDictIn K e6 = true) (xc6 : PySem.W.findIn K (.ref e6) "__class__" = some (some (.builtin "object.__class__"))) (xm6 : PySem.W.mroIn K e6 (.type "object") = some true) (xv6 : PySem.W.kitOne K (.ref e6) (.type "ValueError") = some true)
    (y6_0 : PySem.W.kitOne K (.ref e6) (.ref e0) = some true)
    (y6_1 : PySem.W.kitOne K (.ref e6) (.ref e1) = some false)
    (y6_2 : PySem.W.kitOne K (.ref e6) (.ref e2) = some false)
    (y6_3 : PySem.W.kitOne K (.ref e6) (.ref e3) = some false)
    (y6_4 : PySem.W.kitOne K (.ref e6) (.ref e4) = some false)
    (y6_5 : PySem.W.kitOne K (.ref e6) (.ref e5) = some false)
    (y6_6 : PySem.W.kitOne K (.ref e6) (.ref e6) = some true)
    (y6_7 : PySem.W.kitOne K (.ref e6) (.ref e7) = some false)
    (y6_8 : PySem.W.kitOne K (.ref e6) (.ref e8) = some false)
    (xg7 : PySem.W.findIn K (.ref e7) "__getattribute__" = some (some (.builtin "BaseException.__getattribute__"))) (xk7 : PySem.W.findIn K (.ref e7) "__getattr__" = some none) (xd7 : PySem.W.hasDictIn K e7 = true) (xc7 : PySem.W.findIn K (.ref e7) "__class__" = some (some (.builtin "object.__class__"))) (xm7 : PySem.W.mroIn K e7 (.type "object") = some true) (xv7 : PySem.W.kitOne K (.ref e7) (.type "ValueError") = some true)
    (y7_0 : PySem.W.kitOne K (.ref e7) (.ref e0) = some true)
    (y7_1 : PySem.W.kitOne K (.ref e7) (.ref e1) = some false)
    (y7_2 : PySem.W.kitOne K (.ref e7) (.ref e2) = some false)
    (y7_3 : PySem.W.kitOne K (.ref e7) (.ref e3) = some false)
    (y7_4 : PySem.W.kitOne K (.ref e7) (.ref e4) = some false)
    (y7_5 : PySem.W.kitOne K (.ref e7) (.ref e5) = some false)
    (y7_6 : PySem.W.kitOne K (.ref e7) (.ref e6) = some false)
    (y7_7 : PySem.W.kitOne K (.ref e7) (.ref e7) = some true)
    (y7_8 : PySem.W.kitOne K (.ref e7) (.ref e8) = some false)
    (xg8 : PySem.W.findIn K (.ref e8) "__getattribute__" = some (some (.builtin "BaseException.__getattribute__"))) (xk8 : PySem.W.findIn K (.ref e8) "__getattr__" = some none) (xd8 : PySem.W.hasDictIn K e8 = true) (xc8 : PySem.W.findIn K (.ref e8) "__class__" = some (some (.builtin "object.__class__"))) (xm8 : PySem.W.mroIn K e8 (.type "object") = some true) (xv8 : PySem.W.kitOne K (.ref e8) (.type "ValueError") = some true)
    (y8_0 : PySem.W.kitOne K (.ref e8) (.ref e0) = some true)
    (y8_1 : PySem.W.kitOne K (.ref e8) (.ref e1) = some false)
    (y8_2 : PySem.W.kitOne K (.ref e8) (.ref e2) = some false)
    (y8_3 : PySem.W.kitOne K (.ref e8) (.ref e3) = some false)
    (y8_4 : PySem.W.kitOne K (.ref e8) (.ref e4) = some false)
    (y8_5 : PySem.W.kitOne K (.ref e8) (.ref e5) = some false)
    (y8_6 : PySem.W.kitOne K (.ref e8) (.ref e6) = some false)
    (y8_7 : PySem.W.kitOne K (.ref e8) (.ref e7) = some false)
    (y8_8 : PySem.W.kitOne K (.ref e8) (.ref e8) = some true)
    {fo : Addr} {odo ano : Option Addr} {slo : Array (Option Value)} {oco kVo dco pmo cdo cto : Value} (ao : PySem.W.nsIn K mainGlobals "_law_only" = some (some (.ref fo))) (lo : K.lookup fo = some ⟨oco, odo, .func (PySem.W.fnOf "_law_only" "_law_only" (defArgs (topS 27)) (defBody (topS 27)) (defScope (topS 27)) .none kVo dco pmo ano cdo cto), slo⟩) (co : PySem.W.codeIn K cdo "_law_only" = true) (ko : PySem.W.keepIn K (.ref fo) = true) :
    ∃ fd : FuncData, (∀ (s : Shared) (u : Value), BindsTo s fd ⟨[u], []⟩ [("_law_script", u)]) ∧ ∀ base : Heap, K.In base → base.Ns mainGlobals mg → base.NoSeer → FnOk P w K mg base (L2N.CX P w) 80 fa fd ["_law_script"] (spL K 1 (runF pr 40 26)) := by
  have hA : AllF K mg pr fis [topS 11, topS 13, topS 14, topS 15, topS 16, topS 18, topS 19, topS 20, topS 21, topS 22, topS 24, topS 25, topS 26, topS 28, topS 29, topS 30, topS 31, topS 32, topS 33, topS 34, topS 35, topS 36, topS 37, topS 38, topS 39, topS 40, topS 41] := ⟨⟨funAt X G a0 l0 c0 k0 bi_shared_part, ok_shared_part⟩, ⟨⟨funAt X G a1 l1 c1 k1 bi_trimmed, ok_trimmed⟩, ⟨⟨funAt X G a2 l2 c2 k2 bi_slope, ok_slope⟩, ⟨⟨funAt X G a3 l3 c3 k3 bi_put_low, ok_put_low⟩, ⟨⟨funAt X G a4 l4 c4 k4 bi_plain_row, ok_plain_row⟩, ⟨⟨funAt X G a5 l5 c5 k5 bi_divided, ok_divided⟩, ⟨⟨funAt X G a6 l6 c6 k6 bi_rest_of, ok_rest_of⟩, ⟨⟨funAt X G a7 l7 c7 k7 bi_shared_row, ok_shared_row⟩, ⟨⟨funAt X G a8 l8 c8 k8 bi_quotient_of, ok_quotient_of⟩, ⟨⟨funAt X G a9 l9 c9 k9 bi_bare_row, ok_bare_row⟩, ⟨⟨funAt X G a10 l10 c10 k10 bi__law_cell, ok__law_cell⟩, ⟨⟨funAt X G a11 l11 c11 k11 bi__law_numbers, ok__law_numbers⟩, ⟨⟨funAt X G a12 l12 c12 k12 bi__law_whole, ok__law_whole⟩, ⟨⟨funAt X G a13 l13 c13 k13 bi__law_trim, ok__law_trim⟩, ⟨⟨funAt X G a14 l14 c14 k14 bi__law_times, ok__law_times⟩, ⟨⟨funAt X G a15 l15 c15 k15 bi__law_some_row, ok__law_some_row⟩, ⟨⟨funAt X G a16 l16 c16 k16 bi__law_planted, ok__law_planted⟩, ⟨⟨funAt X G a17 l17 c17 k17 bi__law_row, ok__law_row⟩, ⟨⟨funAt X G a18 l18 c18 k18 bi__law_left, ok__law_left⟩, ⟨⟨funAt X G a19 l19 c19 k19 bi__law_put_low, ok__law_put_low⟩, ⟨⟨funAt X G a20 l20 c20 k20 bi__law_plain, ok__law_plain⟩, ⟨⟨funAt X G a21 l21 c21 k21 bi__law_shared, ok__law_shared⟩, ⟨⟨funAt X G a22 l22 c22 k22 bi__law_right, ok__law_right⟩, ⟨⟨funAt X G a23 l23 c23 k23 bi__law_times_in, ok__law_times_in⟩, ⟨⟨funAt X G a24 l24 c24 k24 bi__law_bare, ok__law_bare⟩, ⟨⟨funAt X G a25 l25 c25 k25 bi__law_grown, ok__law_grown⟩, ⟨⟨funAt X G a26 l26 c26 k26 bi_law, ok_law⟩, trivial⟩⟩⟩⟩⟩⟩⟩⟩⟩⟩⟩⟩⟩⟩⟩⟩⟩⟩⟩⟩⟩⟩⟩⟩⟩⟩⟩
  refine lawL (st := topS 41) (xa := (fun c => if c = 1 then e1 else if c = 2 then e2 else if c = 3 then e3 else if c = 4 then e4 else if c = 5 then e5 else if c = 6 then e6 else if c = 7 then e7 else if c = 8 then e8 else e0)) ⟨fun f fi e => hA.get f fi e, fun x hx => ?_, fun g y d e => ?_, fun c x e => ?_, fun x hx c => ?_, fun hx => ?_, fun hx => ?_⟩ htr (show pr.fs[26]? = some i_law from rfl) rfl rfl hmg rfl (hA.2.2.2.2.2.2.2.2.2.2.2.2.2.2.2.2.2.2.2.2.2.2.2.2.2.2.1.1) (fun _ _ _ _ _ _ _ _ => .of_eq rfl) ok_law
  · exact NoneAll.get (show NoneAll mg bltNames from ⟨PySem.W.mg_none_of X G z0, PySem.W.mg_none_of X G z1, PySem.W.mg_none_of X G z2, PySem.W.mg_none_of X G z3, PySem.W.mg_none_of X G z4, PySem.W.mg_none_of X G z5, PySem.W.mg_none_of X G z6, PySem.W.mg_none_of X G z7, PySem.W.mg_none_of X G z8, PySem.W.mg_none_of X G z9, PySem.W.mg_none_of X G z10, PySem.W.mg_none_of X G z11, PySem.W.mg_none_of X G z12, trivial⟩) x hx
  · simp [pr] at e
  · match c, e with
    | 0, e => cases e; exact ⟨PySem.W.mg_of X G ea0, ek0, ex0, es0, et0, ea0⟩
    | 1, e => cases e; exact ⟨PySem.W.mg_of X G ea1, ek1, ex1, es1, et1, ea1⟩
    | 2, e => cases e; exact ⟨PySem.W.mg_of X G ea2, ek2, ex2, es2, et2, ea2⟩
    | 3, e => cases e; exact ⟨PySem.W.mg_of X G ea3, ek3, ex3, es3, et3, ea3⟩
    | 4, e => cases e; exact ⟨PySem.W.mg_of X G ea4, ek4, ex4, es4, et4, ea4⟩
    | 5, e => cases e; exact ⟨PySem.W.mg_of X G ea5, ek5, ex5, es5, et5, ea5⟩
    | 6, e => cases e; exact ⟨PySem.W.mg_of X G ea6, ek6, ex6, es6, et6, ea6⟩
    | 7, e => cases e; exact ⟨PySem.W.mg_of X G ea7, ek7, ex7, es7, et7, ea7⟩
    | 8, e => cases e; exact ⟨PySem.W.mg_of X G ea8, ek8, ex8, es8, et8, ea8⟩
    | _ + 9, e => cases e
  · have hx : x ∈ ([0] : List Nat) := hx
    simp only [List.mem_cons, List.not_mem_nil, or_false] at hx
    rcases hx with rfl
    · match c with
      | 0 => exact em0_0
      | 1 => exact em0_1
      | 2 => exact em0_2
      | 3 => exact em0_3
      | 4 => exact em0_4
      | 5 => exact em0_5
      | 6 => exact em0_6
      | 7 => exact em0_7
      | 8 => exact em0_8
      | c + 9 => exact em0_0
  · refine ⟨PySem.W.mg_none_of X G vz, fun c => ?_⟩
    match c with
    | 0 => refine ⟨⟨xg0, xk0, es0, xd0, xc0, vn, vt, xm0⟩, xv0, fun j y e => ?_⟩; match j, e with
      | 0, _ => exact y0_0
      | 1, _ => exact y0_1
      | 2, _ => exact y0_2
      | 3, _ => exact y0_3
      | 4, _ => exact y0_4
      | 5, _ => exact y0_5
      | 6, _ => exact y0_6
      | 7, _ => exact y0_7
      | 8, _ => exact y0_8
      | _ + 9, e => cases e
    | 1 => refine ⟨⟨xg1, xk1, es1, xd1, xc1, vn, vt, xm1⟩, xv1, fun j y e => ?_⟩; match j, e with
      | 0, _ => exact y1_0
      | 1, _ => exact y1_1
      | 2, _ => exact y1_2
      | 3, _ => exact y1_3
      | 4, _ => exact y1_4
      | 5, _ => exact y1_5
      | 6, _ => exact y1_6
      | 7, _ => exact y1_7
      | 8, _ => exact y1_8
      | _ + 9, e => cases e
    | 2 => refine ⟨⟨xg2, xk2, es2, xd2, xc2, vn, vt, xm2⟩, xv2, fun j y e => ?_⟩; match j, e with
      | 0, _ => exact y2_0
      | 1, _ => exact y2_1
      | 2, _ => exact y2_2
      | 3, _ => exact y2_3
      | 4, _ => exact y2_4
      | 5, _ => exact y2_5
      | 6, _ => exact y2_6
      | 7, _ => exact y2_7
      | 8, _ => exact y2_8
      | _ + 9, e => cases e
    | 3 => refine ⟨⟨xg3, xk3, es3, xd3, xc3, vn, vt, xm3⟩, xv3, fun j y e => ?_⟩; match j, e with
      | 0, _ => exact y3_0
      | 1, _ => exact y3_1
      | 2, _ => exact y3_2
      | 3, _ => exact y3_3
      | 4, _ => exact y3_4
      | 5, _ => exact y3_5
      | 6, _ => exact y3_6
      | 7, _ => exact y3_7
      | 8, _ => exact y3_8
      | _ + 9, e => cases e
    | 4 => refine ⟨⟨xg4, xk4, es4, xd4, xc4, vn, vt, xm4⟩, xv4, fun j y e => ?_⟩; match j, e with
      | 0, _ => exact y4_0
      | 1, _ => exact y4_1
      | 2, _ => exact y4_2
      | 3, _ => exact y4_3
      | 4, _ => exact y4_4
      | 5, _ => exact y4_5
      | 6, _ => exact y4_6
      | 7, _ => exact y4_7
      | 8, _ => exact y4_8
      | _ + 9, e => cases e
    | 5 => refine ⟨⟨xg5, xk5, es5, xd5, xc5, vn, vt, xm5⟩, xv5, fun j y e => ?_⟩; match j, e with
      | 0, _ => exact y5_0
      | 1, _ => exact y5_1
      | 2, _ => exact y5_2
      | 3, _ => exact y5_3
      | 4, _ => exact y5_4
      | 5, _ => exact y5_5
      | 6, _ => exact y5_6
      | 7, _ => exact y5_7
      | 8, _ => exact y5_8
      | _ + 9, e => cases e
    | 6 => refine ⟨⟨xg6, xk6, es6, xd6, xc6, vn, vt, xm6⟩, xv6, fun j y e => ?_⟩; match j, e with
      | 0, _ => exact y6_0
      | 1, _ => exact y6_1
      | 2, _ => exact y6_2
      | 3, _ => exact y6_3
      | 4, _ => exact y6_4
      | 5, _ => exact y6_5
      | 6, _ => exact y6_6
      | 7, _ => exact y6_7
      | 8, _ => exact y6_8
      | _ + 9, e => cases e
    | 7 => refine ⟨⟨xg7, xk7, es7, xd7, xc7, vn, vt, xm7⟩, xv7, fun j y e => ?_⟩; match j, e with
      | 0, _ => exact y7_0
      | 1, _ => exact y7_1
      | 2, _ => exact y7_2
      | 3, _ => exact y7_3
      | 4, _ => exact y7_4
      | 5, _ => exact y7_5
      | 6, _ => exact y7_6
      | 7, _ => exact y7_7
      | 8, _ => exact y7_8
      | _ + 9, e => cases e
    | 8 => refine ⟨⟨xg8, xk8, es8, xd8, xc8, vn, vt, xm8⟩, xv8, fun j y e => ?_⟩; match j, e with
      | 0, _ => exact y8_0
      | 1, _ => exact y8_1
      | 2, _ => exact y8_2
      | 3, _ => exact y8_3
      | 4, _ => exact y8_4
      | 5, _ => exact y8_5
      | 6, _ => exact y8_6
      | 7, _ => exact y8_7
      | 8, _ => exact y8_8
      | _ + 9, e => cases e
    | c + 9 => refine ⟨⟨xg0, xk0, es0, xd0, xc0, vn, vt, xm0⟩, xv0, fun j y e => ?_⟩; match j, e with
      | 0, _ => exact y0_0
      | 1, _ => exact (show _ = some (subX (c + 9) 1) from by rw [show subX (c + 9) 1 = false from by first | (simp [subX]; done) | (simp [subX]; omega)]; exact y0_1)
      | 2, _ => exact (show _ = some (subX (c + 9) 2) from by rw [show subX (c + 9) 2 = false from by first | (simp [subX]; done) | (simp [subX]; omega)]; exact y0_2)
      | 3, _ => exact (show _ = some (subX (c + 9) 3) from by rw [show subX (c + 9) 3 = false from by first | (simp [subX]; done) | (simp [subX]; omega)]; exact y0_3)
      | 4, _ => exact (show _ = some (subX (c + 9) 4) from by rw [show subX (c + 9) 4 = false from by first | (simp [subX]; done) | (simp [subX]; omega)]; exact y0_4)
      | 5, _ => exact (show _ = some (subX (c + 9) 5) from by rw [show subX (c + 9) 5 = false from by first | (simp [subX]; done) | (simp [subX]; omega)]; exact y0_5)
      | 6, _ => exact (show _ = some (subX (c + 9) 6) from by rw [show subX (c + 9) 6 = false from by first | (simp [subX]; done) | (simp [subX]; omega)]; exact y0_6)
      | 7, _ => exact (show _ = some (subX (c + 9) 7) from by rw [show subX (c + 9) 7 = false from by first | (simp [subX]; done) | (simp [subX]; omega)]; exact y0_7)
      | 8, _ => exact (show _ = some (subX (c + 9) 8) from by rw [show subX (c + 9) 8 = false from by first | (simp [subX]; done) | (simp [subX]; omega)]; exact y0_8)
      | _ + 9, e => cases e
  · exact ⟨rfl, topS 27, fo, _, fun_mk lo co ko, PySem.W.mg_of X G ao, (fun_mk lo co ko).binds (fun _ _ _ _ _ _ us hl => match us, hl with | [_, _], _ => rfl), ko, scopeOk_of (N := ["_law_e", "_law_at", "_law_kinds", "_law_k"]) (np := 2) (by decide +kernel), by decide +kernel⟩
end Lw
open PySem PySem.W PyProof.Rows
set_option maxHeartbeats 0 in
theorem PySem.Challenge.cw_planestacks_k09_bare_rows_holds : PySem.Challenge.rw_planestacks_k09_bare_rows.Holds := by
  w_on; o_law; k_head; (case hw => w_witness2)
  k_fill
  refine PD.walk_ofS (l := PySem.Challenge.rw_planestacks_k09_bare_rows) (n := 63) (k := 80) (x := "_law_script") (CX := fun w => L2N.CX PySem.Challenge.rw_planestacks_k09_bare_rows.prog w) (sp := fun w => PD.spL _ 1 (PD.runF Lw.pr 40 26)) (by decide +kernel) rfl (by decide) rfl ⟨rfl, by decide, by decide⟩ (fun w h Y => PySem.W.kIn_of Y) ?F (fun w H a ns hl hb _ hS => PD.law_okL hS (Lw.main ns hl hb)) (fun w H s e s' h => ?G)
  case F =>
    intro w mg fa h KX G hmg
    have hm2 : mg "law" = some (.ref fa) := hmg
    clear hmg
    refine' Lw.at_law KX G hm2 rfl ?a0 ?l0 ?c0 ?k0 ?a1 ?l1 ?c1 ?k1 ?a2 ?l2 ?c2 ?k2 ?a3 ?l3 ?c3 ?k3 ?a4 ?l4 ?c4 ?k4 ?a5 ?l5 ?c5 ?k5 ?a6 ?l6 ?c6 ?k6 ?a7 ?l7 ?c7 ?k7 ?a8 ?l8 ?c8 ?k8 ?a9 ?l9 ?c9 ?k9 ?a10 ?l10 ?c10 ?k10 ?a11 ?l11 ?c11 ?k11 ?a12 ?l12 ?c12 ?k12 ?a13 ?l13 ?c13 ?k13 ?a14 ?l14 ?c14 ?k14 ?a15 ?l15 ?c15 ?k15 ?a16 ?l16 ?c16 ?k16 ?a17 ?l17 ?c17 ?k17 ?a18 ?l18 ?c18 ?k18 ?a19 ?l19 ?c19 ?k19 ?a20 ?l20 ?c20 ?k20 ?a21 ?l21 ?c21 ?k21 ?a22 ?l22 ?c22 ?k22 ?a23 ?l23 ?c23 ?k23 ?a24 ?l24 ?c24 ?k24 ?a25 ?l25 ?c25 ?k25 ?a26 ?l26 ?c26 ?k26 ?z0 ?z1 ?z2 ?z3 ?z4 ?z5 ?z6 ?z7 ?z8 ?z9 ?z10 ?z11 ?z12 ?ea0 ?ek0 ?ex0 ?es0 ?et0 ?ea1 ?ek1 ?ex1 ?es1 ?et1 ?ea2 ?ek2 ?ex2 ?es2 ?et2 ?ea3 ?ek3 ?ex3 ?es3 ?et3 ?ea4 ?ek4 ?ex4 ?es4 ?et4 ?ea5 ?ek5 ?ex5 ?es5 ?et5 ?ea6 ?ek6 ?ex6 ?es6 ?et6 ?ea7 ?ek7 ?ex7 ?es7 ?et7 ?ea8 ?ek8 ?ex8 ?es8 ?et8 ?em0_0 ?em0_1 ?em0_2 ?em0_3 ?em0_4 ?em0_5 ?em0_6 ?em0_7 ?em0_8 ?vz ?vn ?vt ?xg0 ?xk0 ?xd0 ?xc0 ?xm0 ?xv0 ?y0_0 ?y0_1 ?y0_2 ?y0_3 ?y0_4 ?y0_5 ?y0_6 ?y0_7 ?y0_8 ?xg1 ?xk1 ?xd1 ?xc1 ?xm1 ?xv1 ?y1_0 ?y1_1 ?y1_2 ?y1_3 ?y1_4 ?y1_5 ?y1_6 ?y1_7 ?y1_8 ?xg2 ?xk2 ?xd2 ?xc2 ?xm2 ?xv2 ?y2_0 ?y2_1 ?y2_2 ?y2_3 ?y2_4 ?y2_5 ?y2_6 ?y2_7 ?y2_8 ?xg3 ?xk3 ?xd3 ?xc3 ?xm3 ?xv3 ?y3_0 ?y3_1 ?y3_2 ?y3_3 ?y3_4 ?y3_5 ?y3_6 ?y3_7 ?y3_8 ?xg4 ?xk4 ?xd4 ?xc4 ?xm4 ?xv4 ?y4_0 ?y4_1 ?y4_2 ?y4_3 ?y4_4 ?y4_5 ?y4_6 ?y4_7 ?y4_8 ?xg5 ?xk5 ?xd5 ?xc5 ?xm5 ?xv5 ?y5_0 ?y5_1 ?y5_2 ?y5_3 ?y5_4 ?y5_5 ?y5_6 ?y5_7 ?y5_8 ?xg6 ?xk6 ?xd6 ?xc6 ?xm6 ?xv6 ?y6_0 ?y6_1 ?y6_2 ?y6_3 ?y6_4 ?y6_5 ?y6_6 ?y6_7 ?y6_8 ?xg7 ?xk7 ?xd7 ?xc7 ?xm7 ?xv7 ?y7_0 ?y7_1 ?y7_2 ?y7_3 ?y7_4 ?y7_5 ?y7_6 ?y7_7 ?y7_8 ?xg8 ?xk8 ?xd8 ?xc8 ?xm8 ?xv8 ?y8_0 ?y8_1 ?y8_2 ?y8_3 ?y8_4 ?y8_5 ?y8_6 ?y8_7 ?y8_8 ?ao ?lo ?co ?ko
    (case a0 => k_is)
    (case l0 => k_is)
    (case c0 => k_is)
    (case k0 => k_is)
    (case a1 => k_is)
    (case l1 => k_is)
    (case c1 => k_is)
    (case k1 => k_is)
    (case a2 => k_is)
    (case l2 => k_is)
    (case c2 => k_is)
    (case k2 => k_is)
    (case a3 => k_is)
    (case l3 => k_is)
    (case c3 => k_is)
    (case k3 => k_is)
    (case a4 => k_is)
    (case l4 => k_is)
    (case c4 => k_is)
    (case k4 => k_is)
    (case a5 => k_is)
    (case l5 => k_is)
    (case c5 => k_is)
    (case k5 => k_is)
    (case a6 => k_is)
    (case l6 => k_is)
    (case c6 => k_is)
    (case k6 => k_is)
    (case a7 => k_is)
    (case l7 => k_is)
    (case c7 => k_is)
    (case k7 => k_is)
    (case a8 => k_is)
    (case l8 => k_is)
    (case c8 => k_is)
    (case k8 => k_is)
    (case a9 => k_is)
    (case l9 => k_is)
    (case c9 => k_is)
    (case k9 => k_is)
    (case a10 => k_is)
    (case l10 => k_is)
    (case c10 => k_is)
    (case k10 => k_is)
    (case a11 => k_is)
    (case l11 => k_is)
    (case c11 => k_is)
    (case k11 => k_is)
    (case a12 => k_is)
    (case l12 => k_is)
    (case c12 => k_is)
    (case k12 => k_is)
    (case a13 => k_is)
    (case l13 => k_is)
    (case c13 => k_is)
    (case k13 => k_is)
    (case a14 => k_is)
    (case l14 => k_is)
    (case c14 => k_is)
    (case k14 => k_is)
    (case a15 => k_is)
    (case l15 => k_is)
    (case c15 => k_is)
    (case k15 => k_is)
    (case a16 => k_is)
    (case l16 => k_is)
    (case c16 => k_is)
    (case k16 => k_is)
    (case a17 => k_is)
    (case l17 => k_is)
    (case c17 => k_is)
    (case k17 => k_is)
    (case a18 => k_is)
    (case l18 => k_is)
    (case c18 => k_is)
    (case k18 => k_is)
    (case a19 => k_is)
    (case l19 => k_is)
    (case c19 => k_is)
    (case k19 => k_is)
    (case a20 => k_is)
    (case l20 => k_is)
    (case c20 => k_is)
    (case k20 => k_is)
    (case a21 => k_is)
    (case l21 => k_is)
    (case c21 => k_is)
    (case k21 => k_is)
    (case a22 => k_is)
    (case l22 => k_is)
    (case c22 => k_is)
    (case k22 => k_is)
    (case a23 => k_is)
    (case l23 => k_is)
    (case c23 => k_is)
    (case k23 => k_is)
    (case a24 => k_is)
    (case l24 => k_is)
    (case c24 => k_is)
    (case k24 => k_is)
    (case a25 => k_is)
    (case l25 => k_is)
    (case c25 => k_is)
    (case k25 => k_is)
    (case a26 => k_is)
    (case l26 => k_is)
    (case c26 => k_is)
    (case k26 => k_is)
    (case z0 => k_is)
    (case z1 => k_is)
    (case z2 => k_is)
    (case z3 => k_is)
    (case z4 => k_is)
    (case z5 => k_is)
    (case z6 => k_is)
    (case z7 => k_is)
    (case z8 => k_is)
    (case z9 => k_is)
    (case z10 => k_is)
    (case z11 => k_is)
    (case z12 => k_is)
    (case ea0 => k_is)
    (case ek0 => k_is)
    (case ex0 => k_exc)
    (case es0 => k_is)
    (case et0 => k_is)
    (case ea1 => k_is)
    (case ek1 => k_is)
    (case ex1 => k_exc)
    (case es1 => k_is)
    (case et1 => k_is)
    (case ea2 => k_is)
    (case ek2 => k_is)
    (case ex2 => k_exc)
    (case es2 => k_is)
    (case et2 => k_is)
    (case ea3 => k_is)
    (case ek3 => k_is)
    (case ex3 => k_exc)
    (case es3 => k_is)
    (case et3 => k_is)
    (case ea4 => k_is)
    (case ek4 => k_is)
    (case ex4 => k_exc)
    (case es4 => k_is)
    (case et4 => k_is)
    (case ea5 => k_is)
    (case ek5 => k_is)
    (case ex5 => k_exc)
    (case es5 => k_is)
    (case et5 => k_is)
    (case ea6 => k_is)
    (case ek6 => k_is)
    (case ex6 => k_exc)
    (case es6 => k_is)
    (case et6 => k_is)
    (case ea7 => k_is)
    (case ek7 => k_is)
    (case ex7 => k_exc)
    (case es7 => k_is)
    (case et7 => k_is)
    (case ea8 => k_is)
    (case ek8 => k_is)
    (case ex8 => k_exc)
    (case es8 => k_is)
    (case et8 => k_is)
    (case em0_0 => kts_exm)
    (case em0_1 => kts_exm)
    (case em0_2 => kts_exm)
    (case em0_3 => kts_exm)
    (case em0_4 => kts_exm)
    (case em0_5 => kts_exm)
    (case em0_6 => kts_exm)
    (case em0_7 => kts_exm)
    (case em0_8 => kts_exm)
    (case vz => k_is)
    (case vn => k_is)
    (case vt => k_is)
    (case xg0 => k_is)
    (case xk0 => k_is)
    (case xd0 => k_is)
    (case xc0 => k_is)
    (case xm0 => k_is)
    (case xv0 => exact PD.kit_ty (by decide +kernel) (by k_is))
    (case y0_0 => exact PD.kit_self)
    (case y0_1 => exact PD.kit_of (by k_is) (by k_is) (by k_is) (by decide))
    (case y0_2 => exact PD.kit_of (by k_is) (by k_is) (by k_is) (by decide))
    (case y0_3 => exact PD.kit_of (by k_is) (by k_is) (by k_is) (by decide))
    (case y0_4 => exact PD.kit_of (by k_is) (by k_is) (by k_is) (by decide))
    (case y0_5 => exact PD.kit_of (by k_is) (by k_is) (by k_is) (by decide))
    (case y0_6 => exact PD.kit_of (by k_is) (by k_is) (by k_is) (by decide))
    (case y0_7 => exact PD.kit_of (by k_is) (by k_is) (by k_is) (by decide))
    (case y0_8 => exact PD.kit_of (by k_is) (by k_is) (by k_is) (by decide))
    (case xg1 => k_is)
    (case xk1 => k_is)
    (case xd1 => k_is)
    (case xc1 => k_is)
    (case xm1 => k_is)
    (case xv1 => exact PD.kit_ty (by decide +kernel) (by k_is))
    (case y1_0 => exact PD.kit_of (by k_is) (by k_is) (by k_is) (by decide))
    (case y1_1 => exact PD.kit_self)
    (case y1_2 => exact PD.kit_of (by k_is) (by k_is) (by k_is) (by decide))
    (case y1_3 => exact PD.kit_of (by k_is) (by k_is) (by k_is) (by decide))
    (case y1_4 => exact PD.kit_of (by k_is) (by k_is) (by k_is) (by decide))
    (case y1_5 => exact PD.kit_of (by k_is) (by k_is) (by k_is) (by decide))
    (case y1_6 => exact PD.kit_of (by k_is) (by k_is) (by k_is) (by decide))
    (case y1_7 => exact PD.kit_of (by k_is) (by k_is) (by k_is) (by decide))
    (case y1_8 => exact PD.kit_of (by k_is) (by k_is) (by k_is) (by decide))
    (case xg2 => k_is)
    (case xk2 => k_is)
    (case xd2 => k_is)
    (case xc2 => k_is)
    (case xm2 => k_is)
    (case xv2 => exact PD.kit_ty (by decide +kernel) (by k_is))
    (case y2_0 => exact PD.kit_of (by k_is) (by k_is) (by k_is) (by decide))
    (case y2_1 => exact PD.kit_of (by k_is) (by k_is) (by k_is) (by decide))
    (case y2_2 => exact PD.kit_self)
    (case y2_3 => exact PD.kit_of (by k_is) (by k_is) (by k_is) (by decide))
    (case y2_4 => exact PD.kit_of (by k_is) (by k_is) (by k_is) (by decide))
    (case y2_5 => exact PD.kit_of (by k_is) (by k_is) (by k_is) (by decide))
    (case y2_6 => exact PD.kit_of (by k_is) (by k_is) (by k_is) (by decide))
    (case y2_7 => exact PD.kit_of (by k_is) (by k_is) (by k_is) (by decide))
    (case y2_8 => exact PD.kit_of (by k_is) (by k_is) (by k_is) (by decide))
    (case xg3 => k_is)
    (case xk3 => k_is)
    (case xd3 => k_is)
    (case xc3 => k_is)
    (case xm3 => k_is)
    (case xv3 => exact PD.kit_ty (by decide +kernel) (by k_is))
    (case y3_0 => exact PD.kit_of (by k_is) (by k_is) (by k_is) (by decide))
    (case y3_1 => exact PD.kit_of (by k_is) (by k_is) (by k_is) (by decide))
    (case y3_2 => exact PD.kit_of (by k_is) (by k_is) (by k_is) (by decide))
    (case y3_3 => exact PD.kit_self)
    (case y3_4 => exact PD.kit_of (by k_is) (by k_is) (by k_is) (by decide))
    (case y3_5 => exact PD.kit_of (by k_is) (by k_is) (by k_is) (by decide))
    (case y3_6 => exact PD.kit_of (by k_is) (by k_is) (by k_is) (by decide))
    (case y3_7 => exact PD.kit_of (by k_is) (by k_is) (by k_is) (by decide))
    (case y3_8 => exact PD.kit_of (by k_is) (by k_is) (by k_is) (by decide))
    (case xg4 => k_is)
    (case xk4 => k_is)
    (case xd4 => k_is)
    (case xc4 => k_is)
    (case xm4 => k_is)
    (case xv4 => exact PD.kit_ty (by decide +kernel) (by k_is))
    (case y4_0 => exact PD.kit_of (by k_is) (by k_is) (by k_is) (by decide))
    (case y4_1 => exact PD.kit_of (by k_is) (by k_is) (by k_is) (by decide))
    (case y4_2 => exact PD.kit_of (by k_is) (by k_is) (by k_is) (by decide))
    (case y4_3 => exact PD.kit_of (by k_is) (by k_is) (by k_is) (by decide))
    (case y4_4 => exact PD.kit_self)
    (case y4_5 => exact PD.kit_of (by k_is) (by k_is) (by k_is) (by decide))
    (case y4_6 => exact PD.kit_of (by k_is) (by k_is) (by k_is) (by decide))
    (case y4_7 => exact PD.kit_of (by k_is) (by k_is) (by k_is) (by decide))
    (case y4_8 => exact PD.kit_of (by k_is) (by k_is) (by k_is) (by decide))
    (case xg5 => k_is)
    (case xk5 => k_is)
    (case xd5 => k_is)
    (case xc5 => k_is)
    (case xm5 => k_is)
    (case xv5 => exact PD.kit_ty (by decide +kernel) (by k_is))
    (case y5_0 => exact PD.kit_of (by k_is) (by k_is) (by k_is) (by decide))
    (case y5_1 => exact PD.kit_of (by k_is) (by k_is) (by k_is) (by decide))
    (case y5_2 => exact PD.kit_of (by k_is) (by k_is) (by k_is) (by decide))
    (case y5_3 => exact PD.kit_of (by k_is) (by k_is) (by k_is) (by decide))
    (case y5_4 => exact PD.kit_of (by k_is) (by k_is) (by k_is) (by decide))
    (case y5_5 => exact PD.kit_self)
    (case y5_6 => exact PD.kit_of (by k_is) (by k_is) (by k_is) (by decide))
    (case y5_7 => exact PD.kit_of (by k_is) (by k_is) (by k_is) (by decide))
    (case y5_8 => exact PD.kit_of (by k_is) (by k_is) (by k_is) (by decide))
    (case xg6 => k_is)
    (case xk6 => k_is)
    (case xd6 => k_is)
    (case xc6 => k_is)
    (case xm6 => k_is)
    (case xv6 => exact PD.kit_ty (by decide +kernel) (by k_is))
    (case y6_0 => exact PD.kit_of (by k_is) (by k_is) (by k_is) (by decide))
    (case y6_1 => exact PD.kit_of (by k_is) (by k_is) (by k_is) (by decide))
    (case y6_2 => exact PD.kit_of (by k_is) (by k_is) (by k_is) (by decide))
    (case y6_3 => exact PD.kit_of (by k_is) (by k_is) (by k_is) (by decide))
    (case y6_4 => exact PD.kit_of (by k_is) (by k_is) (by k_is) (by decide))
    (case y6_5 => exact PD.kit_of (by k_is) (by k_is) (by k_is) (by decide))
    (case y6_6 => exact PD.kit_self)
    (case y6_7 => exact PD.kit_of (by k_is) (by k_is) (by k_is) (by decide))
    (case y6_8 => exact PD.kit_of (by k_is) (by k_is) (by k_is) (by decide))
    (case xg7 => k_is)
    (case xk7 => k_is)
    (case xd7 => k_is)
    (case xc7 => k_is)
    (case xm7 => k_is)
    (case xv7 => exact PD.kit_ty (by decide +kernel) (by k_is))
    (case y7_0 => exact PD.kit_of (by k_is) (by k_is) (by k_is) (by decide))
    (case y7_1 => exact PD.kit_of (by k_is) (by k_is) (by k_is) (by decide))
    (case y7_2 => exact PD.kit_of (by k_is) (by k_is) (by k_is) (by decide))
    (case y7_3 => exact PD.kit_of (by k_is) (by k_is) (by k_is) (by decide))
    (case y7_4 => exact PD.kit_of (by k_is) (by k_is) (by k_is) (by decide))
    (case y7_5 => exact PD.kit_of (by k_is) (by k_is) (by k_is) (by decide))
    (case y7_6 => exact PD.kit_of (by k_is) (by k_is) (by k_is) (by decide))
    (case y7_7 => exact PD.kit_self)
    (case y7_8 => exact PD.kit_of (by k_is) (by k_is) (by k_is) (by decide))
    (case xg8 => k_is)
    (case xk8 => k_is)
    (case xd8 => k_is)
    (case xc8 => k_is)
    (case xm8 => k_is)
    (case xv8 => exact PD.kit_ty (by decide +kernel) (by k_is))
    (case y8_0 => exact PD.kit_of (by k_is) (by k_is) (by k_is) (by decide))
    (case y8_1 => exact PD.kit_of (by k_is) (by k_is) (by k_is) (by decide))
    (case y8_2 => exact PD.kit_of (by k_is) (by k_is) (by k_is) (by decide))
    (case y8_3 => exact PD.kit_of (by k_is) (by k_is) (by k_is) (by decide))
    (case y8_4 => exact PD.kit_of (by k_is) (by k_is) (by k_is) (by decide))
    (case y8_5 => exact PD.kit_of (by k_is) (by k_is) (by k_is) (by decide))
    (case y8_6 => exact PD.kit_of (by k_is) (by k_is) (by k_is) (by decide))
    (case y8_7 => exact PD.kit_of (by k_is) (by k_is) (by k_is) (by decide))
    (case y8_8 => exact PD.kit_self)
    (case ao => k_is)
    (case lo => k_is)
    (case co => k_is)
    (case ko => k_is)
  case G =>
    obtain ⟨_, _, _, _, _, _, _, _, _, _, _, _, z⟩ := h
    exact z
