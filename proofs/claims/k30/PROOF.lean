import PyProof.Rows.All
import Wide.All
import OpenK.AllK
import Wide.FinOn
import PySem.Challenge.RW_planestacks_k30_terms_shown
import HandS.ForSpec
import HandS.More
import HandS.Comp
import HandS.IsInst
import HandS.ExcIs
import HandS.HotCalls
import HandS.Wide
import HandS.EndBits
import HandS.WideBits
import HandS.Iter
import HandS.StrMore
import HandS.TupMul
import HandS.Deep
import HandS.TupAny
import HandS.ExcCtx
import HandS.Style
import HandS.Small
import HandS.ExcValue
import HandS.TryOnly
set_option Elab.async false
set_option linter.all false
set_option maxRecDepth 100000
set_option maxHeartbeats 4000000
/-! PD1: plain data over the hand layer: what a value stands for, what the names of a def hold, who owns a list. -/
namespace PD
open PySem PySem.Spec PyProof.Rows L2

abbrev D := PyData
abbrev Fg := PySem.W.Frag

/-- a list that is read: tracked and not among those at A, or laid (locked, written) -/
def LA (K : Fg) (A : Addr → Prop) (H : Hp) (a : Addr) (xs : List V) : Prop :=
  (¬ A a ∧ Rd H a (.lst xs)) ∨ (SqL K (fun _ => none) a xs)

/-- an exception that is held, told as data by its class's name -/
abbrev exD (n : Str) : D := .dict [(.str n, .none)]
/-- an exception of the class at D, at a -/
def Exo (D a : Addr) : HO := .ext fun h => ∃ (oe : Obj) (vs : Array Value), h.get? a = some oe ∧ L2N.Zn (.ref D) none oe ∧ oe.data = .fields vs
/-- a dict of whole numbers by rows of whole numbers -/
abbrev Dl := List (List Int × Int)
def dV (l : Dl) : List (List Key × V) := l.map fun p => (p.1.map Sum.inl, V.int p.2)
abbrev dD (l : Dl) : D := .dict (l.map fun p => (.tuple (p.1.map PyData.int), .int p.2))
mutual
/-- v stands for the data d in H; its lists are not at A -/
inductive Rp (K : Fg) (A : Addr → Prop) (H : Hp) : V → D → Prop
  | non : Rp K A H .non .none
  | bl (b : Bool) : Rp K A H (.bl b) (.bool b)
  | int (i : Int) : Rp K A H (.int i) (.int i)
  | str (x : Str) : Rp K A H (.str x) (.str x)
  | lst {a : Addr} {xs : List V} {ds : List D} : LA K A H a xs → RpAll K A H xs ds → Rp K A H (.ref a) (.list ds)
  | tup {a : Addr} {xs : List V} {ds : List D} : SqT K H a xs → RpAll K A H xs ds → Rp K A H (.ref a) (.tuple ds)
  | exc {a D : Addr} {n : Str} : PySem.W.nsIn K mainGlobals n = some (some (.ref D)) → H a = some (Exo D a) → Rp K A H (.ref a) (exD n)
  | dct {a : Addr} {l : Dl} : ¬ A a → Rd H a (.dT (dV l)) → Rp K A H (.ref a) (dD l)
inductive RpAll (K : Fg) (A : Addr → Prop) (H : Hp) : List V → List D → Prop
  | nil : RpAll K A H [] []
  | cons {v : V} {vs : List V} {d : D} {ds : List D} : Rp K A H v d → RpAll K A H vs ds → RpAll K A H (v :: vs) (d :: ds)
end

section
variable {K : Fg} {A A' : Addr → Prop} {H H' : Hp}

theorem LA.sq {a : Addr} {xs : List V} (h : LA K A H a xs) : SqL K H a xs := by
  rcases h with ⟨_, h⟩ | h
  · exact .inl h
  · rcases h with (h | ⟨o, h⟩) | h
    · cases h
    · cases h
    · exact .inr h

mutual
theorem Rp.dp : ∀ {v : V} {d : D}, Rp K A H v d → d.canLay0 = true → Dp K H v d
  | _, _, .non, _ => .non
  | _, _, .bl b, _ => .bl b
  | _, _, .int i, _ => .int i
  | _, _, .str x, _ => .str x
  | _, _, .lst h r, e => .lst h.sq (RpAll.dp r (by simpa [PyData.canLay0] using e))
  | _, _, .tup h r, e => .tup h (RpAll.dp r (by simpa [PyData.canLay0] using e))
  | _, _, .exc _ _, e => by simp [PyData.canLay0] at e
  | _, _, .dct _ _, e => by simp [PyData.canLay0] at e
theorem RpAll.dp : ∀ {vs : List V} {ds : List D}, RpAll K A H vs ds → PyData.canLayAll0 ds = true → DpAll K H vs ds
  | _, _, .nil, _ => .nil
  | _, _, .cons h r, e => by
    simp only [PyData.canLayAll0, Bool.and_eq_true] at e
    exact .cons (Rp.dp h e.1) (RpAll.dp r e.2)
end

/-- carried to another heap -/
structure Ca (K : Fg) (A A' : Addr → Prop) (H H' : Hp) : Prop where
  l : ∀ a xs, ¬ A a → Rd H a (.lst xs) → ¬ A' a ∧ Rd H' a (.lst xs)
  t : ∀ a xs, SqT K H a xs → SqT K H' a xs
  x : ∀ a φ, H a = some (.ext φ) → H' a = some (.ext φ)
  d : ∀ a kvs, ¬ A a → Rd H a (.dT kvs) → ¬ A' a ∧ Rd H' a (.dT kvs)
  tt : ∀ a xs, H a = some (.tup xs) → H' a = some (.tup xs)
theorem LA.ca {a : Addr} {xs : List V} (c : Ca K A A' H H') (h : LA K A H a xs) : LA K A' H' a xs := by
  rcases h with ⟨n, h⟩ | h
  · exact .inl (c.l _ _ n h)
  · exact .inr h
mutual
theorem Rp.ca (c : Ca K A A' H H') : ∀ {v : V} {d : D}, Rp K A H v d → Rp K A' H' v d
  | _, _, .non => .non
  | _, _, .bl b => .bl b
  | _, _, .int i => .int i
  | _, _, .str x => .str x
  | _, _, .lst h r => .lst (h.ca c) (RpAll.ca c r)
  | _, _, .tup h r => .tup (c.t _ _ h) (RpAll.ca c r)
  | _, _, .exc h e => .exc h (c.x _ _ e)
  | _, _, .dct n h => .dct (c.d _ _ n h).1 (c.d _ _ n h).2
theorem RpAll.ca (c : Ca K A A' H H') : ∀ {vs : List V} {ds : List D}, RpAll K A H vs ds → RpAll K A' H' vs ds
  | _, _, .nil => .nil
  | _, _, .cons h r => .cons (Rp.ca c h) (RpAll.ca c r)
end
theorem sqt_same {a : Addr} {xs : List V} (s : Same H H') (h : SqT K H a xs) : SqT K H' a xs := by
  rcases h with (h | ⟨o, h⟩) | h
  · exact .inl (.inl (s _ _ h))
  · exact .inl (.inr ⟨o, s _ _ h⟩)
  · exact .inr h
theorem rd_same {a : Addr} {u : HO} (s : Same H H') (h : Rd H a u) : Rd H' a u := by
  rcases h with h | ⟨o, h⟩
  · exact .inl (s _ _ h)
  · exact .inr ⟨o, s _ _ h⟩
/-- the heap grows, fewer are owned -/
theorem Ca.same (s : Same H H') (h : ∀ a, A' a → A a) : Ca K A A' H H' :=
  ⟨fun a xs n r => ⟨fun z => n (h a z), rd_same s r⟩, fun a xs r => sqt_same s r, fun a φ e => s _ _ e, fun a kvs n r => ⟨fun z => n (h a z), rd_same s r⟩, fun a xs e => s _ _ e⟩
theorem Ca.grow (s : Same H H') : Ca K A A H H' := Ca.same s fun _ h => h
theorem Ca.or {P : Addr → Prop} (c : Ca K A A' H H') : Ca K (fun a => A a ∨ P a) (fun a => A' a ∨ P a) H H' :=
  ⟨fun a xs n r => ⟨fun z => z.elim (c.l a xs (fun q => n (.inl q)) r).1 fun q => n (.inr q), (c.l a xs (fun q => n (.inl q)) r).2⟩, c.t, c.x,
   fun a kvs n r => ⟨fun z => z.elim (c.d a kvs (fun q => n (.inl q)) r).1 fun q => n (.inr q), (c.d a kvs (fun q => n (.inl q)) r).2⟩, c.tt⟩
theorem Ca.less (h : ∀ a, A' a → A a) : Ca K A A' H H := Ca.same (Same.refl H) h
/-- more are owned, all of them new -/
theorem rd_some {a : Addr} {u : HO} (h : Rd H a u) : H a ≠ none := fun q => by
  rcases h with h | ⟨o, h⟩
  · rw [q] at h; cases h
  · rw [q] at h; cases h
theorem Ca.more (s : Same H H') (h : ∀ a, A' a → A a ∨ H a = none) : Ca K A A' H H' :=
  ⟨fun a xs n r => ⟨fun z => (h a z).elim n (rd_some r), rd_same s r⟩, fun a xs r => sqt_same s r, fun a φ e => s _ _ e, fun a kvs n r => ⟨fun z => (h a z).elim n (rd_some r), rd_same s r⟩, fun a xs e => s _ _ e⟩
/-- an owned list is changed -/
theorem Ca.upd {a : Addr} {xs ys : List V} (ha : A a) (e : H a = some (.lst xs)) : Ca K A A H (upd H a (.lst ys)) :=
  ⟨fun b zs n r => ⟨n, by
    have hb : b ≠ a := fun z => n (z ▸ ha)
    rcases r with r | ⟨o, r⟩
    · exact .inl (by rw [upd_ne hb]; exact r)
    · exact .inr ⟨o, by rw [upd_ne hb]; exact r⟩⟩,
   fun b zs r => by
    rcases r with (r | ⟨o, r⟩) | r
    · have hb : b ≠ a := fun z => by rw [z, e] at r; cases r
      exact .inl (.inl (by rw [upd_ne hb]; exact r))
    · have hb : b ≠ a := fun z => by rw [z, e] at r; cases r
      exact .inl (.inr ⟨o, by rw [upd_ne hb]; exact r⟩)
    · exact .inr r,
   fun b φ r => by
    have hb : b ≠ a := fun z => by rw [z, e] at r; cases r
    rw [upd_ne hb]
    exact r,
   fun b zs n r => ⟨n, by
    have hb : b ≠ a := fun z => n (z ▸ ha)
    rcases r with r | ⟨o, r⟩
    · exact .inl (by rw [upd_ne hb]; exact r)
    · exact .inr ⟨o, by rw [upd_ne hb]; exact r⟩⟩,
   fun b xs r => by
    rw [upd_ne (fun z => by rw [z, e] at r; cases r)]
    exact r⟩
/-- an owned dict is changed -/
theorem Ca.updD {a : Addr} {xs ys : List (List Key × V)} (ha : A a) (e : H a = some (.dT xs)) : Ca K A A H (L2.upd H a (.dT ys)) :=
  ⟨fun b zs n r => ⟨n, by
    have hb : b ≠ a := fun z => n (z ▸ ha)
    rcases r with r | ⟨o, r⟩
    · exact .inl (by rw [upd_ne hb]; exact r)
    · exact .inr ⟨o, by rw [upd_ne hb]; exact r⟩⟩,
   fun b zs r => by
    rcases r with (r | ⟨o, r⟩) | r
    · have hb : b ≠ a := fun z => by rw [z, e] at r; cases r
      exact .inl (.inl (by rw [upd_ne hb]; exact r))
    · have hb : b ≠ a := fun z => by rw [z, e] at r; cases r
      exact .inl (.inr ⟨o, by rw [upd_ne hb]; exact r⟩)
    · exact .inr r,
   fun b φ r => by
    have hb : b ≠ a := fun z => by rw [z, e] at r; cases r
    rw [upd_ne hb]
    exact r,
   fun b zs n r => ⟨n, by
    have hb : b ≠ a := fun z => n (z ▸ ha)
    rcases r with r | ⟨o, r⟩
    · exact .inl (by rw [upd_ne hb]; exact r)
    · exact .inr ⟨o, by rw [upd_ne hb]; exact r⟩⟩,
   fun b xs r => by
    rw [upd_ne (fun z => by rw [z, e] at r; cases r)]
    exact r⟩
/-- a dict is locked, or unlocked -/
theorem Ca.lock {a : Addr} {kvs : List (List Key × V)} {od : Obj} (e : H a = some (.dT kvs)) : Ca K A A H (L2.upd H a (.frz od (.dT kvs))) :=
  ⟨fun b zs n r => ⟨n, by
    rcases r with r | ⟨o, r⟩
    · exact .inl (by rw [upd_ne (fun z => by rw [z, e] at r; cases r)]; exact r)
    · exact .inr ⟨o, by rw [upd_ne (fun z => by rw [z, e] at r; cases r)]; exact r⟩⟩,
   fun b zs r => by
    rcases r with (r | ⟨o, r⟩) | r
    · exact .inl (.inl (by rw [upd_ne (fun z => by rw [z, e] at r; cases r)]; exact r))
    · exact .inl (.inr ⟨o, by rw [upd_ne (fun z => by rw [z, e] at r; cases r)]; exact r⟩)
    · exact .inr r,
   fun b φ r => by
    rw [upd_ne (fun z => by rw [z, e] at r; cases r)]
    exact r,
   fun b zs n r => ⟨n, by
    by_cases hb : b = a
    · subst hb
      rcases r with r | ⟨o, r⟩
      · rw [e] at r; cases r
        exact .inr ⟨od, upd_same⟩
      · rw [e] at r; cases r
    · rcases r with r | ⟨o, r⟩
      · exact .inl (by rw [upd_ne hb]; exact r)
      · exact .inr ⟨o, by rw [upd_ne hb]; exact r⟩⟩,
   fun b xs r => by
    rw [upd_ne (fun z => by rw [z, e] at r; cases r)]
    exact r⟩
theorem Ca.unlock {a : Addr} {kvs : List (List Key × V)} {od : Obj} (e : H a = some (.frz od (.dT kvs))) : Ca K A A H (L2.upd H a (.dT kvs)) :=
  ⟨fun b zs n r => ⟨n, by
    rcases r with r | ⟨o, r⟩
    · exact .inl (by rw [upd_ne (fun z => by rw [z, e] at r; cases r)]; exact r)
    · exact .inr ⟨o, by rw [upd_ne (fun z => by rw [z, e] at r; cases r)]; exact r⟩⟩,
   fun b zs r => by
    rcases r with (r | ⟨o, r⟩) | r
    · exact .inl (.inl (by rw [upd_ne (fun z => by rw [z, e] at r; cases r)]; exact r))
    · exact .inl (.inr ⟨o, by rw [upd_ne (fun z => by rw [z, e] at r; cases r)]; exact r⟩)
    · exact .inr r,
   fun b φ r => by
    rw [upd_ne (fun z => by rw [z, e] at r; cases r)]
    exact r,
   fun b zs n r => ⟨n, by
    by_cases hb : b = a
    · subst hb
      rcases r with r | ⟨o, r⟩
      · rw [e] at r; cases r
      · rw [e] at r; cases r
        exact .inl upd_same
    · rcases r with r | ⟨o, r⟩
      · exact .inl (by rw [upd_ne hb]; exact r)
      · exact .inr ⟨o, by rw [upd_ne hb]; exact r⟩⟩,
   fun b xs r => by
    rw [upd_ne (fun z => by rw [z, e] at r; cases r)]
    exact r⟩
theorem same_upd {p : Addr} {o : HO} (h : H p = none) : Same H (upd H p o) := fun b x e => by
  rw [upd_ne (ne_of_none e h)]
  exact e

/-! ### data without lists -/
mutual
def lf : D → Bool
  | .list _ => false
  | .tuple ds => lfAll ds
  | .dict _ => false
  | _ => true
def lfAll : List D → Bool
  | [] => true
  | d :: ds => lf d && lfAll ds
end
mutual
theorem Rp.free (s : ∀ a xs, SqT K H a xs → SqT K H' a xs) : ∀ {v : V} {d : D}, Rp K A H v d → lf d = true → Rp K A' H' v d
  | _, _, .non, _ => .non
  | _, _, .bl b, _ => .bl b
  | _, _, .int i, _ => .int i
  | _, _, .str x, _ => .str x
  | _, _, .lst h r, e => by simp [lf] at e
  | _, _, .tup h r, e => .tup (s _ _ h) (RpAll.free s r (by simpa [lf] using e))
  | _, _, .exc _ _, e => by simp [lf] at e
  | _, _, .dct _ _, e => by simp [lf] at e
theorem RpAll.free (s : ∀ a xs, SqT K H a xs → SqT K H' a xs) : ∀ {vs : List V} {ds : List D}, RpAll K A H vs ds → lfAll ds = true → RpAll K A' H' vs ds
  | _, _, .nil, _ => .nil
  | _, _, .cons h r, e => by
    simp only [lfAll, Bool.and_eq_true] at e
    exact .cons (Rp.free s h e.1) (RpAll.free s r e.2)
end
theorem RpAll.length : ∀ {vs : List V} {ds : List D}, RpAll K A H vs ds → vs.length = ds.length
  | _, _, .nil => rfl
  | _, _, .cons _ r => by simp [RpAll.length r]
theorem RpAll.get : ∀ {vs : List V} {ds : List D} {i : Nat} {d : D}, RpAll K A H vs ds → ds[i]? = some d → ∃ v, vs[i]? = some v ∧ Rp K A H v d
  | _, _, _, _, .nil, e => by simp at e
  | _, _, 0, _, .cons r _, e => by simp at e; subst e; exact ⟨_, rfl, r⟩
  | _, _, i + 1, d, .cons _ t, e => by
    obtain ⟨u, h1, h2⟩ := RpAll.get (i := i) (d := d) t (by simpa using e)
    exact ⟨u, by simpa using h1, h2⟩
theorem RpAll.get' : ∀ {vs : List V} {ds : List D} {i : Nat} {v : V}, RpAll K A H vs ds → vs[i]? = some v → ∃ d, ds[i]? = some d ∧ Rp K A H v d
  | _, _, _, _, .nil, e => by simp at e
  | _, _, 0, _, .cons r _, e => by simp at e; subst e; exact ⟨_, rfl, r⟩
  | _, _, i + 1, d, .cons _ t, e => by
    obtain ⟨u, h1, h2⟩ := RpAll.get' (i := i) (v := d) t (by simpa using e)
    exact ⟨u, by simpa using h1, h2⟩
theorem RpAll.append : ∀ {vs ws : List V} {ds es : List D}, RpAll K A H vs ds → RpAll K A H ws es → RpAll K A H (vs ++ ws) (ds ++ es)
  | _, _, _, _, .nil, s => s
  | _, _, _, _, .cons r t, s => .cons r (RpAll.append t s)
theorem RpAll.take : ∀ {vs : List V} {ds : List D} (n : Nat), RpAll K A H vs ds → RpAll K A H (vs.take n) (ds.take n)
  | _, _, 0, _ => .nil
  | _, _, _ + 1, .nil => .nil
  | _, _, n + 1, .cons r t => .cons r (RpAll.take n t)
theorem RpAll.drop : ∀ {vs : List V} {ds : List D} (n : Nat), RpAll K A H vs ds → RpAll K A H (vs.drop n) (ds.drop n)
  | _, _, 0, r => r
  | _, _, _ + 1, .nil => .nil
  | _, _, n + 1, .cons _ t => RpAll.drop n t
theorem RpAll.set {v : V} {d : D} (r : Rp K A H v d) : ∀ {vs : List V} {ds : List D} (i : Nat), RpAll K A H vs ds → RpAll K A H (vs.set i v) (ds.set i d)
  | _, _, _, .nil => .nil
  | _, _, 0, .cons _ t => .cons r t
  | _, _, i + 1, .cons q t => .cons q (RpAll.set r i t)
theorem RpAll.dropLast {vs : List V} {ds : List D} (h : RpAll K A H vs ds) : RpAll K A H vs.dropLast ds.dropLast := by
  rw [List.dropLast_eq_take, List.dropLast_eq_take, h.length]
  exact h.take _
theorem RpAll.rep {v : V} {d : D} (r : Rp K A H v d) : ∀ n, RpAll K A H (List.replicate n v) (List.replicate n d)
  | 0 => .nil
  | n + 1 => .cons r (RpAll.rep r n)
theorem RpAll.flat {vs : List V} {ds : List D} (r : RpAll K A H vs ds) : ∀ n, RpAll K A H (List.replicate n vs).flatten (List.replicate n ds).flatten
  | 0 => .nil
  | n + 1 => by
    rw [List.replicate_succ, List.replicate_succ, List.flatten_cons, List.flatten_cons]
    exact r.append (RpAll.flat r n)
theorem RpAll.ints : ∀ ns : List Int, RpAll K A H (ns.map V.int) (ns.map PyData.int)
  | [] => .nil
  | n :: ns => .cons (.int n) (RpAll.ints ns)
end

/-! ### values of expressions, names -/
inductive Val where
  | cl (d : D)
  | nw (ds : List D)
  | br (i : Nat) (ds : List D)
  | nd (l : Dl)
  | bd (i : Nat) (l : Dl)
/-- keys at hand: a tuple of whole numbers that may be put in a dict, a list of such -/
inductive Sk where
  | tk (k : List Int)
  | lk (ks : List (List Int))
inductive Sl where
  | sh (d : D)
  | ow (ds : List D)
  | od (l : Dl)
  | kk (k : Sk)
  | st (xs : List Int)
  | fr (d : D)
def Sl.own : Sl → Bool
  | .ow _ => true
  | .od _ => true
  | .st _ => true
  | _ => false
def TkR (H : Hp) (v : V) (k : List Int) : Prop := ∃ a, v = .ref a ∧ H a = some (.tup (k.map V.int))
def LkR (H : Hp) : List V → List (List Int) → Prop
  | [], [] => True
  | v :: vs, k :: ks => TkR H v k ∧ LkR H vs ks
  | _, _ => False
def KkR (A : Addr → Prop) (H : Hp) (v : V) : Sk → Prop
  | .tk k => TkR H v k
  | .lk ks => ∃ a vs, v = .ref a ∧ ¬ A a ∧ Rd H a (.lst vs) ∧ LkR H vs ks
theorem TkR.ca {K : Fg} {A A' : Addr → Prop} {H H' : Hp} (c : Ca K A A' H H') {v : V} {k : List Int} (r : TkR H v k) : TkR H' v k := by
  obtain ⟨a, e, h⟩ := r
  exact ⟨a, e, c.tt _ _ h⟩
theorem LkR.ca {K : Fg} {A A' : Addr → Prop} {H H' : Hp} (c : Ca K A A' H H') : ∀ {vs : List V} {ks : List (List Int)}, LkR H vs ks → LkR H' vs ks
  | [], [], _ => trivial
  | v :: vs, k :: ks, r => ⟨r.1.ca c, LkR.ca c r.2⟩
  | [], _ :: _, r => r.elim
  | _ :: _, [], r => r.elim
theorem KkR.ca {K : Fg} {A A' : Addr → Prop} {H H' : Hp} (c : Ca K A A' H H') {v : V} : ∀ {k : Sk}, KkR A H v k → KkR A' H' v k
  | .tk k, r => TkR.ca c r
  | .lk ks, ⟨a, vs, e, n, h, r⟩ => ⟨a, vs, e, (c.l _ _ n h).1, (c.l _ _ n h).2, r.ca c⟩
theorem TkR.rp {K : Fg} {A : Addr → Prop} {H : Hp} {v : V} {k : List Int} (r : TkR H v k) : Rp K A H v (.tuple (k.map PyData.int)) := by
  obtain ⟨a, rfl, h⟩ := r
  exact .tup (SqT.of h) (RpAll.ints k)
theorem LkR.rp {K : Fg} {A : Addr → Prop} {H : Hp} : ∀ {vs : List V} {ks : List (List Int)}, LkR H vs ks → RpAll K A H vs (ks.map fun k => .tuple (k.map PyData.int))
  | [], [], _ => .nil
  | v :: vs, k :: ks, r => .cons r.1.rp (LkR.rp r.2)
  | [], _ :: _, r => r.elim
  | _ :: _, [], r => r.elim
def Sk.d : Sk → D
  | .tk k => .tuple (k.map PyData.int)
  | .lk ks => .list (ks.map fun k => .tuple (k.map PyData.int))
theorem KkR.rp {K : Fg} {A : Addr → Prop} {H : Hp} {v : V} : ∀ {k : Sk}, KkR A H v k → Rp K A H v k.d
  | .tk k, r => TkR.rp r
  | .lk ks, ⟨a, vs, e, n, h, r⟩ => by
    subst e
    exact .lst (.inl ⟨n, h⟩) r.rp
def Val.d : Val → D
  | .cl d => d
  | .nw ds => .list ds
  | .br _ ds => .list ds
  | .nd l => dD l
  | .bd _ l => dD l
abbrev Env := List (Option Sl)
abbrev Ow := Nat → Option Addr
def Own (O : Ow) (B : Addr → Prop) : Addr → Prop := fun a => (∃ i, O i = some a) ∨ B a

/-- the entry: its heap, and what is kept beside the names -/
structure Old where
  hp : Hp
  gv : List V
  gd : List D
  st : Option Addr
  fa : Addr → Prop
/-- the dict of a state -/
abbrev stO (a : Addr) : HO := .dK [(.inr "xs", .ref a)]
section
variable (K : Fg) (B : Addr → Prop) (old : Old)
def SlR (A : Addr → Prop) (O : Ow) (H : Hp) (σ : L2.St) (i : Nat) : Sl → Prop
  | .sh d => ∃ v, σ[i]? = some (some v) ∧ Rp K A H v d
  | .ow ds => ∃ a vs, O i = some a ∧ σ[i]? = some (some (.ref a)) ∧ H a = some (.lst vs) ∧ RpAll K A H vs ds
  | .od l => ∃ a, O i = some a ∧ σ[i]? = some (some (.ref a)) ∧ H a = some (.dT (dV l))
  | .kk k => ∃ v, σ[i]? = some (some v) ∧ KkR A H v k
  | .st xs => ∃ s a, O i = some a ∧ σ[i]? = some (some (.ref s)) ∧ H s = some (stO a) ∧ H a = some (.lst (xs.map V.int)) ∧ (i = 0 → ∀ b, old.st = some b → b = a)
  | .fr d => ∃ v, σ[i]? = some (some v) ∧ Rp K (fun b => A b ∨ old.fa b) H v d
/-- the names hold η; O tells who owns which list; old: the heap at the entry; B: lists in the making -/
structure ER (O : Ow) (H : Hp) (σ : L2.St) (η : Env) : Prop where
  len : σ.length = η.length
  sl : ∀ i s, η[i]? = some (some s) → SlR K old (Own O B) O H σ i s
  dom : ∀ i a, O i = some a → ∃ s, η[i]? = some (some s) ∧ s.own = true
  inj : ∀ i j a, O i = some a → O j = some a → i = j
  disj : ∀ i a, O i = some a → ¬ B a
  fr : ∀ i a, O i = some a → old.hp a = none
  same : Same old.hp H
  bt : ∀ a, B a → H a ≠ none
  gh : RpAll K (Own O B) H old.gv old.gd
  fb : ∀ a, old.fa a → H a ≠ none
  fc : ∀ i a, O i = some a → ¬ old.fa a
/-- a value: H0 the heap ahead of the expression, H behind it -/
def VR (O : Ow) (H0 H : Hp) (v : V) : Val → Prop
  | .cl d => Rp K (Own O B) H v d
  | .nw ds => ∃ a vs, v = .ref a ∧ H0 a = none ∧ H a = some (.lst vs) ∧ RpAll K (fun b => Own O B b ∨ b = a) H vs ds
  | .br i ds => ∃ a vs, O i = some a ∧ v = .ref a ∧ H a = some (.lst vs) ∧ RpAll K (Own O B) H vs ds
  | .nd l => ∃ a, v = .ref a ∧ H0 a = none ∧ H a = some (.dT (dV l))
  | .bd i l => ∃ a, O i = some a ∧ v = .ref a ∧ H a = some (.dT (dV l))
end

section
variable {K : Fg} {B : Addr → Prop} {old : Old} {O : Ow} {H H' H'' : Hp} {σ : L2.St} {η : Env}
theorem own_old (h : ∀ i a, O i = some a → H a ≠ none) (s : Same H H') : ∀ i a, O i = some a → H' a ≠ none := fun i a e z => h i a e (s.free z)
/-- the heap grows -/
theorem ER.ext (r : ER K B old O H σ η) (s : Same H H') : ER K B old O H' σ η where
  len := r.len
  sl := fun i x e => by
    have q := r.sl i x e
    cases x with
    | sh d =>
      obtain ⟨v, h1, h2⟩ := q
      exact ⟨v, h1, h2.ca (Ca.grow (K := K) s)⟩
    | ow ds =>
      obtain ⟨a, vs, h1, h2, h3, h4⟩ := q
      exact ⟨a, vs, h1, h2, s _ _ h3, h4.ca (Ca.grow s)⟩
    | od l =>
      obtain ⟨a, h1, h2, h3⟩ := q
      exact ⟨a, h1, h2, s _ _ h3⟩
    | kk k =>
      obtain ⟨v, h1, h2⟩ := q
      exact ⟨v, h1, h2.ca (Ca.grow (K := K) s)⟩
    | st xs =>
      obtain ⟨d, a, h1, h2, h3, h4, h5⟩ := q
      exact ⟨d, a, h1, h2, s _ _ h3, s _ _ h4, h5⟩
    | fr d =>
      obtain ⟨v, h1, h2⟩ := q
      exact ⟨v, h1, h2.ca (Ca.grow (K := K) s)⟩
  dom := r.dom
  inj := r.inj
  disj := r.disj
  fr := r.fr
  same := r.same.trans s
  bt := fun a h z => r.bt a h (s.free z)
  gh := r.gh.ca (Ca.grow s)
  fb := fun a h z => r.fb a h (s.free z)
  fc := r.fc
theorem ER.lst (r : ER K B old O H σ η) {i : Nat} {a : Addr} (e : O i = some a) : H a ≠ none := by
  obtain ⟨s, h, hs⟩ := r.dom i a e
  have q := r.sl i _ h
  cases s with
  | sh d => cases hs
  | ow ds =>
    obtain ⟨b, vs, h1, h2, h3, h4⟩ := q
    rw [e] at h1
    cases h1
    rw [h3]
    exact fun z => nomatch z
  | od l =>
    obtain ⟨b, h1, h2, h3⟩ := q
    rw [e] at h1
    cases h1
    rw [h3]
    exact fun z => nomatch z
  | kk k => cases hs
  | fr d => cases hs
  | st xs =>
    obtain ⟨d, b, h1, h2, h3, h4, h5⟩ := q
    rw [e] at h1
    cases h1
    rw [h4]
    exact fun z => nomatch z
/-- where a thing stands that isn't a list or an open dict, nobody owns it -/
theorem ER.noOwn {a : Addr} (r : ER K B old O H σ η) {u : HO} (e : H a = some u) (h1 : ∀ vs, u ≠ .lst vs) (h2 : ∀ l, u ≠ .dT (dV l)) : ∀ i, O i ≠ some a := fun i z => by
  obtain ⟨s, h, hs⟩ := r.dom i a z
  have q := r.sl i _ h
  cases s with
  | sh d => cases hs
  | kk k => cases hs
  | fr d => cases hs
  | ow ds =>
    obtain ⟨b, vs, q0, _, q2, _⟩ := q
    rw [z] at q0
    cases q0
    rw [e] at q2
    exact h1 _ (Option.some.inj q2)
  | od l =>
    obtain ⟨b, q0, _, q2⟩ := q
    rw [z] at q0
    cases q0
    rw [e] at q2
    exact h2 _ (Option.some.inj q2)
  | st xs =>
    obtain ⟨d, b, q0, _, _, q2, _⟩ := q
    rw [z] at q0
    cases q0
    rw [e] at q2
    exact h1 _ (Option.some.inj q2)
theorem VR.ext {v : V} {x : Val} (r : VR K B O H H' v x) (s : Same H' H'') : VR K B O H H'' v x := by
  cases x with
  | cl d => exact Rp.ca (Ca.grow s) r
  | nw ds =>
    obtain ⟨a, vs, h1, h2, h3, h4⟩ := r
    exact ⟨a, vs, h1, h2, s _ _ h3, h4.ca (Ca.grow s)⟩
  | br i ds =>
    obtain ⟨a, vs, h1, h2, h3, h4⟩ := r
    exact ⟨a, vs, h1, h2, s _ _ h3, h4.ca (Ca.grow s)⟩
  | nd l =>
    obtain ⟨a, h1, h2, h3⟩ := r
    exact ⟨a, h1, h2, s _ _ h3⟩
  | bd i l =>
    obtain ⟨a, h1, h2, h3⟩ := r
    exact ⟨a, h1, h2, s _ _ h3⟩
/-- what stood ahead of it -/
theorem VR.back {v : V} {x : Val} {H0 : Hp} (s : Same H0 H) (r : VR K B O H H' v x) : VR K B O H0 H' v x := by
  cases x with
  | cl d => exact r
  | nw ds =>
    obtain ⟨a, vs, h1, h2, h3, h4⟩ := r
    exact ⟨a, vs, h1, s.free h2, h3, h4⟩
  | br i ds => exact r
  | nd l =>
    obtain ⟨a, h1, h2, h3⟩ := r
    exact ⟨a, h1, s.free h2, h3⟩
  | bd i l => exact r
/-- as data, whoever owns it -/
theorem VR.any {v : V} {x : Val} (r : VR K B O H H' v x) : Rp K (fun _ => False) H' v x.d := by
  cases x with
  | cl d => exact Rp.ca (Ca.less fun _ z => z.elim) r
  | nw ds =>
    obtain ⟨a, vs, rfl, h2, h3, h4⟩ := r
    exact .lst (.inl ⟨id, .inl h3⟩) (h4.ca (Ca.less fun _ z => z.elim))
  | br i ds =>
    obtain ⟨a, vs, h1, rfl, h3, h4⟩ := r
    exact .lst (.inl ⟨id, .inl h3⟩) (h4.ca (Ca.less fun _ z => z.elim))
  | nd l =>
    obtain ⟨a, rfl, h2, h3⟩ := r
    exact .dct id (.inl h3)
  | bd i l =>
    obtain ⟨a, h1, rfl, h3⟩ := r
    exact .dct id (.inl h3)
/-- a new or an unowned value, told to be shared -/
def Val.sh : Val → Option D
  | .cl d => some d
  | .nw ds => some (.list ds)
  | .br _ _ => none
  | .nd l => some (dD l)
  | .bd _ _ => none
theorem VR.shared {v : V} {x : Val} {d : D} (hO : ∀ i a, O i = some a → H a ≠ none) (hB : ∀ a, B a → H a ≠ none) (r : VR K B O H H' v x) (e : x.sh = some d) : Rp K (Own O B) H' v d := by
  cases x with
  | cl d' => cases e; exact r
  | nw ds =>
    obtain ⟨a, vs, rfl, h2, h3, h4⟩ := r
    cases e
    refine .lst (.inl ⟨fun z => ?_, .inl h3⟩) (h4.ca (Ca.less fun _ z => .inl z))
    rcases z with ⟨i, z⟩ | z
    · exact hO i a z h2
    · exact hB a z h2
  | br i ds => cases e
  | nd l =>
    obtain ⟨a, rfl, h2, h3⟩ := r
    cases e
    refine .dct (fun z => ?_) (.inl h3)
    rcases z with ⟨i, z⟩ | z
    · exact hO i a z h2
    · exact hB a z h2
  | bd i l => cases e
end
end PD

/-! PD2: expressions as data, what they are worth, how they stand in the text. -/
namespace PD
open PySem PySem.Spec PyProof.Rows L2

inductive Res (α : Type) where
  | ok (a : α)
  | ex (c : Nat)
  | st
def Res.bind {α β : Type} (r : Res α) (f : α → Res β) : Res β := match r with
  | .ok a => f a
  | .ex c => .ex c
  | .st => .st
/-- nothing is raised -/
def Res.sure {α : Type} : Res α → Res α
  | .ok a => .ok a
  | _ => .st
def Res.map {α β : Type} (f : α → β) (r : Res α) : Res β := r.bind fun a => .ok (f a)

inductive Bo where
  | add | sub | mul | fdiv | mod | pow
  deriving DecidableEq
inductive Co where
  | lt | le | gt | ge | eq | ne | isN | notN | inC | niC
  deriving DecidableEq
inductive Bi where
  | len | abs | max2 | min2 | int1 | tuple1 | list1 | all1 | any1 | max1 | str1
  deriving DecidableEq
inductive Ty where
  | int | bool | str | tuple | list
  deriving DecidableEq

/-- expressions, lists of them, tests (t..), things that are walked (i..) -/
inductive E where
  | var (i : Nat)
  | glob (g : Nat)
  | int (n : Int)
  | bl (b : Bool)
  | non
  | str (s : Str)
  | tup (es : E)
  | lst (es : E)
  | nil
  | cons (e es : E)
  | bin (o : Bo) (a b : E)
  | neg (a : E)
  | not (a : E)
  | bop (k : Bool) (a r : E)
  | bone (k : Bool) (a : E)
  | cmp (o : Co) (a b : E)
  | ite (c a b : E)
  | idx (a i : E)
  | sl (a lo hi : E)
  | rev (a : E)
  | nop
  | sop (a : E)
  | call (f : Nat) (es : E)
  | bi (b : Bi) (es : E)
  | isi (a : E) (t : Ty)
  | isx (a : E) (j : Nat)
  | isv (a : E)
  | dnew
  | dis (ks : List (List Int)) (vs : E)
  | dget (a k d : E)
  | dat (a k : E)
  | calN (f : Nat) (x es : E)
  | sind (s : Str) (b : E)
  | itd (e : E)
  | its (e : E)
  | join (s : Str) (e : E)
  | ch (o p : Co) (a b c : E)
  | tch (o p : Co) (a b c : E)
  | comp (v : Nat) (it c e : E)
  | comp2 (v w : Nat) (it e : E)
  | tst (e : E)
  | tcmp (o : Co) (a b : E)
  | tnot (t : E)
  | tbop (k : Bool) (t r : E)
  | tbone (k : Bool) (t : E)
  | itv (e : E)
  | ir1 (a : E)
  | ir2 (a b : E)
  | ir3 (a b : E) (c : Int)

/-! ### what they are worth -/
def big : Nat := 16777216
/-- the bounds, as statements that nothing reckons -/
def Sm (n : Nat) : Prop := n ≤ big
noncomputable instance (n : Nat) : Decidable (Sm n) := Classical.propDecidable _
def RepOk (n : Nat) (k : Int) : Prop := -(2 ^ 63) ≤ k ∧ k < 2 ^ 63 ∧ n * k.toNat ≤ big
noncomputable instance (n : Nat) (k : Int) : Decidable (RepOk n k) := Classical.propDecidable _
def PowOk (i j : Int) : Prop := 0 ≤ j ∧ j ≤ 1000000 ∧ i.natAbs < 2 ^ 64
noncomputable instance (i j : Int) : Decidable (PowOk i j) := Classical.propDecidable _
def MuOk (i j : Int) : Prop := i.natAbs.log2 + j.natAbs.log2 < 134000000
noncomputable instance (i j : Int) : Decidable (MuOk i j) := Classical.propDecidable _
def DivOk (_i j : Int) : Prop := j ≠ 0
noncomputable instance (i j : Int) : Decidable (DivOk i j) := Classical.propDecidable _
def small (i : Int) : Prop := -(2 ^ 62) ≤ i ∧ i < 2 ^ 62
noncomputable instance (i : Int) : Decidable (small i) := Classical.propDecidable _
def Val.ls : Val → Option (List D)
  | .nw ds => some ds
  | .br _ ds => some ds
  | _ => none
def D.seq : D → Option (List D)
  | .list ds => some ds
  | .tuple ds => some ds
  | _ => none
noncomputable def catV (x y : Val) : Res Val := match x.ls, y.ls with
  | some ds, some es => if Sm (ds.length + es.length) then .ok (.nw (ds ++ es)) else .st
  | _, _ => match x, y with
    | .cl (.tuple ds), .cl (.tuple es) => if Sm (ds.length + es.length) then .ok (.cl (.tuple (ds ++ es))) else .st
    | _, _ => .st
noncomputable def repV (x : Val) (k : Int) : Res Val := match x.ls with
  | some ds => if RepOk ds.length k then .ok (.nw (List.replicate k.toNat ds).flatten) else .st
  | none => .st
noncomputable def addV (x y : Val) : Res Val := match x, y with
  | .cl (.int i), .cl (.int j) => .ok (.cl (.int (i + j)))
  | .cl (.str s), .cl (.str t) => if Sm (s.length + t.length) then .ok (.cl (.str (s ++ t))) else .st
  | x, y => catV x y
def subV (x y : Val) : Res Val := match x, y with
  | .cl (.int i), .cl (.int j) => .ok (.cl (.int (i - j)))
  | _, _ => .st
noncomputable def mulV (x y : Val) : Res Val := match x, y with
  | .cl (.int i), .cl (.int j) => if MuOk i j then .ok (.cl (.int (i * j))) else .st
  | .cl (.tuple ds), .cl (.int k) => if ds ≠ [] ∧ (k = 1 ∨ k = 0) then .ok (.cl (.tuple (if k = 1 then ds else []))) else .st
  | x, .cl (.int k) => repV x k
  | _, _ => .st
noncomputable def fdivV (x y : Val) : Res Val := match x, y with
  | .cl (.int i), .cl (.int j) => if DivOk i j then .ok (.cl (.int (i.fdiv j))) else .st
  | _, _ => .st
def modV (x y : Val) : Res Val := match x, y with
  | .cl (.int i), .cl (.int j) => if j = 0 then .st else .ok (.cl (.int (i.fmod j)))
  | _, _ => .st
noncomputable def powV (x y : Val) : Res Val := match x, y with
  | .cl (.int i), .cl (.int j) => if PowOk i j then .ok (.cl (.int (i ^ j.toNat))) else .st
  | _, _ => .st
noncomputable def binV : Bo → Val → Val → Res Val
  | .add => addV
  | .sub => subV
  | .mul => mulV
  | .fdiv => fdivV
  | .mod => modV
  | .pow => powV
def negV : Val → Res Val
  | .cl (.int i) => .ok (.cl (.int (-i)))
  | _ => .st
def eqD (d e : D) : Res Bool := match d, e with
  | .int i, .int j => .ok (decide (i = j))
  | .str i, .str j => .ok (decide (i = j))
  | d, e => if SeqAt.shaped d = true ∧ SeqAt.shaped e = true then .ok (PyData.eqv d e) else .st
def intsOf : List D → Option (List Int)
  | [] => some []
  | .int i :: r => (intsOf r).map (i :: ·)
  | _ :: _ => none
/-- a new list of whole numbers -/
def newInts : Val → Option (List Int)
  | .nw ds => intsOf ds
  | _ => none
/-- s.index(t), t one sign -/
def sindV (s : Str) : Val → Res Val
  | .cl (.str t) => match Txt.index0 s t with
    | some k => .ok (.cl (.int k))
    | none => .st
  | _ => .st
/-- one sign, in a text -/
def signD (d : D) (z : Str) : Res Bool := match d with
  | .str x => match x.cps.toList with
    | [c] => .ok (decide (c ∈ z.cps.toList))
    | _ => .st
  | _ => .st
/-- among the things of a list or a tuple -/
def memD (d e : D) : Res Bool := match e with
  | .list ds => if SeqAt.shaped d = true ∧ SeqAt.shaped (.list ds) = true then .ok (ds.any fun z => PyData.eqv z d) else .st
  | .tuple ds => if SeqAt.shaped d = true ∧ SeqAt.shaped (.tuple ds) = true then .ok (ds.any fun z => PyData.eqv z d) else .st
  | .str z => signD d z
  | _ => .st
def cmpV : Co → Val → Val → Res Bool
  | .lt, .cl (.int i), .cl (.int j) => .ok (decide (i < j))
  | .le, .cl (.int i), .cl (.int j) => .ok (decide (i ≤ j))
  | .gt, .cl (.int i), .cl (.int j) => .ok (decide (j < i))
  | .ge, .cl (.int i), .cl (.int j) => .ok (decide (j ≤ i))
  | .eq, x, y => eqD x.d y.d
  | .ne, x, y => (eqD x.d y.d).map (!·)
  | .inC, x, y => memD x.d y.d
  | .niC, x, y => (memD x.d y.d).map (!·)
  | .isN, x, .cl .none => .ok (match x.d with | .none => true | _ => false)
  | .notN, x, .cl .none => .ok (match x.d with | .none => false | _ => true)
  | .isN, x, .cl (.bool b) => .ok (match x.d with | .bool a => a == b | _ => false)
  | .notN, x, .cl (.bool b) => .ok (match x.d with | .bool a => !(a == b) | _ => true)
  | _, _, _ => .st
noncomputable def truD : D → Res Bool
  | .none => .ok false
  | .bool b => .ok b
  | .int i => .ok (i != 0)
  | .str s => if Sm s.length then .ok ((s.length : Int) != 0) else .st
  | .list ds => .ok (!ds.isEmpty)
  | .tuple ds => .ok (!ds.isEmpty)
  | .dict _ => .st
def oOk {α : Type} : Option α → Res α
  | some a => .ok a
  | none => .st
noncomputable def sidxV (z : Str) (i : Val) : Res Val := match i with
  | .cl (.int k) => if Sm z.length then (oOk (atI z.cps.toList k)).map fun c => .cl (.str ⟨#[c]⟩) else .st
  | _ => .st
noncomputable def idxV (x i : Val) : Res Val := match x with
  | .cl (.str z) => sidxV z i
  | x => match x.d.seq, i with
    | some ds, .cl (.int k) => (oOk (atI ds k)).map .cl
    | _, _ => .st
def cutD (xs : List D) (lo hi : Option Int) : List D := (xs.drop (HT.sIx xs.length 0 lo)).take (HT.sIx xs.length xs.length hi - HT.sIx xs.length 0 lo)
def revV (x : Val) : Res Val := match x.d with
  | .list ds => .ok (.nw ds.reverse)
  | .tuple ds => .ok (.cl (.tuple ds.reverse))
  | _ => .st
noncomputable def slV (x : Val) (lo hi : Option Int) : Res Val := match x.d with
  | .str z => if Sm z.length then .ok (.cl (.str (cutS z lo hi))) else .st
  | .list ds => .ok (.nw (cutD ds lo hi))
  | .tuple ds => .ok (.cl (.tuple (cutD ds lo hi)))
  | _ => .st
def maxL : List Int → Option Int
  | [] => none
  | i :: r => some (r.foldl max i)
theorem maxL_foldl : ∀ (r : List Int) (i : Int), (r.foldl max i = i ∨ r.foldl max i ∈ r) ∧ i ≤ r.foldl max i ∧ ∀ a ∈ r, a ≤ r.foldl max i
  | [], i => ⟨.inl rfl, Int.le_refl _, fun _ h => (List.not_mem_nil h).elim⟩
  | x :: r, i => by
    obtain ⟨h1, h2, h3⟩ := maxL_foldl r (max i x)
    rw [List.foldl_cons]
    refine ⟨?_, by omega, fun a ha => ?_⟩
    · rcases h1 with h1 | h1
      · rcases Int.le_total i x with h | h
        · right
          rw [h1, Int.max_eq_right h]
          exact List.mem_cons_self
        · left
          rw [h1, Int.max_eq_left h]
      · exact .inr (List.mem_cons_of_mem _ h1)
    · rcases List.mem_cons.mp ha with e | ha
      · subst e
        omega
      · exact h3 a ha
theorem maxL_uniq {ns : List Int} {m M : Int} (h : maxL ns = some m) (h1 : M ∈ ns) (h2 : ∀ a ∈ ns, a ≤ M) : M = m := by
  cases ns with
  | nil => cases h
  | cons i r =>
    cases h
    obtain ⟨k1, k2, k3⟩ := maxL_foldl r i
    have hm : M ≤ r.foldl max i := by
      rcases List.mem_cons.mp h1 with e | e
      · rw [e]; exact k2
      · exact k3 M e
    have hm2 : r.foldl max i ≤ M := by
      rcases k1 with e | e
      · rw [e]; exact h2 i List.mem_cons_self
      · exact h2 _ (List.mem_cons_of_mem _ e)
    omega
def boolsOf : List D → Option (List Bool)
  | [] => some []
  | .bool b :: r => (boolsOf r).map (b :: ·)
  | _ :: _ => none
def SiOk (a : Str) : Prop := a.length ≤ 640
noncomputable instance (a : Str) : Decidable (SiOk a) := Classical.propDecidable _
def StOk (i : Int) : Prop := i.natAbs.log2 < 1920
noncomputable instance (i : Int) : Decidable (StOk i) := Classical.propDecidable _
noncomputable def biV : Bi → List Val → Res Val
  | .len, [x] => match x.d with
    | .list ds => .ok (.cl (.int ds.length))
    | .tuple ds => .ok (.cl (.int ds.length))
    | .str s => if Sm s.length then .ok (.cl (.int s.length)) else .st
    | _ => .st
  | .abs, [.cl (.int i)] => .ok (.cl (.int i.natAbs))
  | .max2, [.cl (.int i), .cl (.int j)] => .ok (.cl (.int (max i j)))
  | .min2, [.cl (.int i), .cl (.int j)] => .ok (.cl (.int (min i j)))
  | .int1, [.cl (.int i)] => .ok (.cl (.int i))
  | .int1, [.cl (.bool b)] => .ok (.cl (.int (if b = true then 1 else 0)))
  | .int1, [.cl (.str a)] => if SiOk a then (oOk (PySem.intText? a)).map fun n => .cl (.int n) else .st
  | .str1, [.cl (.int i)] => if StOk i then .ok (.cl (.str (toString i))) else .st
  | .tuple1, [x] => match x, x.d with
    | .cl (.tuple ds), _ => .ok (.cl (.tuple ds))
    | _, .list ds => .ok (.cl (.tuple ds))
    | _, _ => .st
  | .list1, [x] => (oOk x.d.seq).map .nw
  | .all1, [x] => match x.d with
    | .list ds => (oOk (boolsOf ds)).map fun bs => .cl (.bool (bs.all id))
    | _ => .st
  | .any1, [x] => match x.d with
    | .list ds => (oOk (boolsOf ds)).map fun bs => .cl (.bool (bs.any id))
    | _ => .st
  | .max1, [x] => match x.d with
    | .list ds => (oOk (intsOf ds)).bind fun ns => (oOk (maxL ns)).map fun m => .cl (.int m)
    | _ => .st
  | _, _ => .st
def isiD : D → Ty → Res Bool
  | .none, _ => .ok false
  | .bool _, t => .ok (match t with | .bool => true | .int => true | _ => false)
  | .int _, t => .ok (match t with | .int => true | _ => false)
  | .str _, t => .ok (match t with | .str => true | _ => false)
  | .list _, t => .ok (match t with | .list => true | _ => false)
  | .tuple _, t => .ok (match t with | .tuple => true | _ => false)
  | .dict [], _ => .ok false
  | .dict _, _ => .st
/-- a dict's pairs -/
def keyOf : D → Option (List Int)
  | .tuple ds => intsOf ds
  | _ => none
def dctL : List (D × D) → Option Dl
  | [] => some []
  | (k, .int v) :: r => (keyOf k).bind fun k => (dctL r).map ((k, v) :: ·)
  | _ :: _ => none
def D.dct : D → Option Dl
  | .dict kvs => dctL kvs
  | _ => none
theorem intsOf_map : ∀ l : List Int, intsOf (l.map PyData.int) = some l
  | [] => rfl
  | i :: l => by
    rw [List.map_cons, intsOf, intsOf_map l]
    rfl
theorem dctL_map : ∀ l : Dl, dctL (l.map fun p => (.tuple (p.1.map PyData.int), .int p.2)) = some l
  | [] => rfl
  | (k, v) :: l => by
    rw [List.map_cons, dctL, dctL_map l]
    show (intsOf (k.map PyData.int)).bind _ = _
    rw [intsOf_map]
    rfl
@[simp] theorem dct_dD (l : Dl) : D.dct (dD l) = some l := dctL_map l
theorem intsOf_inv : ∀ {ds : List D} {l : List Int}, intsOf ds = some l → ds = l.map PyData.int
  | [], l, h => by cases h; rfl
  | d :: ds, l, h => by
    cases d with
    | int i =>
      unfold intsOf at h
      cases e : intsOf ds with
      | none => rw [e] at h; cases h
      | some k =>
        rw [e] at h
        cases h
        rw [intsOf_inv e]
        rfl
    | _ => unfold intsOf at h; cases h
theorem dctL_inv : ∀ {kvs : List (D × D)} {l : Dl}, dctL kvs = some l → kvs = l.map fun p => (.tuple (p.1.map PyData.int), .int p.2)
  | [], l, h => by cases h; rfl
  | (k, d) :: kvs, l, h => by
    cases d with
    | int i =>
      unfold dctL at h
      cases e : keyOf k with
      | none => rw [e] at h; cases h
      | some q =>
        rw [e] at h
        cases e2 : dctL kvs with
        | none => rw [e2] at h; cases h
        | some w =>
          rw [e2] at h
          cases h
          rw [dctL_inv e2]
          cases k with
          | tuple ds =>
            rw [intsOf_inv (show intsOf ds = some q from e)]
            rfl
          | _ => cases e
    | _ => unfold dctL at h; cases h
theorem dct_inv {d : D} {l : Dl} (h : D.dct d = some l) : d = dD l := by
  cases d with
  | dict kvs => rw [dctL_inv (show dctL kvs = some l from h)]
  | _ => cases h
def retV : D → Val
  | .list ds => .nw ds
  | .dict kvs => match dctL kvs with
    | some l => .nd l
    | none => .cl (.dict kvs)
  | d => .cl d
/-- what the dict holds at k -/
def lookL (l : Dl) (k : List Int) : Option Int := (l.find? fun p => decide (p.1 = k)).map (·.2)
/-- d[k] = v -/
def putL (l : Dl) (k : List Int) (v : Int) : Dl := if (l.any fun p => decide (p.1 = k)) = true then l.map (fun p => if p.1 = k then (p.1, v) else p) else l ++ [(k, v)]
theorem inl_inj {k k' : List Int} : (k.map Sum.inl : List Key) = k'.map Sum.inl ↔ k = k' :=
  ⟨fun h => (List.map_inj_right fun a b e => Sum.inl.inj e).mp h, fun h => by rw [h]⟩
theorem valV_dV (k : List Int) : ∀ l : Dl, valV (dV l) (k.map Sum.inl) = (lookL l k).map V.int
  | [] => rfl
  | p :: l => by
    have e : dV (p :: l) = (p.1.map Sum.inl, V.int p.2) :: dV l := rfl
    rw [e]
    by_cases h : p.1 = k
    · rw [valV_pos (inl_inj.mpr h), lookL, List.find?_cons, decide_eq_true h]
      rfl
    · rw [valV_neg (fun z => h (inl_inj.mp z)), valV_dV k l, lookL, lookL, List.find?_cons, decide_eq_false h]
theorem any_dV (k : List Int) (l : Dl) : ((dV l).any fun kv => decide (kv.1 = k.map Sum.inl)) = l.any fun p => decide (p.1 = k) := by
  unfold dV
  rw [List.any_map]
  congr 1
  funext p
  show decide ((p.1.map Sum.inl : List Key) = k.map Sum.inl) = decide (p.1 = k)
  by_cases h : p.1 = k
  · rw [decide_eq_true h, decide_eq_true (inl_inj.mpr h)]
  · rw [decide_eq_false h, decide_eq_false (fun z => h (inl_inj.mp z))]
theorem dV_put (l : Dl) (k : List Int) (v : Int) : dV (putL l k v) = putK (dV l) (k.map Sum.inl) (.int v) := by
  unfold putK putL
  rw [any_dV]
  split
  · unfold dV
    rw [List.map_map, List.map_map]
    refine List.map_congr_left fun p _ => ?_
    show (((if p.1 = k then (p.1, v) else p) : List Int × Int).1.map Sum.inl, V.int ((if p.1 = k then (p.1, v) else p) : List Int × Int).2) = if (p.1.map Sum.inl : List Key) = k.map Sum.inl then (p.1.map Sum.inl, V.int v) else (p.1.map Sum.inl, V.int p.2)
    by_cases h : p.1 = k
    · rw [if_pos h, if_pos (inl_inj.mpr h)]
    · rw [if_neg h, if_neg (fun z => h (inl_inj.mp z))]
  · unfold dV
    rw [List.map_append]
    rfl
theorem putL_len (l : Dl) (k : List Int) (v : Int) : (putL l k v).length ≤ l.length + 1 := by
  unfold putL
  split
  · rw [List.length_map]
    omega
  · rw [List.length_append]
    exact Nat.le_refl _
def disL : Dl → List (List Int) → List Int → Option Dl
  | l, [], [] => some l
  | l, k :: ks, v :: vs => disL (putL l k v) ks vs
  | _, _, _ => none
def shAll : List Val → Option (List D)
  | [] => some []
  | x :: xs => match x.sh, shAll xs with
    | some d, some ds => some (d :: ds)
    | _, _ => none
def bitOf : Val → Res Bool
  | .cl (.bool b) => .ok b
  | _ => .st
def intOf : Val → Res Int
  | .cl (.int i) => .ok i
  | _ => .st
def rngD (lo : Int) (n : Nat) : List D := (List.range n).map fun (k : Nat) => .int (lo + k)
def slotV (η : Env) (i : Nat) : Res Val := match η[i]? with
  | some (some (.sh d)) => .ok (.cl d)
  | some (some (.ow ds)) => .ok (.br i ds)
  | some (some (.od l)) => .ok (.bd i l)
  | some (some (.kk k)) => .ok (.cl k.d)
  | some (some (.fr d)) => .ok (.cl d)
  | _ => .st
def freeS (η : Env) (i : Nat) : Bool := match η[i]? with
  | some (some (.ow _)) => false
  | some (some (.od _)) => false
  | some (some (.st _)) => false
  | some _ => true
  | none => false
/-- a walked thing -/
inductive Wk where
  | v (x : Val)
  | d (l : Dl)
  | txt (z : Str)
  | r (lo : Int) (n : Nat)
  | c (lo c : Int) (n : Nat)
def rngC (lo c : Int) (n : Nat) : List D := (List.range n).map fun (k : Nat) => .int (lo + (k : Int) * c)
open Classical in
noncomputable def rgV (i j c : Int) : Res Wk := if h : ∃ n, RgC i j c n then .ok (.c i c (Classical.choose h)) else .st
theorem rgV_of {i j c : Int} {n : Nat} (h : RgC i j c n) : rgV i j c = .ok (.c i c n) := by
  have hx : ∃ n, RgC i j c n := ⟨n, h⟩
  unfold rgV
  rw [dif_pos hx]
  have h2 := Classical.choose_spec hx
  have e : Classical.choose hx = n := by
    have a := h.2.2.2
    have b := h2.2.2.2
    omega
  rw [e]
def dkeys (l : Dl) : List D := l.map fun p => .tuple (p.1.map PyData.int)
def Wk.ds : Wk → List D
  | .d l => dkeys l
  | .txt z => z.cps.toList.map fun c => .str ⟨#[c]⟩
  | .v x => x.d.seq.getD []
  | .r lo n => rngD lo n
  | .c lo s n => rngC lo s n
/-- the items of a comprehension, one after another -/
noncomputable def compF (t : D → Res Bool) (f : D → Res Val) : List D → List D → Res (List D)
  | [], acc => .ok acc
  | d :: ds, acc => (t d).bind fun b => if b = true then (f d).bind fun x => (oOk x.sh).bind fun y => if Sm (acc.length + 1) then compF t f ds (acc ++ [y]) else .st
    else compF t f ds acc

def strOf : Val → Option Str
  | .cl (.str z) => some z
  | _ => none
def strsOf : List D → Option (List Str)
  | [] => some []
  | .str z :: r => (strsOf r).map (z :: ·)
  | _ :: _ => none
def JnOk (s : Str) (ys : List Str) : Prop := (ys.map (·.length)).sum + ys.length * s.length ≤ 16777216
noncomputable instance (s : Str) (ys : List Str) : Decidable (JnOk s ys) := Classical.propDecidable _
noncomputable def joinV (s : Str) (x : Val) : Res Val := (oOk x.d.seq).bind fun ds => (oOk (strsOf ds)).bind fun ys => if JnOk s ys then .ok (.cl (.str (Txt.join s ys))) else .st
/-- a new dict -/
def newDl : Val → Option Dl
  | .nd l => some l
  | _ => none
/-- the parts of a pair -/
def two2 (d : D) (f : D → D → Res Val) : Res Val := match d with
  | .tuple [a, b] => f a b
  | _ => .st
def compR : Res (List D) → Res Val
  | .ok ys => .ok (.nw ys)
  | _ => .st
/-- the def's table, the constants -/
structure Tb where
  G : Nat → List D → Res D
  gl : Nat → Option D
  ex : List Str
  /-- defs that draw from a state: the state ahead, the other arguments; the answer, the state behind -/
  S : Nat → List Int → List D → Res (D × List Int)
  /-- defs whose answers nobody owns -/
  sh : Nat → Bool
/-- the class c stands under x (0: the base of all) -/
def subX (c x : Nat) : Bool := x == 0 || c == x
/-- an exception's class, by its name -/
def exIx : List Str → Str → Option Nat
  | [], _ => none
  | m :: l, n => if m = n then some 0 else (exIx l n).map (· + 1)
theorem exIx_get : ∀ {l : List Str} {n : Str} {c : Nat}, exIx l n = some c → l[c]? = some n
  | [], _, _, h => by cases h
  | m :: l, n, c, h => by
    unfold exIx at h
    split at h
    · rename_i e
      cases h
      rw [e]
      rfl
    · cases e : exIx l n with
      | none => rw [e] at h; cases h
      | some k =>
        rw [e] at h
        cases h
        have := exIx_get e
        simpa using this
def exN (l : List Str) : D → Option Nat
  | .dict [(.str n, .none)] => exIx l n
  | _ => none

section
variable (T : Tb)
mutual
noncomputable def ev : E → Env → Res Val
  | .var i, η => slotV η i
  | .glob g, _ => (oOk (T.gl g)).map .cl
  | .int n, _ => .ok (.cl (.int n))
  | .bl b, _ => .ok (.cl (.bool b))
  | .non, _ => .ok (.cl .none)
  | .str s, _ => .ok (.cl (.str s))
  | .tup es, η => (evs es η).bind fun xs => (oOk (shAll xs)).map fun ds => .cl (.tuple ds)
  | .lst es, η => (evs es η).bind fun xs => (oOk (shAll xs)).map .nw
  | .bin o a b, η => (ev a η).bind fun x => (ev b η).bind fun y => binV o x y
  | .neg a, η => (ev a η).bind negV
  | .not a, η => (ev a η).bind fun x => (bitOf x).map fun b => .cl (.bool (!b))
  | .bop k a r, η => (ev a η).bind fun x => (bitOf x).bind fun b => if b = k then ev r η else .ok (.cl (.bool b))
  | .bone _ a, η => ev a η
  | .cmp o a b, η => (ev a η).bind fun x => (ev b η).bind fun y => (cmpV o x y).map fun c => .cl (.bool c)
  | .ite c a b, η => (evt c η).bind fun c => if c = true then ev a η else ev b η
  | .idx a i, η => (ev a η).bind fun x => (ev i η).bind fun y => idxV x y
  | .sl a lo hi, η => (ev a η).bind fun x => (evo lo η).bind fun l => (evo hi η).bind fun h => slV x l h
  | .rev a, η => (ev a η).bind revV
  | .call f es, η => (evs es η).bind fun xs => (T.G f (xs.map Val.d)).map fun d => if T.sh f = true then .cl d else retV d
  | .calN f x es, η => (ev x η).bind fun v => (oOk (newInts v)).bind fun ns => (evs es η).bind fun xs => (T.S f ns (xs.map Val.d)).sure.map fun p => .cl p.1
  | .sind s b, η => (ev b η).bind (sindV s)
  | .join s b, η => (ev b η).bind (joinV s)
  | .ch o p a b c, η => (ev a η).bind fun x => (ev b η).bind fun y => (cmpV o x y).bind fun k => if k = true then (ev c η).bind fun z => (cmpV p y z).map fun k => .cl (.bool k) else .ok (.cl (.bool false))
  | .bi b es, η => (evs es η).bind fun xs => biV b xs
  | .isi a t, η => (ev a η).bind fun x => (isiD x.d t).map fun b => .cl (.bool b)
  | .isx a j, η => (ev a η).bind fun x => (oOk (exN T.ex x.d)).map fun c => .cl (.bool (subX c j))
  | .dnew, _ => .ok (.nd [])
  | .dis ks vs, η => (evs vs η).bind fun xs => (oOk (intsOf (xs.map Val.d))).bind fun ns => (oOk (disL [] ks ns)).map .nd
  | .dget a k d, η => (ev a η).bind fun x => (oOk x.d.dct).bind fun _ => (ev k η).bind fun y => (ev d η).bind fun z => (oOk x.d.dct).bind fun l => (oOk (keyOf y.d)).bind fun k => (intOf z).map fun n => .cl (.int ((lookL l k).getD n))
  | .dat a k, η => (ev a η).bind fun x => (ev k η).bind fun y => (oOk x.d.dct).bind fun l => (oOk (keyOf y.d)).bind fun k => (oOk (lookL l k)).map fun n => .cl (.int n)
  | .isv a, η => (ev a η).bind fun x => (oOk (exN T.ex x.d)).map fun _ => .cl (.bool true)
  | .comp v it c e, η => if freeS η v = true then (evi it η).bind fun w =>
      compR (compF (fun d => match c with | .nop => .ok true | c => evt c (η.set v (some (.sh d)))) (fun d => ev e (η.set v (some (.sh d)))) w.ds []) else .st
  | .comp2 v u it e, η => if freeS η v = true ∧ freeS η u = true ∧ v ≠ u then (evi it η).bind fun w =>
      compR (compF (fun _ => .ok true) (fun d => two2 d fun a b => ev e ((η.set v (some (.sh a))).set u (some (.sh b)))) w.ds []) else .st
  | _, _ => .st
noncomputable def evs : E → Env → Res (List Val)
  | .nil, _ => .ok []
  | .cons e es, η => (ev e η).bind fun x => (evs es η).bind fun xs => .ok (x :: xs)
  | _, _ => .st
noncomputable def evt : E → Env → Res Bool
  | .tst e, η => (ev e η).bind fun x => truD x.d
  | .tcmp o a b, η => (ev a η).bind fun x => (ev b η).bind fun y => cmpV o x y
  | .tch o p a b c, η => (ev a η).bind fun x => (ev b η).bind fun y => (cmpV o x y).bind fun k => if k = true then (ev c η).bind fun z => cmpV p y z else .ok false
  | .tnot t, η => (evt t η).map (!·)
  | .tbop k t r, η => (evt t η).bind fun c => if c = k then evt r η else .ok c
  | .tbone _ t, η => evt t η
  | _, _ => .st
noncomputable def evi : E → Env → Res Wk
  | .itv e, η => (ev e η).bind fun x => (oOk x.d.seq).map fun _ => .v x
  | .itd e, η => (ev e η).bind fun x => (oOk (newDl x)).map .d
  | .its e, η => (ev e η).bind fun x => (oOk (strOf x)).map .txt
  | .ir1 a, η => (ev a η).bind fun x => (intOf x).bind fun n => if small n then .ok (.r 0 n.toNat) else .st
  | .ir2 a b, η => (ev a η).bind fun x => (ev b η).bind fun y => (intOf x).bind fun i => (intOf y).bind fun j => if small i ∧ small j then .ok (.r i (j - i).toNat) else .st
  | .ir3 a b c, η => (ev a η).bind fun x => (ev b η).bind fun y => (intOf x).bind fun i => (intOf y).bind fun j => rgV i j c
  | _, _ => .st
noncomputable def evo : E → Env → Res (Option Int)
  | .nop, _ => .ok none
  | .sop e, η => (ev e η).bind fun x => (intOf x).map some
  | _, _ => .st
end
end

/-! ### how they stand in the text -/
/-- the names: of the defs (with how many parameters), the constants -/
structure Nm where
  fn : Nat → Option (Str × Nat)
  gl : Nat → Option Str
  ex : Nat → Option Str
  hx : Bool
  sn : Nat → Option (Str × Nat)
def boP : Bo → Operator
  | .add => .Add
  | .sub => .Sub
  | .mul => .Mult
  | .fdiv => .FloorDiv
  | .mod => .Mod
  | .pow => .Pow
def coP : Co → CmpOp
  | .lt => .Lt
  | .le => .LtE
  | .gt => .Gt
  | .ge => .GtE
  | .eq => .Eq
  | .ne => .NotEq
  | .isN => .Is
  | .notN => .IsNot
  | .inC => .In
  | .niC => .NotIn
def biN : Bi → Str
  | .len => "len"
  | .abs => "abs"
  | .max2 => "max"
  | .min2 => "min"
  | .int1 => "int"
  | .tuple1 => "tuple"
  | .list1 => "list"
  | .all1 => "all"
  | .any1 => "any"
  | .max1 => "max"
  | .str1 => "str"
def tyN : Ty → Str
  | .int => "int"
  | .bool => "bool"
  | .str => "str"
  | .tuple => "tuple"
  | .list => "list"
def bltNames : List Str := ["len", "abs", "max", "min", "int", "tuple", "list", "all", "any", "bool", "str", "isinstance", "range", "enumerate", "zip", "dict", "sorted", "sum"]
def visB (sc : Scope) (x : Str) : Bool := match sc.names.lookup x with
  | some .local => true
  | some .cell => true
  | some .free => true
  | _ => false
def glB (sc : Scope) (x : Str) : Bool := match sc.names.lookup x with
  | some .globalImplicit => true
  | _ => false
def okName (x : Str) : Bool := !(x == ("__debug__" : Str)) && !(x == ("__classdict__" : Str))
def lenE : E → Nat
  | .cons _ es => lenE es + 1
  | _ => 0

def intsB : List Expr → List Int → Bool
  | [], [] => true
  | .Constant (.int i) _ _ :: r, j :: js => decide (i = j) && intsB r js
  | _, _ => false
def keysB : List (Option Expr) → List (List Int) → Bool
  | [], [] => true
  | some (.Tuple es _ _) :: r, k :: ks => intsB es k && decide (k.length ≤ 1000) && keysB r ks
  | _, _ => false
section
variable (M : Nm)
mutual
def okE (N : List Str) (sc : Scope) (e : Expr) : E → Bool
  | .var i => match e with
    | .Name x _ => decide (N[i]? = some x) && visB sc x && okName x
    | _ => false
  | .glob g => match e with
    | .Name x _ => decide (M.gl g = some x) && glB sc x && okName x
    | _ => false
  | .int n => match e with
    | .Constant (.int i) _ _ => decide (i = n)
    | _ => false
  | .bl b => match e with
    | .Constant (.bool c) _ _ => decide (b = c)
    | _ => false
  | .non => match e with
    | .Constant .none _ _ => true
    | _ => false
  | .str s => match e with
    | .Constant (.str x) _ _ => decide (x = s)
    | _ => false
  | .tup es => match e with
    | .Tuple xs _ _ => okEs N sc xs es && decide (lenE es ≤ 1000)
    | _ => false
  | .lst es => match e with
    | .List xs _ => okEs N sc xs es && decide (lenE es ≤ 1000)
    | _ => false
  | .bin o a b => match e with
    | .BinOp x p y _ => decide (p = boP o) && okE N sc x a && okE N sc y b
    | _ => false
  | .neg a => match e with
    | .UnaryOp .USub x _ => okE N sc x a
    | _ => false
  | .not a => match e with
    | .UnaryOp .Not x _ => okE N sc x a
    | _ => false
  | .bop k a r => match e with
    | .BoolOp .And (x :: y :: xs) p => k && okE N sc x a && okE N sc (.BoolOp .And (y :: xs) p) r
    | .BoolOp .Or (x :: y :: xs) p => !k && okE N sc x a && okE N sc (.BoolOp .Or (y :: xs) p) r
    | _ => false
  | .bone k a => match e with
    | .BoolOp .And [x] _ => k && okE N sc x a
    | .BoolOp .Or [x] _ => !k && okE N sc x a
    | _ => false
  | .cmp o a b => match e with
    | .Compare x [p] [y] _ => decide (p = coP o) && okE N sc x a && okE N sc y b
    | _ => false
  | .ite c a b => match e with
    | .IfExp t x y _ => okT N sc t c && okE N sc x a && okE N sc y b
    | _ => false
  | .idx a i => match e with
    | .Subscript x y _ => okE N sc x a && okE N sc y i
    | _ => false
  | .sl a lo hi => match e with
    | .Subscript x (.Slice l h none _) _ => okE N sc x a && okO N sc l lo && okO N sc h hi
    | _ => false
  | .rev a => match e with
    | .Subscript x (.Slice none none (some (.UnaryOp .USub (.Constant (.int 1) _ _) _)) _) _ => okE N sc x a
    | _ => false
  | .call f es => match e with
    | .Call (.Name x _) (a :: as) [] _ => (match M.fn f with | some (y, n) => decide (y = x) && decide (as.length + 1 = n) | none => false) && glB sc x && okName x && okEs N sc (a :: as) es
    | _ => false
  | .calN f a es => match e with
    | .Call (.Name x _) (.Dict [some (.Constant (.str k) _ _)] [v] _ :: as) [] _ => (match M.sn f with | some (y, n) => decide (y = x) && decide (as.length + 1 = n) | none => false) && glB sc x && okName x && decide (k = "xs") && okE N sc v a && okEs N sc as es
    | _ => false
  | .sind a b => match e with
    | .Call (.Attribute (.Constant (.str z) zk zp) m ap) [y] [] cp => decide (m = "index") && decide (z = a) && okE N sc y b && decide (ap.endLine = cp.line)
    | _ => false
  | .join s b => match e with
    | .Call (.Attribute (.Constant (.str z) zk zp) m ap) [y] [] cp => decide (m = "join") && decide (z = s) && okE N sc y b && decide (ap.endLine = cp.line)
    | _ => false
  | .ch o p a b c => match e with
    | .Compare x [o', p'] [y, z] _ => decide (o' = coP o) && decide (p' = coP p) && okE N sc x a && okE N sc y b && okE N sc z c
    | _ => false
  | .bi b es => match e with
    | .Call (.Name x _) (a :: as) [] _ => decide (x = biN b) && glB sc x && okEs N sc (a :: as) es
    | _ => false
  | .isi a t => match e with
    | .Call (.Name x _) [y, .Name z _] [] _ => decide (x = "isinstance") && glB sc x && decide (z = tyN t) && glB sc z && okE N sc y a
    | _ => false
  | .dnew => match e with
    | .Dict [] [] _ => true
    | _ => false
  | .dis ks vs => match e with
    | .Dict keys values _ => keysB keys ks && okEs N sc values vs && decide (keys.length ≤ 15) && !keys.isEmpty && decide (keys.length = values.length)
    | _ => false
  | .dget a k d => match e with
    | .Call (.Attribute (.Name o p) m ap) [x, y] [] cp => decide (m = "get") && okE N sc (.Name o p) a && okE N sc x k && okE N sc y d && decide (ap.endLine = cp.line)
    | _ => false
  | .dat a k => match e with
    | .Subscript x y _ => okE N sc x a && okE N sc y k
    | _ => false
  | .isx a j => match e with
    | .Call (.Name x _) [y, .Name z _] [] _ => M.hx && decide (x = "isinstance") && glB sc x && decide (M.ex j = some z) && glB sc z && okName z && okE N sc y a
    | _ => false
  | .isv a => match e with
    | .Call (.Name x _) [y, .Name z _] [] _ => M.hx && decide (x = "isinstance") && glB sc x && decide (z = "ValueError") && glB sc z && okE N sc y a
    | _ => false
  | .comp2 v u it e' => match e with
    | .ListComp elt [⟨.Tuple [.Name y _, .Name z _] _ _, iter, [], 0⟩] scope _ => decide (N[v]? = some y) && decide (N[u]? = some z) && blkC N sc scope [(y, v), (z, u)] && okI N sc iter it
        && (match scope.names.lookup y with | some .cell => true | some .local => true | _ => false)
        && (match scope.names.lookup z with | some .cell => true | some .local => true | _ => false) && okE N (relS scope sc) elt e'
    | _ => false
  | .comp v it c e' => match e with
    | .ListComp elt [⟨.Name y _, iter, ifs, 0⟩] scope _ => decide (N[v]? = some y) && blkC N sc scope [(y, v)] && okI N sc iter it && visB (relS scope sc) y
        && (match scope.names.lookup y with | some .cell => true | some .local => true | _ => false)
        && (match ifs, c with | [], .nop => true | [t], c => okT N (relS scope sc) t c | _, _ => false) && okE N (relS scope sc) elt e'
    | _ => false
  | _ => false
def okEs (N : List Str) (sc : Scope) (es : List Expr) : E → Bool
  | .nil => match es with
    | [] => true
    | _ => false
  | .cons a as => match es with
    | x :: xs => okE N sc x a && okEs N sc xs as
    | _ => false
  | _ => false
def okT (N : List Str) (sc : Scope) (e : Expr) : E → Bool
  | .tst a => okE N sc e a && (match e with | .UnaryOp .Not _ _ => false | .BoolOp .. => false | .IfExp .. => false | .Compare .. => false | _ => true)
  | .tcmp o a b => match e with
    | .Compare x [p] [y] _ => decide (p = coP o) && okE N sc x a && okE N sc y b
    | _ => false
  | .tch o p a b c => match e with
    | .Compare x [o', p'] [y, z] _ => decide (o' = coP o) && decide (p' = coP p) && okE N sc x a && okE N sc y b && okE N sc z c
    | _ => false
  | .tnot t => match e with
    | .UnaryOp .Not x _ => okT N sc x t
    | _ => false
  | .tbop k a r => match e with
    | .BoolOp .And (x :: y :: xs) p => k && okT N sc x a && okT N sc (.BoolOp .And (y :: xs) p) r
    | .BoolOp .Or (x :: y :: xs) p => !k && okT N sc x a && okT N sc (.BoolOp .Or (y :: xs) p) r
    | _ => false
  | .tbone k a => match e with
    | .BoolOp .And [x] _ => k && okT N sc x a
    | .BoolOp .Or [x] _ => !k && okT N sc x a
    | _ => false
  | _ => false
def okI (N : List Str) (sc : Scope) (e : Expr) : E → Bool
  | .itv a => okE N sc e a && (match e with | .Set .. => false | _ => true)
  | .itd a => okE N sc e a && (match e with | .Set .. => false | _ => true)
  | .its a => okE N sc e a && (match e with | .Set .. => false | _ => true)
  | .ir1 a => match e with
    | .Call (.Name x _) [y] [] _ => decide (x = "range") && glB sc x && okE N sc y a
    | _ => false
  | .ir2 a b => match e with
    | .Call (.Name x _) [y, z] [] _ => decide (x = "range") && glB sc x && okE N sc y a && okE N sc z b
    | _ => false
  | .ir3 a b c => match e with
    | .Call (.Name x _) [y, z, .Constant (.int k) _ _] [] _ => decide (x = "range") && glB sc x && okE N sc y a && okE N sc z b && decide (k = c)
    | .Call (.Name x _) [y, z, .UnaryOp .USub (.Constant (.int k) _ _) _] [] _ => decide (x = "range") && glB sc x && okE N sc y a && okE N sc z b && decide (-k = c)
    | _ => false
  | _ => false
def okO (N : List Str) (sc : Scope) (e : Option Expr) : E → Bool
  | .nop => match e with
    | none => true
    | _ => false
  | .sop a => match e with
    | some x => okE N sc x a
    | none => false
  | _ => false
end
end
end PD

/-! PDU: a tuple no times or once. -/
namespace PD
open PySem PySem.Spec PyProof.Rows L2
theorem tuple_mul1 (l : Addr) (items : Array Value) (n : Nat) (dd : Option Addr) (sl : Array (Option Value)) (u : Tok) (hi : items.isEmpty = false) :
    Meets (Builtin.«tuple.__mul__» ⟨[.ref l, .int 1 u], []⟩) (fun _ R s => s.heap.get? l = some { cls := .type "tuple", dict := dd, data := .seq items n, slots := sl } ∧
      R (.ok (.ret (Value.ref l))) s) :=
  .of_wp fun prog w A R s h => by
    obtain ⟨hp, g, d, tk, os⟩ := s
    obtain ⟨hl, h⟩ := h
    have f1 := AutoSeq1.idx_int
    wp_walk using wpAny_loadPart' hl
    repeat (first
      | (refine wpAny_ite_false (by decide) ?_; wp_walk using wpAny_loadPart' hl)
      | (refine wpAny_ite_true (by simp) ?_; wp_walk using wpAny_loadPart' hl))
    exact ⟨_, rfl, h⟩
theorem tuple_mul0 (l : Addr) (items : Array Value) (n : Nat) (dd : Option Addr) (sl : Array (Option Value)) (u : Tok) (hi : items.isEmpty = false) :
    Meets (Builtin.«tuple.__mul__» ⟨[.ref l, .int 0 u], []⟩) (fun _ R s => s.heap.get? l = some { cls := .type "tuple", dict := dd, data := .seq items n, slots := sl } ∧
      R (.ok (.ret (Value.ref s.heap.objs.size))) { s with heap := s.heap.push { cls := Value.type "tuple", data := Data.seq #[] }, toks := s.toks }) :=
  .of_wp fun prog w A R s h => by
    obtain ⟨hp, g, d, tk, os⟩ := s
    obtain ⟨hl, h⟩ := h
    have f1 := AutoSeq1.idx_int
    wp_walk using wpAny_loadPart' hl
    repeat (first
      | (refine wpAny_ite_false (by decide) ?_; wp_walk using wpAny_loadPart' hl)
      | (refine wpAny_ite_false (decide_eq_false (by rw [hi]; decide)) ?_; wp_walk using wpAny_loadPart' hl)
      | (refine wpAny_ite_true (by simp) ?_; wp_walk using wpAny_loadPart' hl))
    exact ⟨_, rfl, h⟩
/-- a tuple of things, no times or once -/
def rRepU (K : Fg) : R2 := fun x y H Q => ∃ l k xs, x = .ref l ∧ y = .int k ∧ SqT K H l xs ∧ xs ≠ [] ∧ ((k = 1 ∧ Q (.ref l) H) ∨ (k = 0 ∧ ∀ p, H p = none → Q (.ref p) (upd H p (.tup []))))
theorem op_repU {X : Cx} : OpR X (binaryOp .Mult) (rRepU X.K) := by
  intro pins s σ H x y v u Q I rx ry h
  obtain ⟨l, k, xs, rfl, rfl, hT, hne, h⟩ := h
  cases rx
  obtain ⟨t, rfl⟩ := ry
  obtain ⟨its, r, ⟨⟨cls, dd, data, sl⟩, ho, hc, n, hd⟩, hs⟩ := I.tuple hT
  simp only at hc hd
  subst hc hd
  have hn : its ≠ [] := fun e => hne (by
    have hle : its.length = xs.length := r.length.symm
    rw [e] at hle
    exact List.eq_nil_of_length_eq_zero hle.symm)
  have hi : its.toArray.isEmpty = false := by
    cases its with
    | nil => exact absurd rfl hn
    | cons a b => rfl
  rcases h with ⟨rfl, q⟩ | ⟨rfl, q⟩
  · exact wpAny_binaryOp_repeat_ref (T := "tuple") (U := "int") (by decide) ⟨_, ho, rfl⟩ (fun s' => typeIs_int s' 1 t) noFill_tuple_mul F.fills_int_mul F.slot_int_rmul repeat_tuple F.slot_int_index.lookup
      (call_meets F.slot_int_rmul (typeIs_int s 1 t) F.entry_int_rmul (F.args_int_rmul_2 _ _) (int_rmul_tuple 1 t l its.toArray n dd sl)
        ⟨ho, rfl, ⟨_, ho, rfl⟩, call_meets F.slot_tuple_mul ⟨_, ho, rfl⟩ F.entry_tuple_mul (F.args_tuple_mul_2 _ _) (tuple_mul1 l its.toArray n dd sl t hi) ⟨ho, .ref l, H, I, rfl, q⟩⟩)
  · refine wpAny_binaryOp_repeat_ref (T := "tuple") (U := "int") (by decide) ⟨_, ho, rfl⟩ (fun s' => typeIs_int s' 0 t) noFill_tuple_mul F.fills_int_mul F.slot_int_rmul repeat_tuple F.slot_int_index.lookup
      (call_meets F.slot_int_rmul (typeIs_int s 0 t) F.entry_int_rmul (F.args_int_rmul_2 _ _) (int_rmul_tuple 0 t l its.toArray n dd sl)
        ⟨ho, rfl, ⟨_, ho, rfl⟩, call_meets F.slot_tuple_mul ⟨_, ho, rfl⟩ F.entry_tuple_mul (F.args_tuple_mul_2 _ _) (tuple_mul0 l its.toArray n dd sl t hi) ⟨ho, ?_⟩⟩)
    refine ⟨.ref s.heap.objs.size, _, I.laid (t' := s.toks) (o := .tup []) (fun b ob q => Heap.get?_push_of_some _ q) (Nat.le_refl _) ?_, rfl, q _ (I.hok.fresh (Nat.le_refl _))⟩
    exact ⟨Nat.zero_le _, [], .nil, IsTup.new _ _⟩
end PD

/-! PD3: expressions: what stands in the text runs as told. -/
namespace PD
open PySem PySem.Spec PyProof.Rows L2

/-! ### what a def promises -/
def RetR (K : Fg) (H H' : Hp) (v : V) (d : D) : Prop :=
  (lf d = true ∧ Rp K (fun _ => False) H' v d) ∨
    (∃ ds a vs, d = .list ds ∧ lfAll ds = true ∧ v = .ref a ∧ H a = none ∧ H' a = some (.lst vs) ∧ RpAll K (fun _ => False) H' vs ds) ∨
    ∃ l a, d = dD l ∧ v = .ref a ∧ H a = none ∧ H' a = some (.dT (dV l))
/-- the answer of a def whose answers nobody owns -/
def RetQ (K : Fg) (sh : Bool) (H H' : Hp) (v : V) (d : D) : Prop := RetR K H H' v d ∨ (sh = true ∧ Rp K (fun b => H b ≠ none) H' v d)
def spD (K : Fg) (xa : Nat → Addr) (n : Nat) (sh : Bool) (g : List D → Res D) : Sp := fun vs H Q E =>
  vs.length = n ∧ ∃ ds, RpAll K (fun _ => False) H vs ds ∧ match g ds with
    | .ok d => ∀ v H', Same H H' → RetQ K sh H H' v d → Q v H'
    | .ex c => ∀ H', Same H H' → E (.ref (xa c)) none H'
    | .st => False
/-- what a def that draws from a state promises -/
def spS (K : Fg) (n : Nat) (g : List Int → List D → Res (D × List Int)) : Sp := fun vs H Q _ =>
  vs.length = n ∧ ∃ s a xs vs' ds, vs = .ref s :: vs' ∧ H s = some (stO a) ∧ H a = some (.lst (xs.map V.int)) ∧ RpAll K (fun b => b = a) H vs' ds ∧ match g xs ds with
    | .ok (d, xs') => ∀ v H', (∀ b o, b ≠ a → H b = some o → H' b = some o) → H' a = some (.lst (xs'.map V.int)) → Rp K (fun b => H b ≠ none) H' v d → Q v H'
    | _ => False
/-- what a division of great numbers wants of the frame -/
structure PyG (X : Cx) : Prop where
  ns : X.base.NoSeer
  tr : X.prog.given.tree = none
  dp : X.A.depth + 100 < recursionLimit
  stk : ∃ e l, X.stack = e :: l ∧ e.scope.isGenerator = false ∧ e.scope.isCoroutine = false ∧ e.builtins = builtinsNs ∧ e.globals = mainGlobals
theorem PyG.room {X : Cx} (p : PyG X) {pins : List (Addr × Obj)} {σ : L2.St} {H : Hp} {s : Shared} (I : Inv X pins σ H s) : PySem.PylongRoom (model X.prog X.w) X.A s := by
  obtain ⟨e, l, h1, h2, h3, h4, h5⟩ := p.stk
  exact PySem.PylongRoom.of I.nolimit p.dp (PySem.SeerAt.of (p.ns.keeps I.bk) p.tr (by rw [I.ok.frames, h1]) h2 h3 h4 h5)
structure GX (T : Tb) (M : Nm) (xa : Nat → Addr) (X : Cx) (W : WX) : Prop where
  calm : X.calm = true
  nd : X.N.Nodup
  blt : ∀ x ∈ bltNames, X.mg x = none
  lv : ∃ k, Room k X.A ∧ 3 ≤ k ∧ ∀ f y n, M.fn f = some (y, n) → ∃ a fd ps, X.mg y = some (.ref a) ∧ PySem.W.keepIn X.K (.ref a) = true ∧ L2.Binds X.K fd ps [] ∧
    FnOk X.prog X.w X.K X.mg X.base (L2N.CX X.prog X.w) k a fd ps (spD X.K xa n (T.sh f) (T.G f))
  ls : ∃ k, Room k X.A ∧ 3 ≤ k ∧ ∀ f y n, M.sn f = some (y, n) → ∃ a fd ps, X.mg y = some (.ref a) ∧ PySem.W.keepIn X.K (.ref a) = true ∧ L2.Binds X.K fd ps [] ∧
    FnOk X.prog X.w X.K X.mg X.base (L2N.CX X.prog X.w) k a fd ps (spS X.K n (T.S f))
  gl : ∀ g y, M.gl g = some y → ∃ v u d, X.mg y = some u ∧ RelV v u ∧ T.gl g = some d ∧ ∀ A H, Rp X.K A H v d
  tk : L2N.Takes X W
  py : PyG X
  hx : M.hx = true → X.mg "ValueError" = none ∧ ∀ c, ExcC X.K (xa c) ∧ PySem.W.kitOne X.K (.ref (xa c)) (.type "ValueError") = some true ∧ ∀ j y, M.ex j = some y → PySem.W.kitOne X.K (.ref (xa c)) (.ref (xa j)) = some (subX c j)
  exm : ∀ j y, M.ex j = some y → X.mg y = some (.ref (xa j))
  exn : ∀ (c : Nat) (n : Str), T.ex[c]? = some n → PySem.W.nsIn X.K mainGlobals n = some (some (.ref (xa c)))

/-! ### readings -/
def Rs {α : Type} (xc : Nat → Prop) (k : α → Prop) : Res α → Prop
  | .ok a => k a
  | .ex c => xc c
  | .st => False
theorem Rs.bind {α β : Type} {xc : Nat → Prop} {k : β → Prop} {r : Res α} {f : α → Res β} (h : Rs xc k (r.bind f)) : Rs xc (fun a => Rs xc k (f a)) r := by
  cases r <;> exact h
theorem Rs.imp {α : Type} {xc : Nat → Prop} {k k' : α → Prop} {r : Res α} (h : Rs xc k r) (f : ∀ a, k a → k' a) : Rs xc k' r := by
  cases r with
  | ok a => exact f a h
  | ex c => exact h
  | st => exact h
def XH (K : Fg) (xa : Nat → Addr) (W : WX) (B : Addr → Prop) (old : Old) (η : Env) (c : Nat) : Prop := ∀ O σ H, ER K B old O H σ η → W (.ref (xa c)) none σ H
section
variable (T : Tb) (M : Nm) (xa : Nat → Addr) (X : Cx) (W : WX)
def Snd (t : TE) (f : Env → Res Val) : Prop := ∀ B old O σ H η Q, ER X.K B old O H σ η →
  Rs (XH X.K xa W B old η) (fun x => ∀ v H', Same H H' → VR X.K B O H H' v x → Q v H') (f η) → t σ H Q
def VRs (K : Fg) (B : Addr → Prop) (O : Ow) (H H' : Hp) : List V → List Val → Prop
  | [], [] => True
  | v :: vs, x :: xs => VR K B O H H' v x ∧ VRs K B O H H' vs xs
  | _, _ => False
def SndA (t : TA) (f : Env → Res (List Val)) : Prop := ∀ B old O σ H η Q, ER X.K B old O H σ η →
  Rs (XH X.K xa W B old η) (fun xs => ∀ vs H', Same H H' → VRs X.K B O H H' vs xs → Q vs H') (f η) → t σ H Q
def SndT (t : TT) (f : Env → Res Bool) : Prop := ∀ B old O σ H η Q, ER X.K B old O H σ η →
  Rs (XH X.K xa W B old η) (fun b => ∀ H', Same H H' → Q b H') (f η) → t σ H Q
def SndO (t : TO) (f : Env → Res (Option Int)) : Prop := ∀ B old O σ H η Q, ER X.K B old O H σ η →
  Rs (XH X.K xa W B old η) (fun b => ∀ H', Same H H' → Q b H') (f η) → t σ H Q
def WkR (K : Fg) (B : Addr → Prop) (O : Ow) (H H' : Hp) (J : It) : Wk → Prop
  | .v x => ∃ a, VR K B O H H' (.ref a) x ∧ ((∃ ds, x.d = .list ds ∧ J = Itl K a) ∨ (∃ ds, x.d = .tuple ds ∧ J = Itt K a))
  | .txt z => J = Its z
  | .d l => ∃ a o, H a = none ∧ H' a = some (.frz o (.dT (dV l))) ∧ J = Itkt a o (dV l)
  | .r lo n => J = Itr lo n
  | .c lo s n => J = Itc lo s n
def SndI (t : TI) (f : Env → Res Wk) : Prop := ∀ B old O σ H η R, ER X.K B old O H σ η →
  Rs (XH X.K xa W B old η) (fun w => ∀ J H', Same H H' → WkR X.K B O H H' J w → R J H') (f η) → t σ H R
end

/-! ### operations by values -/
structure OB (O : Ow) (B : Addr → Prop) (H : Hp) : Prop where
  l : ∀ i a, O i = some a → H a ≠ none
  b : ∀ a, B a → H a ≠ none
section
variable {K : Fg} {B : Addr → Prop} {old : Old} {O : Ow} {H H0 H1 H' H'' : Hp} {σ : L2.St} {η : Env}
theorem ER.ob (r : ER K B old O H σ η) : OB O B H := ⟨fun _ _ e => r.lst e, r.bt⟩
theorem OB.ext (r : OB O B H) (s : Same H H') : OB O B H' := ⟨own_old r.l s, fun a h z => r.b a h (s.free z)⟩
/-- a new list of what is at hand -/
theorem mkNew {p : Addr} {vs : List V} {ds : List D} (s : Same H0 H) (hp : H p = none) (r : RpAll K (Own O B) H vs ds) : VR K B O H0 (upd H p (.lst vs)) (.ref p) (.nw ds) :=
  ⟨p, vs, rfl, s.free hp, upd_same, r.ca (Ca.more (same_upd hp) fun a z => z.elim .inl fun q => .inr (q ▸ hp))⟩
theorem mkTup {p : Addr} {vs : List V} {ds : List D} (hp : H p = none) (r : RpAll K (Own O B) H vs ds) : VR K B O H0 (upd H p (.tup vs)) (.ref p) (.cl (.tuple ds)) :=
  .tup (SqT.of upd_same) (r.ca (Ca.grow (same_upd hp)))
/-- a new or an owned list -/
theorem VR.lsD {v : V} {x : Val} {ds : List D} (r : VR K B O H0 H v x) (e : x.ls = some ds) : ∃ a vs, v = .ref a ∧ H a = some (.lst vs) ∧ RpAll K (Own O B) H vs ds := by
  cases x with
  | cl d => cases e
  | nw es =>
    cases e
    obtain ⟨a, vs, h1, h2, h3, h4⟩ := r
    exact ⟨a, vs, h1, h3, h4.ca (Ca.less fun _ z => .inl z)⟩
  | br i es =>
    cases e
    obtain ⟨a, vs, h1, h2, h3, h4⟩ := r
    exact ⟨a, vs, h2, h3, h4⟩
  | nd l => cases e
  | bd i l => cases e
/-- its items, whatever it is -/
theorem VR.seqD {v : V} {x : Val} {ds : List D} (r : VR K B O H0 H v x) (e : x.d.seq = some ds) : ∃ a vs, v = .ref a ∧ RpAll K (Own O B) H vs ds ∧
    ((x.d = .list ds ∧ SqL K H a vs) ∨ (x.d = .tuple ds ∧ x = .cl (.tuple ds) ∧ SqT K H a vs)) := by
  cases x with
  | cl d =>
    cases d with
    | list es =>
      cases e
      cases r with
      | lst h q => exact ⟨_, _, rfl, q, .inl ⟨rfl, h.sq⟩⟩
    | tuple es =>
      cases e
      cases r with
      | tup h q => exact ⟨_, _, rfl, q, .inr ⟨rfl, rfl, h⟩⟩
    | none => cases e
    | bool b => cases e
    | int i => cases e
    | str s => cases e
    | dict kvs => cases e
  | nw es =>
    cases e
    obtain ⟨a, vs, h1, h3, h4⟩ := VR.lsD r rfl
    exact ⟨a, vs, h1, h4, .inl ⟨rfl, SqL.of h3⟩⟩
  | br i es =>
    cases e
    obtain ⟨a, vs, h1, h3, h4⟩ := VR.lsD r rfl
    exact ⟨a, vs, h1, h4, .inl ⟨rfl, SqL.of h3⟩⟩
  | nd l => cases e
  | bd i l => cases e
theorem VR.int {v : V} {i : Int} (r : VR K B O H0 H v (.cl (.int i))) : v = .int i := by cases r; rfl
theorem VR.bool {v : V} {i : Bool} (r : VR K B O H0 H v (.cl (.bool i))) : v = .bl i := by cases r; rfl
theorem VR.str {v : V} {i : Str} (r : VR K B O H0 H v (.cl (.str i))) : v = .str i := by cases r; rfl
theorem VR.non {v : V} (r : VR K B O H0 H v (.cl .none)) : v = .non := by cases r; rfl
theorem VR.mkInt (i : Int) : VR K B O H0 H (.int i) (.cl (.int i)) := Rp.int i
theorem VR.mkBool (i : Bool) : VR K B O H0 H (.bl i) (.cl (.bool i)) := Rp.bl i
theorem VR.mkStr (i : Str) : VR K B O H0 H (.str i) (.cl (.str i)) := Rp.str i

/-- a two-place rule that does what g tells -/
def R2S (K : Fg) (g : Val → Val → Res Val) (r : R2) : Prop := ∀ B O H0 H x y vx vy Q (xc : Nat → Prop), OB O B H0 → Same H0 H → VR K B O H0 H vx x → VR K B O H0 H vy y →
  Rs xc (fun z => ∀ v H', Same H H' → VR K B O H0 H' v z → Q v H') (g x y) → r vx vy H Q
end
theorem OpR.or {X : Cx} {f : Value → Value → Sem Value} {r r' : R2} (h : OpR X f r) (h' : OpR X f r') : OpR X f (fun x y H Q => r x y H Q ∨ r' x y H Q) := by
  intro pins s σ H x y v u Q I rx ry q
  rcases q with q | q
  · exact h pins s σ H x y v u Q I rx ry q
  · exact h' pins s σ H x y v u Q I rx ry q
def rCatT0 (K : Fg) : R2 := fun x y H Q => ∃ a b ys, x = .ref a ∧ y = .ref b ∧ SqT K H a [] ∧ SqT K H b ys ∧ Q (.ref b) H
theorem op_catT0 {X : Cx} : OpR X (binaryOp .Add) (rCatT0 X.K) := by
  intro pins s σ H x y v u Q I rx ry h
  obtain ⟨a, b, ys, rfl, rfl, ha, hb, q⟩ := h
  cases rx
  cases ry
  obtain ⟨its, r1, p1, _⟩ := I.tuple ha
  obtain ⟨its2, r2, p2, _⟩ := I.tuple hb
  cases r1
  exact cat_tup0 p1 p2 ⟨.ref b, H, I, rfl, q⟩
theorem sz : sizeLine = big := by rw [sizeLine_eq]; rfl
section
variable {X : Cx}
def CDivG (_i j : Int) : Prop := j ≠ 0
theorem op_fdivG (p : PyG X) : OpR X (binaryOp .FloorDiv) (rI CDivG fun i j => .int (i.fdiv j)) := by
  intro pins s σ H x y v u Q I rx ry h
  obtain ⟨i, j, rfl, rfl, hc, q⟩ := h
  obtain ⟨t, rfl⟩ := rx
  obtain ⟨t', rfl⟩ := ry
  exact floordiv_int hc ⟨.int (i.fdiv j), H, I.tok _, ⟨_, rfl⟩, q⟩ (.inr (p.room I))
def rAddG (K : Fg) : R2 := fun x y H Q => (rI0 (fun i j => .int (i + j)) x y H Q ∨ (fun x y H Q => ∃ i j, x = V.str i ∧ y = V.str j ∧ i.length + j.length ≤ sizeLine ∧ Q (.str (i ++ j)) H) x y H Q) ∨ (rCat x y H Q ∨ (rCatT K x y H Q ∨ rCatT0 K x y H Q))
theorem op_addG : OpR X (binaryOp .Add) (rAddG X.K) := OpR.or (OpR.or op_add op_add_str) (OpR.or op_cat (OpR.or op_catT op_catT0))
theorem mu_ok {i j : Int} (h : MuOk i j) : IntMulOk i j := by
  have b : ∀ x : Int, Builtin.Int.intBits x ≤ x.natAbs.log2 + 1 := fun x => by
    unfold Builtin.Int.intBits
    split
    · exact Nat.zero_le _
    · exact Nat.le_refl _
  have h1 := b i
  have h2 := b j
  unfold MuOk at h
  exact CMulX.ok (show (Builtin.Int.intBits i : Int) + (Builtin.Int.intBits j : Int) ≤ 134217728 by omega)
theorem op_mulB : OpR X (binaryOp .Mult) (rI MuOk fun i j => .int (i * j)) := opI fun _ _ _ _ _ _ _ hc q => mul_int q (mu_ok hc)
def rMulG (K : Fg) : R2 := fun x y H Q => (rI MuOk (fun i j => .int (i * j)) x y H Q ∨ rRep x y H Q) ∨ rRepU K x y H Q
theorem op_mulG : OpR X (binaryOp .Mult) (rMulG X.K) := OpR.or (OpR.or op_mulB op_rep) op_repU
end
def rBo (K : Fg) : Bo → R2
  | .add => rAddG K
  | .sub => rI0 fun i j => .int (i - j)
  | .mul => rMulG K
  | .fdiv => rI CDivG fun i j => .int (i.fdiv j)
  | .mod => rI (fun _ j => j ≠ 0) fun i j => .int (i.fmod j)
  | .pow => rI CPow fun i j => .int (i ^ j.toNat)
theorem op_bo {X : Cx} (p : PyG X) : ∀ o : Bo, OpR X (binaryOp (boP o)) (rBo X.K o)
  | .add => op_addG
  | .sub => op_sub
  | .mul => op_mulG
  | .fdiv => op_fdivG p
  | .mod => op_modN
  | .pow => op_pow
section
variable {K : Fg}
theorem catV_ok : R2S K catV (rAddG K) := by
  intro B O H0 H x y vx vy Q xc ob s rx ry q
  unfold catV at q
  split at q
  · rename_i ds es h1 h2
    split at q
    · rename_i hz
      obtain ⟨a, vs, rfl, ha, ra⟩ := rx.lsD h1
      obtain ⟨b, ws, rfl, hb, rb⟩ := ry.lsD h2
      refine .inr (.inl ⟨a, b, vs, ws, rfl, rfl, ha, hb, ?_, fun p hp => q _ _ (same_upd hp) (mkNew s hp (ra.append rb))⟩)
      rw [ra.length, rb.length, sz]
      exact hz
    · exact q.elim
  · split at q
    · rename_i ds es _
      split at q
      · rename_i hz
        cases rx with
        | tup hx ra =>
          cases ry with
          | tup hy rb =>
            rename_i a vs b ws
            by_cases hv : vs = []
            · subst hv
              cases ra
              exact .inr (.inr (.inr ⟨a, b, ws, rfl, rfl, hx, hy, q _ _ (Same.refl H) (Rp.tup hy rb)⟩))
            refine .inr (.inr (.inl ⟨a, b, vs, ws, rfl, rfl, hx, hy, hv, ?_, fun hw => ?_, fun hw p hp => ?_⟩))
            · rw [ra.length, rb.length, sz]
              exact hz
            · subst hw
              cases rb
              rw [List.append_nil] at q
              exact q _ _ (Same.refl H) (Rp.tup hx ra)
            · exact q _ _ (same_upd hp) (mkTup hp (ra.append rb))
      · exact q.elim
    · exact q.elim
theorem bo_ok : ∀ o : Bo, R2S K (binV o) (rBo K o)
  | .add => by
    intro B O H0 H x y vx vy Q xc ob s rx ry q
    change Rs xc _ (addV x y) at q
    unfold addV at q
    split at q
    · cases rx.int; cases ry.int
      exact .inl (.inl ⟨_, _, rfl, rfl, q _ _ (Same.refl H) (VR.mkInt _)⟩)
    · split at q
      · rename_i hz
        cases rx.str; cases ry.str
        exact .inl (.inr ⟨_, _, rfl, rfl, by rw [sz]; exact hz, q _ _ (Same.refl H) (VR.mkStr _)⟩)
      · exact q.elim
    · exact catV_ok _ _ _ _ _ _ _ _ _ _ ob s rx ry q
  | .sub => by
    intro B O H0 H x y vx vy Q xc ob s rx ry q
    change Rs xc _ (subV x y) at q
    unfold subV at q
    split at q
    · cases rx.int; cases ry.int
      exact ⟨_, _, rfl, rfl, q _ _ (Same.refl H) (VR.mkInt _)⟩
    · exact q.elim
  | .mul => by
    intro B O H0 H x y vx vy Q xc ob s rx ry q
    change Rs xc _ (mulV x y) at q
    unfold mulV at q
    split at q
    · split at q
      · rename_i hz
        cases rx.int; cases ry.int
        exact .inl (.inl ⟨_, _, rfl, rfl, hz, q _ _ (Same.refl H) (VR.mkInt _)⟩)
      · exact q.elim
    · rename_i ds k
      split at q
      · rename_i hz
        cases ry.int
        cases rx with
        | tup hx ra =>
          rename_i a vs
          have hv : vs ≠ [] := fun z => hz.1 (by
            have := ra.length
            rw [z] at this
            exact List.eq_nil_of_length_eq_zero this.symm)
          rcases hz.2 with e | e
          · subst e
            exact .inr ⟨a, 1, vs, rfl, rfl, hx, hv, .inl ⟨rfl, q _ _ (Same.refl H) (Rp.tup hx ra)⟩⟩
          · subst e
            exact .inr ⟨a, 0, vs, rfl, rfl, hx, hv, .inr ⟨rfl, fun p hp => q _ _ (same_upd hp) (mkTup hp .nil)⟩⟩
      · exact q.elim
    · unfold repV at q
      split at q
      · rename_i ds h1
        split at q
        · rename_i hz
          obtain ⟨a, vs, rfl, ha, ra⟩ := rx.lsD h1
          cases ry.int
          exact .inl (.inr ⟨a, _, vs, rfl, rfl, ha, hz.1, hz.2.1, by rw [ra.length, sz]; exact hz.2.2, fun p hp => q _ _ (same_upd hp) (mkNew s hp (ra.flat _))⟩)
        · exact q.elim
      · exact q.elim
    · exact q.elim
  | .fdiv => by
    intro B O H0 H x y vx vy Q xc ob s rx ry q
    change Rs xc _ (fdivV x y) at q
    unfold fdivV at q
    split at q
    · split at q
      · rename_i hz
        cases rx.int; cases ry.int
        exact ⟨_, _, rfl, rfl, hz, q _ _ (Same.refl H) (VR.mkInt _)⟩
      · exact q.elim
    · exact q.elim
  | .mod => by
    intro B O H0 H x y vx vy Q xc ob s rx ry q
    change Rs xc _ (modV x y) at q
    unfold modV at q
    split at q
    · split at q
      · exact q.elim
      · rename_i hz
        cases rx.int; cases ry.int
        exact ⟨_, _, rfl, rfl, hz, q _ _ (Same.refl H) (VR.mkInt _)⟩
    · exact q.elim
  | .pow => by
    intro B O H0 H x y vx vy Q xc ob s rx ry q
    change Rs xc _ (powV x y) at q
    unfold powV at q
    split at q
    · split at q
      · rename_i hz
        cases rx.int; cases ry.int
        exact ⟨_, _, rfl, rfl, hz, q _ _ (Same.refl H) (VR.mkInt _)⟩
      · exact q.elim
    · exact q.elim

/-! ### comparisons -/
def R2B (K : Fg) (g : Val → Val → Res Bool) (r : R2) : Prop := ∀ B O H0 H x y vx vy Q (xc : Nat → Prop), OB O B H0 → Same H0 H → VR K B O H0 H vx x → VR K B O H0 H vy y →
  Rs xc (fun b => Q (.bl b) H) (g x y) → r vx vy H Q
/-- is a truth -/
def rIsX (n : Bool) : R2 := fun x y H Q => ∃ b, y = .bl b ∧ Q (.bl (if n = true then !decide (x = .bl b) else decide (x = .bl b))) H
theorem op_isX {X : Cx} : OpR X (compareOp .Is) (rIsX false) := by
  intro pins s σ H x y v u Q I rx ry h
  obtain ⟨b, rfl, q⟩ := h
  cases (show u = Value.bool b from ry)
  rw [if_neg Bool.false_ne_true] at q
  by_cases e : x = .bl b
  · subst e
    cases (show v = Value.bool b from rx)
    exact wpAny_is_self rfl ⟨.bl true, H, I, rfl, by simpa using q⟩
  · rw [decide_eq_false e] at q
    have ne : v ≠ Value.bool b := fun z => e (by have := rx.abs; rw [z] at this; exact (Option.some.inj this).symm)
    refine wpAny_is_other ?_ ne ⟨.bl false, H, I, rfl, q⟩
    cases x <;> first
      | (cases rx; rfl)
      | (obtain ⟨t, rfl⟩ := rx; rfl)
theorem op_isnotX {X : Cx} : OpR X (compareOp .IsNot) (rIsX true) := by
  intro pins s σ H x y v u Q I rx ry h
  obtain ⟨b, rfl, q⟩ := h
  cases (show u = Value.bool b from ry)
  rw [if_pos rfl] at q
  by_cases e : x = .bl b
  · subst e
    cases (show v = Value.bool b from rx)
    exact wpAny_isNot_self rfl ⟨.bl false, H, I, rfl, by simpa using q⟩
  · rw [decide_eq_false e] at q
    have ne : v ≠ Value.bool b := fun z => e (by have := rx.abs; rw [z] at this; exact (Option.some.inj this).symm)
    refine wpAny_isNot_other ?_ ne ⟨.bl true, H, I, rfl, q⟩
    cases x <;> first
      | (cases rx; rfl)
      | (obtain ⟨t, rfl⟩ := rx; rfl)
def rInT (K : Fg) : R2 := fun x y H Q => ∃ d ds, Dp K H x d ∧ Dp K H y (.tuple ds) ∧ SeqAt.shaped d = true ∧ SeqAt.shaped (.tuple ds) = true ∧ Q (.bl (ds.any fun z => PyData.eqv z d)) H
def rNotInT (K : Fg) : R2 := fun x y H Q => ∃ d ds, Dp K H x d ∧ Dp K H y (.tuple ds) ∧ SeqAt.shaped d = true ∧ SeqAt.shaped (.tuple ds) = true ∧ Q (.bl (!ds.any fun z => PyData.eqv z d)) H
theorem room_in_tuple {A : Around} {ds : List D} {d : D} (hu : A.units + 65 < cLine) (h : SeqAt.shaped d = true) : A.units + 1 + min (PyData.depthAll ds) d.depth < cLine := by
  unfold SeqAt.shaped at h
  simp only [Bool.and_eq_true, decide_eq_true_eq] at h
  have := Nat.min_le_right (PyData.depthAll ds) d.depth
  omega
theorem op_inT {X : Cx} (hu : X.A.units + 65 < cLine) : OpR X (compareOp .In) (rInT X.K) := by
  intro pins s σ H x y v u Q I rx ry h
  obtain ⟨d, ds, hd, he, sd, se, q⟩ := h
  obtain ⟨as, r1⟩ := Dp.reads I d x v hd rx
  obtain ⟨bs, r2⟩ := Dp.reads I (.tuple ds) y u he ry
  exact SeqAt.in_tuple_reads r2 r1 (by have := SeqAt.canLay_of_shaped se; simpa [PyData.canLay0] using this) (SeqAt.canLay_of_shaped sd) (room_in_tuple hu sd) ⟨.bl _, H, I, rfl, q⟩
theorem op_notInT {X : Cx} (hu : X.A.units + 65 < cLine) : OpR X (compareOp .NotIn) (rNotInT X.K) := by
  intro pins s σ H x y v u Q I rx ry h
  obtain ⟨d, ds, hd, he, sd, se, q⟩ := h
  obtain ⟨as, r1⟩ := Dp.reads I d x v hd rx
  obtain ⟨bs, r2⟩ := Dp.reads I (.tuple ds) y u he ry
  exact SeqAt.notIn_tuple_reads r2 r1 (by have := SeqAt.canLay_of_shaped se; simpa [PyData.canLay0] using this) (SeqAt.canLay_of_shaped sd) (room_in_tuple hu sd) ⟨.bl _, H, I, rfl, q⟩
def rSgn : R2 := fun x y H Q => ∃ (c : Nat) (z : Str), x = .str ⟨#[c]⟩ ∧ y = .str z ∧ Q (.bl (decide (c ∈ z.cps.toList))) H
def rNSgn : R2 := fun x y H Q => ∃ (c : Nat) (z : Str), x = .str ⟨#[c]⟩ ∧ y = .str z ∧ Q (.bl (!decide (c ∈ z.cps.toList))) H
def rCo (K : Fg) : Co → R2
  | .inC => fun x y H Q => (rInD K x y H Q ∨ rInT K x y H Q) ∨ rSgn x y H Q
  | .niC => fun x y H Q => (rNotInD K x y H Q ∨ rNotInT K x y H Q) ∨ rNSgn x y H Q
  | .lt => rI0 fun i j => .bl (decide (i < j))
  | .le => rI0 fun i j => .bl (decide (i ≤ j))
  | .gt => rI0 fun i j => .bl (decide (j < i))
  | .ge => rI0 fun i j => .bl (decide (j ≤ i))
  | .eq => fun x y H Q => rEq x y H Q ∨ rEqD K x y H Q
  | .ne => fun x y H Q => rNe x y H Q ∨ rNeD K x y H Q
  | .isN => fun x y H Q => (fun x y H Q => y = V.non ∧ Q (.bl (decide (x = V.non))) H) x y H Q ∨ rIsX false x y H Q
  | .notN => fun x y H Q => (fun x y H Q => y = V.non ∧ Q (.bl (!decide (x = V.non))) H) x y H Q ∨ rIsX true x y H Q
theorem op_co {X : Cx} (hu : X.A.units + 65 < cLine) : ∀ o : Co, OpR X (compareOp (coP o)) (rCo X.K o)
  | .inC => OpR.or (OpR.or (op_inD hu) (op_inT hu)) op_in_sign
  | .niC => OpR.or (OpR.or (op_notInD hu) (op_notInT hu)) op_notIn_sign
  | .lt => op_lt
  | .le => op_le
  | .gt => op_gt
  | .ge => op_ge
  | .eq => OpR.or op_eq (op_eqD (by omega))
  | .ne => OpR.or op_ne (op_neD (by omega))
  | .isN => OpR.or op_isN op_isX
  | .notN => OpR.or op_notN op_isnotX
theorem VR.dpA {B : Addr → Prop} {O : Ow} {H0 H : Hp} {v : V} {x : Val} (r : VR K B O H0 H v x) (e : SeqAt.shaped x.d = true) : Dp K H v x.d := r.any.dp (SeqAt.canLay_of_shaped e)
theorem VR.isNon {B : Addr → Prop} {O : Ow} {H0 H : Hp} {v : V} {x : Val} (r : VR K B O H0 H v x) : decide (v = .non) = (match x.d with | .none => true | _ => false) := by
  have q := r.any
  generalize x.d = d at q
  cases q <;> simp
theorem VR.isBl {B : Addr → Prop} {O : Ow} {H0 H : Hp} {v : V} {x : Val} {b : Bool} (r : VR K B O H0 H v x) : decide (v = .bl b) = (match x.d with | .bool a => a == b | _ => false) := by
  have q := r.any
  generalize x.d = d at q
  cases q with
  | bl a => cases a <;> cases b <;> rfl
  | _ => simp
theorem eqD_ok {B : Addr → Prop} {O : Ow} {H0 H : Hp} {x y : Val} {vx vy : V} {k : Bool → Prop} {xc : Nat → Prop} (rx : VR K B O H0 H vx x) (ry : VR K B O H0 H vy y) (q : Rs xc k (eqD x.d y.d)) :
    (scal vx vy = true ∧ k (decide (vx = vy))) ∨ (∃ d e, Dp K H vx d ∧ Dp K H vy e ∧ SeqAt.shaped d = true ∧ SeqAt.shaped e = true ∧ k (PyData.eqv d e)) := by
  unfold eqD at q
  split at q
  · rename_i i j h1 h2
    have a1 := rx.any
    have a2 := ry.any
    rw [h1] at a1
    rw [h2] at a2
    cases a1; cases a2
    refine .inl ⟨rfl, ?_⟩
    have e : decide (V.int i = V.int j) = decide (i = j) := by
      by_cases z : i = j
      · subst z; simp
      · rw [decide_eq_false z, decide_eq_false (fun w => z (V.int.inj w))]
    rw [e]
    exact q
  · rename_i i j h1 h2
    have a1 := rx.any
    have a2 := ry.any
    rw [h1] at a1
    rw [h2] at a2
    cases a1; cases a2
    refine .inl ⟨rfl, ?_⟩
    have e : decide (V.str i = V.str j) = decide (i = j) := by
      by_cases z : i = j
      · subst z; simp
      · rw [decide_eq_false z, decide_eq_false (fun w => z (V.str.inj w))]
    rw [e]
    exact q
  · split at q
    · rename_i hz
      exact .inr ⟨_, _, rx.dpA hz.1, ry.dpA hz.2, hz.1, hz.2, q⟩
    · exact q.elim
theorem memD_ok {B : Addr → Prop} {O : Ow} {H0 H : Hp} {x y : Val} {vx vy : V} {k : Bool → Prop} {xc : Nat → Prop} (rx : VR K B O H0 H vx x) (ry : VR K B O H0 H vy y) (q : Rs xc k (memD x.d y.d)) :
    (∃ d ds, Dp K H vx d ∧ Dp K H vy (.list ds) ∧ SeqAt.shaped d = true ∧ SeqAt.shaped (.list ds) = true ∧ k (ds.any fun z => PyData.eqv z d)) ∨
    (∃ d ds, Dp K H vx d ∧ Dp K H vy (.tuple ds) ∧ SeqAt.shaped d = true ∧ SeqAt.shaped (.tuple ds) = true ∧ k (ds.any fun z => PyData.eqv z d)) ∨
    ∃ (c : Nat) (z : Str), vx = .str ⟨#[c]⟩ ∧ vy = .str z ∧ k (decide (c ∈ z.cps.toList)) := by
  unfold memD at q
  split at q
  · rename_i ds e
    split at q
    · rename_i hz
      exact .inl ⟨_, ds, rx.dpA hz.1, by rw [← e]; exact ry.dpA (by rw [e]; exact hz.2), hz.1, hz.2, q⟩
    · exact q.elim
  · rename_i ds e
    split at q
    · rename_i hz
      exact .inr (.inl ⟨_, ds, rx.dpA hz.1, by rw [← e]; exact ry.dpA (by rw [e]; exact hz.2), hz.1, hz.2, q⟩)
    · exact q.elim
  · rename_i z e
    have ry := ry.any
    rw [e] at ry
    cases ry
    unfold signD at q
    split at q
    · rename_i x e1
      split at q
      · rename_i c e2
        have rx := rx.any
        rw [e1] at rx
        cases rx
        refine .inr (.inr ⟨c, z, ?_, rfl, q⟩)
        have : x = ⟨#[c]⟩ := by
          cases x with
          | mk cps =>
            have e2 : cps.toList = [c] := e2
            have : cps = #[c] := by
              apply Array.ext'
              exact e2
            rw [this]
        rw [this]
      · exact q.elim
    · exact q.elim
  · exact q.elim
theorem co_ok : ∀ o : Co, R2B K (cmpV o) (rCo K o) := by
  intro o B O H0 H x y vx vy Q xc ob s rx ry q
  unfold cmpV at q
  split at q
  · cases rx.int; cases ry.int
    exact ⟨_, _, rfl, rfl, q⟩
  · cases rx.int; cases ry.int
    exact ⟨_, _, rfl, rfl, q⟩
  · cases rx.int; cases ry.int
    exact ⟨_, _, rfl, rfl, q⟩
  · cases rx.int; cases ry.int
    exact ⟨_, _, rfl, rfl, q⟩
  · rcases eqD_ok rx ry q with h | h
    · exact .inl h
    · exact .inr h
  · unfold Res.map at q
    rcases eqD_ok rx ry q.bind with h | h
    · exact .inl h
    · exact .inr h
  · rcases memD_ok rx ry q with h | h | h
    · exact .inl (.inl h)
    · exact .inl (.inr h)
    · exact .inr h
  · unfold Res.map at q
    rcases memD_ok rx ry q.bind with h | h | h
    · exact .inl (.inl h)
    · exact .inl (.inr h)
    · exact .inr h
  · cases ry.non
    refine .inl ⟨rfl, ?_⟩
    rw [rx.isNon]
    exact q
  · cases ry.non
    refine .inl ⟨rfl, ?_⟩
    rw [rx.isNon]
    have e : (!(match x.d with | .none => true | _ => false)) = (match x.d with | .none => false | _ => true) := by cases x.d <;> rfl
    rw [e]
    exact q
  · cases ry.bool
    refine .inr ⟨_, rfl, ?_⟩
    rw [rx.isBl]
    exact q
  · cases ry.bool
    refine .inr ⟨_, rfl, ?_⟩
    rw [rx.isBl]
    have e : ∀ b : Bool, (if true = true then !(match x.d with | .bool a => a == b | _ => false) else (match x.d with | .bool a => a == b | _ => false)) = (match x.d with | .bool a => !(a == b) | _ => true) := fun b => by cases x.d <;> rfl
    rw [e]
    exact q
  · exact q.elim

/-! ### places, cuts -/
theorem atI_rp {A : Addr → Prop} {H : Hp} {vs : List V} {ds : List D} {i : Int} {d : D} (r : RpAll K A H vs ds) (h : atI ds i = some d) : ∃ v, atI vs i = some v ∧ Rp K A H v d := by
  unfold atI at h ⊢
  rw [r.length]
  cases e : ixN ds.length i with
  | none => rw [e] at h; cases h
  | some j =>
    rw [e] at h
    exact r.get h
theorem oOk_ok {α : Type} {k : α → Prop} {xc : Nat → Prop} {o : Option α} (q : Rs xc k (oOk o)) : ∃ a, o = some a ∧ k a := by
  cases o with
  | none => exact q.elim
  | some a => exact ⟨a, rfl, q⟩
theorem idx_ok : R2S K idxV (fun x y H Q => rIx K x y H Q) := by
  intro B O H0 H x y vx vy Q xc ob s rx ry q
  unfold idxV at q
  split at q
  · rename_i z
    unfold sidxV at q
    split at q
    · split at q
      · rename_i k hz
        obtain ⟨c, e, q⟩ := oOk_ok q.bind
        cases ry.int
        cases rx.str
        exact .inr (.inr ⟨z, k, c, rfl, rfl, by rw [sz]; exact hz, e, q _ _ (Same.refl H) (VR.mkStr _)⟩)
      · exact q.elim
    · exact q.elim
  split at q
  · rename_i ds k h1
    obtain ⟨d, e, q⟩ := oOk_ok q.bind
    cases ry.int
    obtain ⟨a, vs, rfl, ra, hk⟩ := rx.seqD h1
    obtain ⟨v, e2, rv⟩ := atI_rp ra e
    have q' := q _ _ (Same.refl H) rv
    rcases hk with ⟨_, hs⟩ | ⟨_, _, hs⟩
    · exact .inl ⟨a, vs, k, v, rfl, rfl, hs, e2, q'⟩
    · exact .inr (.inl ⟨a, vs, k, v, rfl, rfl, hs, e2, q'⟩)
  · exact q.elim
theorem cut_rp {A : Addr → Prop} {H : Hp} {vs : List V} {ds : List D} (r : RpAll K A H vs ds) (lo hi : Option Int) : RpAll K A H (cutV vs lo hi) (cutD ds lo hi) := by
  unfold cutV cutD
  rw [r.length]
  exact (r.drop _).take _
def SlS (K : Fg) (g : Val → Option Int → Option Int → Res Val) (r : V → Option Int → Option Int → Hp → VK → Prop) : Prop := ∀ B O H0 H x vx lo hi Q (xc : Nat → Prop), OB O B H0 → Same H0 H → VR K B O H0 H vx x →
  Rs xc (fun z => ∀ v H', Same H H' → VR K B O H0 H' v z → Q v H') (g x lo hi) → r vx lo hi H Q
def rSlG (K : Fg) : V → Option Int → Option Int → Hp → VK → Prop := fun x lo hi H Q => rSlS x lo hi H Q ∨ (rSlL K x lo hi H Q ∨ rSlA K x lo hi H Q)
theorem sl_g {X : Cx} : L2.SlR X (rSlG X.K) := L2.SlR.or sl_str (L2.SlR.or sl_list sl_tupA)
theorem sl_ok : SlS K slV (rSlG K) := by
  intro B O H0 H x vx lo hi Q xc ob s rx q
  unfold slV at q
  split at q
  · rename_i z h1
    split at q
    · rename_i hz
      have rz := rx.any
      rw [h1] at rz
      cases rz
      exact .inl ⟨z, rfl, by rw [sz]; exact hz, q _ _ (Same.refl H) (VR.mkStr _)⟩
    · exact q.elim
  · rename_i ds h1
    obtain ⟨a, vs, rfl, ra, hk⟩ := rx.seqD (ds := ds) (by rw [h1]; rfl)
    rcases hk with ⟨_, hs⟩ | ⟨h2, _, hs⟩
    · exact .inr (.inl ⟨a, vs, rfl, hs, fun p hp => q _ _ (same_upd hp) (mkNew s hp (cut_rp ra lo hi))⟩)
    · rw [h1] at h2; cases h2
  · rename_i ds h1
    obtain ⟨a, vs, rfl, ra, hk⟩ := rx.seqD (ds := ds) (by rw [h1]; rfl)
    rcases hk with ⟨h2, hs⟩ | ⟨_, _, hs⟩
    · rw [h1] at h2; cases h2
    · refine .inr (.inr ⟨a, vs, rfl, hs, fun hw => q _ _ (Same.refl H) ?_, fun _ p hp => q _ _ (same_upd hp) (mkTup hp (cut_rp ra lo hi))⟩)
      have e : cutD ds lo hi = ds := by
        rw [ra.length] at hw
        unfold cutD
        rw [hw.1, hw.2]
        simp
      rw [e]
      exact .tup hs ra
  · exact q.elim

/-! ### truth, isinstance -/
theorem tru_ok' {A : Addr → Prop} {H : Hp} {v : V} {d : D} {k : Bool → Prop} {xc : Nat → Prop} (r : Rp K A H v d) (q : Rs xc k (truD d)) : ∃ b, TruV K v H b ∧ k b := by
  cases r with
  | non => exact ⟨_, rfl, q⟩
  | bl b => exact ⟨_, rfl, q⟩
  | int i => exact ⟨_, rfl, q⟩
  | str x =>
    unfold truD at q
    dsimp only at q
    split at q
    · rename_i hz
      exact ⟨_, ⟨by rw [sz]; exact hz, rfl⟩, q⟩
    · exact q.elim
  | lst h ra =>
    rename_i a vs ds
    refine ⟨_, .inl ⟨vs, h.sq, rfl⟩, ?_⟩
    have e : vs.isEmpty = ds.isEmpty := by cases ra <;> rfl
    rw [e]
    exact q
  | tup h ra =>
    rename_i a vs ds
    refine ⟨_, .inr (.inl ⟨vs, h, rfl⟩), ?_⟩
    have e : vs.isEmpty = ds.isEmpty := by cases ra <;> rfl
    rw [e]
    exact q
  | exc h e => exact q.elim
  | dct n h => exact q.elim
def tyS : Ty → String
  | .int => "int"
  | .bool => "bool"
  | .str => "str"
  | .tuple => "tuple"
  | .list => "list"
theorem kit_none : ∀ t : Ty, kitB "NoneType" (tyS t) = some false := by
  intro t
  cases t <;> decide +kernel
theorem kit_bool : ∀ t : Ty, kitB "bool" (tyS t) = some (match t with | .bool => true | .int => true | _ => false) := by
  intro t
  cases t <;> decide +kernel
theorem kit_int : ∀ t : Ty, kitB "int" (tyS t) = some (match t with | .int => true | _ => false) := by
  intro t
  cases t <;> decide +kernel
theorem kit_str : ∀ t : Ty, kitB "str" (tyS t) = some (match t with | .str => true | _ => false) := by
  intro t
  cases t <;> decide +kernel
theorem kit_list : ∀ t : Ty, kitB "list" (tyS t) = some (match t with | .list => true | _ => false) := by
  intro t
  cases t <;> decide +kernel
theorem kit_tuple : ∀ t : Ty, kitB "tuple" (tyS t) = some (match t with | .tuple => true | _ => false) := by
  intro t
  cases t <;> decide +kernel
theorem tyx_l {H : Hp} {a : Addr} {xs : List V} (h : SqL K H a xs) : TyX K H (.ref a) (.type "list") := by
  rcases h with (h | ⟨o, h⟩) | ⟨o, _, _, h, c, _⟩
  · exact .base (.lst h)
  · exact .base (.frz h)
  · exact .kList h c
theorem tyx_t {H : Hp} {a : Addr} {xs : List V} (h : SqT K H a xs) : TyX K H (.ref a) (.type "tuple") := by
  rcases h with (h | ⟨o, h⟩) | ⟨o, _, _, h, c, _⟩
  · exact .base (.tup h)
  · exact .fTuple h
  · exact .kTuple h c
theorem kit_dict : ∀ t : Ty, kitB "dict" (tyS t) = some false := by
  intro t
  cases t <;> decide +kernel
/-- isinstance of a dict that is walked -/
def rIsiD (K : Fg) : List V → Hp → VK → Prop := fun xs H Q => ∃ (a : Addr) (o : Obj) (kvs : List (List Key × V)) (c : V) (u : Value) (b : Bool), xs = [.ref a, c] ∧ ClsV c u ∧ H a = some (.frz o (.dT kvs)) ∧ PySem.W.kitOne K (.type "dict") u = some b ∧ Q (.bl b) H
theorem call_isiD {X : Cx} : CallR X (.builtin "isinstance") (rIsiD X.K) := by
  intro pins s σ H xs us Q I r h
  obtain ⟨a, o, kvs, c, u, b, rfl, k, ea, e, q⟩ := h
  obtain ⟨u1, u2, rfl, r1, r2⟩ := vals2 r
  have e2 := k.eq r2
  subst e2
  cases (show u1 = Value.ref a from r1)
  obtain ⟨_, h1, h2, _⟩ := I.frzT ea
  exact PySem.W.kia_one PySem.W.kitx_dict I.kIn ⟨o, h1, h2.1⟩ e (fun z => nomatch z) fun tk => ⟨.bl b, H, I.tok tk, rfl, q⟩
def rIsiG (K : Fg) : List V → Hp → VK → Prop := fun xs H Q => rIsi K xs H Q ∨ rIsiD K xs H Q
theorem call_isiG {X : Cx} : CallR X (.builtin "isinstance") (rIsiG X.K) := CallR.or call_isi call_isiD
theorem isi_ok {A : Addr → Prop} {H : Hp} {v : V} {d : D} {t : Ty} {Q : VK} {xc : Nat → Prop} (r : Rp K A H v d) (q : Rs xc (fun b => Q (.bl b) H) (isiD d t)) : rIsiG K [v, .ty (tyS t)] H Q := by
  have up : rIsi K [v, .ty (tyS t)] H Q → rIsiG K [v, .ty (tyS t)] H Q := .inl
  cases r with
  | non => exact up ⟨_, _, _, _, _, rfl, .ty _, .base .non, kit_ty (kit_none t), q⟩
  | bl b => exact up ⟨_, _, _, _, _, rfl, .ty _, .base (.bl b), kit_ty (kit_bool t), q⟩
  | int i => exact up ⟨_, _, _, _, _, rfl, .ty _, .base (.int i), kit_ty (kit_int t), q⟩
  | str x => exact up ⟨_, _, _, _, _, rfl, .ty _, .base (.str x), kit_ty (kit_str t), q⟩
  | lst h ra => exact up ⟨_, _, _, _, _, rfl, .ty _, tyx_l h.sq, kit_ty (kit_list t), q⟩
  | tup h ra => exact up ⟨_, _, _, _, _, rfl, .ty _, tyx_t h, kit_ty (kit_tuple t), q⟩
  | exc h e => exact q.elim
  | dct n h =>
    rename_i a l
    cases l with
    | cons p l => exact q.elim
    | nil =>
      rcases h with h | ⟨o, h⟩
      · exact up ⟨_, _, _, _, _, rfl, .ty _, .base (.dT h), kit_ty (kit_dict t), q⟩
      · exact .inr ⟨a, o, _, _, _, _, rfl, .ty _, h, kit_ty (kit_dict t), q⟩

/-! ### built-ins -/
def BiS (K : Fg) (g : List Val → Res Val) (r : List V → Hp → VK → Prop) : Prop := ∀ B O H0 H xs vs Q (xc : Nat → Prop), OB O B H0 → Same H0 H → VRs K B O H0 H vs xs →
  Rs xc (fun z => ∀ v H', Same H H' → VR K B O H0 H' v z → Q v H') (g xs) → r vs H Q
def rBi (K : Fg) : Bi → List V → Hp → VK → Prop
  | .len => fun xs H Q => (∃ p ys, xs = [.ref p] ∧ (SqL K H p ys ∨ SqT K H p ys) ∧ Q (.int ys.length) H) ∨ ∃ z, xs = [.str z] ∧ z.length ≤ sizeLine ∧ Q (.int z.length) H
  | .abs => fun xs H Q => ∃ i, xs = [.int i] ∧ Q (.int (if i < 0 then -i else i)) H
  | .max2 => fun xs H Q => ∃ i j, xs = [.int i, .int j] ∧ Q (.int (if j > i then j else i)) H
  | .min2 => fun xs H Q => ∃ i j, xs = [.int i, .int j] ∧ Q (.int (if j < i then j else i)) H
  | .int1 => fun xs H Q => ((∃ i, xs = [.int i] ∧ Q (.int i) H) ∨ ∃ k, xs = [.bl k] ∧ Q (.int (if k then 1 else 0)) H) ∨ ∃ a n, xs = [.str a] ∧ PySem.intText? a = some n ∧ a.length ≤ 640 ∧ Q (.int n) H
  | .str1 => fun xs H Q => ∃ i, xs = [.int i] ∧ i.natAbs.log2 < 1920 ∧ Q (.str (toString i)) H
  | .tuple1 => fun xs H Q => ∃ a ys, xs = [.ref a] ∧ ((SqL K H a ys ∧ ∀ l, H l = none → Q (.ref l) (upd H l (.tup ys))) ∨ (SqT K H a ys ∧ Q (.ref a) H))
  | .list1 => fun xs H Q => ∃ p ys, xs = [.ref p] ∧ (SqL K H p ys ∨ SqT K H p ys) ∧ ∀ l, H l = none → Q (.ref l) (upd H l (.lst ys))
  | .all1 => rAll K
  | .any1 => rAny K
  | .max1 => rMax K
def biVal : Bi → Value
  | .len => .builtin "len"
  | .abs => .builtin "abs"
  | .max2 => .builtin "max"
  | .min2 => .builtin "min"
  | .int1 => .type "int"
  | .str1 => .type "str"
  | .tuple1 => .type "tuple"
  | .list1 => .type "list"
  | .all1 => .builtin "all"
  | .any1 => .builtin "any"
  | .max1 => .builtin "max"
theorem bi_call {X : Cx} (hc : X.calm = true) : ∀ b : Bi, CallR X (biVal b) (rBi X.K b)
  | .len => CallR.or call_len_seq call_len_str
  | .abs => call_abs
  | .max2 => call_max2 hc
  | .min2 => call_min2 hc
  | .int1 => CallR.or call_int1 call_int_str
  | .str1 => call_str_int
  | .tuple1 => call_tuple_of
  | .list1 => call_list_of
  | .all1 => cr_all hc
  | .any1 => cr_any hc
  | .max1 => cr_max hc
theorem bools_vals {A : Addr → Prop} {H : Hp} : ∀ {vs : List V} {ds : List D} {bs : List Bool}, RpAll K A H vs ds → boolsOf ds = some bs → vs = bs.map V.bl
  | _, _, _, .nil, e => by
    unfold boolsOf at e
    cases e
    rfl
  | _, _, bs, .cons r t, e => by
    cases r with
    | bl b =>
      unfold boolsOf at e
      rename_i vs ds
      cases z : boolsOf ds with
      | none => rw [z] at e; cases e
      | some cs =>
        rw [z] at e
        cases e
        rw [bools_vals t z]
        rfl
    | _ => unfold boolsOf at e; cases e
theorem ints_of {A : Addr → Prop} {H : Hp} : ∀ {vs : List V} {ds : List D} {ns : List Int}, RpAll K A H vs ds → intsOf ds = some ns → vs = ns.map V.int
  | _, _, _, .nil, e => by
    unfold intsOf at e
    cases e
    rfl
  | _, _, ns, .cons r t, e => by
    cases r with
    | int i =>
      unfold intsOf at e
      rename_i vs ds
      cases z : intsOf ds with
      | none => rw [z] at e; cases e
      | some cs =>
        rw [z] at e
        cases e
        rw [ints_of t z]
        rfl
    | _ => unfold intsOf at e; cases e
theorem VRs.one {B : Addr → Prop} {O : Ow} {H0 H : Hp} {vs : List V} {x : Val} (r : VRs K B O H0 H vs [x]) : ∃ v, vs = [v] ∧ VR K B O H0 H v x := by
  cases vs with
  | nil => exact r.elim
  | cons v vs =>
    cases vs with
    | nil => exact ⟨v, rfl, r.1⟩
    | cons w ws => exact r.2.elim
theorem VRs.two {B : Addr → Prop} {O : Ow} {H0 H : Hp} {vs : List V} {x y : Val} (r : VRs K B O H0 H vs [x, y]) : ∃ v w, vs = [v, w] ∧ VR K B O H0 H v x ∧ VR K B O H0 H w y := by
  cases vs with
  | nil => exact r.elim
  | cons v vs =>
    obtain ⟨w, e, h⟩ := VRs.one r.2
    exact ⟨v, w, by rw [e], r.1, h⟩
theorem bi_ok : ∀ b : Bi, BiS K (biV b) (rBi K b) := by
  intro b B O H0 H xs vs Q xc ob s r q
  unfold biV at q
  split at q
  · obtain ⟨v, rfl, rx⟩ := r.one
    split at q
    · rename_i ds h1
      obtain ⟨a, ws, rfl, ra, hk⟩ := rx.seqD (ds := ds) (by rw [h1]; rfl)
      refine .inl ⟨a, ws, rfl, ?_, ?_⟩
      · rcases hk with ⟨_, h⟩ | ⟨_, _, h⟩
        · exact .inl h
        · exact .inr h
      · rw [ra.length]
        exact q _ _ (Same.refl H) (VR.mkInt _)
    · rename_i ds h1
      obtain ⟨a, ws, rfl, ra, hk⟩ := rx.seqD (ds := ds) (by rw [h1]; rfl)
      refine .inl ⟨a, ws, rfl, ?_, ?_⟩
      · rcases hk with ⟨_, h⟩ | ⟨_, _, h⟩
        · exact .inl h
        · exact .inr h
      · rw [ra.length]
        exact q _ _ (Same.refl H) (VR.mkInt _)
    · rename_i z h1
      split at q
      · rename_i hz
        have a1 := rx.any
        rw [h1] at a1
        cases a1
        exact .inr ⟨z, rfl, by rw [sz]; exact hz, q _ _ (Same.refl H) (VR.mkInt _)⟩
      · exact q.elim
    · exact q.elim
  · obtain ⟨v, rfl, rx⟩ := r.one
    cases rx.int
    rename_i i
    refine ⟨i, rfl, ?_⟩
    have e : (if i < 0 then -i else i) = (i.natAbs : Int) := by split <;> omega
    rw [e]
    exact q _ _ (Same.refl H) (VR.mkInt _)
  · obtain ⟨v, w, rfl, rx, ry⟩ := r.two
    cases rx.int; cases ry.int
    rename_i i j
    refine ⟨i, j, rfl, ?_⟩
    have e : (if j > i then j else i) = max i j := by rw [Int.max_def]; split <;> split <;> omega
    rw [e]
    exact q _ _ (Same.refl H) (VR.mkInt _)
  · obtain ⟨v, w, rfl, rx, ry⟩ := r.two
    cases rx.int; cases ry.int
    rename_i i j
    refine ⟨i, j, rfl, ?_⟩
    have e : (if j < i then j else i) = min i j := by rw [Int.min_def]; split <;> split <;> omega
    rw [e]
    exact q _ _ (Same.refl H) (VR.mkInt _)
  · obtain ⟨v, rfl, rx⟩ := r.one
    cases rx.int
    exact .inl (.inl ⟨_, rfl, q _ _ (Same.refl H) (VR.mkInt _)⟩)
  · obtain ⟨v, rfl, rx⟩ := r.one
    cases rx.bool
    exact .inl (.inr ⟨_, rfl, q _ _ (Same.refl H) (VR.mkInt _)⟩)
  · obtain ⟨v, rfl, rx⟩ := r.one
    split at q
    · rename_i hz
      obtain ⟨n, e, q⟩ := oOk_ok q.bind
      cases rx.str
      exact .inr ⟨_, n, rfl, e, hz, q _ _ (Same.refl H) (VR.mkInt _)⟩
    · exact q.elim
  · obtain ⟨v, rfl, rx⟩ := r.one
    split at q
    · rename_i hz
      cases rx.int
      exact ⟨_, rfl, hz, q _ _ (Same.refl H) (VR.mkStr _)⟩
    · exact q.elim
  · obtain ⟨v, rfl, rx⟩ := r.one
    split at q
    · cases rx with
      | tup h ra => exact ⟨_, _, rfl, .inr ⟨h, q _ _ (Same.refl H) (Rp.tup h ra)⟩⟩
    · rename_i ds h0 h1
      obtain ⟨a, ws, rfl, ra, hk⟩ := rx.seqD (ds := ds) (by rw [h1]; rfl)
      rcases hk with ⟨_, h⟩ | ⟨h2, _, h⟩
      · exact ⟨a, ws, rfl, .inl ⟨h, fun l hl => q _ _ (same_upd hl) (mkTup hl ra)⟩⟩
      · rw [h1] at h2; cases h2
    · exact q.elim
  · obtain ⟨v, rfl, rx⟩ := r.one
    obtain ⟨ds, h1, q⟩ := oOk_ok q.bind
    obtain ⟨a, ws, rfl, ra, hk⟩ := rx.seqD h1
    refine ⟨a, ws, rfl, ?_, fun l hl => q _ _ (same_upd hl) (mkNew s hl ra)⟩
    rcases hk with ⟨_, h⟩ | ⟨_, _, h⟩
    · exact .inl h
    · exact .inr h
  · obtain ⟨v, rfl, rx⟩ := r.one
    split at q
    · rename_i ds h1
      obtain ⟨bs, h2, q⟩ := oOk_ok q.bind
      obtain ⟨a, ws, rfl, ra, hk⟩ := rx.seqD (ds := ds) (by rw [h1]; rfl)
      rcases hk with ⟨_, h⟩ | ⟨h3, _, h⟩
      · rw [bools_vals ra h2] at h
        exact ⟨a, bs, rfl, h, q _ _ (Same.refl H) (VR.mkBool _)⟩
      · rw [h1] at h3; cases h3
    · exact q.elim
  · obtain ⟨v, rfl, rx⟩ := r.one
    split at q
    · rename_i ds h1
      obtain ⟨bs, h2, q⟩ := oOk_ok q.bind
      obtain ⟨a, ws, rfl, ra, hk⟩ := rx.seqD (ds := ds) (by rw [h1]; rfl)
      rcases hk with ⟨_, h⟩ | ⟨h3, _, h⟩
      · rw [bools_vals ra h2] at h
        exact ⟨a, bs, rfl, h, q _ _ (Same.refl H) (VR.mkBool _)⟩
      · rw [h1] at h3; cases h3
    · exact q.elim
  · obtain ⟨v, rfl, rx⟩ := r.one
    split at q
    · rename_i ds h1
      obtain ⟨ns, h2, q⟩ := oOk_ok q.bind
      obtain ⟨m, h3, q⟩ := oOk_ok q.bind
      obtain ⟨a, ws, rfl, ra, hk⟩ := rx.seqD (ds := ds) (by rw [h1]; rfl)
      rcases hk with ⟨_, h⟩ | ⟨h4, _, h⟩
      · rw [ints_of ra h2] at h
        refine ⟨a, ns, rfl, h, ?_, fun M m1 m2 => ?_⟩
        · cases ns with
          | nil => cases h3
          | cons i l => exact Nat.succ_pos _
        · rw [maxL_uniq h3 m1 m2]
          exact q _ _ (Same.refl H) (VR.mkInt _)
      · rw [h1] at h4; cases h4
    · exact q.elim
  · exact q.elim
end
end PD

/-! PDT: a[::-1], a *= b. -/
namespace PD
open PySem PySem.Spec PyProof.Rows L2 PyProof
section
variable {prog : Program} {w : World} {A : Around} {E : Value → Shared → Prop} {s : Shared}
theorem adjust_rev (n : Nat) : Builtin.Slice.sliceAdjust none none (-1) (n : Int) = ((n : Int) - 1, -1) := by
  unfold Builtin.Slice.sliceAdjust
  rfl
theorem places_rev (n : Nat) : Builtin.Slice.slicePlaces ((n : Int) - 1) (-1) (-1) = n := by
  unfold Builtin.Slice.slicePlaces
  have h1 : ¬ ((-1 : Int) > 0) := by omega
  have e : ((n : Int) - 1 - -1 - 1) / (- -1) = (n : Int) - 1 := by
    rw [show (- -1 : Int) = 1 by decide, Int.ediv_one]
    omega
  simp only [h1, if_false, e]
  split <;> omega
theorem sliceApplied_rev {sl : Addr} {vl vu vs : Value} {n : Nat} {Q : Int × Int × Nat → Shared → Prop} (hs : s.heap.IsSliceOf sl vl vu vs) (pl : IsPart vl none) (pu : IsPart vu none) (ps : IsPart vs (some (-1)))
    (h : Q ((n : Int) - 1, -1, n) s) : wpAny (model prog w) A (Builtin.Slice.sliceApplied (.ref sl) (pure (n : Int))) Q E s := by
  obtain ⟨os, hos, hcs, hds⟩ := id hs
  unfold Builtin.Slice.sliceApplied Builtin.Slice.sliceFields
  refine wpAny_bind (wpAny_bind (wpAny_field hos hds (x := vl) rfl (wpAny_bind (wpAny_field hos hds (x := vu) rfl (wpAny_bind (wpAny_field hos hds (x := vs) rfl (wpAny_pure ?_)))))))
  refine wpAny_bind (HT.slicePart_ ps ?_)
  show wpAny _ _ (if ((-1 : Int) == 0) = true then _ else _) _ _ s
  rw [if_neg (by decide)]
  refine wpAny_bind (HT.slicePart_ pl (wpAny_bind (HT.slicePart_ pu (wpAny_bind (wpAny_pure ?_)))))
  show wpAny _ _ (match Builtin.Slice.sliceAdjust none none (-1) (n : Int) with | (lo, hi) => pure (lo, (-1 : Int), Builtin.Slice.slicePlaces lo hi (-1))) _ _ s
  rw [adjust_rev n]
  show wpAny _ _ (pure ((n : Int) - 1, (-1 : Int), Builtin.Slice.slicePlaces ((n : Int) - 1) (-1) (-1))) _ _ s
  rw [places_rev]
  exact wpAny_pure h
theorem pick_rev (xs : Array Value) : ((List.range xs.size).filterMap fun (m : Nat) => xs[(((xs.size : Nat) : Int) - 1 + (m : Int) * (-1)).toNat]?).toArray = xs.toList.reverse.toArray := by
  have e : (fun (m : Nat) => xs[(((xs.size : Nat) : Int) - 1 + (m : Int) * (-1)).toNat]?) = fun m => xs[xs.size - 1 - m]? := by
    funext m
    have : (((xs.size : Nat) : Int) - 1 + (m : Int) * (-1)).toNat = xs.size - 1 - m := by omega
    rw [this]
  rw [e]
  have h : (List.range xs.size).filterMap (fun m => xs[xs.size - 1 - m]?) = ((List.range xs.size).map fun k => xs.size - 1 - k).filterMap (xs[·]?) := by
    rw [List.filterMap_map]
    rfl
  rw [h, PySem.W.krv_range, List.filterMap_reverse, PySem.W.krv_all]
theorem getItem_tuple_rev {t sl : Addr} {items : Array Value} {vl vu vs : Value} {Q : Value → Shared → Prop} (ht : IsTup s.heap t items) (hs : s.heap.IsSliceOf sl vl vu vs) (pl : IsPart vl none) (pu : IsPart vu none) (ps : IsPart vs (some (-1)))
    (h : Q (.ref s.heap.objs.size) { s with heap := s.heap.push { cls := .type "tuple", data := .seq items.toList.reverse.toArray } })
    (hsz : items.size ≤ sizeLine) : wpAny (model prog w) A (getItem (.ref t) (.ref sl)) Q E s := by
  have htake : sizeOk (.seq items.toList.reverse.toArray) := by
    show items.toList.reverse.toArray.size ≤ sizeLine
    simpa using hsz
  obtain ⟨os, hos, hcs, hds⟩ := id hs
  have hTs : s.TypeIs (.ref sl) "slice" := ⟨os, hos, hcs⟩
  unfold getItem
  try with_reducible refine wpAny_holding ?_
  first | refine wpAny_bind (wpAny_pure ?_) | skip
  refine wpAny_bind (wpAny_sequenceKey ht.typeIs (by decide) ?_)
  refine wpAny_bind (wpAny_callSpecial?_slot (name := Str.ofString "__getitem__") ht.typeIs PyProof.Rows.slot_tuple_getitem
    (wpAny_call_entry PyProof.Rows.slot_tuple_getitem ht.typeIs entry_tuple_getitem ?_ (args_tuple_getitem _ _)))
  show wpAny _ _ (Builtin.Tuple.tupleItemsOf (.ref t) >>= _) _ _ s
  refine wpAny_bind (tupleItemsOf_ ht ?_)
  refine wpAny_bind (wpAny_typeOf hTs ?_)
  rw [if_pos (by decide)]
  refine wpAny_bind (sliceApplied_rev hs pl pu ps ?_)
  have hno : ¬ ((((items.size : Int) - 1) == 0 && (-1 : Int) == 1 && items.size == items.size) = true) := by
    intro q
    rw [Bool.and_eq_true, Bool.and_eq_true] at q
    exact absurd q.1.2 (by decide)
  show wpAny _ _ (if ((((items.size : Int) - 1) == 0 && (-1 : Int) == 1 && items.size == items.size) = true) then _ else _) _ _ s
  rw [if_neg hno, pick_rev]
  first
    | exact wpAny_bind (m := Builtin.Tuple.tupleExact _) (wpAny_newObj_type (wpAny_pure ⟨_, rfl, wpAny_pure h⟩) htake)
    | exact wpAny_bind (m := Builtin.Tuple.tupleExact _) (wpAny_newObj_type (wpAny_bind (wpAny_pure (wpAny_pure ⟨_, rfl, wpAny_pure h⟩))) htake)
    | exact wpAny_bind (wpAny_bind (m := Builtin.Tuple.tupleExact _) (wpAny_newObj_type (wpAny_pure (wpAny_pure ⟨_, rfl, wpAny_pure h⟩)) htake))
    | exact wpAny_bind (wpAny_bind (m := Builtin.Tuple.tupleExact _) (wpAny_newObj_type (wpAny_pure ⟨_, rfl, wpAny_pure h⟩) htake))
end
section
variable {X : Cx}
/-- a[::-1] of a tuple or a list -/
def tRevG (K : PySem.W.Frag) (te : TE) : TE := fun σ H Q => te σ H fun x H1 => (∃ a xs, x = .ref a ∧ SqL K H1 a xs ∧ ∀ p, H1 p = none → Q (.ref p) (upd H1 p (.lst xs.reverse))) ∨
  (∃ a xs, x = .ref a ∧ SqT K H1 a xs ∧ ∀ p, H1 p = none → Q (.ref p) (upd H1 p (.tup xs.reverse)))
theorem pe_revG {e : Expr} {te : TE} {k : Nat} {p1 p2 p3 pos : Pos} (he : PE X e te) : PE X (.Subscript e (.Slice none none (some (.UnaryOp .USub (.Constant (.int 1) k p1) p2)) p3) pos) (tRevG X.K te) := by
  refine ⟨fun pins s σ H Q I h => ?_⟩
  refine Subscript_ (thn (he.run pins s σ H _ I h) fun v s1 ⟨x, H1, I1, r1, q1⟩ => ?_)
  have hst : PO X (some (.UnaryOp .USub (.Constant (.int 1) k p1) p2)) (tPart (tUn (rU fun i => .int (-i)) (tC (.int 1)))) := po_some (pe_un un_neg pe_int)
  have key : ∀ (a : Addr), v = .ref a → (∀ (s4 : Shared) (vl vu vs : Value), Inv X pins σ H1 s4 → s4.heap.IsSliceOf (s4.heap.objs.size - 1) vl vu vs → IsPart vl none → IsPart vu none → IsPart vs (some (-1)) →
      wpAny (model X.prog X.w) X.A (subscriptTail e (.Slice none none (some (.UnaryOp .USub (.Constant (.int 1) k p1) p2)) p3) (.ref a) (.ref (s4.heap.objs.size - 1))) (EP X pins σ Q) X.xe s4) →
      wpAny (model X.prog X.w) X.A (eval (.Slice none none (some (.UnaryOp .USub (.Constant (.int 1) k p1) p2)) p3) X.env) (fun u s' => wpAny (model X.prog X.w) X.A (subscriptTail e (.Slice none none (some (.UnaryOp .USub (.Constant (.int 1) k p1) p2)) p3) v u) (EP X pins σ Q) X.xe s') X.xe s1 := by
    intro a ea hk
    subst ea
    refine wpAny_Slice (thn (po_none.run pins s1 σ H1 (fun o H2 => o = none ∧ H2 = H1) I1 ⟨rfl, rfl⟩) fun vl s2 ⟨l, H2, I2, pl, el, e2⟩ => ?_)
    subst el e2
    refine thn (po_none.run pins s2 σ H2 (fun o H3 => o = none ∧ H3 = H2) I2 ⟨rfl, rfl⟩) fun vu s3 ⟨u, H3, I3, pu, eu, e3⟩ => ?_
    subst eu e3
    refine thn (hst.run pins s3 σ H3 (fun o H4 => o = some (-1) ∧ H4 = H3) I3 ⟨1, rfl, -1, rfl, rfl, rfl⟩) fun vs s4 ⟨o, H4, I4, ps, eo, e4⟩ => ?_
    subst eo e4
    have I5 : Inv X pins σ H4 { s4 with heap := s4.heap.push { cls := .type "slice", data := .fields #[vl, vu, vs] } } := I4.kept (t' := s4.toks) fun b ob q => Heap.get?_push_of_some _ q
    have := hk _ vl vu vs I5 (by
      have := Heap.IsSliceOf.new s4.heap vl vu vs
      simpa using this) pl pu ps
    simpa using this
  rcases q1 with ⟨a, xs, ex, hx, q⟩ | ⟨a, xs, ex, hx, q⟩
  · subst ex
    cases r1
    refine key a rfl fun s4 vl vu vs I5 hsl pl pu ps => ?_
    obtain ⟨its, r, ht, hz⟩ := I5.list hx
    have hlen := r.length
    refine tail_any (ops := [.ref a, .ref (s4.heap.objs.size - 1)]) ht.isList.typeIs (PySem.slot_list_getitem.lookup) ?_ (by with_unfolding_all rfl)
    refine wpAny_getItem_list_slice ht.isList hsl pl pu ps (by decide) ?_ (by rw [List.size_toArray]; omega)
    rw [PySem.W.krv_pick]
    refine ⟨.ref _, _, I5.laid (t' := s4.toks) (o := .lst xs.reverse) (fun b ob q => Heap.get?_push_of_some _ q) (Nat.le_refl _) ?_, rfl, q _ (I5.hok.fresh (Nat.le_refl _))⟩
    exact ⟨by rw [List.length_reverse]; exact hz, _, 0, r.reverse, Heap.get?_push_size _ rfl⟩
  · subst ex
    cases r1
    refine key a rfl fun s4 vl vu vs I5 hsl pl pu ps => ?_
    obtain ⟨its, r, ht, hz⟩ := I5.tuple hx
    have hlen : its.toArray.size = xs.length := by rw [List.size_toArray]; exact r.length.symm
    refine tail_any (ops := [.ref a, .ref (s4.heap.objs.size - 1)]) ht.typeIs (PyProof.Rows.slot_tuple_getitem.lookup) ?_ (by with_unfolding_all rfl)
    refine getItem_tuple_rev ht hsl pl pu ps ?_ (by rw [hlen]; exact hz)
    refine ⟨.ref s4.heap.objs.size, _, I5.laid (t' := s4.toks) (o := .tup xs.reverse) (fun b ob q => Heap.get?_push_of_some _ q) (Nat.le_refl _) ?_, rfl, q _ (I5.hok.fresh (Nat.le_refl _))⟩
    exact ⟨by rw [List.length_reverse]; exact hz, _, r.reverse, IsTup.new _ _⟩
/-- ints, *= -/
def ipM : TIp := fun x y H Q => ∃ i j : Int, x = .int i ∧ y = .int j ∧ MuOk i j ∧ Q (.int (i * j)) H
theorem ip_mul : PIp X .Mult ipM := by
  intro pins s σ H x y v u Q I r1 r2 h
  obtain ⟨i, j, e1, e2, hm, q⟩ := h
  subst e1; subst e2
  obtain ⟨t, rfl⟩ := r1
  obtain ⟨t', rfl⟩ := r2
  exact imul_int ⟨.int _, H, I.tok _, ⟨_, rfl⟩, q⟩ (mu_ok hm)
end
section
variable {X : Cx}
/-- isinstance(e, c), e an exception that is held -/
def rIsT (K : Fg) : List V → Hp → VK → Prop := fun xs H Q => ∃ (a D : Addr) (c : V) (cv : Value) (b : Bool), xs = [.ref a, c] ∧ H a = some (Exo D a) ∧ ExcC K D ∧ (∀ u, RelV c u → u = cv) ∧ PySem.W.kitOne K (.ref D) cv = some b ∧ Q (.bl b) H
theorem call_isT : CallR X (.builtin "isinstance") (rIsT X.K) := by
  intro pins s σ H xs us Q I r h
  obtain ⟨a, D, c, cv, b, rfl, ha, C, hcv, e, q⟩ := h
  cases r with
  | cons rx rr =>
    cases rr with
    | cons rt rr =>
      cases rr
      cases rx
      have ec := hcv _ rt
      subst ec
      obtain ⟨⟨oe, vs, hget, hz, hv⟩, _, _⟩ := I.hok a _ ha
      have J : PySem.W.InstAt s.heap a oe D none := by
        obtain ⟨oc, od, oda, osl⟩ := oe
        obtain ⟨h1, h2, _⟩ := hz
        dsimp only at h1 h2 hv
        subst h1 h2 hv
        exact ⟨hget, rfl, rfl, trivial⟩
      exact PySem.W.kia_one (PySem.W.handS_kitx_exc C.hg C.hk C.hs C.hd C.ha C.hn C.ht C.hm) I.kIn J e (fun z => nomatch z) fun tk => ⟨.bl b, H, I.kept (t' := tk) fun _ _ z => z, rfl, q⟩
theorem exN_ok {l : List Str} {A : Addr → Prop} {H : Hp} {K : Fg} {v : V} {d : D} {c : Nat} (r : Rp K A H v d) (e : exN l d = some c) : ∃ a D n, v = .ref a ∧ l[c]? = some n ∧ PySem.W.nsIn K mainGlobals n = some (some (.ref D)) ∧ H a = some (Exo D a) := by
  cases r with
  | exc h1 h2 => exact ⟨_, _, _, rfl, exIx_get e, h1, h2⟩
  | dct n h =>
    rename_i l'
    cases l' <;> cases e
  | _ => cases e
end
/-- a[::-1] -/
theorem rev_rp {K : Fg} {A : Addr → Prop} {H : Hp} : ∀ {vs : List V} {ds : List D}, RpAll K A H vs ds → RpAll K A H vs.reverse ds.reverse
  | _, _, .nil => .nil
  | _, _, .cons r rs => by
    rw [List.reverse_cons, List.reverse_cons]
    exact (rev_rp rs).append (.cons r .nil)
theorem rev_ok {K : Fg} {B : Addr → Prop} {O : Ow} {H0 H : Hp} {x : Val} {vx : V} {Q : VK} {xc : Nat → Prop} (s : Same H0 H) (rx : VR K B O H0 H vx x)
    (q : Rs xc (fun z => ∀ v H', Same H H' → VR K B O H0 H' v z → Q v H') (revV x)) :
    (∃ a xs, vx = .ref a ∧ SqL K H a xs ∧ ∀ p, H p = none → Q (.ref p) (upd H p (.lst xs.reverse))) ∨ (∃ a xs, vx = .ref a ∧ SqT K H a xs ∧ ∀ p, H p = none → Q (.ref p) (upd H p (.tup xs.reverse))) := by
  unfold revV at q
  split at q
  · rename_i ds h1
    obtain ⟨a, vs, rfl, ra, hk⟩ := rx.seqD (ds := ds) (by rw [h1]; rfl)
    rcases hk with ⟨_, hs⟩ | ⟨h2, _, hs⟩
    · exact .inl ⟨a, vs, rfl, hs, fun p hp => q _ _ (same_upd hp) (mkNew s hp (rev_rp ra))⟩
    · rw [h1] at h2; cases h2
  · rename_i ds h1
    obtain ⟨a, vs, rfl, ra, hk⟩ := rx.seqD (ds := ds) (by rw [h1]; rfl)
    rcases hk with ⟨h2, hs⟩ | ⟨_, _, hs⟩
    · rw [h1] at h2; cases h2
    · exact .inr ⟨a, vs, rfl, hs, fun p hp => q _ _ (same_upd hp) (mkTup hp (rev_rp ra))⟩
  · exact q.elim
end PD

/-! PDD: dicts by rows of whole numbers: reads, stores, displays, walks. -/
namespace PD
open PySem PySem.Spec PyProof.Rows L2
section
variable {X : Cx} {pins : List (Addr × Obj)} {σ : L2.St} {H : Hp} {s : Shared}
/-- a key at hand, wherever its tuple stands -/
theorem key_sq {K : Fg} {b : Addr} {k : List Key} (hK : X.K = K) (I : Inv X pins σ H s) (e : SqT K H b (k.map kV)) : (tupleKind (mixKind X.prog X.w)).is s.heap k b := by
  subst hK
  obtain ⟨its, r, ⟨o, h1, h2, n, h3⟩, _⟩ := I.tuple e
  exact ⟨o, its.toArray, n, h1, h2, h3, by simpa using items_are r⟩
/-- what the dict holds at a key, the key's tuple anywhere -/
def DGq (K : Fg) (H : Hp) (a : Addr) (y : V) (r : Option V) : Prop := ∃ kvs k b, Rd H a (.dT kvs) ∧ y = .ref b ∧ SqT K H b (k.map kV) ∧ r = valV kvs k
def rIxQ (K : Fg) : R2 := fun x y H Q => ∃ a v, x = .ref a ∧ DGq K H a y (some v) ∧ Q v H
theorem ix_dq (hu : X.A.units + 1 < cLine) : IxR X (rIxQ X.K) := by
  intro value slice pins s σ H x y v u Q I rx ry h hs
  obtain ⟨a, v0, rfl, ⟨kvs, k, b, e, rfl, eb, l⟩, q⟩ := h
  obtain rfl : v = Value.ref a := rx
  obtain rfl : u = Value.ref b := ry
  obtain ⟨z, hd, xs, rel, dd⟩ := dt_rd I.hok e
  obtain ⟨w', hw, rw'⟩ := RelO.some_of (v := v0) (o := (atKey xs k).map (·.2)) (by rw [l]; exact rel.val k)
  obtain ⟨p, hp, hp2⟩ := Option.map_eq_some_iff.mp hw
  refine tail_any (ops := [.ref a, .ref b]) dd.typeIs PySem.F.slot_dict_getitem.lookup ?_ hs
  refine wpAny_getItem_heap (tupleKind_room_in1 hu) (key_sq rfl I eb) dd hp ?_
  rw [hp2]
  exact ⟨_, H, I.tok _, rw', q⟩
/-- d.get(k, x) -/
def tDGq (K : Fg) (td ty tx : TE) : TE := fun σ H Q => td σ H fun x H1 => ∃ a kvs, x = .ref a ∧ Rd H1 a (.dT kvs) ∧ ty σ H1 fun y H2 => tx σ H2 fun z H3 => ∃ o, DGq K H3 a y o ∧ Q (o.getD z) H3
theorem pe_dgq {o e f : Expr} {apos cpos : Pos} {td ty tx : TE} (hu : X.A.units + 1 < cLine) (ho : PE X o td) (he : PE X e ty) (hf : PE X f tx) (m : M2 X o "get" apos e f cpos) : PE X (.Call (.Attribute o "get" apos) [e, f] [] cpos) (tDGq X.K td ty tx) := by
  refine ⟨fun pins s σ H Q I h => ?_⟩
  refine wpAny_Call_method m.base m.few m.line PySem.F.plainAttrs_dict PySem.F.slot_dict_get PySem.F.type_dict_get (thn (ho.run pins s σ H _ I h) fun u s1 ⟨x, H1, I1, rx, a, kvs0, ex, d, q1⟩ => ?_)
  subst ex
  obtain rfl : u = Value.ref a := rx
  obtain ⟨t1, t2, _⟩ := isD_at I1 (.inr ⟨kvs0, d⟩)
  refine ⟨t1, t2, ?_⟩
  rw [m.trees]
  refine Calls.callWith_builtin rfl (Calls.evalArgs_plain (Calls.spliced_cons (thn (he.run pins s1 σ H1 _ I1 q1) fun iv s2 ⟨y, H2, I2, ry, q2⟩ =>
    Calls.spliced_cons (thn (hf.run pins s2 σ H2 _ I2 q2) fun fv s3 ⟨z, H3, I3, rz, ov, g, q3⟩ => Calls.spliced_nil ?_))))
  obtain ⟨kvs, k, b, e, ey, eb, l⟩ := g
  subst ey
  obtain rfl : iv = Value.ref b := ry
  obtain ⟨_, hd, xs, rel, dd⟩ := dt_rd I3.hok e
  refine call_meetsIn PySem.F.slot_dict_get dd.typeIs PySem.F.entry_dict_get (PySem.F.args_dict_get_3 _ _ _) (meetsH_dict_get_default (tupleKind (mixKind X.prog X.w)) a b hd fv) ⟨tupleKind_room_in1 hu, k, xs, key_sq rfl I3 eb, dd, ⟨_, H3, I3.tok _, ?_, q3⟩⟩
  rw [l]
  exact (rel.val k).getD rz
/-- pairs at hand, as a display's -/
def PsR (H : Hp) : List (V × V) → Dl → Prop
  | [], [] => True
  | p :: ps, q :: l => TkR H p.1 q.1 ∧ p.2 = .int q.2 ∧ PsR H ps l
  | _, _ => False
theorem PsR.ext {H H' : Hp} (s : ∀ a xs, H a = some (.tup xs) → H' a = some (.tup xs)) : ∀ {ps : List (V × V)} {l : Dl}, PsR H ps l → PsR H' ps l
  | [], [], _ => trivial
  | p :: ps, q :: l, ⟨⟨b, e, h⟩, e2, r⟩ => ⟨⟨b, e, s _ _ h⟩, e2, PsR.ext s r⟩
  | [], _ :: _, r => r.elim
  | _ :: _, [], r => r.elim
def putAll (acc : Dl) : Dl → Dl
  | [] => acc
  | q :: l => putAll (putL acc q.1 q.2) l
theorem putAll_len : ∀ (l acc : Dl), (putAll acc l).length ≤ acc.length + l.length
  | [], acc => Nat.le_refl _
  | q :: l, acc => by
    have h1 := putAll_len l (putL acc q.1 q.2)
    have h2 := putL_len acc q.1 q.2
    rw [List.length_cons]
    show (putAll (putL acc q.1 q.2) l).length ≤ _
    omega
theorem kv_map (k : List Int) : ((k.map Sum.inl : List Key).map kV) = k.map V.int := by
  rw [List.map_map]
  rfl
theorem store_one {p : Addr} {E : Value → Shared → Prop} {R : Unit → Shared → Prop} {H : Hp} {s : Shared} {acc : Dl} {k : List Int} {v : Int} {b : Addr} {u r : Value} (hu : X.A.units < cLine) (I : Inv X pins σ H s) (e : H p = some (.dT (dV acc)))
    (eb : H b = some (.tup (k.map V.int))) (rx : RelV (.ref b) u) (ry : RelV (.int v) r) (hz : acc.length < sizeLine) (q : ∀ s', Inv X pins σ (upd H p (.dT (dV (putL acc k v)))) s' → R () s') : wpAny (model X.prog X.w) X.A (dictSet p u r) R E s := by
  obtain rfl : u = Value.ref b := rx
  rw [← kv_map] at eb
  obtain ⟨z, hd, xs, rel, dd⟩ := dt_of I.hok e
  have hzx : xs.length ≤ sizeLine := by rw [← Paired.length rel]; exact z
  have hl : (putK (dV acc) (k.map Sum.inl) (.int v)).length ≤ sizeLine := by
    have h1 := length_putK (dV acc) (k.map Sum.inl) (.int v)
    have h2 : (dV acc).length = acc.length := List.length_map _
    omega
  refine wpAny_dictSet_heap (hsz := hzx) (knd := tupleKind (mixKind X.prog X.w)) hu (key_of I.hok eb) dd fun h' dd' hs => q _ ?_
  obtain ⟨ob, es, ep, hq, h2, h3, h4, _, h5⟩ := dd'
  rw [dV_put]
  exact d_write I (by rw [e]; exact True.intro) hs ⟨ob, hq⟩ ⟨hl, hd, _, (rel.put (k.map Sum.inl) eb ry).keeps fun c ys ec => by rw [upd_ne (ne_of ec e (fun z => nomatch z))]; exact ec, ob, es, ep, hq, h2, h3, h4, h5⟩
theorem store_all {p : Addr} {E : Value → Shared → Prop} {Q : PUnit → Shared → Prop} (hu : X.A.units < cLine) (l : Dl) : ∀ (acc : Dl) (ps : List (V × V)) (vs : List (Value × Value)) (H : Hp) (s : Shared), Inv X pins σ H s → H p = some (.dT (dV acc)) → VV ps vs → PsR H ps l → acc.length + l.length < sizeLine →
    (∀ s', Inv X pins σ (upd H p (.dT (dV (putAll acc l)))) s' → Q PUnit.unit s') →
    wpAny (model X.prog X.w) X.A (forIn vs PUnit.unit fun (x : Value × Value) (_ : PUnit) => (do dictSet p x.1 x.2; pure (ForInStep.yield PUnit.unit) : Sem (ForInStep PUnit))) Q E s := by
  induction l with
  | nil =>
    intro acc ps vs H s I e rv rp _ q
    cases ps with
    | cons x ps => exact rp.elim
    | nil =>
      cases rv
      rw [List.forIn_nil]
      refine wpAny_pure (q s ?_)
      have : upd H p (.dT (dV (putAll acc []))) = H := by
        funext b
        by_cases hb : b = p
        · rw [hb, upd_same]
          exact e.symm
        · rw [upd_ne hb]
      rw [this]
      exact I
  | cons a l ih =>
    intro acc ps vs H s I e rv rp hz q
    cases ps with
    | nil => exact rp.elim
    | cons x ps =>
      obtain ⟨x, y⟩ := x
      obtain ⟨k, v⟩ := a
      cases rv with
      | @cons _ w _ ws hr rv =>
        obtain ⟨u, r⟩ := w
        obtain ⟨⟨b, ex, eb⟩, ey, rp⟩ := rp
        have ex : x = .ref b := ex
        have ey : y = .int v := ey
        subst ex ey
        rw [List.length_cons] at hz
        rw [List.forIn_cons]
        refine wpAny_bind (wpAny_bind (store_one hu I e eb hr.1 hr.2 (by omega) fun s1 I1 => wpAny_pure ?_))
        refine ih (putL acc k v) ps ws _ s1 I1 upd_same rv (rp.ext fun a ys ea => by rw [upd_ne (ne_of ea e (fun z => nomatch z))]; exact ea) (by
          have := putL_len acc k v
          omega) fun s' J => q s' ?_
        rw [upd_upd] at J
        exact J
/-- {k: v, ..}, the keys tuples of whole numbers -/
def tDisT (trs : List (TE × TE)) : TE := fun σ H Q => ∀ p, H p = none → tPairs trs σ (upd H p (.dT [])) fun ps H2 => H2 p = some (.dT []) ∧ ∃ l : Dl, PsR H2 ps l ∧ Q (.ref p) (upd H2 p (.dT (dV (putAll [] l))))
theorem pe_disT {pos : Pos} {keys : List (Option Expr)} {values : List Expr} {trs : List (TE × TE)} (hu : X.A.units < cLine) (h : PPs X pos keys values trs) (hall : keys.all (·.isSome) = true) (hl : keys.length = values.length) (h0 : keys ≠ [])
    (h15 : keys.length ≤ 15) : PE X (.Dict keys values pos) (tDisT trs) := by
  refine ⟨fun pins s σ H Q I q => ?_⟩
  have hn := I.hok.fresh (Nat.le_refl s.heap.objs.size)
  have I1 := I.laid (a := s.heap.objs.size) (o := .dT []) (h' := s.heap.push { cls := .type "dict", data := .dict #[] }) (t' := s.toks) (fun _ _ q => Heap.get?_push_of_some _ q) (Nat.le_refl _) (dt_empty s.heap I.big)
  have hlen := pairTrees_length keys values X.env pos hall hl
  have hne : pairTrees keys values X.env pos ≠ [] := fun z => by
    rw [z] at hlen
    exact h0 (List.length_eq_zero_iff.mp hlen.symm)
  rw [arm_eval_Dict, zip_pairTrees keys values X.env pos hall hl, dictDisplay_pairs _ hne (by omega)]
  refine wpAny_bind (wpAny_standAt (wpAny_bind ?_))
  unfold subDict
  refine wpAny_bind (wpAny_alloc ?_)
  refine wpAny_bind (wpAny_holding ?_)
  rw [if_pos (by omega)]
  refine wpAny_bind (wpAny_mono (wpAny_evalPairs_len (h.run pins _ σ _ _ I1 (q _ hn))) (fun vs s2 h2 => ?_) fun _ _ e => e)
  obtain ⟨hvl, ps, H2, I2, rel, e, l, rp, q2⟩ := h2
  have hpl : ∀ (ps : List (V × V)) (l : Dl), PsR H2 ps l → l.length = ps.length := by
    intro ps
    induction ps with
    | nil => intro l r; cases l with
      | nil => rfl
      | cons a l => exact r.elim
    | cons p ps ih => intro l r; cases l with
      | nil => exact r.elim
      | cons a l => rw [List.length_cons, List.length_cons, ih l r.2.2]
  have h1 := hpl ps l rp
  have h2 : ps.length = vs.length := Paired.length rel
  refine wpAny_holding (wpAny_bind (store_all hu l [] ps vs H2 s2 I2 e rel rp (by rw [sizeLine_eq, List.length_nil]; omega) fun s3 I3 => wpAny_pure (wpAny_pure (wpAny_pure ⟨.ref s.heap.objs.size, _, I3, rfl, q2⟩))))
/-- either reading -/
theorem ps_or {st : Stmt} {t u : TS} (h1 : PS X st t) (h2 : PS X st u) : PS X st (fun D σ H => t D σ H ∨ u D σ H) :=
  ⟨fun pins s σ H D I h => h.elim (h1.run pins s σ H D I) (h2.run pins s σ H D I)⟩
end
end PD

/-! PD4: expressions: what stands in the text runs as told. -/
namespace PD
open PySem PySem.Spec PyProof.Rows L2

section
variable {T : Tb} {M : Nm} {xa : Nat → Addr} {X : Cx} {W : WX}
theorem okE_star {N : List Str} {sc : Scope} {a : Expr} {p : Pos} (x : E) : okE M N sc (.Starred a p) x = false := by cases x <;> rfl
theorem okE_slice {N : List Str} {sc : Scope} {a b c : Option Expr} {p : Pos} (x : E) : okE M N sc (.Slice a b c p) x = false := by cases x <;> rfl
theorem okE_set {N : List Str} {sc : Scope} {a : List Expr} {k : Nat} {p : Pos} (x : E) : okE M N sc (.Set a k p) x = false := by cases x <;> rfl
theorem star_of {N : List Str} {sc : Scope} {e : Expr} {x : E} (h : okE M N sc e x = true) (es : List Expr) (env : PySem.Env) : starEach (e :: es) env = (false, eval e env) :: starEach es env := by
  cases e <;> first | rfl | (rw [okE_star] at h; cases h)
theorem plain_of {N : List Str} {sc : Scope} {e : Expr} {x : E} (h : okE M N sc e x = true) : PlainIx e := by
  cases e <;> first | (exact fun _ _ => rfl) | (rw [okE_slice] at h; cases h)
theorem marks_of {N : List Str} {sc : Scope} {e : Expr} {x : E} (op : CmpOp) (h : okE M N sc e x = true) : behindInMarks op e = false := by
  cases e <;> first | rfl | (rw [okE_set] at h; cases h)
theorem vis_of {sc : Scope} {x : Str} (h : visB sc x = true) : L2.Vis sc x := by
  unfold visB at h
  split at h
  · rename_i e; exact .inl e
  · rename_i e; exact .inr (.inl e)
  · rename_i e; exact .inr (.inr e)
  · cases h
theorem gl_of {x : Str} (h : glB X.env.scope x = true) : Gl X x := by
  unfold glB at h
  split at h
  · rename_i e; exact e
  · cases h
theorem name_of {x : Str} (h : okName x = true) : (x == ("__debug__" : Str)) = false ∧ (x == ("__classdict__" : Str)) = false := by
  unfold okName at h
  simpa using h

variable {K : Fg} {B : Addr → Prop} {old : Old} {O : Ow} {H H0 H1 H' H'' : Hp} {σ : L2.St} {η : Env}
theorem Rs.shift {xc : Nat → Prop} {Q : VK} {r : Res Val} (s : Same H H1) (h : Rs xc (fun x => ∀ v H', Same H H' → VR K B O H H' v x → Q v H') r) :
    Rs xc (fun x => ∀ v H', Same H1 H' → VR K B O H1 H' v x → Q v H') r := h.imp fun x q v H' s' vr => q v H' (s.trans s') (vr.back s)
theorem Snd.run {t : TE} {f : Env → Res Val} (h : Snd xa X W t f) (r : ER X.K B old O H σ η) {β : Type} {g : Val → Res β} {kk : β → Prop} {Q : VK}
    (hq : Rs (XH X.K xa W B old η) kk ((f η).bind g)) (hk : ∀ x v H', Same H H' → VR X.K B O H H' v x → Rs (XH X.K xa W B old η) kk (g x) → Q v H') : t σ H Q :=
  h B old O σ H η Q r (hq.bind.imp fun x hx v H' s vr => hk x v H' s vr hx)
theorem SndT.run {t : TT} {f : Env → Res Bool} (h : SndT xa X W t f) (r : ER X.K B old O H σ η) {β : Type} {g : Bool → Res β} {kk : β → Prop} {Q : Bool → Hp → Prop}
    (hq : Rs (XH X.K xa W B old η) kk ((f η).bind g)) (hk : ∀ x H', Same H H' → Rs (XH X.K xa W B old η) kk (g x) → Q x H') : t σ H Q :=
  h B old O σ H η Q r (hq.bind.imp fun x hx H' s => hk x H' s hx)
theorem snd2 {ta tb : TE} {fa fb : Env → Res Val} {g : Val → Val → Res Val} {r : R2} (ha : Snd xa X W ta fa) (hb : Snd xa X W tb fb) (hr : R2S X.K g r) :
    Snd xa X W (tOp r ta tb) (fun η => (fa η).bind fun x => (fb η).bind fun y => g x y) := by
  intro B old O σ H η Q rr q
  refine ha.run rr q fun x v H1 s1 vx q1 => ?_
  refine hb.run (rr.ext s1) q1 fun y w H2 s2 vy q2 => ?_
  exact hr _ _ _ _ _ _ _ _ _ _ rr.ob (s1.trans s2) (vx.ext s2) (vy.back s1) (q2.imp fun z k v' H' s' vr => k v' H' ((s1.trans s2).trans s') vr)
/-- an answer that is a truth -/
theorem Rs.toBool {xc : Nat → Prop} {Q : VK} {r : Res Bool} (h : Rs xc (fun x => ∀ v H', Same H H' → VR K B O H H' v x → Q v H') (r.map fun c => .cl (.bool c))) :
    Rs xc (fun b => ∀ H', Same H H' → Q (.bl b) H') r := h.bind.imp fun b q H' s => q (.bl b) H' s (VR.mkBool b)
theorem snd2b {ta tb : TE} {fa fb : Env → Res Val} {g : Val → Val → Res Bool} {r : R2} (ha : Snd xa X W ta fa) (hb : Snd xa X W tb fb) (hr : R2B X.K g r) :
    Snd xa X W (tOp r ta tb) (fun η => (fa η).bind fun x => (fb η).bind fun y => (g x y).map fun c => .cl (.bool c)) := by
  intro B old O σ H η Q rr q
  refine ha.run rr q fun x v H1 s1 vx q1 => ?_
  refine hb.run (rr.ext s1) q1 fun y w H2 s2 vy q2 => ?_
  exact hr _ _ _ _ _ _ _ _ _ _ rr.ob (s1.trans s2) (vx.ext s2) (vy.back s1) (q2.toBool.imp fun b k => k H2 (s1.trans s2))
theorem snd2t {ta tb : TE} {fa fb : Env → Res Val} {g : Val → Val → Res Bool} {r : R2} (ha : Snd xa X W ta fa) (hb : Snd xa X W tb fb) (hr : R2B X.K g r) :
    SndT xa X W (tTest (tOp r ta tb)) (fun η => (fa η).bind fun x => (fb η).bind fun y => g x y) := by
  intro B old O σ H η Q rr q
  refine ha.run rr q fun x v H1 s1 vx q1 => ?_
  refine hb.run (rr.ext s1) q1 fun y w H2 s2 vy q2 => ?_
  exact hr _ _ _ _ _ _ _ _ _ _ rr.ob (s1.trans s2) (vx.ext s2) (vy.back s1) (q2.imp fun b k => ⟨b, rfl, k H2 (s1.trans s2)⟩)
theorem VRs.any {vs : List V} {xs : List Val} (r : VRs K B O H H' vs xs) : RpAll K (fun _ => False) H' vs (xs.map Val.d) := by
  induction xs generalizing vs with
  | nil =>
    cases vs with
    | nil => exact .nil
    | cons v vs => exact r.elim
  | cons x xs ih =>
    cases vs with
    | nil => exact r.elim
    | cons v vs => exact .cons r.1.any (ih r.2)
theorem VRs.shared {vs : List V} {xs : List Val} {ds : List D} (ob : OB O B H) (r : VRs K B O H H' vs xs) (e : shAll xs = some ds) : RpAll K (Own O B) H' vs ds := by
  induction xs generalizing vs ds with
  | nil =>
    cases vs with
    | nil => cases e; exact .nil
    | cons v vs => exact r.elim
  | cons x xs ih =>
    cases vs with
    | nil => exact r.elim
    | cons v vs =>
      unfold shAll at e
      split at e
      · rename_i d es h1 h2
        cases e
        exact .cons (r.1.shared ob.l ob.b h1) (ih r.2 h2)
      · cases e
theorem VRs.len {vs : List V} {xs : List Val} (r : VRs K B O H H' vs xs) : vs.length = xs.length := by
  have := r.any.length
  simpa using this
theorem VRs.ext {vs : List V} {xs : List Val} (r : VRs K B O H H' vs xs) (s : Same H' H'') : VRs K B O H H'' vs xs := by
  induction xs generalizing vs with
  | nil =>
    cases vs with
    | nil => trivial
    | cons v vs => exact r.elim
  | cons x xs ih =>
    cases vs with
    | nil => exact r
    | cons v vs => exact ⟨r.1.ext s, ih r.2⟩
theorem VRs.back {vs : List V} {xs : List Val} (s : Same H0 H) (r : VRs K B O H H' vs xs) : VRs K B O H0 H' vs xs := by
  induction xs generalizing vs with
  | nil =>
    cases vs with
    | nil => trivial
    | cons v vs => exact r.elim
  | cons x xs ih =>
    cases vs with
    | nil => exact r
    | cons v vs => exact ⟨r.1.back s, ih r.2⟩
theorem evs_len : ∀ (es : E) {η : Env} {xs : List Val}, evs T es η = .ok xs → xs.length = lenE es := by
  intro es
  induction es with
  | nil => intro η xs h; cases h; rfl
  | cons e es _ ih =>
    intro η xs h
    unfold evs at h
    cases h1 : ev T e η with
    | ok x =>
      rw [h1] at h
      cases h2 : evs T es η with
      | ok ys =>
        have h : (evs T es η).bind (fun xs => Res.ok (x :: xs)) = .ok xs := h
        rw [h2] at h
        cases h
        show ys.length + 1 = lenE es + 1
        rw [ih h2]
      | ex c =>
        have h : (evs T es η).bind (fun xs => Res.ok (x :: xs)) = .ok xs := h
        rw [h2] at h; cases h
      | st =>
        have h : (evs T es η).bind (fun xs => Res.ok (x :: xs)) = .ok xs := h
        rw [h2] at h; cases h
    | ex c => rw [h1] at h; cases h
    | st => rw [h1] at h; cases h
  | _ => intro η xs h; cases h
theorem star_all {N : List Str} {sc : Scope} {env : PySem.Env} : ∀ (es : E) {l : List Expr}, okEs M N sc l es = true → starEach l env = l.map fun e => (false, eval e env) := by
  intro es
  induction es with
  | nil =>
    intro l h
    cases l with
    | nil => rfl
    | cons a l => exact absurd h (by simp [okEs])
  | cons e es _ ih =>
    intro l h
    cases l with
    | nil => exact absurd h (by simp [okEs])
    | cons a l =>
      simp only [okEs, Bool.and_eq_true] at h
      rw [star_of h.1, ih h.2]
      rfl
  | _ => intro l h; exact absurd h (by simp [okEs])
theorem any_all (pos : Pos) (env : PySem.Env) (l : List Expr) : (backTo pos (l.map fun e => (false, eval e env))).any (·.1) = false := by
  unfold backTo
  rw [List.map_map, List.any_map]
  exact List.any_eq_false.mpr fun x _ => by simp
theorem calls_of {N : List Str} {sc : Scope} {env : PySem.Env} {es : E} {a : Expr} {as : List Expr} (pos : Pos) (h : okEs M N sc (a :: as) es = true) :
    starEach (a :: as) env = (false, eval a env) :: starEach as env ∧ (backTo pos (starEach as env)).any (·.1) = false := by
  cases es with
  | cons c cs =>
    simp only [okEs, Bool.and_eq_true] at h
    exact ⟨star_of h.1 _ _, by rw [star_all cs h.2]; exact any_all _ _ _⟩
  | _ => exact absurd h (by simp [okEs])
theorem okEs_len {N : List Str} {sc : Scope} : ∀ (es : E) {l : List Expr}, okEs M N sc l es = true → l.length = lenE es := by
  intro es
  induction es with
  | nil =>
    intro l h
    cases l with
    | nil => rfl
    | cons a l => exact absurd h (by simp [okEs])
  | cons e es _ ih =>
    intro l h
    cases l with
    | nil => exact absurd h (by simp [okEs])
    | cons a l =>
      simp only [okEs, Bool.and_eq_true] at h
      show l.length + 1 = lenE es + 1
      rw [ih h.2]
  | _ => intro l h; exact absurd h (by simp [okEs])
@[simp] theorem retV_dD (l : Dl) : retV (dD l) = .nd l := by
  show (match dctL (l.map fun p => (.tuple (p.1.map PyData.int), .int p.2)) with
    | some l => Val.nd l
    | none => .cl (dD l)) = .nd l
  rw [dctL_map]
theorem RetR.vr {v : V} {d : D} (s : Same H H1) (ob : OB O B H) (r : RetR K H1 H' v d) : VR K B O H H' v (retV d) := by
  rcases r with ⟨e, r⟩ | ⟨ds, a, vs, rfl, e, rfl, h1, h2, h3⟩ | ⟨l, a, rfl, rfl, h1, h2⟩
  rotate_left 2
  · rw [retV_dD]
    exact ⟨a, rfl, s.free h1, h2⟩
  · have q : Rp K (Own O B) H' v d := r.free (fun _ _ h => h) e
    cases d with
    | list ds => simp [lf] at e
    | dict kvs => simp [lf] at e
    | _ => exact q
  · exact ⟨a, vs, rfl, s.free h1, h2, h3.free (fun _ _ h => h) e⟩

theorem RetR.fresh {v : V} {d : D} (r : RetR K H H' v d) : Rp K (fun b => H b ≠ none) H' v d := by
  rcases r with ⟨e, r⟩ | ⟨ds, a, vs, rfl, e, rfl, h1, h2, h3⟩ | ⟨l, a, rfl, rfl, h1, h2⟩
  · exact r.free (fun _ _ h => h) e
  · exact .lst (.inl ⟨fun z => z h1, .inl h2⟩) (h3.free (fun _ _ h => h) e)
  · exact .dct (fun z => z h1) (.inl h2)
theorem ob_sub (ob : OB O B H) (s : Same H H1) : ∀ a, Own O B a → H1 a ≠ none := fun a z q => by
  rcases z with ⟨i, z⟩ | z
  · exact ob.l i a z (s.free q)
  · exact ob.b a z (s.free q)
theorem RetQ.vr {v : V} {d : D} {sh : Bool} (s : Same H H1) (ob : OB O B H) (r : RetQ K sh H1 H' v d) : VR K B O H H' v (if sh = true then .cl d else retV d) := by
  cases sh with
  | false =>
    rcases r with r | ⟨z, _⟩
    · exact r.vr s ob
    · cases z
  | true =>
    have q : Rp K (fun b => H1 b ≠ none) H' v d := by
      rcases r with r | ⟨_, r⟩
      · exact r.fresh
      · exact r
    exact q.ca (Ca.less (ob_sub ob s))

/-! ### the theorem, shape by shape -/
variable (T M xa) in
def SE (x : E) : Prop := ∀ X W e, GX T M xa X W → okE M X.N X.env.scope e x = true → ∃ t, PE X e t ∧ Snd xa X W t (ev T x)
variable (T M xa) in
def SA (x : E) : Prop := ∀ X W es, GX T M xa X W → okEs M X.N X.env.scope es x = true → ∃ t, PA X es t ∧
  ∀ B old O σ H η Q, ER X.K B old O H σ η → Rs (XH X.K xa W B old η) (fun xs => evs T x η = .ok xs → ∀ vs H', Same H H' → VRs X.K B O H H' vs xs → Q vs H') (evs T x η) → t σ H Q
variable (T M xa) in
def ST (x : E) : Prop := ∀ X W e, GX T M xa X W → okT M X.N X.env.scope e x = true → ∃ t, PT X e t ∧ SndT xa X W t (evt T x)
variable (T M xa) in
def SI (x : E) : Prop := ∀ X W tg e, GX T M xa X W → okI M X.N X.env.scope e x = true → (∃ t, PI X tg e t ∧ SndI xa X W t (evi T x)) ∧ ∀ y, foldedSetIterable e X.env y = pure y
variable (T M xa) in
def SO (x : E) : Prop := ∀ X W e, GX T M xa X W → okO M X.N X.env.scope e x = true → ∃ t, PO X e t ∧ SndO xa X W t (evo T x)
variable (T M xa) in
def SX (x : E) : Prop := SE T M xa x ∧ SA T M xa x ∧ ST T M xa x ∧ SI T M xa x ∧ SO T M xa x
theorem sxE {x : E} (h : SE T M xa x) (h1 : ∀ N sc es, okEs M N sc es x = false) (h2 : ∀ N sc es, okT M N sc es x = false) (h3 : ∀ N sc es, okI M N sc es x = false) (h4 : ∀ N sc es, okO M N sc es x = false) : SX T M xa x :=
  ⟨h, fun X W e g k => (by rw [h1] at k; cases k), fun X W e g k => (by rw [h2] at k; cases k), fun X W tg e g k => (by rw [h3] at k; cases k), fun X W e g k => (by rw [h4] at k; cases k)⟩
theorem sxA {x : E} (h : SA T M xa x) (h1 : ∀ N sc es, okE M N sc es x = false) (h2 : ∀ N sc es, okT M N sc es x = false) (h3 : ∀ N sc es, okI M N sc es x = false) (h4 : ∀ N sc es, okO M N sc es x = false) : SX T M xa x :=
  ⟨fun X W e g k => (by rw [h1] at k; cases k), h, fun X W e g k => (by rw [h2] at k; cases k), fun X W tg e g k => (by rw [h3] at k; cases k), fun X W e g k => (by rw [h4] at k; cases k)⟩
theorem sxT {x : E} (h : ST T M xa x) (h1 : ∀ N sc es, okE M N sc es x = false) (h2 : ∀ N sc es, okEs M N sc es x = false) (h3 : ∀ N sc es, okI M N sc es x = false) (h4 : ∀ N sc es, okO M N sc es x = false) : SX T M xa x :=
  ⟨fun X W e g k => (by rw [h1] at k; cases k), fun X W e g k => (by rw [h2] at k; cases k), h, fun X W tg e g k => (by rw [h3] at k; cases k), fun X W e g k => (by rw [h4] at k; cases k)⟩
theorem sxI {x : E} (h : SI T M xa x) (h1 : ∀ N sc es, okE M N sc es x = false) (h2 : ∀ N sc es, okEs M N sc es x = false) (h3 : ∀ N sc es, okT M N sc es x = false) (h4 : ∀ N sc es, okO M N sc es x = false) : SX T M xa x :=
  ⟨fun X W e g k => (by rw [h1] at k; cases k), fun X W e g k => (by rw [h2] at k; cases k), fun X W e g k => (by rw [h3] at k; cases k), h, fun X W e g k => (by rw [h4] at k; cases k)⟩
theorem sxO {x : E} (h : SO T M xa x) (h1 : ∀ N sc es, okE M N sc es x = false) (h2 : ∀ N sc es, okEs M N sc es x = false) (h3 : ∀ N sc es, okT M N sc es x = false) (h4 : ∀ N sc es, okI M N sc es x = false) : SX T M xa x :=
  ⟨fun X W e g k => (by rw [h1] at k; cases k), fun X W e g k => (by rw [h2] at k; cases k), fun X W e g k => (by rw [h3] at k; cases k), fun X W tg e g k => (by rw [h4] at k; cases k), h⟩

theorem s_var (i : Nat) : SE T M xa (.var i) := by
  intro X W e g h
  unfold okE at h
  split at h
  · rename_i x p
    simp only [Bool.and_eq_true, decide_eq_true_eq] at h
    obtain ⟨⟨h1, h2⟩, h3⟩ := h
    refine ⟨_, pe_var h1 (vis_of h2) (name_of h3).1 (name_of h3).2, fun B old O σ H η Q r q => ?_⟩
    unfold ev slotV at q
    split at q
    · rename_i d hs
      obtain ⟨v, e1, e2⟩ := r.sl i _ hs
      exact ⟨v, e1, q v H (Same.refl H) e2⟩
    · rename_i ds hs
      obtain ⟨a, vs, e0, e1, e2, e3⟩ := r.sl i _ hs
      exact ⟨_, e1, q _ H (Same.refl H) ⟨a, vs, e0, rfl, e2, e3⟩⟩
    · rename_i l hs
      obtain ⟨a, e0, e1, e2⟩ := r.sl i _ hs
      exact ⟨_, e1, q _ H (Same.refl H) ⟨a, e0, rfl, e2⟩⟩
    · rename_i k hs
      obtain ⟨v, e1, e2⟩ := r.sl i _ hs
      exact ⟨v, e1, q v H (Same.refl H) e2.rp⟩
    · rename_i d hs
      obtain ⟨v, e1, e2⟩ := r.sl i _ hs
      exact ⟨v, e1, q v H (Same.refl H) (e2.ca (Ca.less fun _ z => .inl z))⟩
    · exact q.elim
  · cases h
theorem s_glob (i : Nat) : SE T M xa (.glob i) := by
  intro X W e g h
  unfold okE at h
  split at h
  · rename_i x p
    simp only [Bool.and_eq_true, decide_eq_true_eq] at h
    obtain ⟨⟨h1, h2⟩, h3⟩ := h
    obtain ⟨v, u, d, m1, m2, m3, m4⟩ := g.gl i x h1
    refine ⟨_, pe_glob (gl_of h2) m1 m2 (name_of h3).1, fun B old O σ H η Q r q => ?_⟩
    unfold ev at q
    rw [m3] at q
    exact q v H (Same.refl H) (m4 _ _)
  · cases h
theorem s_int (n : Int) : SE T M xa (.int n) := by
  intro X W e g h
  unfold okE at h
  split at h
  · have h := of_decide_eq_true h
    subst h
    exact ⟨_, pe_int, fun B old O σ H η Q r q => q _ H (Same.refl H) (VR.mkInt _)⟩
  · cases h
theorem s_bl (n : Bool) : SE T M xa (.bl n) := by
  intro X W e g h
  unfold okE at h
  split at h
  · have h := of_decide_eq_true h
    subst h
    exact ⟨_, pe_bl, fun B old O σ H η Q r q => q _ H (Same.refl H) (VR.mkBool _)⟩
  · cases h
theorem s_non : SE T M xa .non := by
  intro X W e g h
  unfold okE at h
  split at h
  · exact ⟨_, pe_non, fun B old O σ H η Q r q => q _ H (Same.refl H) (Rp.non)⟩
  · cases h
theorem s_str (n : Str) : SE T M xa (.str n) := by
  intro X W e g h
  unfold okE at h
  split at h
  · have h := of_decide_eq_true h
    subst h
    exact ⟨_, pe_str, fun B old O σ H η Q r q => q _ H (Same.refl H) (VR.mkStr _)⟩
  · cases h
theorem len_ok {n : Nat} (h : n ≤ 1000) : n ≤ sizeLine := Nat.le_of_lt (small1000 h)
theorem s_tup {es : E} (ih : SA T M xa es) : SE T M xa (.tup es) := by
  intro X W e g h
  unfold okE at h
  split at h
  · rename_i xs k p
    simp only [Bool.and_eq_true, decide_eq_true_eq] at h
    obtain ⟨t, ht, hq⟩ := ih X W xs g h.1
    refine ⟨_, pe_tup ht, fun B old O σ H η Q r q => hq B old O σ H η _ r ?_⟩
    unfold ev at q
    refine q.bind.imp fun ys k ey vs H' s vr => ?_
    obtain ⟨ds, e1, k⟩ := oOk_ok k.bind
    refine ⟨len_ok (by rw [vr.len, evs_len es ey]; exact h.2), fun p hp => k _ _ (s.trans (same_upd hp)) (mkTup hp (vr.shared r.ob e1))⟩
  · cases h
theorem s_lst {es : E} (ih : SA T M xa es) : SE T M xa (.lst es) := by
  intro X W e g h
  unfold okE at h
  split at h
  · rename_i xs p
    simp only [Bool.and_eq_true, decide_eq_true_eq] at h
    obtain ⟨t, ht, hq⟩ := ih X W xs g h.1
    refine ⟨_, pe_lst ht, fun B old O σ H η Q r q => hq B old O σ H η _ r ?_⟩
    unfold ev at q
    refine q.bind.imp fun ys k ey vs H' s vr => ?_
    obtain ⟨ds, e1, k⟩ := oOk_ok k.bind
    refine ⟨len_ok (by rw [vr.len, evs_len es ey]; exact h.2), fun p hp => k _ _ (s.trans (same_upd hp)) (mkNew s hp (vr.shared r.ob e1))⟩
  · cases h
theorem s_bin {o : Bo} {a b : E} (iha : SE T M xa a) (ihb : SE T M xa b) : SE T M xa (.bin o a b) := by
  intro X W e g h
  unfold okE at h
  split at h
  · rename_i x p y pos
    simp only [Bool.and_eq_true, decide_eq_true_eq] at h
    obtain ⟨⟨h1, h2⟩, h3⟩ := h
    subst h1
    obtain ⟨ta, pa, sa⟩ := iha X W x g h2
    obtain ⟨tb, pb, sb⟩ := ihb X W y g h3
    exact ⟨_, pe_op (op_bo g.py o) pa pb, snd2 sa sb (bo_ok o)⟩
  · cases h
theorem s_neg {a : E} (iha : SE T M xa a) : SE T M xa (.neg a) := by
  intro X W e g h
  unfold okE at h
  split at h
  · rename_i x pos
    obtain ⟨ta, pa, sa⟩ := iha X W x g h
    refine ⟨_, pe_un un_neg pa, fun B old O σ H η Q r q => ?_⟩
    unfold ev at q
    refine sa.run r q fun x v H1 s1 vx q1 => ?_
    unfold negV at q1
    split at q1
    · cases vx.int
      exact ⟨_, rfl, q1 _ H1 s1 (VR.mkInt _)⟩
    · exact q1.elim
  · cases h
theorem bit_ok {xc : Nat → Prop} {k : Bool → Prop} {v : V} {x : Val} (r : VR K B O H H' v x) (q : Rs xc k (bitOf x)) : ∃ b, v = .bl b ∧ x = .cl (.bool b) ∧ k b := by
  unfold bitOf at q
  split at q
  · cases r.bool
    exact ⟨_, rfl, rfl, q⟩
  · exact q.elim
theorem int_ok {xc : Nat → Prop} {k : Int → Prop} {v : V} {x : Val} (r : VR K B O H H' v x) (q : Rs xc k (intOf x)) : ∃ b, v = .int b ∧ x = .cl (.int b) ∧ k b := by
  unfold intOf at q
  split at q
  · cases r.int
    exact ⟨_, rfl, rfl, q⟩
  · exact q.elim
theorem s_not {a : E} (iha : SE T M xa a) : SE T M xa (.not a) := by
  intro X W e g h
  unfold okE at h
  split at h
  · rename_i x pos
    obtain ⟨ta, pa, sa⟩ := iha X W x g h
    refine ⟨_, pe_not pa, fun B old O σ H η Q r q => ?_⟩
    unfold ev at q
    refine sa.run r q fun x v H1 s1 vx q1 => ?_
    obtain ⟨b, e1, _, k⟩ := bit_ok vx q1.bind
    exact ⟨b, e1, k _ H1 s1 (VR.mkBool _)⟩
  · cases h
theorem s_bop {k : Bool} {a b : E} (iha : SE T M xa a) (ihb : SE T M xa b) : SE T M xa (.bop k a b) := by
  intro X W e g h
  unfold okE at h
  split at h
  · rename_i x y xs p
    simp only [Bool.and_eq_true] at h
    obtain ⟨⟨h1, h2⟩, h3⟩ := h
    subst h1
    obtain ⟨ta, pa, sa⟩ := iha X W x g h2
    obtain ⟨tb, pb, sb⟩ := ihb X W _ g h3
    refine ⟨_, pe_and pa pb, fun B old O σ H η Q r q => ?_⟩
    unfold ev at q
    refine sa.run r q fun x v H1 s1 vx q1 => ?_
    obtain ⟨b, e1, _, k⟩ := bit_ok vx q1.bind
    refine ⟨b, e1, ?_⟩
    cases b with
    | true => exact iteT (sb _ _ _ _ _ _ _ (r.ext s1) (Rs.shift s1 k))
    | false => exact iteF (k _ H1 s1 (VR.mkBool _))
  · rename_i x y xs p
    simp only [Bool.and_eq_true, Bool.not_eq_true'] at h
    obtain ⟨⟨h1, h2⟩, h3⟩ := h
    subst h1
    obtain ⟨ta, pa, sa⟩ := iha X W x g h2
    obtain ⟨tb, pb, sb⟩ := ihb X W _ g h3
    refine ⟨_, pe_or pa pb, fun B old O σ H η Q r q => ?_⟩
    unfold ev at q
    refine sa.run r q fun x v H1 s1 vx q1 => ?_
    obtain ⟨b, e1, _, k⟩ := bit_ok vx q1.bind
    refine ⟨b, e1, ?_⟩
    cases b with
    | true => exact iteT (k _ H1 s1 (VR.mkBool _))
    | false => exact iteF (sb _ _ _ _ _ _ _ (r.ext s1) (Rs.shift s1 k))
  · cases h
theorem s_bone {k : Bool} {a : E} (iha : SE T M xa a) : SE T M xa (.bone k a) := by
  intro X W e g h
  unfold okE at h
  split at h
  · simp only [Bool.and_eq_true] at h
    obtain ⟨ta, pa, sa⟩ := iha X W _ g h.2
    exact ⟨_, pe_one pa, sa⟩
  · simp only [Bool.and_eq_true] at h
    obtain ⟨ta, pa, sa⟩ := iha X W _ g h.2
    exact ⟨_, pe_one pa, sa⟩
  · cases h
theorem s_cmp {o : Co} {a b : E} (iha : SE T M xa a) (ihb : SE T M xa b) : SE T M xa (.cmp o a b) := by
  intro X W e g h
  unfold okE at h
  split at h
  · rename_i x p y pos
    simp only [Bool.and_eq_true, decide_eq_true_eq] at h
    obtain ⟨⟨h1, h2⟩, h3⟩ := h
    subst h1
    obtain ⟨ta, pa, sa⟩ := iha X W x g h2
    obtain ⟨tb, pb, sb⟩ := ihb X W y g h3
    obtain ⟨k, room, _⟩ := g.lv
    exact ⟨_, pe_cmpR (op_co (by have := room.un; omega) o) pa pb (marks_of _ h3), snd2b sa sb (co_ok o)⟩
  · cases h
theorem s_ite {c a b : E} (ihc : ST T M xa c) (iha : SE T M xa a) (ihb : SE T M xa b) : SE T M xa (.ite c a b) := by
  intro X W e g h
  unfold okE at h
  split at h
  · rename_i t x y pos
    simp only [Bool.and_eq_true] at h
    obtain ⟨⟨h1, h2⟩, h3⟩ := h
    obtain ⟨tc, pc, sc⟩ := ihc X W t g h1
    obtain ⟨ta, pa, sa⟩ := iha X W x g h2
    obtain ⟨tb, pb, sb⟩ := ihb X W y g h3
    refine ⟨_, pe_ifExp pc pa pb, fun B old O σ H η Q r q => ?_⟩
    unfold ev at q
    refine sc.run r q fun c H1 s1 q1 => ?_
    cases c with
    | true => exact iteT (sa _ _ _ _ _ _ _ (r.ext s1) (Rs.shift s1 q1))
    | false => exact iteF (sb _ _ _ _ _ _ _ (r.ext s1) (Rs.shift s1 q1))
  · cases h
theorem s_idx {a b : E} (iha : SE T M xa a) (ihb : SE T M xa b) : SE T M xa (.idx a b) := by
  intro X W e g h
  unfold okE at h
  split at h
  · rename_i x y pos
    simp only [Bool.and_eq_true] at h
    obtain ⟨ta, pa, sa⟩ := iha X W x g h.1
    obtain ⟨tb, pb, sb⟩ := ihb X W y g h.2
    exact ⟨_, pe_ix ix_seq pa pb (plain_of h.2), snd2 sa sb idx_ok⟩
  · cases h
theorem s_sl {a lo hi : E} (iha : SE T M xa a) (ihl : SO T M xa lo) (ihh : SO T M xa hi) : SE T M xa (.sl a lo hi) := by
  intro X W e g h
  unfold okE at h
  split at h
  · rename_i x l hh p1 pos
    simp only [Bool.and_eq_true] at h
    obtain ⟨⟨h1, h2⟩, h3⟩ := h
    obtain ⟨ta, pa, sa⟩ := iha X W x g h1
    obtain ⟨tl, pl, sl⟩ := ihl X W l g h2
    obtain ⟨th, ph, sh⟩ := ihh X W hh g h3
    refine ⟨_, pe_slice sl_g pa pl ph, fun B old O σ H η Q r q => ?_⟩
    unfold ev at q
    refine sa.run r q fun x v H1 s1 vx q1 => ?_
    refine sl _ _ _ _ _ _ _ (r.ext s1) (q1.bind.imp fun l q2 H2 s2 => ?_)
    refine sh _ _ _ _ _ _ _ ((r.ext s1).ext s2) (q2.bind.imp fun u q3 H3 s3 => ?_)
    exact sl_ok _ _ _ _ _ _ _ _ _ _ r.ob ((s1.trans s2).trans s3) ((vx.ext s2).ext s3) (q3.imp fun z k v' H' s' vr => k v' H' (((s1.trans s2).trans s3).trans s') vr)
  · cases h
theorem s_rev {a : E} (iha : SE T M xa a) : SE T M xa (.rev a) := by
  intro X W e g h
  unfold okE at h
  split at h
  · obtain ⟨ta, pa, sa⟩ := iha X W _ g h
    refine ⟨_, pe_revG pa, fun B old O σ H η Q r q => ?_⟩
    unfold ev at q
    refine sa.run r q fun x v H1 s1 vx q1 => ?_
    exact rev_ok s1 vx (q1.imp fun z k v' H' s' vr => k v' H' (s1.trans s') vr)
  · cases h
theorem s_call {f : Nat} {es : E} (ih : SA T M xa es) : SE T M xa (.call f es) := by
  intro X W e g h
  unfold okE at h
  split at h
  · rename_i x p1 a as p2
    simp only [Bool.and_eq_true] at h
    obtain ⟨⟨⟨h0, h1⟩, h2⟩, h3⟩ := h
    split at h0
    · rename_i y n hf
      simp only [Bool.and_eq_true, decide_eq_true_eq] at h0
      obtain ⟨e1, e2⟩ := h0
      subst e1
      obtain ⟨k, room, _, fns⟩ := g.lv
      obtain ⟨ad, fd, ps, m1, m2, m3, m4⟩ := fns f y n hf
      obtain ⟨t, ht, hq⟩ := ih X W _ g h3
      have hst := (calls_of (env := X.env) p2 h3).1
      have hpl := (calls_of (env := X.env) p2 h3).2
      refine ⟨_, pe_callS (E := WE W) m4 room (gl_of h1) m1 m2 m3 (fun σ => L2N.passAt g.tk σ) ht (name_of h2).1 hst hpl, fun B old O σ H η Q r q => hq B old O σ H η _ r ?_⟩
      unfold ev at q
      refine q.bind.imp fun ys k ey vs H' s vr => ?_
      refine ⟨by rw [vr.len, evs_len es ey, ← okEs_len es h3, ← e2]; rfl, _, vr.any, ?_⟩
      have k := k.bind
      revert k
      cases T.G f (ys.map Val.d) with
      | ok d => exact fun k v H2 s2 rr => k v H2 (s.trans s2) (rr.vr s r.ob)
      | ex c => exact fun k H2 s2 => k O σ H2 (r.ext (s.trans s2))
      | st => exact fun k => k
    · cases h0
  · cases h

theorem blt_ok {x : Str} (g : GX T M xa X W) (h : x ∈ bltNames) : X.mg x = none := g.blt x h
theorem s_bi {b : Bi} {es : E} (ih : SA T M xa es) : SE T M xa (.bi b es) := by
  intro X W e g h
  unfold okE at h
  split at h
  · rename_i x p1 a as p2
    simp only [Bool.and_eq_true, decide_eq_true_eq] at h
    obtain ⟨⟨h0, h1⟩, h3⟩ := h
    subst h0
    obtain ⟨t, ht, hq⟩ := ih X W _ g h3
    have hst := (calls_of (env := X.env) p2 h3).1
    have hpl := (calls_of (env := X.env) p2 h3).2
    refine ⟨tCB (rBi X.K b) t, ?_, fun B old O σ H η Q r q => hq B old O σ H η _ r ?_⟩
    · have hm : X.mg (biN b) = none := g.blt _ (by cases b <;> decide)
      have hc := bi_call g.calm b
      cases b with
      | str1 => exact pe_callTy hc (gl_of h1) hm (by decide +kernel) ht (by decide) (by decide) hst hpl
      | int1 => exact pe_callTy hc (gl_of h1) hm (by decide +kernel) ht (by decide) (by decide) hst hpl
      | tuple1 => exact pe_callTy hc (gl_of h1) hm (by decide +kernel) ht (by decide) (by decide) hst hpl
      | list1 => exact pe_callTy hc (gl_of h1) hm (by decide +kernel) ht (by decide) (by decide) hst hpl
      | len => exact pe_callB hc (gl_of h1) hm (by decide +kernel) ht (by decide) (by decide) hst hpl
      | abs => exact pe_callB hc (gl_of h1) hm (by decide +kernel) ht (by decide) (by decide) hst hpl
      | max2 => exact pe_callB hc (gl_of h1) hm (by decide +kernel) ht (by decide) (by decide) hst hpl
      | min2 => exact pe_callB hc (gl_of h1) hm (by decide +kernel) ht (by decide) (by decide) hst hpl
      | all1 => exact pe_callB hc (gl_of h1) hm (by decide +kernel) ht (by decide) (by decide) hst hpl
      | any1 => exact pe_callB hc (gl_of h1) hm (by decide +kernel) ht (by decide) (by decide) hst hpl
      | max1 => exact pe_callB hc (gl_of h1) hm (by decide +kernel) ht (by decide) (by decide) hst hpl
    · unfold ev at q
      refine q.bind.imp fun ys k ey vs H' s vr => ?_
      exact bi_ok b _ _ _ _ _ _ _ _ r.ob s vr (k.imp fun z k v' H'' s' vr => k v' H'' (s.trans s') vr)
  · cases h
theorem s_isi {a : E} {ty : Ty} (ih : SE T M xa a) : SE T M xa (.isi a ty) := by
  intro X W e g h
  unfold okE at h
  split at h
  · rename_i x p1 y z p2 p3
    simp only [Bool.and_eq_true, decide_eq_true_eq] at h
    obtain ⟨⟨⟨⟨h0, h1⟩, h2⟩, h3⟩, h4⟩ := h
    subst h0
    subst h2
    obtain ⟨t, ht, hq⟩ := ih X W _ g h4
    have hm : X.mg (tyN ty) = none := g.blt _ (by cases ty <;> decide)
    have hz : PE X (.Name (tyN ty) p2) (tC (.ty (tyS ty))) := by
      cases ty with
      | int => exact pe_bltn (gl_of h3) hm (by decide +kernel) rfl (by decide) (by decide)
      | bool => exact pe_bltn (gl_of h3) hm (by decide +kernel) rfl (by decide) (by decide)
      | str => exact pe_bltn (gl_of h3) hm (by decide +kernel) rfl (by decide) (by decide)
      | tuple => exact pe_bltn (gl_of h3) hm (by decide +kernel) rfl (by decide) (by decide)
      | list => exact pe_bltn (gl_of h3) hm (by decide +kernel) rfl (by decide) (by decide)
    have hst : starEach (y :: [.Name (tyN ty) p2]) X.env = (false, eval y X.env) :: starEach [.Name (tyN ty) p2] X.env := star_of h4 _ _
    refine ⟨tCB (rIsiG X.K) (tCons t (tCons (tC (.ty (tyS ty))) tNil)), pe_callB call_isiG (gl_of h1) (g.blt _ (by decide)) (by decide +kernel) (pa_cons ht (pa_cons hz pa_nil) hst) (by decide) (by decide) hst (by rfl), fun B old O σ H η Q r q => ?_⟩
    unfold ev at q
    refine hq.run r q fun x v H1 s1 vx q1 => ?_
    exact isi_ok vx.any (q1.toBool.imp fun b k => k H1 s1)
  · cases h
/-! dicts -/
theorem VR.dct {v : V} {x : Val} {l : Dl} (r : VR K B O H H' v x) (e : x.d.dct = some l) : ∃ a, v = .ref a ∧ Rd H' a (.dT (dV l)) := by
  have q := r.any
  rw [dct_inv e] at q
  generalize hd : dD l = d at q
  cases q with
  | dct n h =>
    rename_i a l'
    have e1 : dctL (l.map fun p => (.tuple (p.1.map PyData.int), .int p.2)) = dctL (l'.map fun p => (.tuple (p.1.map PyData.int), .int p.2)) := by
      rw [PyData.dict.inj hd]
    rw [dctL_map, dctL_map] at e1
    cases e1
    exact ⟨a, rfl, h⟩
  | exc h1 h2 =>
    cases l with
    | nil => cases hd
    | cons p l => cases hd
  | _ => cases hd
theorem ints_vals {A : Addr → Prop} : ∀ {vs : List V} {k : List Int}, RpAll K A H vs (k.map PyData.int) → vs = k.map V.int
  | [], [], _ => rfl
  | [], _ :: _, r => by cases r
  | v :: vs, [], r => by cases r
  | v :: vs, i :: k, r => by
    rw [List.map_cons] at r
    cases r with
    | cons h t =>
      cases h
      rw [ints_vals t]
      rfl
theorem VR.key {v : V} {x : Val} {k : List Int} (r : VR K B O H H' v x) (e : keyOf x.d = some k) : ∃ b, v = .ref b ∧ SqT K H' b (k.map V.int) := by
  have q := r.any
  revert e
  generalize x.d = d at q
  intro e
  cases q with
  | tup h ra =>
    rw [intsOf_inv (show intsOf _ = some k from e)] at ra
    rw [ints_vals ra] at h
    exact ⟨_, rfl, h⟩
  | _ => cases e
theorem key_kV (k : List Int) : ((k.map Sum.inl : List Key).map kV) = k.map V.int := by
  rw [List.map_map]
  rfl
theorem dgq_of {a b : Addr} {l : Dl} {k : List Int} (h : Rd H a (.dT (dV l))) (hb : SqT K H b (k.map V.int)) : DGq K H a (.ref b) ((lookL l k).map V.int) :=
  ⟨dV l, k.map Sum.inl, b, h, rfl, by rw [key_kV]; exact hb, (valV_dV k l).symm⟩
theorem s_dnew : SE T M xa .dnew := by
  intro X W e g h
  unfold okE at h
  split at h
  · refine ⟨_, pe_dnewT, fun B old O σ H η Q r q p hp => ?_⟩
    unfold ev at q
    exact q _ _ (same_upd hp) ⟨p, rfl, hp, upd_same⟩
  · cases h
theorem s_dat {a k : E} (iha : SE T M xa a) (ihk : SE T M xa k) : SE T M xa (.dat a k) := by
  intro X W e g h
  unfold okE at h
  split at h
  · rename_i x y pos
    simp only [Bool.and_eq_true] at h
    obtain ⟨ta, pa, sa⟩ := iha X W x g h.1
    obtain ⟨tb, pb, sb⟩ := ihk X W y g h.2
    obtain ⟨n, room, _⟩ := g.lv
    have hu : X.A.units + 1 < cLine := by
      have := room.units
      omega
    refine ⟨_, pe_ix (ix_dq hu) pa pb (plain_of h.2), fun B old O σ H η Q r q => ?_⟩
    unfold ev at q
    refine sa.run r q fun x v H1 s1 vx q1 => ?_
    refine sb.run (r.ext s1) q1 fun y u H2 s2 vy q2 => ?_
    obtain ⟨l, e1, q3⟩ := oOk_ok q2.bind
    obtain ⟨k, e2, q4⟩ := oOk_ok q3.bind
    obtain ⟨m, e3, q5⟩ := oOk_ok q4.bind
    obtain ⟨a, rfl, h1⟩ := vx.dct e1
    obtain ⟨b, rfl, h2⟩ := vy.key e2
    have dg := dgq_of (rd_same s2 h1) h2
    rw [e3] at dg
    exact ⟨a, _, rfl, dg, q5 _ H2 (s1.trans s2) (VR.mkInt _)⟩
  · cases h
theorem s_dget {a k d : E} (iha : SE T M xa a) (ihk : SE T M xa k) (ihd : SE T M xa d) : SE T M xa (.dget a k d) := by
  intro X W e g h
  unfold okE at h
  split at h
  · rename_i o p m ap x y cp
    simp only [Bool.and_eq_true, decide_eq_true_eq] at h
    obtain ⟨⟨⟨⟨h0, h1⟩, h2⟩, h3⟩, h4⟩ := h
    subst h0
    obtain ⟨ta, pa, sa⟩ := iha X W _ g h1
    obtain ⟨tb, pb, sb⟩ := ihk X W x g h2
    obtain ⟨tc, pc, sc⟩ := ihd X W y g h3
    obtain ⟨n, room, _⟩ := g.lv
    have hu : X.A.units + 1 < cLine := by
      have := room.units
      omega
    have hst : starEach [x, y] X.env = [(false, eval x X.env), (false, eval y X.env)] := by
      rw [star_of h2, star_of h3]
      rfl
    refine ⟨_, pe_dgq hu pa pb pc ⟨rfl, by rw [hst]; rfl, by rw [h4]; simp, by rw [hst]; rfl⟩, fun B old O σ H η Q r q => ?_⟩
    unfold ev at q
    refine sa.run r q fun x v H1 s1 vx q1 => ?_
    obtain ⟨l0, e0, q1⟩ := oOk_ok q1.bind
    obtain ⟨a, rfl, h1⟩ := vx.dct e0
    refine ⟨a, _, rfl, h1, ?_⟩
    refine sb.run (r.ext s1) q1 fun y u H2 s2 vy q2 => ?_
    refine sc.run ((r.ext s1).ext s2) q2 fun z w H3 s3 vz q3 => ?_
    obtain ⟨l, e1, q4⟩ := oOk_ok q3.bind
    rw [e0] at e1
    cases e1
    obtain ⟨k, e2, q5⟩ := oOk_ok q4.bind
    obtain ⟨b, rfl, h2⟩ := vy.key e2
    unfold intOf at q5
    split at q5
    rotate_left
    · exact q5.elim
    rename_i n
    have q6 := q5
    have ez := vz.int
    subst ez
    refine ⟨_, dgq_of (rd_same (s2.trans s3) h1) (sqt_same s3 h2), ?_⟩
    have e : ((lookL l0 k).map V.int).getD (.int n) = .int ((lookL l0 k).getD n) := by cases lookL l0 k <;> rfl
    rw [e]
    exact q6 _ H3 ((s1.trans s2).trans s3) (VR.mkInt _)
  · cases h
theorem newInts_ok {v : V} {x : Val} {ns : List Int} (r : VR K B O H H' v x) (e : newInts x = some ns) : ∃ a, v = .ref a ∧ H a = none ∧ H' a = some (.lst (ns.map V.int)) := by
  cases x with
  | nw ds =>
    obtain ⟨a, vs, rfl, h1, h2, h3⟩ := r
    have e : intsOf ds = some ns := e
    rw [intsOf_inv e] at h3
    rw [ints_vals h3] at h2
    exact ⟨a, rfl, h1, h2⟩
  | _ => cases e
theorem ER.moreB {a : Addr} (r : ER K B old O H σ η) (s : Same H H') (ha : H a = none) (ha' : H' a ≠ none) : ER K (fun b => B b ∨ b = a) old O H' σ η := by
  have c : Ca K (Own O B) (Own O fun b => B b ∨ b = a) H H' := Ca.more s fun b q => by
    rcases q with q | q | q
    · exact .inl (.inl q)
    · exact .inl (.inr q)
    · exact .inr (q ▸ ha)
  exact { len := r.len
          sl := fun i z e => by
            have q := r.sl i z e
            cases z with
            | sh d => obtain ⟨w, q1, q2⟩ := q; exact ⟨w, q1, q2.ca c⟩
            | ow ds => obtain ⟨b, ws, q0, q1, q2, q3⟩ := q; exact ⟨b, ws, q0, q1, s _ _ q2, q3.ca c⟩
            | od l => obtain ⟨b, q0, q1, q2⟩ := q; exact ⟨b, q0, q1, s _ _ q2⟩
            | kk k => obtain ⟨w, q1, q2⟩ := q; exact ⟨w, q1, q2.ca c⟩
            | st xs => obtain ⟨d, b, q0, q1, q2, q3, q4⟩ := q; exact ⟨d, b, q0, q1, s _ _ q2, s _ _ q3, q4⟩
            | fr d => obtain ⟨w, q1, q2⟩ := q; exact ⟨w, q1, q2.ca c.or⟩
          dom := r.dom
          inj := r.inj
          disj := fun i b e z => z.elim (r.disj i b e) fun z => r.lst e (z ▸ ha)
          fr := r.fr
          same := r.same.trans s
          bt := fun b z q => z.elim (fun z => r.bt b z (s.free q)) fun z => ha' (z ▸ q)
          gh := r.gh.ca c
          fb := fun b h z => r.fb b h (s.free z)
          fc := r.fc }
theorem ER.lessB {B' : Addr → Prop} (r : ER K B' old O H σ η) (h : ∀ b, B b → B' b) : ER K B old O H σ η := by
  have c : Ca K (Own O B') (Own O B) H H := Ca.less fun b q => q.elim .inl fun q => .inr (h b q)
  exact { len := r.len
          sl := fun i z e => by
            have q := r.sl i z e
            cases z with
            | sh d => obtain ⟨w, q1, q2⟩ := q; exact ⟨w, q1, q2.ca c⟩
            | ow ds => obtain ⟨b, ws, q0, q1, q2, q3⟩ := q; exact ⟨b, ws, q0, q1, q2, q3.ca c⟩
            | od l => obtain ⟨b, q0, q1, q2⟩ := q; exact ⟨b, q0, q1, q2⟩
            | kk k => obtain ⟨w, q1, q2⟩ := q; exact ⟨w, q1, q2.ca c⟩
            | st xs => exact q
            | fr d => obtain ⟨w, q1, q2⟩ := q; exact ⟨w, q1, q2.ca c.or⟩
          dom := r.dom
          inj := r.inj
          disj := fun i b e z => r.disj i b e (h b z)
          fr := r.fr
          same := r.same
          bt := fun b z => r.bt b (h b z)
          gh := r.gh.ca c
          fb := r.fb
          fc := r.fc }
theorem Rs.impX {α : Type} {xc xc' : Nat → Prop} {k : α → Prop} {r : Res α} (h : Rs xc k r) (f : ∀ c, xc c → xc' c) : Rs xc' k r := by
  cases r with
  | ok a => exact h
  | ex c => exact f c h
  | st => exact h
/-- a value's lists stand elsewhere -/
theorem VR.off {a : Addr} {v : V} {x : Val} (r : VR K B O H H' v x) (hA : Own O B a) (hH : H a ≠ none) (hj : ∀ j ds, x = .br j ds → O j ≠ some a) (hl : ∀ j l, x = .bd j l → O j ≠ some a) : Rp K (fun b => b = a) H' v x.d := by
  have le : ∀ b, b = a → Own O B b := fun b e => e ▸ hA
  cases x with
  | cl d => exact Rp.ca (Ca.less le) r
  | nw ds =>
    obtain ⟨b, vs, rfl, h2, h3, h4⟩ := r
    exact .lst (.inl ⟨fun z => hH (z ▸ h2), .inl h3⟩) (h4.ca (Ca.less fun c e => .inl (le c e)))
  | br j ds =>
    obtain ⟨b, vs, h1, rfl, h3, h4⟩ := r
    exact .lst (.inl ⟨fun z => hj j ds rfl (z ▸ h1), .inl h3⟩) (h4.ca (Ca.less le))
  | nd l =>
    obtain ⟨b, rfl, h2, h3⟩ := r
    exact .dct (fun z => hH (z ▸ h2)) (.inl h3)
  | bd j l =>
    obtain ⟨b, h1, rfl, h3⟩ := r
    exact .dct (fun z => hl j l rfl (z ▸ h1)) (.inl h3)
theorem VRs.off {a : Addr} {vs : List V} {xs : List Val} (r : VRs K B O H H' vs xs) (hA : Own O B a) (hH : H a ≠ none) (hj : ∀ x ∈ xs, (∀ j ds, x = .br j ds → O j ≠ some a) ∧ ∀ j l, x = .bd j l → O j ≠ some a) : RpAll K (fun b => b = a) H' vs (xs.map Val.d) := by
  induction xs generalizing vs with
  | nil =>
    cases vs with
    | nil => exact .nil
    | cons v vs => exact r.elim
  | cons x xs ih =>
    cases vs with
    | nil => exact r.elim
    | cons v vs => exact .cons (r.1.off hA hH (hj x (List.mem_cons_self)).1 (hj x (List.mem_cons_self)).2) (ih r.2 fun y hy => hj y (List.mem_cons_of_mem _ hy))
theorem s_calN {f : Nat} {x es : E} (ihx : SE T M xa x) (ih : SA T M xa es) : SE T M xa (.calN f x es) := by
  intro X W e g h
  unfold okE at h
  split at h
  · rename_i y p1 k k1 k2 v p2 as p3
    simp only [Bool.and_eq_true, decide_eq_true_eq] at h
    obtain ⟨⟨⟨⟨⟨h0, h1⟩, h2⟩, hk⟩, hv⟩, h3⟩ := h
    subst hk
    split at h0
    · rename_i y' n hf
      simp only [Bool.and_eq_true, decide_eq_true_eq] at h0
      obtain ⟨e1, e2⟩ := h0
      subst e1
      obtain ⟨k, room, _, fns⟩ := g.ls
      obtain ⟨ad, fd, ps, m1, m2, m3, m4⟩ := fns f y' n hf
      obtain ⟨tx, px, sx⟩ := ihx X W v g hv
      obtain ⟨t, ht, hq⟩ := ih X W _ g h3
      have pd : PE X (.Dict [some (.Constant (.str "xs") k1 k2)] [v] p2) (tDisp [(tC (.str "xs"), tx)]) := pe_disp (pps_cons pe_str px pps_nil) rfl rfl (by simp) (show 1 ≤ 15 by decide)
      have hst : starEach (.Dict [some (.Constant (.str "xs") k1 k2)] [v] p2 :: as) X.env = (false, eval (.Dict [some (.Constant (.str "xs") k1 k2)] [v] p2) X.env) :: starEach as X.env := rfl
      have hpl : (backTo p3 (starEach as X.env)).any (·.1) = false := by rw [star_all es h3]; exact any_all _ _ _
      refine ⟨_, pe_callS (E := WE W) m4 room (gl_of h1) m1 m2 m3 (fun σ => L2N.passAt g.tk σ) (pa_cons pd ht hst) (name_of h2).1 hst hpl, fun B old O σ H η Q r q => ?_⟩
      unfold ev at q
      intro p hp
      have s0 : Same H (upd H p (.dK [])) := same_upd hp
      refine sx.run (r.ext s0) q fun x w H1 s1 vx q1 => ?_
      obtain ⟨ns, en, q1⟩ := oOk_ok q1.bind
      obtain ⟨a, rfl, ha, ha'⟩ := newInts_ok vx en
      refine ⟨s1 _ _ upd_same, [(.inr "xs", .ref a)], rfl, (show 1 ≤ 15 by decide), ?_⟩
      have em : mergeK [] [((Sum.inr "xs" : Key), V.ref a)] = [(.inr "xs", .ref a)] := rfl
      rw [em]
      have hpa : a ≠ p := fun z => by rw [z, upd_same] at ha; cases ha
      have s2 : Same H (upd H1 p (stO a)) := fun b o e => by
        have nb : b ≠ p := fun z => by rw [z, hp] at e; cases e
        rw [upd_ne nb]
        exact s1 _ _ (by rw [upd_ne nb]; exact e)
      have hfa : H a = none := by rw [upd_ne hpa] at ha; exact ha
      have h1a : (upd H1 p (stO a)) a ≠ none := by
        rw [upd_ne hpa, ha']
        exact fun z => nomatch z
      refine hq (fun b => B b ∨ b = a) old O σ _ η _ (r.moreB s2 hfa h1a) ((q1.bind.imp fun ys k ey vs H3 s3 vr => ?_).impX fun c hx O' σ' H' r' => hx O' σ' H' (r'.lessB fun b z => .inl z))
      have h2p : H3 p = some (stO a) := s3 _ _ upd_same
      have h2a : H3 a = some (.lst (ns.map V.int)) := s3 _ _ (by rw [upd_ne hpa]; exact ha')
      refine ⟨by show vs.length + 1 = n; rw [vr.len, evs_len es ey, ← okEs_len es h3, ← e2], p, a, ns, vs, ys.map Val.d, rfl, h2p, h2a, ?_, ?_⟩
      · exact vr.off (.inr (.inr rfl)) h1a fun x _ => ⟨fun j ds _ z => r.lst z hfa, fun j l _ z => r.lst z hfa⟩
      · have k := k.bind
        revert k
        cases e9 : T.S f ns (ys.map Val.d) with
        | ok dx =>
          obtain ⟨d, xs'⟩ := dx
          intro k v' H4 hsame hax rr
          refine k v' H4 (fun b o e => ?_) (Rp.ca (Ca.less (ob_sub r.ob (s2.trans s3))) rr)
          have nb : b ≠ a := fun z => by rw [z, hfa] at e; cases e
          exact hsame b o nb ((s2.trans s3) b o e)
        | ex c => exact fun k => k
        | st => exact fun k => k
    · cases h0
  · cases h
def rSidx : V → List V → Hp → VK → Prop := fun x xs H Q => ∃ (a b : Str) (k : Nat), x = .str a ∧ xs = [.str b] ∧ Txt.index0 a b = some k ∧ Q (.int (k : Nat)) H
theorem mt_sidx {X : Cx} : MtR X "str.index" rSidx := by
  intro pins s σ H x xs v us Q I rx rs h
  obtain ⟨a, b, k, rfl, rfl, e, q⟩ := h
  obtain ⟨t, rfl⟩ := rx
  cases rs with
  | cons r1 rs =>
    cases rs
    obtain ⟨u, rfl⟩ := r1
    unfold Txt.index0 at e
    cases q2 : Builtin.Str.occurrences a b 0 a.length 1 with
    | nil => rw [q2] at e; cases e
    | cons k' rest =>
      rw [q2] at e
      cases e
      exact PySem.SC.index q2 ⟨.int (k : Nat), H, I.tok _, ⟨_, rfl⟩, q⟩
theorem s_sind {s : Str} {b : E} (ihb : SE T M xa b) : SE T M xa (.sind s b) := by
  intro X W e g h
  unfold okE at h
  split at h
  · rename_i z zk zp m ap y cp
    simp only [Bool.and_eq_true, decide_eq_true_eq] at h
    obtain ⟨⟨⟨h0, h1⟩, h2⟩, h3⟩ := h
    subst h0
    subst h1
    obtain ⟨tb, pb, sb⟩ := ihb X W _ g h2
    have hst : starEach [y] X.env = [(false, eval y X.env)] := by
      rw [star_of h2]
      rfl
    refine ⟨_, pe_m1 PySem.F.slot_str_index PySem.F.type_str_index mt_sidx pe_str pb hst rfl (by rw [h3]; simp), fun B old O σ H η Q r q => ?_⟩
    unfold ev at q
    refine ⟨⟨_, rfl⟩, sb.run r q fun x v H1 s1 vx q1 => ?_⟩
    unfold sindV at q1
    split at q1
    · split at q1
      · rename_i k ek
        cases vx.str
        exact ⟨_, _, k, rfl, rfl, ek, q1 _ H1 s1 (VR.mkInt _)⟩
      · exact q1.elim
    · exact q1.elim
  · cases h
theorem strs_vals {A : Addr → Prop} : ∀ {vs : List V} {ds : List D} {ys : List Str}, RpAll K A H vs ds → strsOf ds = some ys → vs = ys.map V.str
  | _, _, _, .nil, e => by
    unfold strsOf at e
    cases e
    rfl
  | _, _, ns, .cons r t, e => by
    cases r with
    | str i =>
      unfold strsOf at e
      rename_i vs ds
      cases z : strsOf ds with
      | none => rw [z] at e; cases e
      | some cs =>
        rw [z] at e
        cases e
        rw [strs_vals t z]
        rfl
    | _ => unfold strsOf at e; cases e
theorem s_join {s : Str} {b : E} (ihb : SE T M xa b) : SE T M xa (.join s b) := by
  intro X W e g h
  unfold okE at h
  split at h
  · rename_i z zk zp m ap y cp
    simp only [Bool.and_eq_true, decide_eq_true_eq] at h
    obtain ⟨⟨⟨h0, h1⟩, h2⟩, h3⟩ := h
    subst h0
    subst h1
    obtain ⟨tb, pb, sb⟩ := ihb X W _ g h2
    have hst : starEach [y] X.env = [(false, eval y X.env)] := by
      rw [star_of h2]
      rfl
    refine ⟨_, pe_join pe_str pb hst rfl (by rw [h3]; simp), fun B old O σ H η Q r q => ?_⟩
    unfold ev at q
    refine ⟨⟨_, rfl⟩, sb.run r q fun x v H1 s1 vx q1 => ?_⟩
    unfold joinV at q1
    obtain ⟨ds, e1, q1⟩ := oOk_ok q1.bind
    obtain ⟨ys, e2, q1⟩ := oOk_ok q1.bind
    split at q1
    · rename_i hz
      obtain ⟨a, vs, rfl, ra, hk⟩ := vx.seqD e1
      rw [strs_vals ra e2] at hk
      refine ⟨_, a, ys, rfl, rfl, ?_, hz, q1 _ H1 s1 (VR.mkStr _)⟩
      rcases hk with ⟨_, h⟩ | ⟨_, _, h⟩
      · exact .inl h
      · exact .inr h
    · exact q1.elim
  · cases h
theorem chain_ok {o p : Co} {X : Cx} {vx vy : V} {x y : Val} {tc : TE} {fc : Env → Res Val} (sc : Snd xa X W tc fc) {Q : VK} (r : ER X.K B old O H σ η) (s : Same H H1) (rx : VR X.K B O H H1 vx x) (ry : VR X.K B O H H1 vy y)
    (q : Rs (XH X.K xa W B old η) (fun k => ∀ H', Same H H' → Q (.bl k) H') ((cmpV o x y).bind fun k => if k = true then (fc η).bind fun z => cmpV p y z else .ok false)) :
    rCo X.K o vx vy H1 fun z H3 => ∃ k, z = .bl k ∧ (if k = true then tc σ H3 fun w' H4 => rCo X.K p vy w' H4 Q else Q (.bl false) H3) := by
  refine co_ok o B O H H1 x y vx vy _ _ r.ob s rx ry (q.bind.imp fun k q1 => ⟨k, rfl, ?_⟩)
  cases k with
  | false => exact iteF (q1 H1 s)
  | true =>
    refine iteT (sc.run (r.ext s) q1 fun z w' H4 s4 vz q2 => ?_)
    exact co_ok p B O H H4 y z vy w' _ _ r.ob (s.trans s4) (ry.ext s4) (vz.back s) (q2.imp fun b k => k H4 (s.trans s4))
theorem marks2 {N : List Str} {sc : Scope} {e f : Expr} {x y : E} (op op' : CmpOp) (h : okE M N sc e x = true) (h' : okE M N sc f y = true) : lastMarks [op, op'] [e, f] = false := by
  exact marks_of op' h'
theorem s_ch {o p : Co} {a b c : E} (iha : SE T M xa a) (ihb : SE T M xa b) (ihc : SE T M xa c) : SE T M xa (.ch o p a b c) := by
  intro X W e g h
  unfold okE at h
  split at h
  · rename_i x o' p' y z pos
    simp only [Bool.and_eq_true, decide_eq_true_eq] at h
    obtain ⟨⟨⟨⟨h1, h2⟩, h3⟩, h4⟩, h5⟩ := h
    subst h1
    subst h2
    obtain ⟨ta, pa, sa⟩ := iha X W x g h3
    obtain ⟨tb, pb, sb⟩ := ihb X W y g h4
    obtain ⟨tc, pc, sc⟩ := ihc X W z g h5
    obtain ⟨k, room, _⟩ := g.lv
    refine ⟨_, pe_chain (op_co (by have := room.un; omega) o) (op_co (by have := room.un; omega) p) pa pb pc (marks2 _ _ h4 h5), fun B old O σ H η Q r q => ?_⟩
    unfold ev at q
    refine sa.run r q fun x v H1 s1 vx q1 => ?_
    refine sb.run (r.ext s1) q1 fun y w H2 s2 vy q2 => ?_
    refine chain_ok sc r (s1.trans s2) (vx.ext s2) (vy.back s1) ?_
    revert q2
    cases cmpV o x y with
    | ex c => exact fun q => q
    | st => exact fun q => q
    | ok k =>
      cases k with
      | false => exact fun q H' s' => q _ H' s' (VR.mkBool _)
      | true =>
        show Rs _ _ ((ev T c η).bind fun z => (cmpV p y z).map fun k => Val.cl (.bool k)) → Rs _ _ ((ev T c η).bind fun z => cmpV p y z)
        cases ev T c η with
        | ex c => exact fun q => q
        | st => exact fun q => q
        | ok z =>
          show Rs _ _ ((cmpV p y z).map fun k => Val.cl (.bool k)) → Rs _ _ (cmpV p y z)
          cases cmpV p y z with
          | ex c => exact fun q => q
          | st => exact fun q => q
          | ok k => exact fun q H' s' => q _ H' s' (VR.mkBool _)
  · cases h
theorem t_ch {o p : Co} {a b c : E} (iha : SE T M xa a) (ihb : SE T M xa b) (ihc : SE T M xa c) : ST T M xa (.tch o p a b c) := by
  intro X W e g h
  unfold okT at h
  split at h
  · rename_i x o' p' y z pos
    simp only [Bool.and_eq_true, decide_eq_true_eq] at h
    obtain ⟨⟨⟨⟨h1, h2⟩, h3⟩, h4⟩, h5⟩ := h
    subst h1
    subst h2
    obtain ⟨ta, pa, sa⟩ := iha X W x g h3
    obtain ⟨tb, pb, sb⟩ := ihb X W y g h4
    obtain ⟨tc, pc, sc⟩ := ihc X W z g h5
    obtain ⟨k, room, _⟩ := g.lv
    refine ⟨_, pt_chain (op_co (by have := room.un; omega) o) (op_co (by have := room.un; omega) p) pa pb pc (marks2 _ _ h4 h5), fun B old O σ H η Q r q => ?_⟩
    unfold evt at q
    refine sa.run r q fun x v H1 s1 vx q1 => ?_
    refine sb.run (r.ext s1) q1 fun y w H2 s2 vy q2 => ?_
    refine chain_ok sc r (s1.trans s2) (vx.ext s2) (vy.back s1) ?_
    exact q2.imp fun k q3 H' s' => ⟨k, rfl, q3 H' s'⟩
  · cases h
variable (T M xa) in
def SEs : E → Prop
  | .cons e es => SE T M xa e ∧ SEs es
  | _ => True
theorem pa_ints {X : Cx} : ∀ {es : List Expr} {k : List Int}, intsB es k = true → ∃ t, PA X es t ∧ ∀ σ H Q, Q (k.map V.int) H → t σ H Q
  | [], [], _ => ⟨_, pa_nil, fun σ H Q q => q⟩
  | .Constant (.int i) a b :: es, j :: k, h => by
    simp only [intsB, Bool.and_eq_true, decide_eq_true_eq] at h
    obtain ⟨rfl, h⟩ := h
    obtain ⟨t, pt, q⟩ := pa_ints h
    exact ⟨_, pa_cons pe_int pt, fun σ H Q w => q σ H _ w⟩
  | [], _ :: _, h => by cases h
theorem dis_ok {X : Cx} {W : WX} (g : GX T M xa X W) (pos : Pos) (vs : E) : ∀ (keys : List (Option Expr)) (values : List Expr) (ks : List (List Int)), SEs T M xa vs → keysB keys ks = true → okEs M X.N X.env.scope values vs = true → keys.length = values.length →
    ∃ trs, PPs X pos keys values trs ∧ ∀ B old O σ H η Q, ER X.K B old O H σ η → Rs (XH X.K xa W B old η) (fun (xs : List Val) => ∃ ns, intsOf (xs.map Val.d) = some ns ∧ ns.length = ks.length ∧ ∀ ps H', Same H H' → PsR H' ps (ks.zip ns) → Q ps H') (evs T vs η) → tPairs trs σ H Q := by
  induction vs with
  | nil =>
    intro keys values ks _ hk hv hl
    cases values with
    | cons a l => exact absurd hv (by simp [okEs])
    | nil =>
      cases keys with
      | cons a l => cases hl
      | nil =>
        cases ks with
        | cons a l => cases hk
        | nil =>
          refine ⟨[], pps_nil, fun B old O σ H η Q r q => ?_⟩
          unfold evs at q
          obtain ⟨ns, e, hl, q⟩ := q
          cases e
          exact q [] H (Same.refl H) trivial
  | cons e es _ ih =>
    intro keys values ks hs hk hv hl
    cases values with
    | nil => exact absurd hv (by simp [okEs])
    | cons v vl =>
      simp only [okEs, Bool.and_eq_true] at hv
      cases keys with
      | nil => cases hl
      | cons kk kl =>
        cases ks with
        | nil => cases kk <;> first | cases hk | (rename_i w; cases w <;> cases hk)
        | cons k ks =>
          obtain ⟨es', kn, p1, rfl, hk1, hk3, hk2⟩ : ∃ es' kn p1, kk = some (.Tuple es' kn p1) ∧ intsB es' k = true ∧ k.length ≤ 1000 ∧ keysB kl ks = true := by
            cases kk with
            | none => cases hk
            | some w =>
              cases w with
              | Tuple es' kn p1 =>
                simp only [keysB, Bool.and_eq_true, decide_eq_true_eq] at hk
                exact ⟨_, _, _, rfl, hk.1.1, hk.1.2, hk.2⟩
              | _ => cases hk
          obtain ⟨tk, pk, qk⟩ := pa_ints (X := X) hk1
          obtain ⟨tv, pv', sv⟩ := hs.1 X W v g hv.1
          obtain ⟨trs, pt, qt⟩ := ih _ _ _ hs.2 hk2 hv.2 (by simpa using hl)
          refine ⟨_, pps_cons (pe_tup pk) pv' pt, fun B old O σ H η Q r q => ?_⟩
          refine qk σ H _ ⟨len_ok (by rw [List.length_map]; exact hk3), fun p hp => ?_⟩
          have e0 : evs T (.cons e es) η = (ev T e η).bind fun x => (evs T es η).bind fun xs => .ok (x :: xs) := by rw [evs]
          rw [e0] at q
          refine sv.run (r.ext (same_upd hp)) q fun x v H1 s1 vx q1 => ?_
          refine qt _ _ _ _ _ _ _ ((r.ext (same_upd hp)).ext s1) (q1.bind.imp fun xs q2 => ?_)
          obtain ⟨ns, en, hln, q3⟩ := q2
          rw [List.map_cons] at en
          have ex : ∃ i ns', x.d = .int i ∧ ns = i :: ns' ∧ intsOf (xs.map Val.d) = some ns' := by
            revert en
            generalize x.d = d
            intro en
            cases d with
            | int i =>
              unfold intsOf at en
              cases e2 : intsOf (xs.map Val.d) with
              | none => rw [e2] at en; cases en
              | some ns' =>
                rw [e2] at en
                cases en
                exact ⟨i, ns', rfl, rfl, rfl⟩
            | _ => unfold intsOf at en; cases en
          obtain ⟨i, ns', exd, rfl, en'⟩ := ex
          have rv := vx.any
          rw [exd] at rv
          cases rv
          refine ⟨ns', en', by simpa using hln, fun ps H' s' rp => ?_⟩
          refine q3 _ H' (((same_upd hp).trans s1).trans s') ⟨⟨p, rfl, s' _ _ (s1 _ _ upd_same)⟩, rfl, rp⟩
  | _ => intro keys values ks _ _ hv; exact absurd hv (by simp [okEs])
theorem disL_zip : ∀ (ks : List (List Int)) (ns : List Int) (acc : Dl), ns.length = ks.length → disL acc ks ns = some (putAll acc (ks.zip ns))
  | [], [], acc, _ => rfl
  | k :: ks, n :: ns, acc, h => by
    rw [disL, disL_zip ks ns _ (by simpa using h)]
    rfl
  | [], _ :: _, _, h => by cases h
  | _ :: _, [], _, h => by cases h
theorem disL_len : ∀ (ks : List (List Int)) (ns : List Int) (acc l : Dl), disL acc ks ns = some l → ns.length = ks.length
  | [], [], _, _, _ => rfl
  | k :: ks, n :: ns, acc, l, h => by
    rw [disL] at h
    rw [List.length_cons, List.length_cons, disL_len ks ns _ _ h]
  | [], _ :: _, _, _, h => by cases h
  | _ :: _, [], _, _, h => by cases h
theorem s_dis {ks : List (List Int)} {vs : E} (ih : SEs T M xa vs) : SE T M xa (.dis ks vs) := by
  intro X W e g h
  unfold okE at h
  split at h
  · rename_i keys values pos
    simp only [Bool.and_eq_true, decide_eq_true_eq, Bool.not_eq_true', List.isEmpty_eq_false_iff] at h
    obtain ⟨⟨⟨⟨h1, h2⟩, h3⟩, h4⟩, h5⟩ := h
    obtain ⟨n, room, _⟩ := g.lv
    have hu : X.A.units < cLine := by
      have := room.units
      omega
    obtain ⟨trs, pt, qt⟩ := dis_ok g pos vs keys values ks ih h1 h2 h5
    have hall : ∀ (keys : List (Option Expr)) (ks : List (List Int)), keysB keys ks = true → keys.all (·.isSome) = true := by
      intro keys
      induction keys with
      | nil => intro _ _; rfl
      | cons k keys ih =>
        intro ks hk
        cases ks with
        | nil => cases k <;> first | cases hk | (rename_i w; cases w <;> cases hk)
        | cons k2 ks =>
          cases k with
          | none => cases hk
          | some w =>
            cases w with
            | Tuple es kn p =>
              simp only [keysB, Bool.and_eq_true] at hk
              rw [List.all_cons, ih ks hk.2]
              rfl
            | _ => cases hk
    refine ⟨_, pe_disT hu pt (hall keys ks h1) h5 h4 h3, fun B old O σ H η Q r q p hp => ?_⟩
    unfold ev at q
    refine qt _ _ _ _ _ _ _ (r.ext (same_upd hp)) (q.bind.imp fun xs q1 => ?_)
    obtain ⟨ns, en, q2⟩ := oOk_ok q1.bind
    obtain ⟨l, el, q3⟩ := oOk_ok q2.bind
    have hl := disL_len _ _ _ _ el
    rw [disL_zip _ _ _ hl] at el
    cases el
    refine ⟨ns, en, hl, fun ps H' s' rp => ⟨s' _ _ upd_same, _, rp, ?_⟩⟩
    have e2 : H' p = some (.dT []) := s' _ _ upd_same
    refine q3 _ _ (fun b o e => ?_) ⟨p, rfl, hp, upd_same⟩
    have nb : b ≠ p := fun z => by rw [z, hp] at e; cases e
    rw [upd_ne nb]
    exact s' _ _ (by rw [upd_ne nb]; exact e)
  · cases h
theorem s_isx {a : E} {j : Nat} (ih : SE T M xa a) : SE T M xa (.isx a j) := by
  intro X W e g h
  unfold okE at h
  split at h
  · rename_i x p1 y z p2 p3
    simp only [Bool.and_eq_true, decide_eq_true_eq] at h
    obtain ⟨⟨⟨⟨⟨⟨hh, h0⟩, h1⟩, h2⟩, h3⟩, h5⟩, h4⟩ := h
    subst h0
    obtain ⟨t, ht, hq⟩ := ih X W _ g h4
    have hm := g.exm j z h2
    have hz : PE X (.Name z p2) (tC (.ref (xa j))) := pe_glob (gl_of h3) hm (show RelV (.ref (xa j)) (.ref (xa j)) from rfl) (name_of h5).1
    have hst : starEach (y :: [.Name z p2]) X.env = (false, eval y X.env) :: starEach [.Name z p2] X.env := star_of h4 _ _
    refine ⟨tCB (rIsT X.K) (tCons t (tCons (tC (.ref (xa j))) tNil)), pe_callB call_isT (gl_of h1) (g.blt _ (by decide)) (by decide +kernel) (pa_cons ht (pa_cons hz pa_nil) hst) (by decide) (by decide) hst (by rfl), fun B old O σ H η Q r q => ?_⟩
    unfold ev at q
    refine hq.run r q fun x v H1 s1 vx q1 => ?_
    obtain ⟨c, e1, q2⟩ := oOk_ok q1.bind
    obtain ⟨a, D, n, rfl, e2, e3, e4⟩ := exN_ok vx.any e1
    have e5 := g.exn c n e2
    rw [e3] at e5
    cases e5
    obtain ⟨_, hc⟩ := g.hx hh
    obtain ⟨C, _, k⟩ := hc c
    exact ⟨a, _, _, .ref (xa j), _, rfl, e4, C, fun u r => r, k j z h2, q2 _ H1 s1 (VR.mkBool _)⟩
  · cases h
theorem s_isv {a : E} (ih : SE T M xa a) : SE T M xa (.isv a) := by
  intro X W e g h
  unfold okE at h
  split at h
  · rename_i x p1 y z p2 p3
    simp only [Bool.and_eq_true, decide_eq_true_eq] at h
    obtain ⟨⟨⟨⟨⟨hh, h0⟩, h1⟩, h2⟩, h3⟩, h4⟩ := h
    subst h0
    subst h2
    obtain ⟨hve, hc⟩ := g.hx hh
    obtain ⟨t, ht, hq⟩ := ih X W _ g h4
    have hz : PE X (.Name "ValueError" p2) (tC (.ty "ValueError")) := pe_bltn (gl_of h3) hve (by decide +kernel) rfl (by decide) (by decide)
    have hst : starEach (y :: [.Name "ValueError" p2]) X.env = (false, eval y X.env) :: starEach [.Name "ValueError" p2] X.env := star_of h4 _ _
    refine ⟨tCB (rIsT X.K) (tCons t (tCons (tC (.ty "ValueError")) tNil)), pe_callB call_isT (gl_of h1) (g.blt _ (by decide)) (by decide +kernel) (pa_cons ht (pa_cons hz pa_nil) hst) (by decide) (by decide) hst (by rfl), fun B old O σ H η Q r q => ?_⟩
    unfold ev at q
    refine hq.run r q fun x v H1 s1 vx q1 => ?_
    obtain ⟨c, e1, q2⟩ := oOk_ok q1.bind
    obtain ⟨a, D, n, rfl, e2, e3, e4⟩ := exN_ok vx.any e1
    have e5 := g.exn c n e2
    rw [e3] at e5
    cases e5
    obtain ⟨C, k, _⟩ := hc c
    exact ⟨a, _, _, .type "ValueError", _, rfl, e4, C, fun u r => r, k, q2 _ H1 s1 (VR.mkBool _)⟩
  · cases h
theorem s_nil : SA T M xa .nil := by
  intro X W es g h
  cases es with
  | nil => exact ⟨_, pa_nil, fun B old O σ H η Q r q => q rfl [] H (Same.refl H) trivial⟩
  | cons a l => exact absurd h (by simp [okEs])
theorem s_cons {a as : E} (iha : SE T M xa a) (ihs : SA T M xa as) : SA T M xa (.cons a as) := by
  intro X W es g h
  cases es with
  | nil => exact absurd h (by simp [okEs])
  | cons x l =>
    simp only [okEs, Bool.and_eq_true] at h
    obtain ⟨ta, pa, sa⟩ := iha X W x g h.1
    obtain ⟨ts, ps, ss⟩ := ihs X W l g h.2
    refine ⟨_, pa_cons pa ps (star_of h.1 _ _), fun B old O σ H η Q r q => ?_⟩
    have e0 : evs T (.cons a as) η = (ev T a η).bind fun x => (evs T as η).bind fun xs => .ok (x :: xs) := by rw [evs]
    rw [e0] at q
    cases e1 : ev T a η with
    | ok x =>
      rw [e1] at q
      refine sa B old O σ H η _ r ?_
      rw [e1]
      intro v H1 s1 vx
      refine ss B old O σ H1 η _ (r.ext s1) ?_
      have q := Rs.bind (r := evs T as η) q
      refine q.imp fun xs k exs vs H2 s2 vr => ?_
      refine k ?_ (v :: vs) H2 (s1.trans s2) ⟨vx.ext s2, vr.back s1⟩
      show (evs T as η).bind (fun xs => Res.ok (x :: xs)) = _
      rw [exs]
      rfl
    | ex c =>
      rw [e1] at q
      refine sa B old O σ H η _ r ?_
      rw [e1]
      exact q
    | st =>
      rw [e1] at q
      exact q.elim
theorem t_tst {a : E} (iha : SE T M xa a) : ST T M xa (.tst a) := by
  intro X W e g h
  simp only [okT, Bool.and_eq_true] at h
  obtain ⟨ta, pa, sa⟩ := iha X W e g h.1
  refine ⟨_, pt_truth pa (fun wh => ?_), fun B old O σ H η Q r q => ?_⟩
  · have h2 := h.2
    cases e with
    | UnaryOp o x p =>
      cases o <;> first | rfl | (cases h2)
    | BoolOp => cases h2
    | IfExp => cases h2
    | Compare => cases h2
    | _ => rfl
  · unfold evt at q
    refine sa.run r q fun x v H1 s1 vx q1 => ?_
    obtain ⟨b, k1, k2⟩ := tru_ok' (K := X.K) (k := fun b => ∀ H', Same H H' → Q b H') vx.any q1
    exact ⟨b, k1, k2 H1 s1⟩
theorem t_cmp {o : Co} {a b : E} (iha : SE T M xa a) (ihb : SE T M xa b) : ST T M xa (.tcmp o a b) := by
  intro X W e g h
  unfold okT at h
  split at h
  · rename_i x p y pos
    simp only [Bool.and_eq_true, decide_eq_true_eq] at h
    obtain ⟨⟨h1, h2⟩, h3⟩ := h
    subst h1
    obtain ⟨ta, pa, sa⟩ := iha X W x g h2
    obtain ⟨tb, pb, sb⟩ := ihb X W y g h3
    obtain ⟨k, room, _⟩ := g.lv
    exact ⟨_, pt_cmpR (op_co (by have := room.un; omega) o) pa pb (marks_of _ h3), snd2t sa sb (co_ok o)⟩
  · cases h
theorem t_not {a : E} (iha : ST T M xa a) : ST T M xa (.tnot a) := by
  intro X W e g h
  unfold okT at h
  split at h
  · obtain ⟨ta, pa, sa⟩ := iha X W _ g h
    refine ⟨_, pt_not pa, fun B old O σ H η Q r q => ?_⟩
    unfold evt at q
    exact sa.run r q fun c H1 s1 q1 => q1 H1 s1
  · cases h
theorem pw_bop_and {x y : Expr} {xs : List Expr} {p : Pos} (h : ∃ t, PT X (.BoolOp .And (y :: xs) p) t) : True := trivial
variable (T M xa) in
/-- and, or stand as a test whatever their whole is -/
def SW (x : E) : Prop := ∀ X W op l p, GX T M xa X W → okT M X.N X.env.scope (.BoolOp op l p) x = true → ∃ t, PW X (.BoolOp op l p) t ∧ SndT xa X W t (evt T x)
theorem w_bone {k : Bool} {a : E} (iha : ST T M xa a) : SW T M xa (.tbone k a) := by
  intro X W op l p g h
  unfold okT at h
  split at h
  · rename_i e1
    cases e1
    simp only [Bool.and_eq_true] at h
    obtain ⟨ta, pa, sa⟩ := iha X W _ g h.2
    exact ⟨_, pw_and1 pa, sa⟩
  · rename_i e1
    cases e1
    simp only [Bool.and_eq_true] at h
    obtain ⟨ta, pa, sa⟩ := iha X W _ g h.2
    exact ⟨_, pw_or1 pa, sa⟩
  · cases h
theorem w_bop {k : Bool} {a r : E} (iha : ST T M xa a) (ihr : SW T M xa r) : SW T M xa (.tbop k a r) := by
  intro X W op l p g h
  unfold okT at h
  split at h
  · rename_i e1
    cases e1
    simp only [Bool.and_eq_true] at h
    obtain ⟨⟨h1, h2⟩, h3⟩ := h
    subst h1
    obtain ⟨ta, pa, sa⟩ := iha X W _ g h2
    obtain ⟨tr, pr, sr⟩ := ihr X W _ _ _ g h3
    refine ⟨_, pw_and pa pr, fun B old O σ H η Q rr q => ?_⟩
    unfold evt at q
    refine sa.run rr q fun c H1 s1 q1 => ?_
    cases c with
    | true => exact iteT (sr _ _ _ _ _ _ _ (rr.ext s1) (q1.imp fun b k H2 s2 => k H2 (s1.trans s2)))
    | false => exact iteF (q1 H1 s1)
  · rename_i e1
    cases e1
    simp only [Bool.and_eq_true, Bool.not_eq_true'] at h
    obtain ⟨⟨h1, h2⟩, h3⟩ := h
    subst h1
    obtain ⟨ta, pa, sa⟩ := iha X W _ g h2
    obtain ⟨tr, pr, sr⟩ := ihr X W _ _ _ g h3
    refine ⟨_, pw_or pa pr, fun B old O σ H η Q rr q => ?_⟩
    unfold evt at q
    refine sa.run rr q fun c H1 s1 q1 => ?_
    cases c with
    | true => exact iteT (q1 H1 s1)
    | false => exact iteF (sr _ _ _ _ _ _ _ (rr.ext s1) (q1.imp fun b k H2 s2 => k H2 (s1.trans s2)))
  · cases h
end
end PD

/-! PD5: comprehensions, walked things, the theorem on expressions. -/
namespace PD
open PySem PySem.Spec PyProof.Rows L2
section
variable {T : Tb} {M : Nm} {xa : Nat → Addr} {X : Cx} {W : WX}
variable {K : Fg} {B : Addr → Prop} {old : Old} {O : Ow} {H H0 H1 H' H'' : Hp} {σ : L2.St} {η : Env}
theorem o_nop : SO T M xa .nop := by
  intro X W e g h
  cases e with
  | none => exact ⟨_, po_none, fun B old O σ H η Q r q => q H (Same.refl H)⟩
  | some e => cases h
theorem o_sop {a : E} (iha : SE T M xa a) : SO T M xa (.sop a) := by
  intro X W e g h
  cases e with
  | none => cases h
  | some e =>
    obtain ⟨ta, pa, sa⟩ := iha X W e g h
    refine ⟨_, po_some pa, fun B old O σ H η Q r q => ?_⟩
    unfold evo at q
    refine sa.run r q fun x v H1 s1 vx q1 => ?_
    obtain ⟨i, e1, _, k⟩ := int_ok vx q1.bind
    exact ⟨i, e1, k H1 s1⟩
theorem small_of {i : Int} (h : small i) : -(2 ^ 62) ≤ i ∧ i < 2 ^ 62 := h
theorem i_r1 {a : E} (iha : SE T M xa a) : SI T M xa (.ir1 a) := by
  intro X W tg e g h
  unfold okI at h
  split at h
  · rename_i x p y pos
    simp only [Bool.and_eq_true, decide_eq_true_eq] at h
    obtain ⟨⟨h1, h2⟩, h3⟩ := h
    subst h1
    obtain ⟨ta, pa, sa⟩ := iha X W y g h3
    refine ⟨⟨_, pi_range1 (gl_of h2) (g.blt _ (by decide)) (pa_cons pa pa_nil (star_of h3 _ _)) (star_of h3 _ _), fun B old O σ H η R r q => ?_⟩, fun _ => rfl⟩
    unfold evi at q
    refine sa.run r q fun x v H1 s1 vx q1 => ?_
    obtain ⟨i, e1, _, k⟩ := int_ok vx q1.bind
    split at k
    · rename_i hs
      obtain ⟨b1, b2⟩ := small_of hs
      exact ⟨i, by rw [e1], b1, b2, k _ H1 s1 rfl⟩
    · exact k.elim
  · cases h
theorem i_r2 {a b : E} (iha : SE T M xa a) (ihb : SE T M xa b) : SI T M xa (.ir2 a b) := by
  intro X W tg e g h
  unfold okI at h
  split at h
  · rename_i x p y z pos
    simp only [Bool.and_eq_true, decide_eq_true_eq] at h
    obtain ⟨⟨⟨h1, h2⟩, h3⟩, h4⟩ := h
    subst h1
    obtain ⟨ta, pa, sa⟩ := iha X W y g h3
    obtain ⟨tb, pb, sb⟩ := ihb X W z g h4
    have e2 : starEach [z] X.env = [(false, eval z X.env)] := star_of h4 _ _
    have e1 : starEach [y, z] X.env = [(false, eval y X.env), (false, eval z X.env)] := by rw [star_of h3, e2]
    refine ⟨⟨_, pi_range2 (gl_of h2) (g.blt _ (by decide)) (pa_cons pa (pa_cons pb pa_nil (star_of h4 _ _)) (star_of h3 _ _)) e1 e2, fun B old O σ H η R r q => ?_⟩, fun _ => rfl⟩
    unfold evi at q
    refine sa.run r q fun x v H1 s1 vx q1 => ?_
    refine sb.run (r.ext s1) q1 fun y w H2 s2 vy q2 => ?_
    obtain ⟨i, e3, _, k⟩ := int_ok vx q2.bind
    obtain ⟨j, e4, _, k⟩ := int_ok vy k.bind
    split at k
    · rename_i hs
      obtain ⟨b1, b2⟩ := small_of hs.1
      obtain ⟨b3, b4⟩ := small_of hs.2
      exact ⟨i, j, by rw [e3, e4], ⟨b1, b2, b3, b4⟩, k _ H2 (s1.trans s2) rfl⟩
    · exact k.elim
  · cases h
theorem i_v {a : E} (iha : SE T M xa a) : SI T M xa (.itv a) := by
  intro X W tg e g h
  simp only [okI, Bool.and_eq_true] at h
  obtain ⟨ta, pa, sa⟩ := iha X W e g h.1
  refine ⟨⟨fun σ H R => iList X.K ta σ H R ∨ iTup X.K ta σ H R, ⟨fun pins s σ H R I q => ?_⟩, fun B old O σ H η R r q => ?_⟩, fun y => ?_⟩
  · rcases q with q | q
    · exact (pi_list pa).run pins s σ H R I q
    · exact (pi_tup pa).run pins s σ H R I q
  · unfold evi at q
    cases e1 : ev T a η with
    | ok x =>
      rw [e1] at q
      obtain ⟨ds, h1, k⟩ := oOk_ok (Rs.bind (r := oOk x.d.seq) q)
      cases h2 : x.d with
      | list es =>
        refine .inl (sa B old O σ H η _ r ?_)
        rw [e1]
        intro v H1 s1 vx
        obtain ⟨a, vs, rfl, ra, hk⟩ := vx.seqD h1
        rcases hk with ⟨h3, hs⟩ | ⟨h3, _, hs⟩
        · exact ⟨a, rfl, ⟨vs, hs⟩, k _ H1 s1 ⟨a, vx, .inl ⟨_, h3, rfl⟩⟩⟩
        · rw [h2] at h3; cases h3
      | tuple es =>
        refine .inr (sa B old O σ H η _ r ?_)
        rw [e1]
        intro v H1 s1 vx
        obtain ⟨a, vs, rfl, ra, hk⟩ := vx.seqD h1
        rcases hk with ⟨h3, hs⟩ | ⟨h3, _, hs⟩
        · rw [h2] at h3; cases h3
        · exact ⟨a, rfl, ⟨vs, hs⟩, k _ H1 s1 ⟨a, vx, .inr ⟨_, h3, rfl⟩⟩⟩
      | _ => rw [h2] at h1; cases h1
    | ex c =>
      rw [e1] at q
      refine .inl (sa B old O σ H η _ r ?_)
      rw [e1]
      exact q
    | st => rw [e1] at q; exact q.elim
  · have h2 := h.2
    cases e with
    | Set => cases h2
    | _ => rfl

/-- a new dict is walked: nobody else knows it, it stays locked -/
def iKeysL (td : TE) : TI := fun σ H R => td σ H fun x H1 => ∃ d kvs, x = .ref d ∧ H1 d = some (.dT kvs) ∧ ∀ od, R (Itkt d od kvs) (upd H1 d (.frz od (.dT kvs)))
theorem pi_keysL {X : Cx} {tg e : Expr} {td : TE} (he : PE X e td) : PI X tg e (iKeysL td) := by
  refine ⟨fun pins s σ H R I h => ?_⟩
  refine thn (he.run pins s σ H _ I h) fun u s1 ⟨x, H1, I1, rx, d, kvs, ex, hd, q⟩ => ?_
  subst ex
  obtain rfl : u = Value.ref d := rx
  obtain ⟨od, I2⟩ := I1.lock hd True.intro
  obtain ⟨hs, hgd, hx, es, ep, hdt, hsz, ent⟩ := I2.frzT upd_same
  refine iter_keys hs hgd hx hdt (pi_one (tk := s1.toks) I2 _ (turn_keysT _ hdt) ⟨_, Heap.get?_push_size _ rfl, rfl, ?_⟩ (q od))
  rw [hsz] <;> rfl
theorem i_d {a : E} (iha : SE T M xa a) : SI T M xa (.itd a) := by
  intro X W tg e g h
  simp only [okI, Bool.and_eq_true] at h
  obtain ⟨ta, pa, sa⟩ := iha X W e g h.1
  refine ⟨⟨_, pi_keysL pa, fun B old O σ H η R r q => ?_⟩, fun y => ?_⟩
  · unfold evi at q
    refine sa.run r q fun x v H1 s1 vx q1 => ?_
    obtain ⟨l, e1, k⟩ := oOk_ok q1.bind
    cases x with
    | nd l' =>
      cases e1
      obtain ⟨a, rfl, h1, h2⟩ := vx
      refine ⟨a, _, rfl, h2, fun od => k _ _ (fun b o e => ?_) ⟨a, od, h1, upd_same, rfl⟩⟩
      have nb : b ≠ a := fun z => by rw [z, h1] at e; cases e
      rw [upd_ne nb]
      exact s1 _ _ e
    | _ => cases e1
  · have h2 := h.2
    cases e with
    | Set => cases h2
    | _ => rfl

theorem i_s {a : E} (iha : SE T M xa a) : SI T M xa (.its a) := by
  intro X W tg e g h
  simp only [okI, Bool.and_eq_true] at h
  obtain ⟨ta, pa, sa⟩ := iha X W e g h.1
  refine ⟨⟨_, pi_str pa, fun B old O σ H η R r q => ?_⟩, fun y => ?_⟩
  · unfold evi at q
    refine sa.run r q fun x v H1 s1 vx q1 => ?_
    obtain ⟨z, e1, k⟩ := oOk_ok q1.bind
    unfold strOf at e1
    split at e1
    · cases e1
      cases vx.str
      exact ⟨z, rfl, k _ H1 s1 rfl⟩
    · cases e1
  · have h2 := h.2
    cases e with
    | Set => cases h2
    | _ => rfl

/-! ### readings without a term -/
def can (K : Fg) (xa : Nat → Addr) (W : WX) (f : Env → Res Val) : TE := fun σ H Q => ∃ B old O η, ER K B old O H σ η ∧
  Rs (XH K xa W B old η) (fun x => ∀ v H', Same H H' → VR K B O H H' v x → Q v H') (f η)
def canT (K : Fg) (xa : Nat → Addr) (W : WX) (f : Env → Res Bool) : TT := fun σ H Q => ∃ B old O η, ER K B old O H σ η ∧
  Rs (XH K xa W B old η) (fun x => ∀ H', Same H H' → Q x H') (f η)
theorem SE.can {x : E} (h : SE T M xa x) {e : Expr} (g : GX T M xa X W) (k : okE M X.N X.env.scope e x = true) : PE X e (can X.K xa W (ev T x)) := by
  obtain ⟨t, pt, st⟩ := h X W e g k
  refine ⟨fun pins s σ H Q I hq => ?_⟩
  obtain ⟨B, old, O, η, r, q⟩ := hq
  exact pt.run pins s σ H Q I (st B old O σ H η Q r q)
theorem i_r3 {a b : E} {c : Int} (iha : SE T M xa a) (ihb : SE T M xa b) : SI T M xa (.ir3 a b c) := by
  intro X W tg e g h
  have go : ∀ (x : Str) (p : Pos) (y z k : Expr) (pos : Pos), x = "range" → glB X.env.scope x = true → okE M X.N X.env.scope y a = true → okE M X.N X.env.scope z b = true → PE X k (tC (.int c)) → starEach [k] X.env = [(false, eval k X.env)] →
      (∃ t, PI X tg (.Call (.Name x p) [y, z, k] [] pos) t ∧ SndI xa X W t (evi T (.ir3 a b c))) := by
    intro x p y z k pos h1 h2 h3 h4 pk e3
    subst h1
    obtain ⟨ta, pa, sa⟩ := iha X W y g h3
    obtain ⟨tb, pb, sb⟩ := ihb X W z g h4
    have e2 : starEach [z, k] X.env = [(false, eval z X.env), (false, eval k X.env)] := by rw [star_of h4, e3]
    have e1 : starEach [y, z, k] X.env = (false, eval y X.env) :: starEach [z, k] X.env := by rw [star_of h3]
    refine ⟨_, pi_range3 (gl_of h2) (g.blt _ (by decide)) (pa_cons pa (pa_cons pb (pa_cons pk pa_nil (by rw [e3]; rfl)) (star_of h4 _ _)) (star_of h3 _ _)) e1 (by rw [e2]; rfl), fun B old O σ H η R r q => ?_⟩
    unfold evi at q
    refine sa.run r q fun x v H1 s1 vx q1 => ?_
    refine sb.run (r.ext s1) q1 fun y w H2 s2 vy q2 => ?_
    obtain ⟨i, e3, _, k⟩ := int_ok vx q2.bind
    obtain ⟨j, e4, _, k⟩ := int_ok vy k.bind
    unfold rgV at k
    split at k
    · rename_i hs
      exact ⟨i, j, c, _, by rw [e3, e4], Classical.choose_spec hs, k _ H2 (s1.trans s2) rfl⟩
    · exact k.elim
  unfold okI at h
  split at h
  · rename_i x p y z k k1 k2 pos
    simp only [Bool.and_eq_true, decide_eq_true_eq] at h
    obtain ⟨⟨⟨⟨h1, h2⟩, h3⟩, h4⟩, h5⟩ := h
    subst h5
    exact ⟨go x p y z _ pos h1 h2 h3 h4 pe_int rfl, fun _ => rfl⟩
  · rename_i x p y z k k1 k2 k3 pos
    simp only [Bool.and_eq_true, decide_eq_true_eq] at h
    obtain ⟨⟨⟨⟨h1, h2⟩, h3⟩, h4⟩, h5⟩ := h
    subst h5
    refine ⟨go x p y z _ pos h1 h2 h3 h4 ?_ rfl, fun _ => rfl⟩
    exact ⟨fun pins s σ H Q I w => (pe_un un_neg (show PE X (.Constant (.int k) _ _) (tC (.int k)) from pe_int)).run pins s σ H Q I ⟨k, rfl, w⟩⟩
  · cases h
theorem ST.can {x : E} (h : ST T M xa x) {e : Expr} (g : GX T M xa X W) (k : okT M X.N X.env.scope e x = true) : PT X e (canT X.K xa W (evt T x)) := by
  obtain ⟨t, pt, st⟩ := h X W e g k
  refine ⟨fun pins s σ H Q I hq => ?_⟩
  obtain ⟨B, old, O, η, r, q⟩ := hq
  exact pt.run pins s σ H Q I (st B old O σ H η Q r q)

/-- an item as it stood ahead, or a plain one as it stands now -/
def RpL (K : Fg) (A : Addr → Prop) (H1 H : Hp) (x : V) (d : D) : Prop := Rp K A H1 x d ∨ (lf d = true ∧ Rp K A H x d)
theorem RpL.now {A A' : Addr → Prop} {x : V} {d : PyData} (r : RpL K A H1 H x d) (c : Ca K A A' H1 H) : Rp K A' H x d := by
  rcases r with r | ⟨e, r⟩
  · exact r.ca c
  · exact r.free (fun _ _ h => h) e
theorem RpL.pair {A : Addr → Prop} {x : V} {d1 d2 : PyData} (s : Same H1 H) (r : RpL K A H1 H x (.tuple [d1, d2])) : ∃ a x1 x2, x = .ref a ∧ SqT K H a [x1, x2] ∧ RpL K A H1 H x1 d1 ∧ RpL K A H1 H x2 d2 := by
  rcases r with r | ⟨e, r⟩
  · cases r with
    | tup ht ra =>
      cases ra with
      | cons r1 ra =>
      cases ra with
      | cons r2 ra =>
      cases ra
      exact ⟨_, _, _, rfl, sqt_same s ht, .inl r1, .inl r2⟩
  · cases r with
    | tup ht ra =>
      cases ra with
      | cons r1 ra =>
      cases ra with
      | cons r2 ra =>
      cases ra
      simp only [lf, lfAll, Bool.and_eq_true] at e
      exact ⟨_, _, _, rfl, ht, .inr ⟨e.1, r1⟩, .inr ⟨e.2.1, r2⟩⟩
/-- what is walked yields its items, as long as the heap only grows -/
theorem WkR.step {J : It} {w : Wk} {i : Nat} (r : WkR K B O H0 H1 J w) (hw : ∀ x, w = .v x → x.d.seq ≠ none) (s : Same H1 H) :
    (w.ds.length ≤ i → J.stop i H) ∧ ∀ d, w.ds[i]? = some d → J.go i H ∧ ∀ x H', J.yld i H x H' → H' = H ∧ RpL K (Own O B) H1 H x d := by
  cases w with
  | v x =>
    obtain ⟨a, vx, hj⟩ := r
    cases h1 : x.d.seq with
    | none => exact absurd h1 (hw x rfl)
    | some ds =>
      have eds : (Wk.v x).ds = ds := by
        show x.d.seq.getD [] = ds
        rw [h1]
        rfl
      rw [eds]
      obtain ⟨a', vs, ea, ra, hk⟩ := vx.seqD h1
      cases ea
      rcases hj with ⟨es, h2, rfl⟩ | ⟨es, h2, rfl⟩
      · rcases hk with ⟨_, hs⟩ | ⟨h3, _, _⟩
        · have hs' := s.seq hs
          refine ⟨fun hl => ⟨vs, hs', by rw [ra.length]; exact hl⟩, fun d hd => ?_⟩
          obtain ⟨v, e1, e2⟩ := ra.get hd
          refine ⟨⟨vs, v, hs', e1⟩, fun x' H' y => ⟨y.1, ?_⟩⟩
          have := y.2 vs hs'
          rw [e1] at this
          cases this
          exact .inl e2
        · rw [h2] at h3; cases h3
      · rcases hk with ⟨h3, _⟩ | ⟨h3, _, hs⟩
        · rw [h2] at h3; cases h3
        · have hs' := sqt_same s hs
          refine ⟨fun hl => ⟨vs, hs', by rw [ra.length]; exact hl⟩, fun d hd => ?_⟩
          obtain ⟨v, e1, e2⟩ := ra.get hd
          refine ⟨⟨vs, v, hs', e1⟩, fun x' H' y => ⟨y.1, ?_⟩⟩
          have := y.2 vs hs'
          rw [e1] at this
          cases this
          exact .inl e2
  | d l =>
    obtain ⟨a, o, h0, h1, rfl⟩ := r
    have e : H a = some (.frz o (.dT (dV l))) := s _ _ h1
    have l1 : (Wk.d l).ds.length = l.length := List.length_map _
    have l2 : (dV l).length = l.length := List.length_map _
    refine ⟨fun h => ⟨e, by omega⟩, fun d hd => ?_⟩
    have hi := (List.getElem?_eq_some_iff.mp hd).1
    refine ⟨⟨e, by omega⟩, fun x H' y => ⟨y.1, ?_⟩⟩
    obtain ⟨_, k, v, q, e1, rfl, e2⟩ := y
    have hd : (dkeys l)[i]? = some d := hd
    unfold dkeys at hd
    unfold dV at e1
    rw [List.getElem?_map] at hd e1
    cases ep : l[i]? with
    | none => rw [ep] at hd; cases hd
    | some p =>
      rw [ep] at hd e1
      cases hd
      cases e1
      refine .inr ⟨?_, TkR.rp ⟨q, rfl, by rw [← key_kV]; exact e2⟩⟩
      have z : ∀ ns : List Int, lfAll (ns.map PyData.int) = true := by
        intro ns
        induction ns with
        | nil => rfl
        | cons n ns ih => simpa [lfAll, lf] using ih
      exact z p.1
  | txt z =>
    cases r
    have el : (Wk.txt z).ds.length = z.cps.size := by simp [Wk.ds]
    refine ⟨fun hl => by rw [el] at hl; exact hl, fun d hd => ?_⟩
    have hi : i < z.cps.size := by
      have := (List.getElem?_eq_some_iff.mp hd).1
      rw [el] at this
      exact this
    refine ⟨hi, fun x H' y => ⟨y.1, ?_⟩⟩
    obtain ⟨_, c, e1, rfl⟩ := y
    have hd : (z.cps.toList.map fun c => PyData.str ⟨#[c]⟩)[i]? = some d := hd
    rw [List.getElem?_map, Array.getElem?_toList, e1] at hd
    cases hd
    exact .inl (.str _)
  | r lo n =>
    cases r
    have el : (Wk.r lo n).ds.length = n := by simp [Wk.ds, rngD]
    refine ⟨fun hl => by rw [el] at hl; exact hl, fun d hd => ?_⟩
    have hi : i < n := by
      have := (List.getElem?_eq_some_iff.mp hd).1
      rw [el] at this
      exact this
    have ed : d = .int (lo + i) := by
      simp only [Wk.ds, rngD, List.getElem?_map, List.getElem?_range hi, Option.map_some, Option.some.injEq] at hd
      exact hd.symm
    subst ed
    exact ⟨hi, fun x H' y => ⟨y.1, by rw [y.2]; exact .inl (.int _)⟩⟩
  | c lo c n =>
    cases r
    have el : (Wk.c lo c n).ds.length = n := by simp [Wk.ds, rngC]
    refine ⟨fun hl => by rw [el] at hl; exact hl, fun d hd => ?_⟩
    have hi : i < n := by
      have := (List.getElem?_eq_some_iff.mp hd).1
      rw [el] at this
      exact this
    have ed : d = .int (lo + (i : Int) * c) := by
      simp only [Wk.ds, rngC, List.getElem?_map, List.getElem?_range hi, Option.map_some, Option.some.injEq] at hd
      exact hd.symm
    subst ed
    exact ⟨hi, fun x H' y => ⟨y.1, by rw [y.2]; exact .inl (.int _)⟩⟩
theorem rgV_nv {i j c : Int} {y : Val} : rgV i j c ≠ .ok (.v y) := by
  unfold rgV
  split
  · exact fun z => by cases z
  · exact fun z => by cases z
theorem evi_seq {x : E} {w : Wk} (h : evi T x η = .ok w) : ∀ y, w = .v y → y.d.seq ≠ none := by
  intro y e z
  subst e
  cases x with
  | itv a =>
    unfold evi at h
    cases e1 : ev T a η with
    | ok x =>
      rw [e1] at h
      have h : (oOk x.d.seq).map (fun _ => Wk.v x) = .ok (.v y) := h
      cases e2 : x.d.seq with
      | none => rw [e2] at h; cases h
      | some ds =>
        rw [e2] at h
        cases h
        rw [e2] at z; cases z
    | ex c => rw [e1] at h; cases h
    | st => rw [e1] at h; cases h
  | its a =>
    unfold evi at h
    cases e1 : ev T a η with
    | ok x =>
      rw [e1] at h
      have h : (oOk (strOf x)).map Wk.txt = .ok (.v y) := h
      cases e2 : strOf x with
      | none => rw [e2] at h; cases h
      | some ds => rw [e2] at h; cases h
    | ex c => rw [e1] at h; cases h
    | st => rw [e1] at h; cases h
  | itd a =>
    unfold evi at h
    cases e1 : ev T a η with
    | ok x =>
      rw [e1] at h
      have h : (oOk (newDl x)).map Wk.d = .ok (.v y) := h
      cases e2 : newDl x with
      | none => rw [e2] at h; cases h
      | some ds => rw [e2] at h; cases h
    | ex c => rw [e1] at h; cases h
    | st => rw [e1] at h; cases h
  | ir1 a =>
    unfold evi at h
    cases e1 : ev T a η with
    | ok x =>
      rw [e1] at h
      have h : (intOf x).bind (fun n => if small n then Res.ok (Wk.r 0 n.toNat) else .st) = Res.ok (Wk.v y) := h
      cases e2 : intOf x with
      | ok n =>
        rw [e2] at h
        have h : (if small n then Res.ok (Wk.r 0 n.toNat) else .st) = .ok (.v y) := h
        split at h <;> cases h
      | ex c => rw [e2] at h; cases h
      | st => rw [e2] at h; cases h
    | ex c => rw [e1] at h; cases h
    | st => rw [e1] at h; cases h
  | ir2 a b =>
    unfold evi at h
    cases e1 : ev T a η with
    | ok x =>
      rw [e1] at h
      have h : ((ev T b η).bind fun y => (intOf x).bind fun i => (intOf y).bind fun j => if small i ∧ small j then Res.ok (Wk.r i (j - i).toNat) else .st) = .ok (.v y) := h
      cases e2 : ev T b η with
      | ok z =>
        rw [e2] at h
        have h : ((intOf x).bind fun i => (intOf z).bind fun j => if small i ∧ small j then Res.ok (Wk.r i (j - i).toNat) else .st) = .ok (.v y) := h
        cases e3 : intOf x with
        | ok i =>
          rw [e3] at h
          have h : ((intOf z).bind fun j => if small i ∧ small j then Res.ok (Wk.r i (j - i).toNat) else .st) = .ok (.v y) := h
          cases e4 : intOf z with
          | ok j =>
            rw [e4] at h
            have h : (if small i ∧ small j then Res.ok (Wk.r i (j - i).toNat) else .st) = .ok (.v y) := h
            split at h <;> cases h
          | ex c => rw [e4] at h; cases h
          | st => rw [e4] at h; cases h
        | ex c => rw [e3] at h; cases h
        | st => rw [e3] at h; cases h
      | ex c => rw [e2] at h; cases h
      | st => rw [e2] at h; cases h
    | ex c => rw [e1] at h; cases h
    | st => rw [e1] at h; cases h
  | ir3 a b c =>
    unfold evi at h
    cases e1 : ev T a η with
    | ok x =>
      rw [e1] at h
      have h : ((ev T b η).bind fun y => (intOf x).bind fun i => (intOf y).bind fun j => rgV i j c) = .ok (.v y) := h
      cases e2 : ev T b η with
      | ok z =>
        rw [e2] at h
        have h : ((intOf x).bind fun i => (intOf z).bind fun j => rgV i j c) = .ok (.v y) := h
        cases e3 : intOf x with
        | ok i =>
          rw [e3] at h
          have h : ((intOf z).bind fun j => rgV i j c) = .ok (.v y) := h
          cases e4 : intOf z with
          | ok j =>
            rw [e4] at h
            exact absurd h rgV_nv
          | ex c => rw [e4] at h; cases h
          | st => rw [e4] at h; cases h
        | ex c => rw [e3] at h; cases h
        | st => rw [e3] at h; cases h
      | ex c => rw [e2] at h; cases h
      | st => rw [e2] at h; cases h
    | ex c => rw [e1] at h; cases h
    | st => rw [e1] at h; cases h
  | _ => cases h

/-! ### comprehensions -/
abbrev W0 : WX := fun _ _ _ _ => False
theorem takes_noneN {X : Cx} : L2N.Takes X (fun _ _ _ _ => False) := fun _ _ ⟨_, _, _, _, _, _, _, _, _, _, _, _, _, _, _, _, w⟩ => w.elim
theorem GX.blk (g : GX T M xa X W) (s : Shared) (H : Hp) (scope : Scope) (ce : PySem.Env) (fp : List Addr) : GX T M xa (X.blk s H scope ce fp) W0 where
  calm := g.calm
  nd := g.nd
  blt := g.blt
  lv := g.lv
  ls := g.ls
  gl := g.gl
  tk := takes_noneN
  py := ⟨g.py.ns, g.py.tr, g.py.dp, g.py.stk⟩
  hx := g.hx
  exm := g.exm
  exn := g.exn
theorem freeS_lt {v : Nat} (h : freeS η v = true) : v < η.length := by
  unfold freeS at h
  split at h
  · cases h
  · cases h
  · cases h
  · rename_i e
    exact (List.getElem?_eq_some_iff.mp e).1
  · cases h
theorem freeS_no {v : Nat} {a : Addr} (h : freeS η v = true) (r : ER K B old O H σ η) : O v ≠ some a := by
  intro e
  obtain ⟨s, q, hs⟩ := r.dom v a e
  unfold freeS at h
  rw [q] at h
  cases s <;> first | (cases hs; done) | (cases h; done)
/-- the names within a comprehension's turn -/
theorem ER.blk {v : Nat} {D : Addr} {x : V} {d : PyData} {vs : List V} (r : ER K B old O H σ η) (hv : freeS η v = true) (s : Same H H1) (hD : H1 D = none) (s' : Same H1 H') (hD' : H' D = some (.lst vs)) (rx : RpL K (Own O B) H1 H' x d) :
    ER K (fun a => B a ∨ a = D) old O H' (σ.set v (some x)) (η.set v (some (.sh d))) where
  len := by rw [List.length_set, List.length_set]; exact r.len
  sl := fun i z e => by
    have c : Ca K (Own O B) (Own O fun a => B a ∨ a = D) H H' := Ca.more (s.trans s') fun a q => by
      rcases q with q | q | q
      · exact .inl (.inl q)
      · exact .inl (.inr q)
      · exact .inr (q ▸ s.free hD)
    have hl : v < η.length := freeS_lt hv
    by_cases hi : v = i
    · subst hi
      rw [List.getElem?_set_self hl] at e
      cases e
      refine ⟨x, List.getElem?_set_self (by rw [r.len]; exact hl), rx.now (Ca.more s' fun a q => ?_)⟩
      rcases q with q | q | q
      · exact .inl (.inl q)
      · exact .inl (.inr q)
      · exact .inr (q ▸ hD)
    · rw [List.getElem?_set_ne hi] at e
      have q := r.sl i z e
      cases z with
      | sh d =>
        obtain ⟨w, q1, q2⟩ := q
        exact ⟨w, by rw [List.getElem?_set_ne hi]; exact q1, q2.ca c⟩
      | ow ds =>
        obtain ⟨a, ws, q0, q1, q2, q3⟩ := q
        exact ⟨a, ws, q0, by rw [List.getElem?_set_ne hi]; exact q1, s' _ _ (s _ _ q2), q3.ca c⟩
      | od l =>
        obtain ⟨a, q0, q1, q2⟩ := q
        exact ⟨a, q0, by rw [List.getElem?_set_ne hi]; exact q1, s' _ _ (s _ _ q2)⟩
      | kk k =>
        obtain ⟨w, q1, q2⟩ := q
        exact ⟨w, by rw [List.getElem?_set_ne hi]; exact q1, q2.ca c⟩
      | st xs =>
        obtain ⟨d, a, q0, q1, q2, q3, q4⟩ := q
        exact ⟨d, a, q0, by rw [List.getElem?_set_ne hi]; exact q1, s' _ _ (s _ _ q2), s' _ _ (s _ _ q3), q4⟩
      | fr d =>
        obtain ⟨w, q1, q2⟩ := q
        exact ⟨w, by rw [List.getElem?_set_ne hi]; exact q1, q2.ca c.or⟩
  dom := fun i a e => by
    obtain ⟨ds, q, hs⟩ := r.dom i a e
    have hi : v ≠ i := fun z => freeS_no hv r (z ▸ e)
    exact ⟨ds, by rw [List.getElem?_set_ne hi]; exact q, hs⟩
  inj := r.inj
  disj := fun i a e z => by
    rcases z with z | z
    · exact r.disj i a e z
    · exact r.lst e (by rw [z]; exact s.free hD)
  fr := r.fr
  same := (r.same.trans s).trans s'
  bt := fun a z q => by
    rcases z with z | z
    · exact r.bt a z (s.free (s'.free q))
    · rw [z, hD'] at q; cases q
  gh := r.gh.ca (Ca.more (s.trans s') fun a q => by
      rcases q with q | q | q
      · exact .inl (.inl q)
      · exact .inl (.inr q)
      · exact .inr (q ▸ s.free hD))
  fb := fun a h z => r.fb a h (s.free (s'.free z))
  fc := r.fc
noncomputable def tcond (T : Tb) (c : E) (η : Env) : Res Bool := match c with | .nop => .ok true | c => evt T c η
theorem wipe1 (σ : L2.St) (v : Nat) : wipe σ [v] = σ.set v none := rfl
variable (T M xa) in
/-- a comprehension, also stored on its line -/
def SL (x : E) : Prop := ∀ X W e, GX T M xa X W → okE M X.N X.env.scope e x = true → ∃ t, PE X e t ∧ Snd xa X W t (ev T x) ∧
  ∀ i y (py : Pos) (spos : Pos), X.N[i]? = some y → X.env.scope.names.lookup y = some .local → swapsWith e (some (.Name y py)) spos.line X.env = pure true → PS X (.Assign [.Name y py] e spos) (tAsg t (gName i))
theorem s_compL {v : Nat} {it c x : E} (ihi : SI T M xa it) (ihc : ST T M xa c) (ihx : SE T M xa x) : SL T M xa (.comp v it c x) := by
  intro X W e g h
  unfold okE at h
  split at h
  · rename_i elt y py iter ifs scope pos
    simp only [Bool.and_eq_true, decide_eq_true_eq] at h
    obtain ⟨⟨⟨⟨⟨⟨h1, h2⟩, h3⟩, h4⟩, h5⟩, h6⟩, h7⟩ := h
    obtain ⟨⟨wi, pi, si⟩, hf⟩ := ihi X W (.Name y py) iter g h3
    have hk : scope.names.lookup y = some .cell ∨ scope.names.lookup y = some .local := by
      revert h5
      split
      · rename_i e; exact fun _ => .inl e
      · rename_i e; exact fun _ => .inr e
      · intro z; cases z
    have hloc : ∀ (s : Shared) (H : Hp) (C : Addr) (cl : List (Str × Addr)) (fp : List Addr), PG (X.blk s H scope (compEnvC scope cl C X.env) fp) (.Name y py) (gName v) := fun s H C cl fp => by
      have hl : L2.Loc (relS scope X.env.scope) y := by
        rcases hk with hk | hk
        · exact .inr (lookup_relS_keep (by decide) hk)
        · exact .inl (lookup_relS_keep (by decide) hk)
      refine pg_name (X := X.blk s H scope (compEnvC scope cl C X.env) fp) g.nd h1 hl ?_
      rcases hk with hk | hk
      · left
        show (scope.names.lookup y == some .cell) = true
        rw [hk]
        rfl
      · right
        exact lookup_relS_keep (by decide) hk
    obtain ⟨tt, htt, hct⟩ : ∃ tt : TT, (∀ (s : Shared) (H : Hp) (C : Addr) (cl : List (Str × Addr)) (fp : List Addr), PTs (X.blk s H scope (compEnvC scope cl C X.env) fp) ifs tt) ∧
        (∀ B old O σ H η Q, ER X.K B old O H σ η → Rs (XH X.K xa W0 B old η) (fun b => ∀ H', Same H H' → Q b H') (tcond T c η) → tt σ H Q) := by
      cases ifs with
      | nil =>
        have ec : c = .nop := by
          cases c <;> first | rfl | (cases h6)
        subst ec
        exact ⟨tYes, fun _ _ _ _ _ => pts_nil, fun B old O σ H η Q r q => q H (Same.refl H)⟩
      | cons t l =>
        cases l with
        | nil =>
          have h6 : okT M X.N (relS scope X.env.scope) t c = true := h6
          refine ⟨canT X.K xa W0 (evt T c), fun s H C cl fp => pts_one (ihc.can (g.blk s H scope (compEnvC scope cl C X.env) fp) h6), fun B old O σ H η Q r q => ⟨B, old, O, η, r, ?_⟩⟩
          have e : tcond T c η = evt T c η := by
            cases c <;> first | rfl | (exact absurd h6 (by simp [okT]))
          rw [← e]
          exact q
        | cons t2 l => cases h6
    have hx : ∀ (s : Shared) (H : Hp) (C : Addr) (cl : List (Str × Addr)) (fp : List Addr), PE (X.blk s H scope (compEnvC scope cl C X.env) fp) elt (can X.K xa W0 (ev T x)) := fun s H C cl fp => ihx.can (e := elt) (g.blk s H scope (compEnvC scope cl C X.env) fp) h7
    refine ⟨_, pe_lc (own := [(y, v)]) g.calm g.nd pi (blkOk_by h2) hloc htt hx hf, fun B old O σ H η Q r q => ?_, fun i y' py' spos hy hyl hsw => ps_setLc (own := [(y, v)]) g.calm g.nd hy hyl hsw pi (blkOk_by h2) hloc htt hx hf⟩
    unfold ev at q
    split at q
    · rename_i hv
      refine si B old O σ H η _ r ?_
      have q := q.bind
      cases ew : evi T it η with
      | st => rw [ew] at q; exact q.elim
      | ex cc => rw [ew] at q; exact q
      | ok w =>
        rw [ew] at q
        intro J H1 s1 hw D hD
        have q : Rs (XH X.K xa W B old η) (fun x => ∀ (v : V) (H' : Hp), Same H H' → VR X.K B O H H' v x → Q v H') (compR (compF (fun d => tcond T c (η.set v (some (.sh d)))) (fun d => ev T x (η.set v (some (.sh d)))) w.ds [])) := q
        cases ec : compF (fun d => tcond T c (η.set v (some (.sh d)))) (fun d => ev T x (η.set v (some (.sh d)))) w.ds [] with
        | st => rw [ec] at q; exact q.elim
        | ex cc => rw [ec] at q; exact q.elim
        | ok ys =>
          rw [ec] at q
          refine ⟨fun i m Hi => m = w.ds.length - i ∧ i ≤ w.ds.length ∧ Same H1 Hi ∧ ∃ acc vs, Hi D = some (.lst vs) ∧ RpAll X.K (fun a => Own O B a ∨ a = D) Hi vs acc ∧
            compF (fun d => tcond T c (η.set v (some (.sh d)))) (fun d => ev T x (η.set v (some (.sh d)))) (w.ds.drop i) acc = .ok ys,
            ⟨w.ds.length, rfl, Nat.zero_le _, same_upd hD, [], [], upd_same, .nil, ec⟩, fun i m Hi hW => ?_⟩
          obtain ⟨rfl, hi, sm, acc, vs, eD, rA, eC⟩ := hW
          have stp := hw.step (i := i) (evi_seq ew) sm
          by_cases hlt : i < w.ds.length
          · right
            have ei : w.ds[i]? = some w.ds[i] := List.getElem?_eq_getElem hlt
            obtain ⟨go, yl⟩ := stp.2 _ ei
            rw [List.drop_eq_getElem_cons hlt] at eC
            refine ⟨go, fun H' => Same H1 H' ∧ ∃ acc vs, H' D = some (.lst vs) ∧ RpAll X.K (fun a => Own O B a ∨ a = D) H' vs acc ∧
              compF (fun d => tcond T c (η.set v (some (.sh d)))) (fun d => ev T x (η.set v (some (.sh d)))) (w.ds.drop (i + 1)) acc = .ok ys, fun H' hN => ⟨w.ds.length - (i + 1), by omega, rfl, hlt, hN⟩, fun z H' hy => ?_⟩
            obtain ⟨rfl, rz⟩ := yl z H' hy
            refine ⟨?_, ?_⟩
            · show ((wipe σ [v]).set v (some z)).set v none = σ.set v none
              rw [wipe1, List.set_set, List.set_set]
            have e2 : (wipe σ (List.map (·.2) [(y, v)])).set v (some z) = σ.set v (some z) := by
              show (wipe σ [v]).set v (some z) = _
              rw [wipe1, List.set_set]
            rw [e2]
            have rb := r.blk hv s1 hD sm eD rz
            unfold compF at eC
            refine hct _ _ _ _ _ _ _ rb ?_
            cases et : tcond T c (η.set v (some (.sh w.ds[i]))) with
            | st => rw [et] at eC; cases eC
            | ex cc => rw [et] at eC; cases eC
            | ok b =>
              rw [et] at eC
              intro H3 s3
              cases b with
              | false =>
                refine iteF ⟨sm.trans s3, acc, vs, s3 _ _ eD, rA.ca (Ca.grow s3), ?_⟩
                exact eC
              | true =>
                refine iteT ⟨_, _, _, _, rb.ext s3, ?_⟩
                have eC : ((ev T x (η.set v (some (.sh w.ds[i])))).bind fun z => (oOk z.sh).bind fun y => if Sm (acc.length + 1) then compF _ _ (w.ds.drop (i + 1)) (acc ++ [y]) else .st) = .ok ys := eC
                cases ee : ev T x (η.set v (some (.sh w.ds[i]))) with
                | st => rw [ee] at eC; cases eC
                | ex cc => rw [ee] at eC; cases eC
                | ok z2 =>
                  rw [ee] at eC
                  intro y H4 s4 vy
                  have eC : ((oOk z2.sh).bind fun y => if Sm (acc.length + 1) then compF _ _ (w.ds.drop (i + 1)) (acc ++ [y]) else .st) = .ok ys := eC
                  cases es : z2.sh with
                  | none => rw [es] at eC; cases eC
                  | some d2 =>
                    rw [es] at eC
                    have eC : (if Sm (acc.length + 1) then compF _ _ (w.ds.drop (i + 1)) (acc ++ [d2]) else .st) = .ok ys := eC
                    split at eC
                    · rename_i hb
                      have rob := (rb.ext s3).ob
                      have ry := vy.shared rob.l rob.b es
                      have s34 := s3.trans s4
                      refine ⟨vs, s34 _ _ eD, by rw [rA.length, sz]; exact hb, ?_, acc ++ [d2], vs ++ [y], upd_same, ?_, eC⟩
                      · intro b o e
                        have nb : b ≠ D := fun z => by rw [z, hD] at e; cases e
                        rw [upd_ne nb]
                        exact s34 _ _ (sm _ _ e)
                      · have c1 : Ca X.K (fun a => Own O B a ∨ a = D) (fun a => Own O B a ∨ a = D) H4 (upd H4 D (.lst (vs ++ [y]))) := Ca.upd (.inr rfl) (s34 _ _ eD)
                        refine (RpAll.append (rA.ca (Ca.grow s34)) (.cons (ry.ca (Ca.less fun a z => ?_)) .nil)).ca c1
                        rcases z with (z | z) | z
                        · exact .inl z
                        · exact .inr (.inl z)
                        · exact .inr (.inr z)
                    · cases eC
          · left
            have e : i = w.ds.length := by omega
            subst e
            rw [List.drop_length] at eC
            cases eC
            refine ⟨stp.1 (Nat.le_refl _), q _ Hi ?_ ⟨D, vs, rfl, s1.free hD, eD, rA⟩⟩
            exact s1.trans sm
    · exact q.elim
  · cases h

theorem s_comp {v : Nat} {it c x : E} (ihi : SI T M xa it) (ihc : ST T M xa c) (ihx : SE T M xa x) : SE T M xa (.comp v it c x) := fun X W e g h => by
  obtain ⟨t, h1, h2, _⟩ := s_compL ihi ihc ihx X W e g h
  exact ⟨t, h1, h2⟩

/-- a name that holds no object of its own is given a thing -/
theorem ER.put {v : Nat} {x : V} {d : PyData} (r : ER K B old O H σ η) (hv : freeS η v = true) (rx : Rp K (Own O B) H x d) :
    ER K B old O H (σ.set v (some x)) (η.set v (some (.sh d))) where
  len := by rw [List.length_set, List.length_set]; exact r.len
  sl := fun i z e => by
    have hl : v < η.length := freeS_lt hv
    by_cases hi : v = i
    · subst hi
      rw [List.getElem?_set_self hl] at e
      cases e
      exact ⟨x, List.getElem?_set_self (by rw [r.len]; exact hl), rx⟩
    · rw [List.getElem?_set_ne hi] at e
      have q := r.sl i z e
      cases z with
      | sh d =>
        obtain ⟨w, q1, q2⟩ := q
        exact ⟨w, by rw [List.getElem?_set_ne hi]; exact q1, q2⟩
      | ow ds =>
        obtain ⟨a, ws, q0, q1, q2, q3⟩ := q
        exact ⟨a, ws, q0, by rw [List.getElem?_set_ne hi]; exact q1, q2, q3⟩
      | od l =>
        obtain ⟨a, q0, q1, q2⟩ := q
        exact ⟨a, q0, by rw [List.getElem?_set_ne hi]; exact q1, q2⟩
      | kk k =>
        obtain ⟨w, q1, q2⟩ := q
        exact ⟨w, by rw [List.getElem?_set_ne hi]; exact q1, q2⟩
      | st xs =>
        obtain ⟨d, a, q0, q1, q2, q3, q4⟩ := q
        exact ⟨d, a, q0, by rw [List.getElem?_set_ne hi]; exact q1, q2, q3, q4⟩
      | fr d =>
        obtain ⟨w, q1, q2⟩ := q
        exact ⟨w, by rw [List.getElem?_set_ne hi]; exact q1, q2⟩
  dom := fun i a e => by
    obtain ⟨ds, q, hs⟩ := r.dom i a e
    have hi : v ≠ i := fun z => freeS_no hv r (z ▸ e)
    exact ⟨ds, by rw [List.getElem?_set_ne hi]; exact q, hs⟩
  inj := r.inj
  disj := r.disj
  fr := r.fr
  same := r.same
  bt := r.bt
  gh := r.gh
  fb := r.fb
  fc := r.fc
theorem s_comp2L {v u : Nat} {it x : E} (ihi : SI T M xa it) (ihx : SE T M xa x) : SL T M xa (.comp2 v u it x) := by
  intro X W e g h
  unfold okE at h
  split at h
  · rename_i elt y py z pz kt pt iter scope pos
    simp only [Bool.and_eq_true, decide_eq_true_eq] at h
    obtain ⟨⟨⟨⟨⟨⟨h1, h1z⟩, h2⟩, h3⟩, h5⟩, h5z⟩, h7⟩ := h
    obtain ⟨⟨wi, pi, si⟩, hf⟩ := ihi X W (.Tuple [.Name y py, .Name z pz] kt pt) iter g h3
    have hloc : ∀ (n : Nat) (y : Str) (py : Pos), X.N[n]? = some y → (match scope.names.lookup y with | some .cell => true | some .local => true | _ => false) = true → ∀ (s : Shared) (H : Hp) (C : Addr) (cl : List (Str × Addr)) (fp : List Addr), PG (X.blk s H scope (compEnvC scope cl C X.env) fp) (.Name y py) (gName n) := fun n y py h1 h5 s H C cl fp => by
      have hk : scope.names.lookup y = some .cell ∨ scope.names.lookup y = some .local := by
        revert h5
        split
        · rename_i e; exact fun _ => .inl e
        · rename_i e; exact fun _ => .inr e
        · intro z; cases z
      have hl : L2.Loc (relS scope X.env.scope) y := by
        rcases hk with hk | hk
        · exact .inr (lookup_relS_keep (by decide) hk)
        · exact .inl (lookup_relS_keep (by decide) hk)
      refine pg_name (X := X.blk s H scope (compEnvC scope cl C X.env) fp) g.nd h1 hl ?_
      rcases hk with hk | hk
      · left
        show (scope.names.lookup y == some .cell) = true
        rw [hk]
        rfl
      · right
        exact lookup_relS_keep (by decide) hk
    have hloc2 : ∀ (s : Shared) (H : Hp) (C : Addr) (cl : List (Str × Addr)) (fp : List Addr), PG (X.blk s H scope (compEnvC scope cl C X.env) fp) (.Tuple [.Name y py, .Name z pz] kt pt) (gTup X.K 2 (gCons (gName v) (gCons (gName u) gNil))) := fun s H C cl fp =>
      pg_tup (X := X.blk s H scope (compEnvC scope cl C X.env) fp) g.calm (pgs_cons (hloc v y py h1 h5 s H C cl fp) (pgs_cons (hloc u z pz h1z h5z s H C cl fp) pgs_nil))
    have hx : ∀ (s : Shared) (H : Hp) (C : Addr) (cl : List (Str × Addr)) (fp : List Addr), PE (X.blk s H scope (compEnvC scope cl C X.env) fp) elt (can X.K xa W0 (ev T x)) := fun s H C cl fp => ihx.can (e := elt) (g.blk s H scope (compEnvC scope cl C X.env) fp) h7
    refine ⟨_, pe_lc (own := [(y, v), (z, u)]) g.calm g.nd pi (blkOk_by h2) hloc2 (fun _ _ _ _ _ => pts_nil) hx hf, fun B old O σ H η Q r q => ?_, fun i y' py' spos hy hyl hsw => ps_setLc (own := [(y, v), (z, u)]) g.calm g.nd hy hyl hsw pi (blkOk_by h2) hloc2 (fun _ _ _ _ _ => pts_nil) hx hf⟩
    unfold ev at q
    split at q
    · rename_i hvu
      obtain ⟨hv, hu, hne⟩ := hvu
      have fu : ∀ o : Option Sl, freeS (η.set v o) u = true := fun o => by
        unfold freeS at hu ⊢
        rw [List.getElem?_set_ne hne]
        exact hu
      refine si B old O σ H η _ r ?_
      have q := q.bind
      cases ew : evi T it η with
      | st => rw [ew] at q; exact q.elim
      | ex cc => rw [ew] at q; exact q
      | ok w =>
        rw [ew] at q
        intro J H1 s1 hw D hD
        generalize hF : (fun d => two2 d fun a b => ev T x ((η.set v (some (.sh a))).set u (some (.sh b)))) = F at q
        have q : Rs (XH X.K xa W B old η) (fun x => ∀ (v : V) (H' : Hp), Same H H' → VR X.K B O H H' v x → Q v H') (compR (compF (fun _ => .ok true) F w.ds [])) := q
        cases ec : compF (fun _ => .ok true) F w.ds [] with
        | st => rw [ec] at q; exact q.elim
        | ex cc => rw [ec] at q; exact q.elim
        | ok ys =>
          rw [ec] at q
          refine ⟨fun i m Hi => m = w.ds.length - i ∧ i ≤ w.ds.length ∧ Same H1 Hi ∧ ∃ acc vs, Hi D = some (.lst vs) ∧ RpAll X.K (fun a => Own O B a ∨ a = D) Hi vs acc ∧
            compF (fun _ => .ok true) F (w.ds.drop i) acc = .ok ys,
            ⟨w.ds.length, rfl, Nat.zero_le _, same_upd hD, [], [], upd_same, .nil, ec⟩, fun i m Hi hW => ?_⟩
          obtain ⟨rfl, hi, sm, acc, vs, eD, rA, eC⟩ := hW
          have stp := hw.step (i := i) (evi_seq ew) sm
          by_cases hlt : i < w.ds.length
          · right
            have ei : w.ds[i]? = some w.ds[i] := List.getElem?_eq_getElem hlt
            obtain ⟨go, yl⟩ := stp.2 _ ei
            rw [List.drop_eq_getElem_cons hlt] at eC
            generalize w.ds[i] = dd at eC yl ei
            refine ⟨go, fun H' => Same H1 H' ∧ ∃ acc vs, H' D = some (.lst vs) ∧ RpAll X.K (fun a => Own O B a ∨ a = D) H' vs acc ∧
              compF (fun _ => .ok true) F (w.ds.drop (i + 1)) acc = .ok ys, fun H' hN => ⟨w.ds.length - (i + 1), by omega, rfl, hlt, hN⟩, fun z H' hy => ?_⟩
            obtain ⟨rfl, rz⟩ := yl z H' hy
            unfold compF at eC
            rw [← hF] at eC
            have eC : ((two2 dd fun a b => ev T x ((η.set v (some (.sh a))).set u (some (.sh b)))).bind fun z => (oOk z.sh).bind fun y => if Sm (acc.length + 1) then compF _ _ (w.ds.drop (i + 1)) (acc ++ [y]) else .st) = .ok ys := eC
            have hdd : ∃ d1 d2, dd = .tuple [d1, d2] := by
              unfold two2 at eC
              split at eC
              · exact ⟨_, _, rfl⟩
              · cases eC
            obtain ⟨d1, d2, rfl⟩ := hdd
            have eC : ((ev T x ((η.set v (some (.sh d1))).set u (some (.sh d2)))).bind fun z => (oOk z.sh).bind fun y => if Sm (acc.length + 1) then compF _ _ (w.ds.drop (i + 1)) (acc ++ [y]) else .st) = .ok ys := eC
            · have hlen : True := trivial
              obtain ⟨ad, x1, x2, rfl, ht, r1, r2⟩ := rz.pair sm
              · refine ⟨ad, [x1, x2], rfl, ht, rfl, x1, [x2], rfl, x2, [], rfl, rfl, ?_, ?_⟩
                · show ((((wipe σ [v, u]).set v (some x1)).set u (some x2)).set u none).set v none = (σ.set u none).set v none
                  show (((((σ.set u none).set v none).set v (some x1)).set u (some x2)).set u none).set v none = (σ.set u none).set v none
                  rw [List.set_set, List.set_set, List.set_comm _ _ hne, List.set_set, List.set_set]
                have e2 : (((wipe σ (List.map (·.2) [(y, v), (z, u)])).set v (some x1)).set u (some x2)) = ((σ.set v (some x1)).set u (some x2)) := by
                  show ((((σ.set u none).set v none).set v (some x1)).set u (some x2)) = _
                  rw [List.set_set, List.set_comm _ _ (Ne.symm hne), List.set_set, List.set_comm _ _ hne]
                rw [e2]
                unfold tYes
                show (if true = true then _ else _)
                have rb := (r.blk hv s1 hD sm eD r1).put (v := u) (x := x2) (d := d2) (fu _) (r2.now (Ca.more sm fun a q => by
                  rcases q with q | q | q
                  · exact .inl (.inl q)
                  · exact .inl (.inr q)
                  · exact .inr (q ▸ hD)))
                refine iteT ⟨_, _, _, _, rb, ?_⟩
                cases ee : ev T x ((η.set v (some (.sh d1))).set u (some (.sh d2))) with
                | st => rw [ee] at eC; cases eC
                | ex cc => rw [ee] at eC; cases eC
                | ok z2 =>
                  rw [ee] at eC
                  intro y H4 s4 vy
                  have eC : ((oOk z2.sh).bind fun y => if Sm (acc.length + 1) then compF _ _ (w.ds.drop (i + 1)) (acc ++ [y]) else .st) = .ok ys := eC
                  cases es : z2.sh with
                  | none => rw [es] at eC; cases eC
                  | some d3 =>
                    rw [es] at eC
                    have eC : (if Sm (acc.length + 1) then compF _ _ (w.ds.drop (i + 1)) (acc ++ [d3]) else .st) = .ok ys := eC
                    split at eC
                    · rename_i hb
                      have ry := vy.shared rb.ob.l rb.ob.b es
                      refine ⟨vs, s4 _ _ eD, by rw [rA.length, sz]; exact hb, ?_, acc ++ [d3], vs ++ [y], upd_same, ?_, by rw [← hF]; exact eC⟩
                      · intro b o e
                        have nb : b ≠ D := fun z => by rw [z, hD] at e; cases e
                        rw [upd_ne nb]
                        exact s4 _ _ (sm _ _ e)
                      · have c1 : Ca X.K (fun a => Own O B a ∨ a = D) (fun a => Own O B a ∨ a = D) H4 (upd H4 D (.lst (vs ++ [y]))) := Ca.upd (.inr rfl) (s4 _ _ eD)
                        refine (RpAll.append (rA.ca (Ca.grow s4)) (.cons (ry.ca (Ca.less fun a z => ?_)) .nil)).ca c1
                        rcases z with (z | z) | z
                        · exact .inl z
                        · exact .inr (.inl z)
                        · exact .inr (.inr z)
                    · cases eC
          · left
            have e : i = w.ds.length := by omega
            subst e
            rw [List.drop_length] at eC
            cases eC
            refine ⟨stp.1 (Nat.le_refl _), q _ Hi ?_ ⟨D, vs, rfl, s1.free hD, eD, rA⟩⟩
            exact s1.trans sm
    · exact q.elim
  · cases h
theorem s_comp2 {v u : Nat} {it x : E} (ihi : SI T M xa it) (ihx : SE T M xa x) : SE T M xa (.comp2 v u it x) := fun X W e g h => by
  obtain ⟨t, h1, h2, _⟩ := s_comp2L ihi ihx X W e g h
  exact ⟨t, h1, h2⟩
/-! ### all shapes -/
variable (T M xa) in
def SXX (x : E) : Prop := SX T M xa x ∧ SW T M xa x ∧ SEs T M xa x
theorem noW {x : E} (h : ∀ N sc op l p, okT M N sc (.BoolOp op l p) x = false) : SW T M xa x := fun X W op l p g k => (by rw [h] at k; cases k)
theorem fE {x : E} (h : SE T M xa x) (h1 : ∀ N sc es, okEs M N sc es x = false) (h2 : ∀ N sc es, okT M N sc es x = false) (h3 : ∀ N sc es, okI M N sc es x = false) (h4 : ∀ N sc es, okO M N sc es x = false) (h5 : SEs T M xa x := by trivial) : SXX T M xa x :=
  ⟨sxE h h1 h2 h3 h4, noW fun N sc op l p => h2 N sc _, h5⟩
theorem exprs : ∀ x : E, SXX T M xa x := by
  intro x
  induction x with
  | var i => exact fE (s_var i) (fun _ _ _ => rfl) (fun _ _ _ => rfl) (fun _ _ _ => rfl) (fun _ _ _ => rfl)
  | glob i => exact fE (s_glob i) (fun _ _ _ => rfl) (fun _ _ _ => rfl) (fun _ _ _ => rfl) (fun _ _ _ => rfl)
  | int n => exact fE (s_int n) (fun _ _ _ => rfl) (fun _ _ _ => rfl) (fun _ _ _ => rfl) (fun _ _ _ => rfl)
  | bl b => exact fE (s_bl b) (fun _ _ _ => rfl) (fun _ _ _ => rfl) (fun _ _ _ => rfl) (fun _ _ _ => rfl)
  | non => exact fE s_non (fun _ _ _ => rfl) (fun _ _ _ => rfl) (fun _ _ _ => rfl) (fun _ _ _ => rfl)
  | str s => exact fE (s_str s) (fun _ _ _ => rfl) (fun _ _ _ => rfl) (fun _ _ _ => rfl) (fun _ _ _ => rfl)
  | tup es ih => exact fE (s_tup ih.1.2.1) (fun _ _ _ => rfl) (fun _ _ _ => rfl) (fun _ _ _ => rfl) (fun _ _ _ => rfl)
  | lst es ih => exact fE (s_lst ih.1.2.1) (fun _ _ _ => rfl) (fun _ _ _ => rfl) (fun _ _ _ => rfl) (fun _ _ _ => rfl)
  | nil => exact ⟨sxA s_nil (fun _ _ _ => rfl) (fun _ _ _ => rfl) (fun _ _ _ => rfl) (fun _ _ _ => rfl), noW (fun _ _ _ _ _ => rfl), trivial⟩
  | cons e es ih1 ih2 => exact ⟨sxA (s_cons ih1.1.1 ih2.1.2.1) (fun _ _ _ => rfl) (fun _ _ _ => rfl) (fun _ _ _ => rfl) (fun _ _ _ => rfl), noW (fun _ _ _ _ _ => rfl), ih1.1.1, ih2.2.2⟩
  | bin o a b ih1 ih2 => exact fE (s_bin ih1.1.1 ih2.1.1) (fun _ _ _ => rfl) (fun _ _ _ => rfl) (fun _ _ _ => rfl) (fun _ _ _ => rfl)
  | neg a ih => exact fE (s_neg ih.1.1) (fun _ _ _ => rfl) (fun _ _ _ => rfl) (fun _ _ _ => rfl) (fun _ _ _ => rfl)
  | not a ih => exact fE (s_not ih.1.1) (fun _ _ _ => rfl) (fun _ _ _ => rfl) (fun _ _ _ => rfl) (fun _ _ _ => rfl)
  | bop k a r ih1 ih2 => exact fE (s_bop ih1.1.1 ih2.1.1) (fun _ _ _ => rfl) (fun _ _ _ => rfl) (fun _ _ _ => rfl) (fun _ _ _ => rfl)
  | bone k a ih => exact fE (s_bone ih.1.1) (fun _ _ _ => rfl) (fun _ _ _ => rfl) (fun _ _ _ => rfl) (fun _ _ _ => rfl)
  | cmp o a b ih1 ih2 => exact fE (s_cmp ih1.1.1 ih2.1.1) (fun _ _ _ => rfl) (fun _ _ _ => rfl) (fun _ _ _ => rfl) (fun _ _ _ => rfl)
  | ite c a b ih0 ih1 ih2 => exact fE (s_ite ih0.1.2.2.1 ih1.1.1 ih2.1.1) (fun _ _ _ => rfl) (fun _ _ _ => rfl) (fun _ _ _ => rfl) (fun _ _ _ => rfl)
  | idx a i ih1 ih2 => exact fE (s_idx ih1.1.1 ih2.1.1) (fun _ _ _ => rfl) (fun _ _ _ => rfl) (fun _ _ _ => rfl) (fun _ _ _ => rfl)
  | sl a lo hi ih1 ih2 ih3 => exact fE (s_sl ih1.1.1 ih2.1.2.2.2.2 ih3.1.2.2.2.2) (fun _ _ _ => rfl) (fun _ _ _ => rfl) (fun _ _ _ => rfl) (fun _ _ _ => rfl)
  | rev a ih => exact fE (s_rev ih.1.1) (fun _ _ _ => rfl) (fun _ _ _ => rfl) (fun _ _ _ => rfl) (fun _ _ _ => rfl)
  | nop => exact ⟨sxO o_nop (fun _ _ _ => rfl) (fun _ _ _ => rfl) (fun _ _ _ => rfl) (fun _ _ _ => rfl), noW (fun _ _ _ _ _ => rfl), trivial⟩
  | sop a ih => exact ⟨sxO (o_sop ih.1.1) (fun _ _ _ => rfl) (fun _ _ _ => rfl) (fun _ _ _ => rfl) (fun _ _ _ => rfl), noW (fun _ _ _ _ _ => rfl), trivial⟩
  | call f es ih => exact fE (s_call ih.1.2.1) (fun _ _ _ => rfl) (fun _ _ _ => rfl) (fun _ _ _ => rfl) (fun _ _ _ => rfl)
  | bi b es ih => exact fE (s_bi ih.1.2.1) (fun _ _ _ => rfl) (fun _ _ _ => rfl) (fun _ _ _ => rfl) (fun _ _ _ => rfl)
  | isi a t ih => exact fE (s_isi ih.1.1) (fun _ _ _ => rfl) (fun _ _ _ => rfl) (fun _ _ _ => rfl) (fun _ _ _ => rfl)
  | isx a j ih => exact fE (s_isx ih.1.1) (fun _ _ _ => rfl) (fun _ _ _ => rfl) (fun _ _ _ => rfl) (fun _ _ _ => rfl)
  | dnew => exact fE s_dnew (fun _ _ _ => rfl) (fun _ _ _ => rfl) (fun _ _ _ => rfl) (fun _ _ _ => rfl)
  | dis ks vs ih => exact fE (s_dis ih.2.2) (fun _ _ _ => rfl) (fun _ _ _ => rfl) (fun _ _ _ => rfl) (fun _ _ _ => rfl)
  | dget a k d ih1 ih2 ih3 => exact fE (s_dget ih1.1.1 ih2.1.1 ih3.1.1) (fun _ _ _ => rfl) (fun _ _ _ => rfl) (fun _ _ _ => rfl) (fun _ _ _ => rfl)
  | dat a k ih1 ih2 => exact fE (s_dat ih1.1.1 ih2.1.1) (fun _ _ _ => rfl) (fun _ _ _ => rfl) (fun _ _ _ => rfl) (fun _ _ _ => rfl)
  | isv a ih => exact fE (s_isv ih.1.1) (fun _ _ _ => rfl) (fun _ _ _ => rfl) (fun _ _ _ => rfl) (fun _ _ _ => rfl)
  | comp v it c e ih1 ih2 ih3 => exact fE (s_comp ih1.1.2.2.2.1 ih2.1.2.2.1 ih3.1.1) (fun _ _ _ => rfl) (fun _ _ _ => rfl) (fun _ _ _ => rfl) (fun _ _ _ => rfl)
  | comp2 v u it e ih1 ih2 => exact fE (s_comp2 ih1.1.2.2.2.1 ih2.1.1) (fun _ _ _ => rfl) (fun _ _ _ => rfl) (fun _ _ _ => rfl) (fun _ _ _ => rfl)
  | tst e ih =>
    exact ⟨sxT (t_tst ih.1.1) (fun _ _ _ => rfl) (fun _ _ _ => rfl) (fun _ _ _ => rfl) (fun _ _ _ => rfl), noW (fun N sc op l p => by simp [okT]), trivial⟩
  | tcmp o a b ih1 ih2 => exact ⟨sxT (t_cmp ih1.1.1 ih2.1.1) (fun _ _ _ => rfl) (fun _ _ _ => rfl) (fun _ _ _ => rfl) (fun _ _ _ => rfl), noW (fun _ _ _ _ _ => rfl), trivial⟩
  | tnot t ih => exact ⟨sxT (t_not ih.1.2.2.1) (fun _ _ _ => rfl) (fun _ _ _ => rfl) (fun _ _ _ => rfl) (fun _ _ _ => rfl), noW (fun _ _ _ _ _ => rfl), trivial⟩
  | tbop k t r ih1 ih2 =>
    have w : SW T M xa (.tbop k t r) := w_bop ih1.1.2.2.1 ih2.2.1
    refine ⟨sxT (fun X W e g h => ?_) (fun _ _ _ => rfl) (fun _ _ _ => rfl) (fun _ _ _ => rfl) (fun _ _ _ => rfl), w, trivial⟩
    cases e with
    | BoolOp op l p =>
      obtain ⟨t, pt, st⟩ := w X W op l p g h
      exact ⟨t, pt.pt, st⟩
    | _ => cases h
  | tbone k t ih =>
    have w : SW T M xa (.tbone k t) := w_bone ih.1.2.2.1
    refine ⟨sxT (fun X W e g h => ?_) (fun _ _ _ => rfl) (fun _ _ _ => rfl) (fun _ _ _ => rfl) (fun _ _ _ => rfl), w, trivial⟩
    cases e with
    | BoolOp op l p =>
      obtain ⟨t, pt, st⟩ := w X W op l p g h
      exact ⟨t, pt.pt, st⟩
    | _ => cases h
  | calN f a es ih1 ih2 => exact fE (s_calN ih1.1.1 ih2.1.2.1) (fun _ _ _ => rfl) (fun _ _ _ => rfl) (fun _ _ _ => rfl) (fun _ _ _ => rfl)
  | sind s b ih => exact fE (s_sind ih.1.1) (fun _ _ _ => rfl) (fun _ _ _ => rfl) (fun _ _ _ => rfl) (fun _ _ _ => rfl)
  | its e ih => exact ⟨sxI (i_s ih.1.1) (fun _ _ _ => rfl) (fun _ _ _ => rfl) (fun _ _ _ => rfl) (fun _ _ _ => rfl), noW (fun _ _ _ _ _ => rfl), trivial⟩
  | join s b ih => exact fE (s_join ih.1.1) (fun _ _ _ => rfl) (fun _ _ _ => rfl) (fun _ _ _ => rfl) (fun _ _ _ => rfl)
  | ch o p a b c ih1 ih2 ih3 => exact fE (s_ch ih1.1.1 ih2.1.1 ih3.1.1) (fun _ _ _ => rfl) (fun _ _ _ => rfl) (fun _ _ _ => rfl) (fun _ _ _ => rfl)
  | tch o p a b c ih1 ih2 ih3 => exact ⟨sxT (t_ch ih1.1.1 ih2.1.1 ih3.1.1) (fun _ _ _ => rfl) (fun _ _ _ => rfl) (fun _ _ _ => rfl) (fun _ _ _ => rfl), noW (fun _ _ _ _ _ => rfl), trivial⟩
  | itd e ih => exact ⟨sxI (i_d ih.1.1) (fun _ _ _ => rfl) (fun _ _ _ => rfl) (fun _ _ _ => rfl) (fun _ _ _ => rfl), noW (fun _ _ _ _ _ => rfl), trivial⟩
  | itv e ih => exact ⟨sxI (i_v ih.1.1) (fun _ _ _ => rfl) (fun _ _ _ => rfl) (fun _ _ _ => rfl) (fun _ _ _ => rfl), noW (fun _ _ _ _ _ => rfl), trivial⟩
  | ir1 a ih => exact ⟨sxI (i_r1 ih.1.1) (fun _ _ _ => rfl) (fun _ _ _ => rfl) (fun _ _ _ => rfl) (fun _ _ _ => rfl), noW (fun _ _ _ _ _ => rfl), trivial⟩
  | ir2 a b ih1 ih2 => exact ⟨sxI (i_r2 ih1.1.1 ih2.1.1) (fun _ _ _ => rfl) (fun _ _ _ => rfl) (fun _ _ _ => rfl) (fun _ _ _ => rfl), noW (fun _ _ _ _ _ => rfl), trivial⟩
  | ir3 a b c ih1 ih2 => exact ⟨sxI (i_r3 ih1.1.1 ih2.1.1) (fun _ _ _ => rfl) (fun _ _ _ => rfl) (fun _ _ _ => rfl) (fun _ _ _ => rfl), noW (fun _ _ _ _ _ => rfl), trivial⟩
theorem exE {x : E} {e : Expr} (g : GX T M xa X W) (h : okE M X.N X.env.scope e x = true) : ∃ t, PE X e t ∧ Snd xa X W t (ev T x) := (exprs x).1.1 X W e g h
theorem exT {x : E} {e : Expr} (g : GX T M xa X W) (h : okT M X.N X.env.scope e x = true) : ∃ t, PT X e t ∧ SndT xa X W t (evt T x) := (exprs x).1.2.2.1 X W e g h
theorem exL {v : Nat} {it c x : E} {e : Expr} (g : GX T M xa X W) (h : okE M X.N X.env.scope e (.comp v it c x) = true) : ∃ t, PE X e t ∧ Snd xa X W t (ev T (.comp v it c x)) ∧
    ∀ i y (py : Pos) (spos : Pos), X.N[i]? = some y → X.env.scope.names.lookup y = some .local → swapsWith e (some (.Name y py)) spos.line X.env = pure true → PS X (.Assign [.Name y py] e spos) (tAsg t (gName i)) :=
  s_compL (exprs it).1.2.2.2.1 (exprs c).1.2.2.1 (exprs x).1.1 X W e g h
theorem exL2 {v u : Nat} {it x : E} {e : Expr} (g : GX T M xa X W) (h : okE M X.N X.env.scope e (.comp2 v u it x) = true) : ∃ t, PE X e t ∧ Snd xa X W t (ev T (.comp2 v u it x)) ∧
    ∀ i y (py : Pos) (spos : Pos), X.N[i]? = some y → X.env.scope.names.lookup y = some .local → swapsWith e (some (.Name y py)) spos.line X.env = pure true → PS X (.Assign [.Name y py] e spos) (tAsg t (gName i)) :=
  s_comp2L (exprs it).1.2.2.2.1 (exprs x).1.1 X W e g h
theorem exA {x : E} {es : List Expr} (g : GX T M xa X W) (h : okEs M X.N X.env.scope es x = true) : ∃ t, PA X es t ∧
    ∀ B old O σ H η Q, ER X.K B old O H σ η → Rs (XH X.K xa W B old η) (fun xs => evs T x η = .ok xs → ∀ vs H', Same H H' → VRs X.K B O H H' vs xs → Q vs H') (evs T x η) → t σ H Q := (exprs x).1.2.1 X W es g h
theorem exI {x : E} {e tg : Expr} (g : GX T M xa X W) (h : okI M X.N X.env.scope e x = true) : (∃ t, PI X tg e t ∧ SndI xa X W t (evi T x)) ∧ ∀ y, foldedSetIterable e X.env y = pure y := (exprs x).1.2.2.2.1 X W tg e g h
end
end PD

/-! PDH: a list made over range(n) within an except suite, by the library's words for loops there (TurnH) and for blocks (block_start). -/
namespace PDH
open PySem PySem.Spec PyProof.Rows L2 HotX L2H
section
variable {X : Cx} {pins : List (Addr × Obj)} {σ : L2.St} {H : Hp} {s : Shared}
/-- the block's context, the handled exception pinned -/
abbrev pnd (Y : Cx) (p : Addr × Obj) : Cx := { Y with pn := [p] }
theorem ok_pnd {Y : Cx} {p : Addr × Obj} (ok : Y.Ok) : (pnd Y p).Ok :=
  ⟨ok.mod, ok.kind, ok.glob, ok.blt, ok.above, ok.inj, ok.has, ok.cab, ok.hd, ok.frames, ok.stk, ok.exf, ok.bs, ok.bsz, ok.noex, ok.exfs, ok.funs, ok.frf⟩
theorem ok_unpnd {Y : Cx} {p : Addr × Obj} (ok : (pnd Y p).Ok) : Y.Ok :=
  ⟨ok.mod, ok.kind, ok.glob, ok.blt, ok.above, ok.inj, ok.has, ok.cab, ok.hd, ok.frames, ok.stk, ok.exf, ok.bs, ok.bsz, ok.noex, ok.exfs, ok.funs, ok.frf⟩
theorem to_pnd {Y : Cx} {p : Addr × Obj} (hp : Y.pn = []) {pl : List (Addr × Obj)} (I : Inv Y (p :: pl) σ H s) : Inv (pnd Y p) pl σ H s :=
  ⟨ok_pnd I.ok, I.os, I.bare, I.base, I.loc, I.cell, I.free, I.freeC, fun q hq => I.pin q (by rw [hp]; simpa using hq), I.hok, I.len⟩
theorem of_pnd {Y : Cx} {p : Addr × Obj} (hp : Y.pn = []) {pl : List (Addr × Obj)} (I : Inv (pnd Y p) pl σ H s) : Inv Y (p :: pl) σ H s :=
  ⟨ok_unpnd I.ok, I.os, I.bare, I.base, I.loc, I.cell, I.free, I.freeC, fun q hq => I.pin q (by rw [hp] at hq; simpa using hq), I.hok, I.len⟩
/-- [elt for name in range(..)] within a suite, elt by pure words: f tells its values -/
def tRl (wi : TI) (te : TE) (v : Nat) : TE := fun σ H Q => wi σ H fun J H1 => ∃ (j : Nat) (f : Nat → V), J = Itr 0 j ∧ j < 1000 ∧
  (∀ i, i < j → ∀ H', (∀ b o, H1 b = some o → H' b = some o) → ∀ (R : VK), R (f i) H' → te ((wipe σ [v]).set v (some (.int (i : Int)))) H' R) ∧
  ∀ D, H1 D = none → Q (.ref D) (upd H1 D (.lst ((List.range j).map f)))
theorem pe_rl {elt iter : Expr} {y : Str} {v : Nat} {py pos : Pos} {scope : Scope} {wi : TI} {te : TE} (hc : HotC X) (hN : X.N.Nodup) (hi : PIH X (.Name y py) iter wi)
    (ok : BlkOk X.N X.env.scope scope [(y, v)])
    (hy : ∀ (s : Shared) (H : Hp) (C : Addr) (cl : List (Str × Addr)) (fp : List Addr), PG (X.blk s H scope (compEnvC scope cl C X.env) fp) (.Name y py) (fun x σ H Q => Q (σ.set v (some x)) H))
    (he : ∀ (s : Shared) (H : Hp) (C : Addr) (cl : List (Str × Addr)) (fp : List Addr), PE (X.blk s H scope (compEnvC scope cl C X.env) fp) elt te)
    (hs : ∀ x, foldedSetIterable iter X.env x = pure x := by intro _; rfl) :
    PE X (.ListComp elt [⟨.Name y py, iter, [], 0⟩] scope pos) (tRl wi te v) := by
  refine ⟨fun pins s σ H Q I h => ?_⟩
  rw [eval_ListComp]
  have hfree : ∀ z ∈ scope.names, z.2 = .free → ∃ c, X.env.cells.lookup z.1 = some c := fun z hz e => by
    rcases ok.free z hz e with k | k
    · exact I.ok.has _ (.inl k)
    · exact I.ok.has _ (.inr k)
  obtain ⟨q0, hot, hq0⟩ := id hc
  refine wpAny_comprehension_free (use := none) rfl hs (closure_ok hfree) ok.kind (fun z hz e => by rw [ok.uniq z hz, e])
    (thn (hi.run pins s σ H _ I h) fun xv s1 hx => thn hx fun itv s2 h2 => ?_)
  obtain ⟨it, fp, tn, J, H2, e, I2, T, st2, f2, j, f, eJ, hj, hel, hq⟩ := h2
  subst e eJ
  refine wpAny_newObj_type (newEnv_comp ?_) (by show 0 ≤ sizeLine; decide)
  generalize hD : s2.heap.objs.size = D
  have hDn : H2 D = none := I2.hok.fresh (Nat.le_of_eq hD)
  -- the list, told for i turns
  have L : ∀ (n : Nat), n < j + 1 → n < sizeLine := fun n hn => Nat.lt_of_lt_of_le (show n < 1000 by omega) (by decide)
  generalize hs3 : ({ s2 with heap := s2.heap.push { cls := .type "list", data := .seq ([] : List Value).toArray } } : Shared) = s3
  have I3 : Inv X pins σ (upd H2 D (.lst [])) s3 := by
    rw [← hs3]
    refine I2.laid (t' := s2.toks) (fun b o e => Heap.get?_push_of_some _ e) (Nat.le_of_eq hD) ⟨Nat.zero_le _, [], 0, .nil, ?_⟩
    rw [← hD]
    exact Heap.get?_push_size _ rfl
  have h3 : s3.heap = s2.heap.push { cls := .type "list", data := .seq ([] : List Value).toArray } := by rw [← hs3]
  have f3 : ∀ b ∈ fp, FpOk X pins (upd H2 D (.lst [])) b ∧ b < s3.heap.objs.size := fun b hb => by
    obtain ⟨o, e, _⟩ := T.obj _ _ st2 b hb
    have hlt := Heap.lt_size e
    refine ⟨⟨?_, (f2 b hb).2⟩, by rw [h3, Heap.size_push]; exact Nat.lt_succ_of_lt hlt⟩
    rw [upd_ne (by rw [← hD]; exact Nat.ne_of_lt hlt)]
    exact (f2 b hb).1
  have neD : ∀ b ∈ fp, b ≠ D := fun b hb => by
    obtain ⟨o, e, _⟩ := T.obj _ _ st2 b hb
    rw [← hD]
    exact Nat.ne_of_lt (Heap.lt_size e)
  have I4 := block_start I3 ok hN f3
  have q3 := I3.pin q0 (List.mem_append_left _ hq0)
  have qf : q0.1 ∉ frs X.stack := fun hm => (List.mem_cons.mp (I3.stkSub q0.1 hm)).elim q3.2.2.1 q3.2.2.2.1
  have pg := hy s3 (upd H2 D (.lst [])) s3.heap.objs.size (cellsFrom (s3.heap.objs.size + 1) scope.names (cloFrom X.env.cells scope.names [])) fp
  have pe := he s3 (upd H2 D (.lst [])) s3.heap.objs.size (cellsFrom (s3.heap.objs.size + 1) scope.names (cloFrom X.env.cells scope.names [])) fp
  show codeAny _ _ (.compStart (.ListComp elt [⟨.Name y py, iter, [], 0⟩] scope pos) 0 (.ref it) (.ref D) (compEnvC scope (cellsFrom (s3.heap.objs.size + 1) scope.names (cloFrom X.env.cells scope.names [])) s3.heap.objs.size X.env)) (compPost (model X.prog X.w) X.A X.xe none _ (.ref D) s3.heap.objs.size) { s3 with heap := pushCells (s3.heap.push { cls := .type "dict", data := .dict #[] }) scope.names }
  generalize hce : compEnvC scope (cellsFrom (s3.heap.objs.size + 1) scope.names (cloFrom X.env.cells scope.names [])) s3.heap.objs.size X.env = ce at I4 pg pe ⊢
  have cL : ce.locals = s3.heap.objs.size := by subst hce; rfl
  have kp : ∀ b o, s3.heap.get? b = some o → (pushCells (s3.heap.push { cls := .type "dict", data := .dict #[] }) scope.names).get? b = some o := fun b o e => pushCells_keeps _ _ _ _ (Heap.get?_push_of_some _ e)
  have I4 : Inv (X.blk s3 (upd H2 D (.lst [])) scope ce fp) [q0] (wipe σ [v]) (upd H2 D (.lst [])) { s3 with heap := pushCells (s3.heap.push { cls := .type "dict", data := .dict #[] }) scope.names } := I4.pins_of fun p hp => by
    have e : p = q0 := by simpa using hp
    subst e
    exact ⟨kp _ _ q3.1, q3.2.1, by rw [show (X.blk s3 (upd H2 D (.lst [])) scope ce fp).env.locals = ce.locals from rfl, cL]; exact Nat.ne_of_lt (Heap.lt_size q3.1), qf, q3.2.2.2.2⟩
  have st4 : tn 0 (pushCells (s3.heap.push { cls := .type "dict", data := .dict #[] }) scope.names) := T.keep _ _ _ st2 fun b _ o e => kp _ _ (by rw [h3]; exact Heap.get?_push_of_some _ e)
  generalize hs4 : ({ s3 with heap := pushCells (s3.heap.push { cls := .type "dict", data := .dict #[] }) scope.names } : Shared) = s4 at I4 ⊢
  have st4 : tn 0 s4.heap := by rw [← hs4]; exact st4
  have hotP : HotC (pnd (X.blk s3 (upd H2 D (.lst [])) scope ce fp) q0) := ⟨q0, hot, List.mem_cons_self⟩
  have nfp : ∀ (xs : List V), ∀ b ∈ fp, (upd H2 D (.lst xs)) b = none := fun xs b hb => by
    rw [upd_ne (neD b hb)]
    exact (f2 b hb).1
  have stat : ∀ {σ' : L2.St} {H' : Hp} {s' : Shared}, Inv (pnd (X.blk s3 (upd H2 D (.lst [])) scope ce fp) q0) [] σ' H' s' → (∀ b ∈ fp, H' b = none) → ∀ b ∈ fp, FpOk (pnd (X.blk s3 (upd H2 D (.lst [])) scope ce fp) q0) [] H' b := fun {σ' H' s'} I' hn b hb =>
    ⟨hn b hb, (I'.ok.exf b hb).1, I'.ok.exfs b hb, .inl hb, fun x c e => (I'.ok.exf b hb).2 x c e, fun p hp => by
      have e : p = q0 := by simpa using hp
      subst e
      exact (f3 b hb).1.2.2.2.2.2 p (List.mem_append_left _ hq0)⟩
  have loop : codeAny (model X.prog X.w) X.A (.compLoop (.ListComp elt [⟨.Name y py, iter, [], 0⟩] scope pos) 0 (.ref it) (.ref D) ce) (compPost (model X.prog X.w) X.A X.xe none (EP X pins σ Q) (.ref D) s3.heap.objs.size) s4 := by
    refine compLoop_any (fun n s' => ∃ i, i + n = j ∧ Inv (X.blk s3 (upd H2 D (.lst [])) scope ce fp) [q0] (wipe σ [v]) (upd H2 D (.lst ((List.range i).map f))) s' ∧ tn i s'.heap) ?_ j ⟨0, by omega, I4, st4⟩
    rintro n s5 ⟨i, hn, I5, st5⟩
    have I5p := to_pnd (pl := []) rfl I5
    by_cases hij : i < j
    · refine thnF (T.item (pnd (X.blk s3 (upd H2 D (.lst [])) scope ce fp) q0) rfl rfl rfl hotP i [] s5 _ _ (fun _ _ => False) I5p (stat I5p (nfp _)) st5 (show i < j from hij)) fun r s6 ⟨u, hr, h6⟩ => ?_
      subst hr
      refine thnF h6 fun _ s7 ⟨x, H7, I7, r7, y7, st7, n7⟩ => ?_
      obtain ⟨e7, ex⟩ := y7
      subst e7 ex
      have I8 : Inv (X.blk s3 (upd H2 D (.lst [])) scope ce fp) (q0 :: pinsAt fp s7.heap) (wipe σ [v]) (upd H2 D (.lst ((List.range i).map f))) s7 := of_pnd (pl := pinsAt fp s7.heap) rfl (I7.pinned (stat I7 n7) (T.obj _ _ st7))
      refine thnF (pg.run _ s7 _ _ _ u (fun σ8 H8 => σ8 = (wipe σ [v]).set v (some (.int (i : Int))) ∧ H8 = upd H2 D (.lst ((List.range i).map f))) I8 r7 ⟨by rw [Int.zero_add], rfl⟩) fun _ s8 ⟨σ8, H8, I8, e8, e9⟩ => ?_
      subst e8 e9
      rw [List.forIn_nil]
      refine wpAny_pure ?_
      rw [if_pos rfl]
      have mono : ∀ b o, H2 b = some o → (upd H2 D (.lst ((List.range i).map f))) b = some o := fun b o e => by
        rw [upd_ne fun z => by rw [z, hDn] at e; cases e]
        exact e
      refine thnF (pe.run _ s8 _ _ _ I8 (hel i hij _ mono (fun y9 H9 => y9 = f i ∧ H9 = upd H2 D (.lst ((List.range i).map f))) ⟨rfl, rfl⟩)) fun z s9 ⟨yv, H9, I9, r9, e10, e11⟩ => ?_
      subst e10 e11
      refine app_ok (X := X.blk s3 (upd H2 D (.lst [])) scope ce fp) I9 (show (upd H2 D (.lst ((List.range i).map f))) D = some (.lst ((List.range i).map f)) from upd_same) (by rw [List.length_map, List.length_range]; exact L i (by omega)) r9 fun s11 I11 => ⟨n - 1, by omega, i + 1, by omega, ?_, T.keep _ _ _ st7 fun b hb o e => (I11.pin (b, o) (List.mem_append_right _ (List.mem_cons_of_mem _ (mem_pinsAt hb e)))).1⟩
      have e12 : upd (upd H2 D (.lst ((List.range i).map f))) D (.lst ((List.range i).map f ++ [f i])) = upd H2 D (.lst ((List.range (i + 1)).map f)) := by
        rw [List.range_succ, List.map_append]
        funext b
        unfold upd
        split <;> rfl
      rw [e12] at I11
      refine (I11.unpinned (pins := [q0])).weak (by rw [List.length_set]) fun k w e => ?_
      have hk : v ≠ k := fun z => (wipe_some e).2 (by simp [z])
      rw [List.getElem?_set_ne hk]
      exact e
    · refine thnF (T.done (pnd (X.blk s3 (upd H2 D (.lst [])) scope ce fp) q0) rfl rfl rfl hotP i [] s5 _ _ (fun _ _ => False) I5p (stat I5p (nfp _)) st5 (show j ≤ i by omega)) fun r s6 ⟨hr, I6p⟩ => ?_
      subst hr
      have I6 := of_pnd (pl := []) rfl I6p
      have ej : i = j := by omega
      subst ej
      have I7 : Inv X pins σ (upd H2 D (.lst ((List.range i).map f))) s6 := I3.call' (ch := fp) I6.os I6.base I6.hok I6.bare fun b hb => ⟨(f3 b hb).1.2.2.2.1, (f3 b hb).1.2.1, (f3 b hb).1.2.2.2.2.1, (f3 b hb).1.2.2.2.2.2⟩
      have nC : (upd H2 D (.lst ((List.range i).map f))) s3.heap.objs.size = none := by
        have z : (upd H2 D (.lst ((List.range i).map f))) ce.locals = none := I6.free
        rw [cL] at z
        exact z
      obtain ⟨m, hn, _⟩ := I6.loc
      have hn : s6.heap.Ns ce.locals m := hn
      rw [cL] at hn
      obtain ⟨g0, g1, g2, g3, g4, g5⟩ := I3.fpOk (Nat.le_refl _) nC
      exact ⟨m, hn, fun h'' sb => ⟨.ref D, _, I7.turned (t' := s6.toks) (fun b o hb e => (sb.2 b hb).trans e) g0 g1 g3 g4 g5, rfl, hq D hDn⟩⟩
  exact codeAny_compStart_list loop (T.self X.A 0 _ _ _ st4 loop)
end
end PDH

/-! PDO: what is asked of an exception within its suite: isinstance, and the laws' own def that asks all kinds. -/
namespace PD
open PySem PySem.Spec PyProof.Rows L2
section
variable {X : Cx}
/-- isinstance(e, c), e pinned -/
theorem call_isP {D : Addr} {p : Addr × Obj} (hp : p ∈ X.pn) (C : ExcC X.K D) (hz : Zc (.ref D) none p.2) (hf : ∃ vs, p.2.data = .fields vs) : CallR X (.builtin "isinstance") (rIsE X.K D p.1) := by
  intro pins s σ H xs us Q I r h
  obtain ⟨c, cv, b, rfl, hcv, e, q⟩ := h
  cases r with
  | cons rx rr =>
    cases rr with
    | cons rt rr =>
      cases rr
      cases rx
      have ec := hcv _ rt
      subst ec
      have hget := (I.pin p (List.mem_append_left _ hp)).1
      obtain ⟨vs, hv⟩ := hf
      have J : PySem.W.InstAt s.heap p.1 p.2 D none := by
        obtain ⟨a, oc, od, oda, osl⟩ := p
        obtain ⟨h1, h2⟩ := hz
        dsimp only at h1 h2 hv
        subst h1 h2 hv
        exact ⟨hget, rfl, rfl, trivial⟩
      exact PySem.W.kia_one (PySem.W.handS_kitx_exc C.hg C.hk C.hs C.hd C.ha C.hn C.ht C.hm) I.kIn J e (fun z => nomatch z) fun tk => ⟨.bl b, H, I.kept (t' := tk) fun _ _ z => z, rfl, q⟩
/-- name i is the exception at a -/
abbrev At (i : Nat) (a : Addr) (σ : L2.St) : Prop := σ[i]? = some (some (.ref a))
/-- a test of the exception whose answer is b -/
def PB (X : Cx) (i : Nat) (a : Addr) (e : Expr) (b : Bool) : Prop := PE X e fun σ H Q => At i a σ ∧ Q (.bl b) H
theorem PB.mk {i : Nat} {a : Addr} {e : Expr} {b : Bool} {t : TE} (h : PE X e t) (f : ∀ σ H Q, At i a σ → Q (.bl b) H → t σ H Q) : PB X i a e b :=
  ⟨fun pins s σ H Q I w => h.run pins s σ H Q I (f σ H Q w.1 w.2)⟩
theorem kit_of {K : Fg} {c d : Addr} {b : Bool} (hd : PySem.W.hasDictIn K d = true) (ht : PySem.W.typeIn K (.ref d) = some (.type "type")) (hs : PySem.W.subIn K (.ref c) (.ref d) = some b) (hr : c = d → b = true) : PySem.W.kitOne K (.ref c) (.ref d) = some b := by
  unfold PySem.W.kitOne
  by_cases e : c = d
  · subst e
    rw [if_pos (beq_iff_eq.mpr rfl), hr rfl]
  · have : ¬ (Value.ref c == Value.ref d) = true := fun z => e (Value.ref.inj (beq_iff_eq.mp z))
    rw [if_neg this]
    obtain ⟨cd, hc, _⟩ := PySem.W.any_some hd
    have e2 : ((PySem.W.clsIn K d).isSome && PySem.W.typeIn K (.ref d) == some (.type "type")) = true := by rw [hc, ht] <;> rfl
    show (if ((PySem.W.clsIn K d).isSome && PySem.W.typeIn K (.ref d) == some (.type "type")) = true then PySem.W.subIn K (.ref c) (.ref d) else none) = some b
    rw [if_pos e2]
    exact hs
theorem kit_self {K : Fg} {c : Addr} : PySem.W.kitOne K (.ref c) (.ref c) = some true := by
  unfold PySem.W.kitOne
  rw [if_pos (beq_iff_eq.mpr rfl)]
theorem kit_ty {K : Fg} {c : Addr} {n : String} {b : Bool} (hm : PySem.W.kitMeta n = true) (hs : PySem.W.subIn K (.ref c) (.type n) = some b) : PySem.W.kitOne K (.ref c) (.type n) = some b := by
  unfold PySem.W.kitOne
  have hne : ¬ (Value.ref c == Value.type n) = true := fun z => Value.noConfusion (beq_iff_eq.mp z)
  rw [if_neg hne]
  show (if PySem.W.kitMeta n = true then PySem.W.subIn K (.ref c) (.type n) else none) = some b
  rw [if_pos hm]
  exact hs
/-- isinstance(name, class) -/
theorem pb_is {i : Nat} {x y : Str} {p0 p1 p2 pos : Pos} {D d : Addr} {p : Addr × Obj} {b : Bool} (hp : p ∈ X.pn) (C : ExcC X.K D) (hz : Zc (.ref D) none p.2) (hf : ∃ vs, p.2.data = .fields vs)
    (hx : X.N[i]? = some x) (hv : Vis X.env.scope x) (hn : okName x = true) (hgi : Gl X "isinstance") (hmi : X.mg "isinstance" = none) (hg : Gl X y) (hm : X.mg y = some (.ref d)) (hy : okName y = true) (k : PySem.W.kitOne X.K (.ref D) (.ref d) = some b) :
    PB X i p.1 (.Call (.Name "isinstance" p0) [.Name x p1, .Name y p2] [] pos) b :=
  .mk (pe_callB (call_isP hp C hz hf) hgi hmi (by decide +kernel) (pa_cons (pe_var hx hv (name_of hn).1 (name_of hn).2) (pa_cons (pe_glob hg hm (show RelV (.ref d) (.ref d) from rfl) (name_of hy).1) pa_nil)) (by decide) (by decide))
    fun σ H Q h q => ⟨_, h, .ref d, .ref d, b, rfl, fun u r => r, k, q⟩
/-- isinstance(name, ValueError) -/
theorem pb_ve {i : Nat} {x : Str} {p0 p1 p2 pos : Pos} {D : Addr} {p : Addr × Obj} {b : Bool} (hp : p ∈ X.pn) (C : ExcC X.K D) (hz : Zc (.ref D) none p.2) (hf : ∃ vs, p.2.data = .fields vs)
    (hx : X.N[i]? = some x) (hv : Vis X.env.scope x) (hn : okName x = true) (hgi : Gl X "isinstance") (hmi : X.mg "isinstance" = none) (hg : Gl X "ValueError") (hm : X.mg "ValueError" = none) (k : PySem.W.kitOne X.K (.ref D) (.type "ValueError") = some b) :
    PB X i p.1 (.Call (.Name "isinstance" p0) [.Name x p1, .Name "ValueError" p2] [] pos) b :=
  .mk (pe_callB (call_isP hp C hz hf) hgi hmi (by decide +kernel) (pa_cons (pe_var hx hv (name_of hn).1 (name_of hn).2) (pa_cons (pe_bltn (v := .ty "ValueError") hg hm (by decide +kernel) rfl (by decide) (by decide)) pa_nil)) (by decide) (by decide))
    fun σ H Q h q => ⟨_, h, .ty "ValueError", .type "ValueError", b, rfl, fun u r => r, k, q⟩
end
end PD

/-! PDP: the laws' def that asks an exception for all its kinds, in a suite. -/
namespace PD
open PySem PySem.Spec PyProof.Rows L2
section
variable {X : Cx}
/-- tests of the exception whose answers are bs -/
def PAB (X : Cx) (i : Nat) (a : Addr) (es : List Expr) (bs : List Bool) : Prop := PA X es fun σ H Q => At i a σ ∧ Q (bs.map V.bl) H
theorem pab_nil {i : Nat} {a : Addr} : PAB X i a [] [] := ⟨fun pos pins s σ H Q I w => pa_nil.run pos pins s σ H Q I w.2⟩
theorem pab_cons {i : Nat} {a : Addr} {e : Expr} {b : Bool} {es : List Expr} {bs : List Bool} (h : PB X i a e b) (r : PAB X i a es bs) (hs : starEach (e :: es) X.env = (false, eval e X.env) :: starEach es X.env) : PAB X i a (e :: es) (b :: bs) :=
  ⟨fun pos pins s σ H Q I w => (pa_cons h r hs).run pos pins s σ H Q I ⟨w.1, w.1, w.2⟩⟩
/-- a list of such tests -/
theorem pe_tests {i : Nat} {a : Addr} {es : List Expr} {bs : List Bool} {pos : Pos} (h : PAB X i a es bs) (hl : bs.length ≤ 100) : PE X (.List es pos) fun σ H Q => At i a σ ∧ ∀ p, H p = none → Q (.ref p) (upd H p (.lst (bs.map V.bl))) :=
  ⟨fun pins s σ H Q I w => (pe_lst h).run pins s σ H Q I ⟨w.1, Nat.le_trans (by rw [List.length_map]; exact hl) (by decide), w.2⟩⟩
/-! ### lists of truths -/
def bls (bs : List Bool) : List D := bs.map PyData.bool
theorem rp_bls {K : Fg} {A : Addr → Prop} {H : Hp} : ∀ bs : List Bool, RpAll K A H (bs.map V.bl) (bls bs)
  | [] => .nil
  | b :: bs => .cons (.bl b) (rp_bls bs)
theorem canLay_bls (bs : List Bool) : PyData.canLayAll0 (bls bs) = true := by
  induction bs with
  | nil => rfl
  | cons b bs ih =>
    show (PyData.canLay0 (.bool b) && PyData.canLayAll0 (bls bs)) = true
    rw [ih]
    rfl
theorem depth_bls (bs : List Bool) : PyData.depthAll (bls bs) = 0 := by
  induction bs with
  | nil => rfl
  | cons b bs ih =>
    show max (PyData.depth (.bool b)) (PyData.depthAll (bls bs)) = 0
    rw [ih]
    rfl
theorem shaped_bls (bs : List Bool) : SeqAt.shaped (.list (bls bs)) = true := by
  unfold SeqAt.shaped
  rw [PyData.canLay0, canLay_bls, PyData.depth, depth_bls]
  rfl
theorem eqv_bls : ∀ a b : List Bool, PyData.eqvAll (bls a) (bls b) = decide (a = b)
  | [], [] => by simp [bls, PyData.eqvAll]
  | [], _ :: _ => by simp [bls, PyData.eqvAll]
  | _ :: _, [] => by simp [bls, PyData.eqvAll]
  | x :: a, y :: b => by
    show (PyData.eqv (.bool x) (.bool y) && PyData.eqvAll (bls a) (bls b)) = _
    rw [eqv_bls a b]
    have : PyData.eqv (.bool x) (.bool y) = (x == y) := by cases x <;> cases y <;> rfl
    rw [this]
    by_cases h : x = y
    · subst h; simp
    · simp [h]
theorem dp_bls {K : Fg} {H : Hp} {a : Addr} {bs : List Bool} (h : H a = some (.lst (bs.map V.bl))) : Dp K H (.ref a) (.list (bls bs)) :=
  Rp.dp (A := fun _ => False) (.lst (.inl ⟨id, .inl h⟩) (rp_bls bs)) (SeqAt.canLay_of_shaped (shaped_bls bs))
/-! ### the def's body, in a context where the exception p is handled -/
/-- what the last line's list tells -/
def upto (k : Int) : List Bool := (List.range 8).map fun (i : Nat) => decide ((i : Int) = k)
theorem only_body {p : Addr × Obj} (hot : L2H.HotC X) (nd : X.N.Nodup) (hu : X.A.units + 64 < cLine) {es1 es2 : List Expr} {bs1 bs2 : List Bool} {i1 i2 : Expr} {c1 c2 : Bool} {kn y tn : Str} {scope : Scope} {kk : Nat}
    {q1 q2 q3 q4 q5 q6 q7 q8 q9 q10 q11 q12 q13 q14 q15 q16 q17 q18 q19 q20 : Pos}
    (h1 : PAB X 0 p.1 es1 bs1) (h2 : PAB X 0 p.1 es2 bs2) (l1 : bs1.length ≤ 50) (l2 : bs2.length ≤ 50) (p1 : PB X 0 p.1 i1 c1) (p2 : PB X 0 p.1 i2 c2)
    (k2 : X.N[2]? = some kn) (kl : X.env.scope.names.lookup kn = some .local) (ko : okName kn = true)
    (hy : X.N[3]? = some y) (hyo : okName y = true) (hyl : scope.names.lookup y = some .local) (hb : blkC X.N X.env.scope scope [(y, 3)] = true) (ht : X.N[1]? = some tn) (hto : okName tn = true) (htv : visB (relS scope X.env.scope) tn = true)
    (gr : Gl X "range") (mr : X.mg "range" = none) :
    ∃ t, PSs X [.Assign [.Name kn q1] (.List es1 q2) q3, .Assign [.Name kn q4] (.BinOp (.Name kn q5) .Add (.List es2 q6) q7) q8,
      .Return (some (.BoolOp .And [i1, i2, .Compare (.Name kn q9) [.Eq] [.ListComp (.Compare (.Name y q10) [.Eq] [.Name tn q11] q12) [⟨.Name y q13, .Call (.Name "range" q14) [.Constant (.int 8) kk q15] [] q16, [], 0⟩] scope q17] q18] q19)) q20] t ∧
      ∀ (H : Hp) (k : Int) (D : Ends) (rest : L2.St), rest.length = 2 → (∀ H', Same H H' → D.rt (.bl (if c1 = true then if c2 = true then decide (bs1 ++ bs2 = upto k) else false else false)) H') → t D (some (.ref p.1) :: some (.int k) :: rest) H := by
  have vis : ∀ (s : Shared) (H : Hp) (C : Addr) (cl : List (Str × Addr)) (fp : List Addr), PE (X.blk s H scope (compEnvC scope cl C X.env) fp) (.Compare (.Name y q10) [.Eq] [.Name tn q11] q12) (tOp rEq (tVar 3) (tVar 1)) := fun s H C cl fp =>
    pe_cmpR op_eq (pe_var (X := X.blk s H scope (compEnvC scope cl C X.env) fp) hy (.inl (lookup_relS_keep (by decide) hyl)) (name_of hyo).1 (name_of hyo).2)
      (pe_var (X := X.blk s H scope (compEnvC scope cl C X.env) fp) ht (vis_of htv) (name_of hto).1 (name_of hto).2) rfl
  have lc := PDH.pe_rl (pos := q17) hot nd (L2H.pi_range1H (tg := .Name y q13) (p := q14) (pos := q16) gr mr (pa_cons (show PE X (.Constant (.int 8) kk q15) (tC (.int 8)) from pe_int) pa_nil)) (blkOk_by hb)
    (fun s H C cl fp => pg_name (X := X.blk s H scope (compEnvC scope cl C X.env) fp) nd hy (.inl (lookup_relS_keep (by decide) hyl)) (.inr (lookup_relS_keep (by decide) hyl))) vis
  have hk : PE X (.Name kn q9) (tVar 2) := pe_var k2 (.inl kl) (name_of ko).1 (name_of ko).2
  have hk' : PE X (.Name kn q5) (tVar 2) := pe_var k2 (.inl kl) (name_of ko).1 (name_of ko).2
  have cmp := pe_cmpR (pos := q18) (op_eqD hu) hk lc (by rfl)
  refine ⟨_, pss_cons (ps_asg (pe_tests h1 (by omega)) (pg_name nd k2 (.inl kl) (.inr kl))) (pss_cons (ps_asg (pe_op op_cat hk' (pe_tests h2 (by omega))) (pg_name nd k2 (.inl kl) (.inr kl))) (pss_cons (ps_ret (pe_and p1 (pe_and p2 (pe_one cmp)))) pss_nil)), ?_⟩
  intro H k D rest hr q
  obtain ⟨r1, r2, rfl⟩ : ∃ r1 r2, rest = [r1, r2] := by
    match rest, hr with
    | [a, b], _ => exact ⟨a, b, rfl⟩
  refine ⟨rfl, fun a1 n1 => ⟨.ref a1, rfl, rfl, fun a2 n2 => ?_⟩⟩
  have e21 : a2 ≠ a1 := fun z => by rw [z, upd_same] at n2; cases n2
  refine ⟨a1, a2, bs1.map V.bl, bs2.map V.bl, rfl, rfl, by rw [upd_ne e21.symm]; exact upd_same, upd_same, by rw [List.length_map, List.length_map]; exact Nat.le_trans (show _ ≤ 100 by omega) (by decide), fun a3 n3 => ?_⟩
  rw [← List.map_append]
  have s3 : Same H (upd (upd (upd H a1 (.lst (bs1.map V.bl))) a2 (.lst (bs2.map V.bl))) a3 (.lst ((bs1 ++ bs2).map V.bl))) := ((same_upd n1).trans (same_upd n2)).trans (same_upd n3)
  generalize hH3 : upd (upd (upd H a1 (.lst (bs1.map V.bl))) a2 (.lst (bs2.map V.bl))) a3 (.lst ((bs1 ++ bs2).map V.bl)) = H3 at s3
  have e3 : H3 a3 = some (.lst ((bs1 ++ bs2).map V.bl)) := by rw [← hH3]; exact upd_same
  refine ⟨rfl, c1, rfl, ?_⟩
  cases c1 with
  | false => exact q H3 s3
  | true =>
    refine ⟨rfl, c2, rfl, ?_⟩
    cases c2 with
    | false => exact q H3 s3
    | true =>
      refine ⟨.ref a3, rfl, 8, rfl, by omega, by omega, 8, fun i => .bl (decide ((i : Int) = k)), rfl, by omega, fun i hi H' mono R hR => ?_, fun a4 n4 => ?_⟩
      · refine ⟨.int i, rfl, .int k, rfl, rfl, ?_⟩
        have e : (V.int (i : Int) = V.int k) = ((i : Int) = k) := propext ⟨fun h => V.int.inj h, fun h => by rw [h]⟩
        have hd : decide (V.int (i : Int) = V.int k) = decide ((i : Int) = k) := by simp only [e]
        rw [hd]
        exact hR
      · have e4 : (List.range 8).map (fun (i : Nat) => V.bl (decide ((i : Int) = k))) = (upto k).map V.bl := by
          unfold upto
          rw [List.map_map]
          rfl
        rw [e4]
        have n34 : a3 ≠ a4 := fun z => by rw [← z, e3] at n4; cases n4
        refine ⟨.list (bls (bs1 ++ bs2)), .list (bls (upto k)), dp_bls (by rw [upd_ne n34]; exact e3), dp_bls upd_same, shaped_bls _, shaped_bls _, ?_⟩
        rw [PyData.eqv, eqv_bls]
        exact q _ (s3.trans (same_upd n4))
/-! ### the def called in a suite: its body runs in cxH's context, the exception p handed on as handled -/
theorem run_hot {CX : CXT} {k : Nat} {f : Addr} {name qual : Str} {params : Arguments} {body : List Stmt} {scope : Scope} {dV kV doc pm cdv ct oc : Value} {an od : Option Addr} {osl : Array (Option Value)} {N ps : List Str} {p : Addr × Obj} {E : XK}
    (hp : p ∈ X.pn) (hot : L2H.Hot1 X.A p) (hr : L2H.RoomH (k + 1) X.A) (lk : X.K.lookup f = some ⟨oc, od, .func (PySem.W.fnOf name qual params body scope dV kV doc pm an cdv ct), osl⟩) (hcd : PySem.W.codeIn X.K cdv qual = true) (S : FnScope N ps scope)
    (hb : Binds X.K (PySem.W.fnOf name qual params body scope dV kV doc pm an cdv ct) ps [])
    {pins : List (Addr × Obj)} {σ : L2.St} {H : Hp} {s : Shared} {Q : VK} {us : List Value} {vs : List V} (hx : PassesAt CX X σ E) (I : Inv X pins σ H s) (r : Vals vs us) (hl : vs.length = ps.length)
    (hbody : ∃ t, PSs (L2H.cxH CX X.prog X.w X.K X.mg X.base N qual scope f cdv X.A X.stack s H E p) body t ∧ t { nx := fun _ H' => Q .non H', rt := Q } (L2.start N vs) H) :
    wpAny (model X.prog X.w) X.A (call (.ref f) us) (EP X pins σ Q) X.xe s := by
  have hlu : us.length = ps.length := by rw [← r.length]; exact hl
  have b := hb s us I.kIn (by rw [List.append_nil]; exact hlu)
  rw [List.append_nil] at b
  have P1 := I.pin p (List.mem_append_left _ hp)
  have hpin : L2H.PinOk X.stack H s p := ⟨P1.1, P1.2.1, fun hm => (List.mem_cons.mp (I.stkSub p.1 hm)).elim P1.2.2.1 P1.2.2.2.1, P1.2.2.2.2⟩
  have hkind : ∀ y ∈ ps.zip us, scope.names.lookup y.1 = some .local ∨ (scope.names.lookup y.1 = some .cell ∧ ((cellsFrom (s.heap.objs.size + 1) scope.names []).lookup y.1).isSome = true) := fun ⟨n, v⟩ hy => by
    rcases S.par n (List.of_mem_zip hy).1 with q | q
    · exact .inl q
    · exact .inr ⟨q, PySem.W.cellsFrom_some _ _ _ (.inl q)⟩
  have run : codeAny (model X.prog X.w) X.A (.call (.ref f) ⟨us, []⟩) (CR CX X.stack X.prog X.w H s Q E) s := by
    refine codeAny_call_function hr.depth (I.kIn _ _ lk) rfl S.co S.gen rfl (PySem.W.codeRec_of I.kIn hcd) (b _ _ _ _ ?_)
    refine wpAny_newFunctionEnv_cells S.kind hkind fun env he s1 x => ?_
    subst he
    refine ⟨I.nolimit.keeps x.toInCall.keep, codeAny_func ?_⟩
    obtain ⟨t, ht, hq⟩ := hbody
    have J := L2H.inv_startH (CX := CX) (E := E) S hpin I.env0 hl r x
    refine wpAny_mono (ht.run [] s1 (L2.start N vs) H _ J hq) (fun fl s' hs => ?_) fun e s' hs => hs
    cases fl with
    | ret u =>
      obtain ⟨v, σ', H', J, rv, q⟩ := hs
      exact ⟨v, H', J.os, J.bare, J.base, J.hok, rv, q⟩
    | next =>
      obtain ⟨σ', H', J, q⟩ := hs
      exact ⟨.non, H', J.os, J.bare, J.base, J.hok, rfl, q⟩
    | brk =>
      obtain ⟨_, _, _, q⟩ := hs
      exact q.elim
    | cont =>
      obtain ⟨_, _, _, q⟩ := hs
      exact q.elim
  refine wpAny_call (codeAny_mono run fun r s' hq => ?_)
  cases r with
  | error e => exact hx pins H s e s' I hq
  | ok fl =>
    cases fl with
    | ret u => exact I.after hq
    | next => exact hq.elim
    | brk => exact hq.elim
    | cont => exact hq.elim
end
end PD

/-! PDK: an exception that is caught and held: behind the suite its object is tracked. -/
namespace PD
open PySem PySem.Spec PyProof.Rows L2 L2N
section
variable {X : Cx} {pins : List (Addr × Obj)} {σ : L2.St} {H : Hp} {s sI : Shared}
/-- an object that stands in the heap, new since the entry, not pinned, is tracked -/
theorem track_ok {a : Addr} {o : HO} (I : Inv X pins σ H s) (na : H a = none) (nL : a ≠ X.env.locals) (nC : ∀ x c, X.env.cells.lookup x = some c → c ≠ a)
    (nP : ∀ p ∈ X.pn ++ pins, p.1 ≠ a) (n0 : ∀ o, X.s_0.heap.get? a = some o → a ∈ X.ex) (new : ObjOk X.prog X.w (upd H a o) s.heap a o) : Inv X pins σ (upd H a o) s := by
  refine ⟨I.ok, I.os, I.bare, ⟨I.base.keep, I.base.slot, fun b u e n hx => ?_, I.base.there, fun b xs e => ?_, fun b u x e => ?_, fun b ps e => ?_⟩, I.loc, I.cell, ?_, fun x c e => ?_, fun p hp => ?_, I.hok.laidN (fun _ _ z => z) na new, I.len⟩
  · have hb : b ≠ a := fun z => hx (by rw [z] at e ⊢; exact n0 u e)
    rw [upd_ne hb]
    exact I.base.free b u e n hx
  · have q := I.base.tups b xs e
    rw [upd_ne (ne_of_none q na)]
    exact q
  · have q := I.base.frzs b u x e
    rw [upd_ne (ne_of_none q na)]
    exact q
  · obtain ⟨m, q⟩ := I.base.tbls b ps e
    exact ⟨m, by rw [upd_ne (ne_of_none q na)]; exact q⟩
  · rw [upd_ne nL.symm]
    exact I.free
  · rw [upd_ne (nC x c e)]
    exact I.freeC x c e
  · obtain ⟨h1, h2, h3, h4, h5⟩ := I.pin p hp
    exact ⟨h1, by rw [upd_ne (nP p hp)]; exact h2, h3, h4, h5⟩
end
/-- what the body of such a try is to reach when it raises -/
def wTrk (K : PySem.W.Frag) (c : Value) (i : Nat) (ts : TS) (Wout : WX) (D : Ends) : WX := fun cls d σ H =>
  ∃ b, PySem.W.exmOne K cls c = some b ∧ (b = true → ∃ C, cls = .ref C ∧ d = none ∧ ∀ a, H a = none → ts { nx := fun σ' H' => H' a = none → D.nx (σ'.set i none) (upd H' a (Exo C a)), rt := fun _ _ => False, bk := fun _ _ => False, ct := fun _ _ => False } (σ.set i (some (.ref a))) H) ∧
    (b = false → Wout cls d σ H)
section
variable {X : Cx} {x n : Str} {c : Value} {i : Nat} {body suite : List Stmt} {b₀ : Stmt} {np pos pos' : Pos} {tb : WX → TS} {ts : TS} {Wout : WX}
theorem ps_try_trk (hs : X.stack = X.env :: X.outer) (hf : X.env.frame = some X.env.locals) (hN : X.N.Nodup) (hi : X.N[i]? = some n) (hln : X.env.kindOf n = some .local) (hc : Names X x c) (tk : L2N.Takes X Wout)
    (hb : ∀ (W : WX) (pn : List (Addr × Obj)) (xe : Value → Shared → Prop), L2N.Takes (X.tr pn xe) W → PassesOwn (model X.prog X.w) X.A X.env xe → PSs (X.tr pn xe) body (tb W))
    (hsu : ∀ (a : Addr) (oe : Obj) (pn : List (Addr × Obj)), PSs (X.suite a ((a, oe) :: pn)) (b₀ :: suite) ts) :
    PS X (.Try body [.ExceptHandler (some (.Name x np)) (some n) (b₀ :: suite) pos'] [] [] pos) (fun D σ H => tb (wTrk X.K c i ts Wout D) D σ H) := by
  refine ⟨fun pins s σ H D I h => ?_⟩
  have ok := I.ok
  have hfr : X.A.frames = some (X.env :: X.outer) := by rw [ok.frames, hs]
  have caught : ∀ (xe : Value → Shared → Prop) (u : Value) (s' : Shared), L2N.XE (X.tr (X.pn ++ pins) xe) (wTrk X.K c i ts Wout D) u s' →
      wpAny (model X.prog X.w) X.A (noteFrame u X.env) (fun _ s₂ => wpAny (model X.prog X.w) X.A (setFlight u none) (fun _ s₃ => wpAny (model X.prog X.w) X.A (handleBy u X.env [.ExceptHandler (some (.Name x np)) (some n) (b₀ :: suite) pos']) (SP X pins D) X.xe s₃) X.xe s₂) X.xe s' := by
    intro xe u s' xx
    obtain ⟨a, B, sI, pins', σ', H', cls, d, rfl, J', nb, up, sky, na, os, ag, b, hb1, hyes, hno⟩ := xx
    have J : Inv X pins σ' H' sI := J'.ofTry ok
    have sky' : Sky B (X.env :: X.outer) a (Zn cls d) X.env.locals s'.heap := by rw [← hs]; exact sky
    have na0 : B.get? a = none := by
      rcases sky' with z | z | z
      · exact z.2.1
      · exact z.2.1
      · exact z.2.1
    refine Sky.land Zn.steady hfr hf sky' fun h3 fl3 up3 => ?_
    have J3 : Inv X pins σ' H' { s' with heap := h3 } := J.landed nb fl3.1 (up.trans up3) os ag
    obtain ⟨o3, v3, g3, z3, d3⟩ := fl3.there
    have nfr : a ∉ frs (X.env :: X.outer) := fun hm => by
      obtain ⟨_, o', e', q⟩ := fl3.2.2.1.mem hm
      rw [g3] at e'; cases e'
      exact q _ d3
    have nL : a ≠ X.env.locals := fun z => nfr (List.mem_filterMap.mpr ⟨X.env, List.mem_cons_self, by rw [hf, z]⟩)
    have nF : a ∉ X.fs := fun hm => by
      obtain ⟨e, he, q⟩ := List.mem_filterMap.mp hm
      exact nfr (List.mem_filterMap.mpr ⟨e, List.mem_cons_of_mem _ he, q⟩)
    -- nothing of the state without the exception stands there
    have gone : sI.heap.get? a = none := by
      cases q : sI.heap.get? a with
      | none => rfl
      | some o => exact absurd (nb a o q (by rw [hs]; exact nfr)) (by rw [na0]; exact fun z => nomatch z)
    have n0 : ∀ o, X.s_0.heap.get? a = some o → a ∈ X.ex := fun o q => Classical.byContradiction fun hx => by
      obtain ⟨o', q'⟩ := J.base.there a o q hx
      rw [gone] at q'; cases q'
    have nC : ∀ x c, X.env.cells.lookup x = some c → c ≠ a := fun x c e z => by
      obtain ⟨v, o, ho, _⟩ := J.cell x c e
      rw [z, gone] at ho; cases ho
    have nP : ∀ p ∈ X.pn ++ pins, p.1 ≠ a := fun p hp z => by
      have q := (J.pin p hp).1
      rw [z, gone] at q; cases q
    refine wpAny_handleBy_cons (codeAny_handlers_test ?_) (by intro q; cases q)
    have S3 := J3.suite g3 d3 na nL nF
    have LT : PySem.W.Looks (model X.prog X.w) h3 (typeOf (.ref a)) cls := fun A Q E s k q => wpAny_typeOf_ref (k _ _ g3) (by rw [z3.1]; exact q)
    have test : ∀ {Q : Value → Shared → Prop} {E : Value → Shared → Prop}, Q c { s' with heap := h3 } → wpAny (model X.prog X.w) (X.A.mark (some (.ref a))) (eval (.Name x np) X.env) Q E { s' with heap := h3 } := fun {Q E} q => by
      obtain ⟨hg, hdbg, hm | ⟨hm, hv, hnn⟩⟩ := hc
      · exact ld_glob (X := X.suite a ((a, o3) :: (X.pn ++ pins))) S3 hg hm q hdbg
      · exact ld_blt (X := X.suite a ((a, o3) :: (X.pn ++ pins))) S3 hg hm hv q hnn hdbg
    refine test ((PySem.W.exm_one (M := model X.prog X.w) J3.kIn LT hb1).here ?_)
    cases b with
    | false =>
      refine wpAny_handleBy_nil ?_
      obtain ⟨k1, k2, k3, oe, vs, T, oT, ts', he, hz, hd, h1, hr⟩ := id fl3
      unfold PySem.passOn
      refine wpAny_bind (wpAny_field he hd h1 ?_)
      rw [if_neg (show ¬ ((Value.ref T == Value.none) = true) from by simp)]
      have fin : wpAny (model X.prog X.w) X.A (setFlight (.ref a) X.env.frame) (fun _ s4 => wpAny (model X.prog X.w) X.A (throw (.ref a) : Sem Flow) (SP X pins D) X.xe s4) X.xe { s' with heap := h3 } := by
        rw [hf]
        refine HandSPX.setFlight_upZ fl3 fun h4 hh4 up4 => wpAny_throw (tk _ _ ?_)
        exact ⟨a, B, sI, pins, σ', H', cls, d, rfl, J, nb, (up.trans up3).trans up4, .inr (.inr (by rw [hs]; exact hh4)), na, os, ag, hno rfl⟩
      first
        | exact wpAny_bind (wpAny_pure (wpAny_bind fin))
        | exact wpAny_bind fin
    | true =>
      obtain ⟨C, rfl, rfl, q0⟩ := hyes rfl
      refine codeAny_handlers_suite_as ?_
      refine HandSPX.lands_againZ fl3 fun h4 fl4 up4 => ?_
      have J4 : Inv X pins σ' H' { s' with heap := h4 } := J.landed nb fl4.1 ((up.trans up3).trans up4) os ag
      obtain ⟨o4, v4, g4, z4, d4⟩ := fl4.there
      refine store_ok (X := X.suite a ((a, o4) :: (X.pn ++ pins))) (v := .ref a) (J4.suite g4 d4 na nL nF) hN hi (.inl hln) rfl (fun s5 S5 => ?_) (.inr hln)
      refine wpAny_mono ((hsu a o4 (X.pn ++ pins)).run [] s5 _ H' _ S5 (q0 a na)) (fun f s6 hsp => ?_) (fun _ _ z => False.elim z)
      cases f with
      | next =>
        obtain ⟨σ6, H6, S6, q6⟩ := hsp
        have P6 := S6.pin (a, o4) (List.mem_append_left _ List.mem_cons_self)
        have T6 : Inv X pins σ6 (upd H6 a (Exo C a)) s6 := track_ok (S6.unsuite ok) P6.2.1 nL nC nP n0 ⟨⟨o4, v4, P6.1, z4, d4⟩, ⟨o4, P6.1⟩, fun h1 h2 ⟨o, v, e, z, d⟩ k => ⟨o, v, k _ e, z, d⟩⟩
        exact gone_ok T6 hN hi hln fun s7 J7 => ⟨_, _, J7, q6 P6.2.1⟩
      | brk =>
        obtain ⟨_, _, _, q6⟩ := hsp
        exact q6.elim
      | cont =>
        obtain ⟨_, _, _, q6⟩ := hsp
        exact q6.elim
      | ret u =>
        obtain ⟨_, _, _, _, _, q6⟩ := hsp
        exact q6.elim
  refine wpAny_Try_except ?_
  refine wpAny_mono ((hb (wTrk X.K c i ts Wout D) (X.pn ++ pins) _ (fun u s' xx => caught _ u s' xx) PassesOwn.looking).run [] s σ H D (I.toTry _) h) (fun f s1 hsp => ?_) (fun e s1 he => he)
  cases f with
  | next =>
    obtain ⟨σ', H', J', q⟩ := hsp
    exact wpAny_execs_nil ⟨σ', H', J'.ofTry ok, q⟩
  | brk =>
    obtain ⟨σ', H', J', q⟩ := hsp
    exact ⟨σ', H', J'.ofTry ok, q⟩
  | cont =>
    obtain ⟨σ', H', J', q⟩ := hsp
    exact ⟨σ', H', J'.ofTry ok, q⟩
  | ret u =>
    obtain ⟨v, σ', H', J', r, q⟩ := hsp
    exact ⟨v, σ', H', J'.ofTry ok, r, q⟩
end
end PD

/-! PD6: statements as data, what they do, how they stand in the text. -/
namespace PD
open PySem PySem.Spec PyProof.Rows L2

/-- what is asked of an exception in its suite -/
inductive HE where
  | is (j : Nat)
  | ve
  | str (s : Str)
  | only (k : Int)
  | nt (a : HE)
  | an (a b : HE)
  | two (a b : HE)
  | tri (a b c : HE)
inductive HS where
  | ret (e : HE)
  | asg (j : Nat) (e : HE)
/-- expressions that draw from a state, lists of them -/
inductive EM where
  | p (e : E)
  | v (i : Nat)
  | cs (f : Nat) (ms : EM)
  | pc (f : Nat) (es : E)
  | tup (ms : EM)
  | lst (ms : EM)
  | idx (m : EM) (e : E)
  | bin (o : Bo) (a b : EM)
  | nil
  | cons (m ms : EM)
  | ap (e : E) (ms : EM)
inductive S where
  | skip
  | seq (a b : S)
  | asg (i : Nat) (e : E)
  | asgT (is : List Nat) (e : E)
  | asgN (is : List Nat) (e : E)
  | par (i j : Nat) (a b : E)
  | put (i : Nat) (k e : E)
  | aput (i : Nat) (o : Bo) (k e : E)
  | aug (i : Nat) (o : Bo) (e : E)
  | app (i : Nat) (e : E)
  | pop (i : Nat)
  | popA (j : Nat) (i : Nat)
  | popT (js : List Nat) (i : Nat)
  | asgP (j : Nat) (e : E) (i : Nat)
  | ex (e : E)
  | ret (e : E)
  | ret0
  | ite (c : E) (a b : S)
  | wh (c : E) (b : S)
  | fo (v : Nat) (it : E) (b : S)
  | foT (vs : List Nat) (it : E) (b : S)
  | brk
  | cnt
  | rai (c : Nat)
  | tryN (b : S) (x : Nat) (h : S)
  | tryA (b : S) (x i : Nat) (h : HS)
  | tryK (b : S) (x i j : Nat)
  | asgQ (is js : List Nat) (e : E)
  | foE (p : Nat) (vs : List Nat) (e : E) (b : S)
  | asgK (i : Nat) (es : E)
  | asgKs (i : Nat) (ks : List (List Int))
  | dputE (i : Nat) (es e : E)
  | dputV (i j : Nat) (e : E)
  | dputI (i j : Nat) (k e : E)
  | fod (v i : Nat) (b : S)
  | fodT (vs : List Nat) (i : Nat) (b : S)
  | ext (i : Nat) (e : E)
  | asgM (s i : Nat) (m : EM)
  | asgTM (s : Nat) (is : List Nat) (m : EM)
  | iteM (s : Nat) (o : Co) (m : EM) (e : E) (a b : S)
  | foM (s v : Nat) (m : EM) (b : S)
  | retM (s : Nat) (m : EM)
  | retF (m : EM)
  | mkSt (i : Nat) (e : E)
  | pick1
  | pick2

inductive Fl where
  | nx (η : Env)
  | bk (η : Env)
  | ct (η : Env)
  | rt (d : D)
  | rs (d : D) (xs : Option (List Int))
  | ex (c : Nat) (η : Env)
  | st

def dropS (η : Env) (i : Nat) : Env := match η[i]? with
  | some (some (.ow ds)) => η.set i (some (.sh (.list ds)))
  | some (some (.od l)) => η.set i (some (.sh (dD l)))
  | some (some (.st _)) => η.set i none
  | _ => η
def asgV (η : Env) (i : Nat) (x : Val) : Option Env := if i < η.length then some (match x with
  | .cl d => η.set i (some (.sh d))
  | .nw ds => η.set i (some (.ow ds))
  | .br j ds => (dropS η j).set i (some (.sh (.list ds)))
  | .nd l => η.set i (some (.od l))
  | .bd j l => (dropS η j).set i (some (.sh (dD l)))) else none
def asgL : Env → List Nat → List D → Option Env
  | η, [], [] => some η
  | η, i :: is, d :: ds => (asgV η i (.cl d)).bind fun η' => asgL η' is ds
  | _, _, _ => none
def tupOf : Val → Option (List D)
  | .cl (.tuple ds) => some ds
  | _ => none
def lstOf : Val → Option (List D)
  | .nw ds => some ds
  | .br _ ds => some ds
  | _ => none
def owOf (η : Env) (i : Nat) : Option (List D) := match η[i]? with
  | some (some (.ow ds)) => some ds
  | _ => none
def retD : Val → Option D
  | .cl d => if lf d = true then some d else none
  | .nw ds => if lfAll ds = true then some (.list ds) else none
  | .br _ ds => if lfAll ds = true then some (.list ds) else none
  | .nd l => some (dD l)
  | .bd _ l => some (dD l)
def odOf (η : Env) (i : Nat) : Option Dl := match η[i]? with
  | some (some (.od l)) => some l
  | _ => none
def tkOf (η : Env) (i : Nat) : Option (List Int) := match η[i]? with
  | some (some (.kk (.tk k))) => some k
  | _ => none
def lkOf (η : Env) (i : Nat) : Option (List (List Int)) := match η[i]? with
  | some (some (.kk (.lk ks))) => some ks
  | _ => none
def Fl.of {α : Type} (η : Env) (r : Res α) (k : α → Fl) : Fl := match r with
  | .ok a => k a
  | .ex c => .ex c η
  | .st => .st
def Fl.on {α : Type} (r : Option α) (k : α → Fl) : Fl := match r with
  | some a => k a
  | none => .st
def Fl.seq (f : Fl) (k : Env → Fl) : Fl := match f with
  | .nx η => k η
  | f => f
/-- a turn's end -/
def turnF (w : Env → Fl) : Fl → Fl
  | .nx η => w η
  | .ct η => w η
  | .bk η => .nx η
  | .rt d => .rt d
  | .rs d xs => .rs d xs
  | .ex c η => .ex c η
  | .st => .st
/-- a while, so often -/
def itW (c : Env → Res Bool) (b : Env → Fl) : Nat → Env → Fl
  | 0, _ => .st
  | n + 1, η => Fl.of η (c η) fun k => if k = true then turnF (itW c b n) (b η) else .nx η
open Classical in
/-- a while: as often as it goes -/
noncomputable def whS (c : Env → Res Bool) (b : Env → Fl) (η : Env) : Fl := if h : ∃ n, itW c b n η ≠ .st then itW c b (Classical.choose h) η else .st
section
variable {c : Env → Res Bool} {b : Env → Fl} {n m : Nat} {η : Env}
theorem itW_mono : ∀ {n : Nat} {η : Env}, itW c b n η ≠ .st → itW c b (n + 1) η = itW c b n η := by
  intro n
  induction n with
  | zero => intro η h; exact absurd rfl h
  | succ n ih =>
    intro η h
    rw [itW] at h
    rw [itW, itW]
    cases e : c η with
    | st => rfl
    | ex k => rfl
    | ok k =>
      rw [e] at h
      cases k with
      | false => rfl
      | true =>
        cases eb : b η with
        | nx η' => rw [eb] at h; exact ih h
        | ct η' => rw [eb] at h; exact ih h
        | _ => rfl
theorem itW_le (h : itW c b n η ≠ .st) (hm : n ≤ m) : itW c b m η = itW c b n η := by
  induction m with
  | zero =>
    have : n = 0 := by omega
    rw [this]
  | succ m ih =>
    by_cases e : n = m + 1
    · rw [e]
    · have q := ih (by omega)
      rw [itW_mono (by rw [q]; exact h), q]
theorem whS_of (h : itW c b n η ≠ .st) : whS c b η = itW c b n η := by
  have hx : ∃ n, itW c b n η ≠ .st := ⟨n, h⟩
  unfold whS
  rw [dif_pos hx]
  have h2 := Classical.choose_spec hx
  generalize Classical.choose hx = k at h2
  rcases Nat.le_total n k with q | q
  · exact itW_le h q
  · exact (itW_le h2 q).symm
theorem whS_no (h : ∀ n, itW c b n η = .st) : whS c b η = .st := by
  unfold whS
  rw [dif_neg fun ⟨n, z⟩ => z (h n)]
theorem whS_is (c : Env → Res Bool) (b : Env → Fl) (η : Env) : ∃ n, whS c b η = itW c b n η := by
  by_cases hx : ∃ n, itW c b n η ≠ .st
  · obtain ⟨n, h⟩ := hx
    exact ⟨n, whS_of h⟩
  · exact ⟨0, whS_no fun n => Classical.byContradiction fun z => hx ⟨n, z⟩⟩
/-- one turn -/
theorem whS_eq (c : Env → Res Bool) (b : Env → Fl) (η : Env) : whS c b η = Fl.of η (c η) fun k => if k = true then turnF (whS c b) (b η) else .nx η := by
  cases e : c η with
  | st => exact whS_no fun n => by cases n <;> simp [itW, e, Fl.of]
  | ex k => rw [whS_of (n := 1) (by rw [itW, e]; exact fun z => nomatch z), itW, e]; rfl
  | ok k =>
    cases k with
    | false => rw [whS_of (n := 1) (by rw [itW, e]; exact fun z => nomatch z), itW, e]; rfl
    | true =>
      have st : ∀ n, itW c b (n + 1) η = turnF (itW c b n) (b η) := fun n => by rw [itW, e]; rfl
      show whS c b η = turnF (whS c b) (b η)
      have go : ∀ η', (∀ n, turnF (itW c b n) (b η) = itW c b n η') → whS c b η = whS c b η' := fun η' h => by
        obtain ⟨n, hn⟩ := whS_is c b η'
        by_cases z : itW c b n η' = .st
        · obtain ⟨m, hm⟩ := whS_is c b η
          rw [hm]
          cases m with
          | zero => rw [hn, z]; rfl
          | succ m =>
            rw [st, h]
            by_cases z2 : itW c b m η' = .st
            · rw [z2, hn, z]
            · exact (whS_of z2).symm
        · rw [hn, whS_of (n := n + 1) (by rw [st, h]; exact z), st, h]
      cases eb : b η with
      | nx η' => exact go η' fun n => by rw [eb]; rfl
      | ct η' => exact go η' fun n => by rw [eb]; rfl
      | bk η' => rw [whS_of (n := 1) (by rw [st, eb]; exact fun z => nomatch z), st, eb]; rfl
      | rt d => rw [whS_of (n := 1) (by rw [st, eb]; exact fun z => nomatch z), st, eb]; rfl
      | rs d xs => rw [whS_of (n := 1) (by rw [st, eb]; exact fun z => nomatch z), st, eb]; rfl
      | ex k η' => rw [whS_of (n := 1) (by rw [st, eb]; exact fun z => nomatch z), st, eb]; rfl
      | st =>
        refine whS_no fun n => ?_
        cases n with
        | zero => rfl
        | succ n => rw [st, eb]; rfl
end
/-- a for over what is known -/
def loopF (b : D → Env → Fl) : List D → Env → Fl
  | [], η => .nx η
  | d :: ds, η => turnF (loopF b ds) (b d η)
def Wk.pre (η : Env) : Wk → Env
  | .v (.br j _) => dropS η j
  | .v (.bd j _) => dropS η j
  | _ => η
/-- the things of a list, each with its number -/
def enumF : Nat → List D → List D
  | _, [] => []
  | k, d :: ds => .tuple [.int (k : Nat), d] :: enumF (k + 1) ds
theorem enumF_len : ∀ (ds : List D) (k : Nat), (enumF k ds).length = ds.length
  | [], _ => rfl
  | _ :: ds, k => congrArg (· + 1) (enumF_len ds (k + 1))
theorem enumF_get : ∀ (ds : List D) (k i : Nat) {d : D}, (enumF k ds)[i]? = some d → ∃ e, ds[i]? = some e ∧ d = .tuple [.int ((k + i : Nat) : Int), e]
  | [], _, _, _, h => by simp [enumF] at h
  | e :: ds, k, 0, d, h => by
    rw [enumF, List.getElem?_cons_zero] at h
    cases h
    exact ⟨e, rfl, rfl⟩
  | e :: ds, k, i + 1, d, h => by
    rw [enumF, List.getElem?_cons_succ] at h
    obtain ⟨z, h1, h2⟩ := enumF_get ds (k + 1) i h
    refine ⟨z, by rw [List.getElem?_cons_succ]; exact h1, ?_⟩
    rw [h2, show k + 1 + i = k + (i + 1) by omega]
def asgE (η : Env) (p : Nat) (vs : List Nat) : D → Option Env
  | .tuple [.int i, .tuple es] => if lfAll es = true then (asgV η p (.cl (.int i))).bind fun η1 => asgL η1 vs es else none
  | _ => none
/-- the answers, by the exception's class -/
def heB (c : Nat) : HE → Bool
  | .is j => subX c j
  | .ve => true
  | .only k => decide ((List.range 8).map (fun j => subX c (j + 1)) = upto k)
  | .nt a => !heB c a
  | .an a b => heB c a && heB c b
  | _ => false
def heT : HE → Bool
  | .str _ => false
  | .two _ _ => false
  | .tri _ _ _ => false
  | _ => true
def heD (c : Nat) : HE → D
  | .str s => .str s
  | .two a b => .tuple [heD c a, heD c b]
  | .tri a b d => .tuple [heD c a, heD c b, heD c d]
  | e => .bool (heB c e)
def hsF (c : Nat) (i : Nat) (η : Env) : HS → Fl
  | .ret e => if i < η.length then .rt (heD c e) else .st
  | .asg j e => if j = i then .st else match η[i]? with
    | some none => Fl.on (asgV η j (.cl (heD c e))) .nx
    | _ => .st
def keepF (l : List Str) (c i j : Nat) (η : Env) : Fl := if j = i then .st else match η[i]?, l[c]? with
  | some none, some n => Fl.on (asgV η j (.cl (exD n))) .nx
  | _, _ => .st
def asgQF (η : Env) (is js : List Nat) : List D → Fl
  | [d1, d2] => Fl.on (tupOf (.cl d1)) fun a => Fl.on (tupOf (.cl d2)) fun b => if lfAll b = true then Fl.on (asgL η is a) fun η1 => Fl.on (asgL η1 js b) .nx else .st
  | _ => .st
/-- nothing may be raised -/
def noEx : Fl → Fl
  | .ex _ _ => .st
  | f => f
/-- a new list -/
def newList : Val → Option (List D)
  | .nw ds => some ds
  | _ => none
def setK (η : Env) (i : Nat) (k : Sk) : Option Env := if i < η.length then some (η.set i (some (.kk k))) else none
def stOf (η : Env) (i : Nat) : Option (List Int) := match η[i]? with
  | some (some (.st xs)) => some xs
  | _ => none
/-- a value whose lists are all new since the call -/
def Val.fresh : Val → Option D
  | .cl d => if lf d = true then some d else none
  | .nw ds => if lfAll ds = true then some (.list ds) else none
  | .nd l => some (dD l)
  | _ => none
/-- a name's data whose lists are all new; a list that the name owned is owned no more -/
def freshV (η : Env) (i : Nat) : Res (D × Env) := match η[i]? with
  | some (some (.fr d)) => .ok (d, η)
  | some (some (.sh d)) => if lf d = true then .ok (d, η) else .st
  | some (some (.ow ds)) => if lfAll ds = true then .ok (.list ds, η.set i (some (.fr (.list ds)))) else .st
  | some (some (.od l)) => .ok (dD l, η.set i (some (.fr (dD l))))
  | _ => .st
def Val.offS (i : Nat) : Val → Bool
  | .br j _ => decide (j ≠ i)
  | .bd j _ => decide (j ≠ i)
  | _ => true
noncomputable def binD (o : Bo) (x y : D) : Res D := match o, x, y with
  | .add, .list ds, .list es => if Sm (ds.length + es.length) then .ok (.list (ds ++ es)) else .st
  | .add, .tuple ds, .tuple es => if Sm (ds.length + es.length) then .ok (.tuple (ds ++ es)) else .st
  | o, .int i, .int j => match binV o (.cl (.int i)) (.cl (.int j)) with
    | .ok (.cl (.int k)) => .ok (.int k)
    | _ => .st
  | _, _, _ => .st
def idxD (x : D) (y : Val) : Res D := match x, y with
  | .list ds, .cl (.int k) => oOk (atI ds k)
  | .tuple ds, .cl (.int k) => oOk (atI ds k)
  | _, _ => .st
section
variable (T : Tb) (s : Nat)
mutual
/-- what is drawn: the answer, the names behind it -/
noncomputable def evM : EM → Env → Res (D × Env)
  | .p e, η => (ev T e η).sure.bind fun x => (oOk x.fresh).bind fun d => .ok (d, η)
  | .v i, η => if i = s then .st else freshV η i
  | .cs f ms, η => (oOk (stOf η s)).bind fun _ => (evMs ms η).bind fun p => (oOk (stOf p.2 s)).bind fun xs => (T.S f xs p.1).sure.bind fun q => .ok (q.1, p.2.set s (some (.st q.2)))
  | .pc f es, η => (evs T es η).sure.bind fun xs => (T.G f (xs.map Val.d)).sure.bind fun d => .ok (d, η)
  | .tup ms, η => (evMs ms η).bind fun p => .ok (.tuple p.1, p.2)
  | .lst ms, η => (evMs ms η).bind fun p => .ok (.list p.1, p.2)
  | .idx m e, η => (evM m η).bind fun p => (ev T e p.2).sure.bind fun y => (idxD p.1 y).bind fun d => .ok (d, p.2)
  | .bin o a b, η => (evM a η).bind fun p => (evM b p.2).bind fun q => (binD o p.1 q.1).bind fun d => .ok (d, q.2)
  | _, _ => .st
termination_by structural x => x
noncomputable def evMs : EM → Env → Res (List D × Env)
  | .nil, η => .ok ([], η)
  | .cons m ms, η => (evM m η).bind fun p => (evMs ms p.2).bind fun q => .ok (p.1 :: q.1, q.2)
  | .ap e ms, η => (ev T e η).sure.bind fun x => if x.offS s = true then (evMs ms η).bind fun q => .ok (x.d :: q.1, q.2) else .st
  | _, _ => .st
termination_by structural x => x
end
/-- are there things that aren't drawn among the arguments -/
def EM.plain : EM → Bool
  | .nil => true
  | .cons _ ms => ms.plain
  | _ => false
end
def asgFr (η : Env) (i : Nat) (d : D) : Option Env := if i < η.length then some (η.set i (some (.fr d))) else none
def asgFrL : Env → List Nat → List D → Option Env
  | η, [], [] => some η
  | η, i :: is, d :: ds => (asgFr η i d).bind fun η' => asgFrL η' is ds
  | _, _, _ => none
section
variable (T : Tb)
noncomputable def exS : S → Env → Fl
  | .skip, η => .nx η
  | .seq a b, η => (exS a η).seq (exS b)
  | .asg i e, η => Fl.of η (ev T e η) fun x => Fl.on (asgV η i x) .nx
  | .asgT is e, η => Fl.of η (ev T e η) fun x => Fl.on (tupOf x) fun ds => Fl.on (asgL η is ds) .nx
  | .asgN is e, η => Fl.of η (ev T e η) fun x => Fl.on (lstOf x) fun ds => Fl.on (asgL η is ds) .nx
  | .par i j a b, η => Fl.of η (ev T a η) fun x => Fl.of η (ev T b η) fun y => Fl.on x.sh fun d => Fl.on y.sh fun d' => Fl.on (asgL η [i, j] [d, d']) .nx
  | .put i k e, η => Fl.of η (ev T e η) fun x => Fl.on (owOf η i) fun ds => Fl.of η (ev T k η) fun y => Fl.of η (intOf y) fun n => Fl.on x.sh fun d => Fl.on (ixN ds.length n) fun j => .nx (η.set i (some (.ow (ds.set j d))))
  | .aput i o k e, η => Fl.on (owOf η i) fun ds => Fl.of η (ev T k η) fun y => Fl.of η (intOf y) fun n => Fl.on (atI ds n) fun old => Fl.of η (intOf (.cl old)) fun m0 => Fl.of η (ev T e η) fun x =>
      Fl.of η (intOf x) fun m1 => Fl.of η (binV o (.cl (.int m0)) (.cl (.int m1))) fun z => Fl.of η (intOf z) fun m => Fl.on (ixN ds.length n) fun j => .nx (η.set i (some (.ow (ds.set j (.int m)))))
  | .aug i o e, η => Fl.of η (slotV η i) fun x => Fl.of η (intOf x) fun _ => Fl.of η (ev T e η) fun y => Fl.of η (intOf y) fun _ => Fl.of η (binV o x y) fun z => Fl.on (asgV η i z) .nx
  | .app i e, η => Fl.on (owOf η i) fun ds => Fl.of η (ev T e η) fun x => Fl.on x.sh fun d => if Sm (ds.length + 1) then .nx (η.set i (some (.ow (ds ++ [d])))) else .st
  | .pop i, η => Fl.on (owOf η i) fun ds => Fl.on (ds[ds.length - 1]?) fun _ => .nx (η.set i (some (.ow ds.dropLast)))
  | .popA j i, η => Fl.on (owOf η i) fun ds => Fl.on (ds[ds.length - 1]?) fun d => Fl.on (asgV (η.set i (some (.ow ds.dropLast))) j (.cl d)) .nx
  | .asgP j e i, η => Fl.of η (ev T e η) fun x => Fl.of η (intOf x) fun m => Fl.on (owOf η i) fun ds => Fl.on (ds[ds.length - 1]?) fun d => Fl.of η (intOf (.cl d)) fun k => Fl.of η (mulV (.cl (.int m)) (.cl (.int k))) fun z => Fl.on (asgV (η.set i (some (.ow ds.dropLast))) j z) .nx
  | .popT js i, η => Fl.on (owOf η i) fun ds => Fl.on (ds[ds.length - 1]?) fun d => Fl.on (tupOf (.cl d)) fun es => Fl.on (asgL (η.set i (some (.ow ds.dropLast))) js es) .nx
  | .ex e, η => Fl.of η (ev T e η) fun _ => .nx η
  | .ret e, η => Fl.of η (ev T e η) fun x => Fl.on (retD x) .rt
  | .ret0, _ => .rt .none
  | .ite c a b, η => Fl.of η (evt T c η) fun k => if k = true then exS a η else exS b η
  | .wh c b, η => whS (evt T c) (exS b) η
  | .fo v it b, η => Fl.of η (evi T it η) fun w => loopF (fun d η => Fl.on (asgV η v (.cl d)) (exS b)) w.ds (w.pre η)
  | .foT vs it b, η => Fl.of η (evi T it η) fun w => loopF (fun d η => Fl.on (tupOf (.cl d)) fun ds => Fl.on (asgL η vs ds) (exS b)) w.ds (w.pre η)
  | .brk, η => .bk η
  | .cnt, η => .ct η
  | .rai c, η => .ex c η
  | .tryN b x h, η => match exS b η with
    | .ex c η' => if subX c x = true then exS h η' else .ex c η'
    | f => f
  | .tryA b x i h, η => match exS b η with
    | .ex c η' => if subX c x = true then hsF c i η' h else .ex c η'
    | f => f
  | .tryK b x i j, η => match exS b η with
    | .ex c η' => if subX c x = true then keepF T.ex c i j η' else .ex c η'
    | f => f
  | .asgK i es, η => Fl.of η (evs T es η) fun xs => Fl.on (intsOf (xs.map Val.d)) fun k => Fl.on (setK η i (.tk k)) .nx
  | .asgKs i ks, η => Fl.on (setK η i (.lk ks)) .nx
  | .dputE i es e, η => Fl.of η (ev T e η) fun x => Fl.of η (intOf x) fun n => Fl.on (odOf η i) fun l => Fl.of η (evs T es η) fun xs => Fl.on (intsOf (xs.map Val.d)) fun k => if Sm (l.length + 1) then .nx (η.set i (some (.od (putL l k n)))) else .st
  | .dputV i j e, η => Fl.of η (ev T e η) fun x => Fl.of η (intOf x) fun n => Fl.on (odOf η i) fun l => Fl.on (tkOf η j) fun k => if Sm (l.length + 1) then .nx (η.set i (some (.od (putL l k n)))) else .st
  | .dputI i j k e, η => Fl.of η (ev T e η) fun x => Fl.of η (intOf x) fun n => Fl.on (odOf η i) fun l => Fl.on (lkOf η j) fun ks => Fl.of η (ev T k η) fun y => Fl.of η (intOf y) fun m => Fl.on (atI ks m) fun k => if Sm (l.length + 1) then .nx (η.set i (some (.od (putL l k n)))) else .st
  | .fod v i b, η => Fl.of η (slotV η i) fun x => Fl.on x.d.dct fun l => noEx (loopF (fun d η => Fl.on (keyOf d) fun k => Fl.on (setK η v (.tk k)) (exS b)) (dkeys l) (dropS η i))
  | .fodT vs i b, η => Fl.of η (slotV η i) fun x => Fl.on x.d.dct fun l => noEx (loopF (fun d η => Fl.on (tupOf (.cl d)) fun ds => Fl.on (asgL η vs ds) (exS b)) (dkeys l) (dropS η i))
  | .foE p vs e b, η => Fl.of η (ev T e η) fun x => Fl.on (lstOf x) fun ds => loopF (fun d η => Fl.on (asgE η p vs d) (exS b)) (enumF 0 ds) ((Wk.v x).pre η)
  | .asgQ is js e, η => Fl.of η (ev T e η) fun x => Fl.on (tupOf x) fun ds => asgQF η is js ds
  | .ext i e, η => Fl.on (owOf η i) fun ds => Fl.of η (ev T e η) fun x => Fl.on (newList x) fun es => if Sm (ds.length + es.length) then .nx (η.set i (some (.ow (ds ++ es)))) else .st
  | .asgM s i m, η => Fl.of η (evM T s m η) fun p => Fl.on (asgFr p.2 i p.1) .nx
  | .asgTM s is m, η => Fl.of η (evM T s m η) fun p => Fl.on (tupOf (.cl p.1)) fun ds => Fl.on (asgFrL p.2 is ds) .nx
  | .iteM s o m e a b, η => Fl.of η (evM T s m η) fun p => Fl.of p.2 (ev T e p.2).sure fun y => Fl.of p.2 (intOf (.cl p.1)) fun i => Fl.of p.2 (intOf y) fun j => Fl.of p.2 (cmpV o (.cl (.int i)) (.cl (.int j))).sure fun k => if k = true then exS a p.2 else exS b p.2
  | .foM s v m b, η => Fl.of η (evM T s m η) fun p => Fl.of p.2 (intOf (.cl p.1)) fun n => if small n then loopF (fun d η => Fl.on (asgV η v (.cl d)) (exS b)) (rngD 0 n.toNat) p.2 else .st
  | .retM s m, η => if s = 0 then Fl.of η (evM T s m η) fun p => Fl.on (stOf p.2 0) fun xs => .rs p.1 (some xs) else .st
  | .retF m, η => Fl.of η (evM T 1000000 m η) fun p => .rs p.1 none
  | .mkSt i e, η => if i = 0 then .st else Fl.of η (ev T e η) fun x => Fl.on (newInts x) fun ns => if i < η.length then .nx (η.set i (some (.st ns))) else .st
  | .pick1, η => Fl.on (stOf η 0) fun xs => match xs with
    | [] => .rs (.int 0) (some [])
    | _ => .nx η
  | .pick2, η => Fl.on (stOf η 0) fun xs => Fl.on xs.getLast? fun x => .rs (.int x) (some xs.dropLast)
end

/-! ### in the text -/
/-- the names of the exceptions -/
structure Nx extends Nm where
  ct : Nat → Option Str
  on : Bool
def lcS (sc : Scope) (t : Str) (tl : Nat) (e : Expr) : Bool := match e with
  | .ListComp a b scope p => (match sc.names.lookup t with | some .local => true | _ => false) && decide (tl = p.line) && !(scope.names.any fun (n, k) => n == t && (k == .local || k == .cell))
  | _ => false
def locB (sc : Scope) (x : Str) : Bool := match sc.names.lookup x with
  | some .local => true
  | some .cell => true
  | _ => false
def lclB (sc : Scope) (x : Str) : Bool := match sc.names.lookup x with
  | some .local => true
  | _ => false
def nameB (N : List Str) (sc : Scope) (x : Str) (i : Nat) : Bool := decide (N[i]? = some x) && locB sc x
def namesB (N : List Str) (sc : Scope) : List Expr → List Nat → Bool
  | [], [] => true
  | .Name x _ :: es, i :: is => nameB N sc x i && namesB N sc es is
  | _, _ => false
def isTupE : Expr → Bool
  | .Tuple .. => true
  | _ => false
/-- constants alone, folded -/
def foldT : Expr → Bool
  | .Tuple vs _ _ => vs.all (foldedForSure 8)
  | _ => false
/-- two names, not both of them plain -/
def tupNo (sc : Scope) : List Expr → Bool
  | [.Name x _, .Name y _] => !lclB sc x || !lclB sc y
  | _ => false
/-- isinstance(x, class j) in the text -/
def okIs (M : Nx) (N : List Str) (sc : Scope) (i j : Nat) (e : Expr) : Bool := match e with
  | .Call (.Name f _) [.Name x _, .Name y _] [] _ => decide (f = "isinstance") && glB sc f && decide (N[i]? = some x) && visB sc x && okName x && glB sc y && okName y && decide (M.ex j = some y)
  | _ => false
def okVe (N : List Str) (sc : Scope) (i : Nat) (e : Expr) : Bool := match e with
  | .Call (.Name f _) [.Name x _, .Name y _] [] _ => decide (f = "isinstance") && glB sc f && decide (N[i]? = some x) && visB sc x && okName x && glB sc y && decide (y = "ValueError")
  | _ => false
def okIss (M : Nx) (N : List Str) (sc : Scope) (i : Nat) : List Expr → List Nat → Bool
  | [], [] => true
  | e :: es, j :: js => okIs M N sc i j e && okIss M N sc i es js
  | _, _ => false
def okHE (M : Nx) (N : List Str) (sc : Scope) (i : Nat) (e : Expr) : HE → Bool
  | .is j => okIs M N sc i j e
  | .ve => okVe N sc i e
  | .str s => match e with
    | .Constant (.str t) _ _ => decide (t = s)
    | _ => false
  | .only k => match e with
    | .Call (.Name f _) [.Name x _, .Constant (.int k') _ _] [] _ => M.on && decide (f = "_law_only") && glB sc f && decide (N[i]? = some x) && visB sc x && okName x && decide (k' = k)
    | _ => false
  | .nt a => match e with
    | .UnaryOp .Not x _ => okHE M N sc i x a && heT a
    | _ => false
  | .an a b => match e with
    | .BoolOp .And [x, y] _ => okHE M N sc i x a && okHE M N sc i y b && heT a && heT b
    | _ => false
  | .two a b => match e with
    | .Tuple [x, y] _ _ => okHE M N sc i x a && okHE M N sc i y b
    | _ => false
  | .tri a b c => match e with
    | .Tuple [x, y, z] _ _ => okHE M N sc i x a && okHE M N sc i y b && okHE M N sc i z c
    | _ => false
def okHS (M : Nx) (N : List Str) (sc : Scope) (i : Nat) (st : Stmt) : HS → Bool
  | .ret e => match st with
    | .Return (some v) _ => okHE M N sc i v e
    | _ => false
  | .asg j e => match st with
    | .Assign [.Name x _] v _ => nameB N sc x j && okHE M N sc i v e
    | _ => false
/-- the def that asks an exception for all its kinds -/
def okOnly (M : Nx) (st : Stmt) : Bool :=
  let N : List Str := ["_law_e", "_law_at", "_law_kinds", "_law_k"]
  let sc := defScope st
  match defBody st with
  | [.Assign [.Name k1 _] (.List es1 _) _, .Assign [.Name k2 _] (.BinOp (.Name k3 _) .Add (.List es2 _) _) _,
      .Return (some (.BoolOp .And [i1, i2, .Compare (.Name k4 _) [.Eq] [.ListComp (.Compare (.Name y _) [.Eq] [.Name tn _] _) [⟨.Name y2 _, .Call (.Name rg _) [.Constant (.int n) _ _] [] _, [], 0⟩] scope _] _] _)) _] =>
    okIss M N sc 0 es1 [1, 2, 3, 4] && okIss M N sc 0 es2 [5, 6, 7, 8] && okIs M N sc 0 0 i1 && okVe N sc 0 i2
      && decide (k1 = "_law_kinds") && decide (k2 = "_law_kinds") && decide (k3 = "_law_kinds") && decide (k4 = "_law_kinds") && lclB sc "_law_kinds"
      && decide (y = "_law_k") && decide (y2 = "_law_k") && lclB scope "_law_k" && blkC N sc scope [("_law_k", 3)] && decide (tn = "_law_at") && visB (relS scope sc) "_law_at" && decide (rg = "range") && glB sc "range" && decide (n = 8)
  | _ => false
/-- a handler of constants alone -/
def okH (N : List Str) (sc : Scope) (sts : List Stmt) : S → Bool
  | .seq (.asg i (.bl b)) .skip => match sts with
    | [.Assign [.Name x _] (.Constant (.bool c) _ _) _] => nameB N sc x i && decide (b = c)
    | _ => false
  | .seq (.ret (.bl b)) .skip => match sts with
    | [.Return (some (.Constant (.bool c) _ _)) _] => decide (b = c)
    | _ => false
  | _ => false
section
variable (M : Nx) (s : Nat)
mutual
def okM (N : List Str) (sc : Scope) (e : Expr) : EM → Bool
  | .p a => okE M.toNm N sc e a
  | .v i => okE M.toNm N sc e (.var i)
  | .cs f ms => match e with
    | .Call (.Name x _) (.Name z zp :: as) [] _ => (match M.sn f with | some (y, n) => decide (y = x) && decide (as.length + 1 = n) | none => false) && glB sc x && okName x && okE M.toNm N sc (.Name z zp) (.var s) && okMs N sc as ms
    | _ => false
  | .pc f es => match e with
    | .Call (.Name x _) (a :: as) [] _ => (match M.fn f with | some (y, n) => decide (y = x) && decide (as.length + 1 = n) | none => false) && glB sc x && okName x && okEs M.toNm N sc (a :: as) es
    | _ => false
  | .tup ms => match e with
    | .Tuple xs _ _ => okMs N sc xs ms && decide (xs.length ≤ 1000) && ms.plain
    | _ => false
  | .lst ms => match e with
    | .List xs _ => okMs N sc xs ms && decide (xs.length ≤ 1000) && ms.plain
    | _ => false
  | .idx m a => match e with
    | .Subscript x y _ => okM N sc x m && okE M.toNm N sc y a
    | _ => false
  | .bin o a b => match e with
    | .BinOp x p y _ => decide (p = boP o) && okM N sc x a && okM N sc y b
    | _ => false
  | _ => false
termination_by structural x => x
def okMs (N : List Str) (sc : Scope) (es : List Expr) : EM → Bool
  | .nil => match es with
    | [] => true
    | _ => false
  | .cons m ms => match es with
    | x :: xs => okM N sc x m && okMs N sc xs ms
    | _ => false
  | .ap a ms => match es with
    | x :: xs => okE M.toNm N sc x a && okMs N sc xs ms
    | _ => false
  | _ => false
termination_by structural x => x
end
/-- _law_state["xs"], _law_state the first name -/
def okXs (N : List Str) (sc : Scope) : Expr → Bool
  | .Subscript (.Name z _) (.Constant (.str k) _ _) _ => decide (N[0]? = some z) && visB sc z && okName z && decide (k = "xs")
  | _ => false
def okV : Expr → Bool
  | .ListComp .. => false
  | .SetComp .. => false
  | .DictComp .. => false
  | _ => true
def isItd : E → Bool
  | .itd _ => true
  | .its _ => true
  | _ => false
end
section
variable (M : Nx)
mutual
def okS (N : List Str) (sc : Scope) (st : Stmt) : S → Bool
  | .asg i e => match st with
    | .Assign [.Name x _] v _ => nameB N sc x i && okE M.toNm N sc v e
    | _ => false
  | .asgT is e => match st with
    | .Assign [.Tuple ts _ _] v _ => namesB N sc ts is && okE M.toNm N sc v e && (!isTupE v || (tupNo sc ts || foldT v))
    | _ => false
  | .asgN is e => match st with
    | .Assign [.Tuple ts _ _] v _ => namesB N sc ts is && okE M.toNm N sc v e && (!isTupE v || tupNo sc ts)
    | _ => false
  | .par i j a b => match st with
    | .Assign [.Tuple [.Name x px, .Name y py] _ pt] (.Tuple [u, v] _ _) _ => decide (N[i]? = some x) && decide (N[j]? = some y) && decide (i ≠ j) && lclB sc x && lclB sc y && decide (px.line = py.line)
        && okE M.toNm N sc u a && okE M.toNm N sc v b && !(foldedForSure 8 u && foldedForSure 8 v) && !(constantsAlone 8 u && constantsAlone 8 v)
    | _ => false
  | .put i k e => match st with
    | .Assign [.Subscript (.Name x _) kk _] v _ => nameB N sc x i && okName x && okE M.toNm N sc kk k && okE M.toNm N sc v e
    | _ => false
  | .aput i o k e => match st with
    | .AugAssign (.Subscript (.Name x _) kk _) op v _ => nameB N sc x i && okName x && okE M.toNm N sc kk k && okE M.toNm N sc v e && decide (op = boP o) && (match o with | .add => true | .sub => true | _ => false)
    | _ => false
  | .aug i o e => match st with
    | .AugAssign (.Name x _) op v _ => nameB N sc x i && okE M.toNm N sc v e && decide (op = boP o) && (match o with | .add => true | .sub => true | .mul => true | _ => false)
    | _ => false
  | .app i e => match st with
    | .Expr (.Call (.Attribute (.Name x _) m ap) [v] [] cp) _ => nameB N sc x i && okName x && decide (m = "append") && okE M.toNm N sc v e && decide (ap.endLine = cp.line)
    | _ => false
  | .pop i => match st with
    | .Expr (.Call (.Attribute (.Name x _) m ap) [] [] cp) _ => nameB N sc x i && okName x && decide (m = "pop") && decide (ap.endLine = cp.line)
    | _ => false
  | .popA j i => match st with
    | .Assign [.Name y _] (.Call (.Attribute (.Name x _) m ap) [] [] cp) _ => nameB N sc y j && nameB N sc x i && okName x && decide (m = "pop") && decide (ap.endLine = cp.line)
    | _ => false
  | .asgP j e i => match st with
    | .Assign [.Name y _] (.BinOp v .Mult (.Call (.Attribute (.Name x _) m ap) [] [] cp) _) _ => nameB N sc y j && okE M.toNm N sc v e && nameB N sc x i && okName x && decide (m = "pop") && decide (ap.endLine = cp.line)
    | _ => false
  | .popT js i => match st with
    | .Assign [.Tuple ts _ _] (.Call (.Attribute (.Name x _) m ap) [] [] cp) _ => namesB N sc ts js && nameB N sc x i && okName x && decide (m = "pop") && decide (ap.endLine = cp.line)
    | _ => false
  | .ex e => match st with
    | .Expr v _ => okE M.toNm N sc v e && (match v with | .ListComp .. => false | _ => true)
    | _ => false
  | .ret e => match st with
    | .Return (some v) _ => okE M.toNm N sc v e
    | _ => false
  | .ret0 => match st with
    | .Return none _ => true
    | _ => false
  | .ite c a b => match st with
    | .If t x y _ => okT M.toNm N sc t c && okSs N sc x a && okSs N sc y b
    | _ => false
  | .wh c b => match st with
    | .While t x [] _ => okT M.toNm N sc t c && okSs N sc x b
    | _ => false
  | .fo v it b => match st with
    | .For (.Name y _) iter x [] _ => nameB N sc y v && okI M.toNm N sc iter it && okSs N sc x b && !isItd it
    | _ => false
  | .foT vs it b => match st with
    | .For (.Tuple ts _ _) iter x [] _ => namesB N sc ts vs && okI M.toNm N sc iter it && okSs N sc x b && !isItd it
    | _ => false
  | .brk => match st with
    | .Break _ => true
    | _ => false
  | .cnt => match st with
    | .Continue _ => true
    | _ => false
  | .rai c => match st with
    | .Raise (some (.Call (.Name x _) [.Constant (.str _) _ _] [] _)) none _ => decide (M.ex c = some x) && glB sc x && okName x
    | _ => false
  | .tryN b x h => match st with
    | .Try body [.ExceptHandler (some (.Name y _)) none (s0 :: ss) _] [] [] _ => okSs N sc body b && decide (M.ct x = some y) && glB sc y && okName y && okH N sc (s0 :: ss) h
    | _ => false
  | .tryA b x i h => match st with
    | .Try body [.ExceptHandler (some (.Name y _)) (some n) [s0] _] [] [] _ => okSs N sc body b && decide (M.ct x = some y) && glB sc y && okName y && M.hx && decide (N[i]? = some n) && lclB sc n && okHS M N sc i s0 h
    | _ => false
  | .tryK b x i j => match st with
    | .Try body [.ExceptHandler (some (.Name y _)) (some n) [.Assign [.Name r _] (.Name n' _) _] _] [] [] _ => okSs N sc body b && decide (M.ct x = some y) && glB sc y && okName y && decide (N[i]? = some n) && lclB sc n && nameB N sc r j && decide (n' = n) && okName n
    | _ => false
  | .asgK i es => match st with
    | .Assign [.Name x _] (.Tuple vs _ _) _ => nameB N sc x i && okEs M.toNm N sc vs es && decide (lenE es ≤ 1000)
    | _ => false
  | .asgKs i ks => match st with
    | .Assign [.Name x _] (.List vs _) _ => nameB N sc x i && keysB (vs.map some) ks && decide (ks.length ≤ 1000)
    | _ => false
  | .dputE i es e => match st with
    | .Assign [.Subscript (.Name x _) (.Tuple vs _ _) _] v _ => nameB N sc x i && okName x && okEs M.toNm N sc vs es && decide (lenE es ≤ 1000) && okE M.toNm N sc v e
    | _ => false
  | .dputV i j e => match st with
    | .Assign [.Subscript (.Name x _) (.Name y _) _] v _ => nameB N sc x i && okName x && nameB N sc y j && okName y && okE M.toNm N sc v e
    | _ => false
  | .dputI i j k e => match st with
    | .Assign [.Subscript (.Name x _) (.Subscript (.Name y _) kk _) _] v _ => nameB N sc x i && okName x && nameB N sc y j && okName y && okE M.toNm N sc kk k && okE M.toNm N sc v e
    | _ => false
  | .fod v i b => match st with
    | .For (.Name y _) (.Name x _) body [] _ => nameB N sc y v && nameB N sc x i && okName x && okSs N sc body b
    | _ => false
  | .fodT vs i b => match st with
    | .For (.Tuple ts _ _) (.Name x _) body [] _ => namesB N sc ts vs && nameB N sc x i && okName x && okSs N sc body b
    | _ => false
  | .foE p vs e b => match st with
    | .For (.Tuple [.Name y _, .Tuple ts _ _] _ _) (.Call (.Name r _) [x] [] _) u [] _ => nameB N sc y p && namesB N sc ts vs && decide (r = "enumerate") && glB sc r && okE M.toNm N sc x e && okSs N sc u b
    | _ => false
  | .asgQ is js e => match st with
    | .Assign [.Tuple [.Tuple ts _ _, .Tuple us _ _] _ _] (.Tuple vs k p) _ => namesB N sc ts is && namesB N sc us js && okE M.toNm N sc (.Tuple vs k p) e
    | _ => false
  | .ext i e => match st with
    | .Expr (.Call (.Attribute (.Name x _) m ap) [v] [] cp) _ => nameB N sc x i && okName x && decide (m = "extend") && okE M.toNm N sc v e && decide (ap.endLine = cp.line)
    | _ => false
  | .asgM s i m => match st with
    | .Assign [.Name x _] v _ => nameB N sc x i && okM M s N sc v m && okV v
    | _ => false
  | .asgTM s is m => match st with
    | .Assign [.Tuple ts _ _] v _ => namesB N sc ts is && okM M s N sc v m && !isTupE v
    | _ => false
  | .iteM s o m e a b => match st with
    | .If (.Compare x [p] [y] _) u w _ => decide (p = coP o) && okM M s N sc x m && okE M.toNm N sc y e && okSs N sc u a && okSs N sc w b
    | _ => false
  | .foM s v m b => match st with
    | .For (.Name y _) (.Call (.Name r _) [x] [] _) u [] _ => nameB N sc y v && decide (r = "range") && glB sc r && okM M s N sc x m && okSs N sc u b
    | _ => false
  | .retM s m => match st with
    | .Return (some v) _ => okM M s N sc v m
    | _ => false
  | .retF m => match st with
    | .Return (some v) _ => okM M 1000000 N sc v m
    | _ => false
  | .mkSt i e => match st with
    | .Assign [.Name x _] (.Dict [some (.Constant (.str k) _ _)] [v] _) _ => nameB N sc x i && decide (k = "xs") && okE M.toNm N sc v e
    | _ => false
  | .pick1 => match st with
    | .If (.Compare x [.Eq] [.List [] _] _) [.Return (some (.Constant (.int n) _ _)) _] [] _ => okXs N sc x && decide (n = 0)
    | _ => false
  | .pick2 => match st with
    | .Return (some (.Call (.Attribute (.Subscript a b p) m ap) [] [] cp)) _ => okXs N sc (.Subscript a b p) && decide (m = "pop") && decide (ap.endLine = cp.line)
    | _ => false
  | .skip => match st with
    | .Pass _ => true
    | .Expr (.Constant (.str _) _ _) _ => true
    | _ => false
  | _ => false
termination_by structural x => x
def okSs (N : List Str) (sc : Scope) (sts : List Stmt) : S → Bool
  | .skip => match sts with
    | [] => true
    | _ => false
  | .seq a b => match sts with
    | x :: xs => okS N sc x a && okSs N sc xs b
    | _ => false
  | _ => false
termination_by structural x => x
end
end
end PD

/-! PD7: statements: what stands in the text does as told. -/
namespace PD
open PySem PySem.Spec PyProof.Rows L2
section
variable {K : Fg} {B : Addr → Prop} {old : Old} {O : Ow} {H H0 H1 H' H'' : Hp} {σ : L2.St} {η η' : Env}
def minus (O : Ow) (i : Nat) : Ow := fun k => if k = i then none else O k
def plus (O : Ow) (i : Nat) (a : Addr) : Ow := fun k => if k = i then some a else O k
theorem minus_some {i k : Nat} {a : Addr} (h : minus O i k = some a) : k ≠ i ∧ O k = some a := by
  unfold minus at h
  split at h
  · cases h
  · exact ⟨by assumption, h⟩
theorem own_minus {i : Nat} {a : Addr} (h : Own (minus O i) B a) : Own O B a := by
  rcases h with ⟨k, h⟩ | h
  · exact .inl ⟨k, (minus_some h).2⟩
  · exact .inr h
theorem ca_minus {i : Nat} : Ca K (Own O B) (Own (minus O i) B) H H := Ca.less fun _ h => own_minus h
theorem dropS_len (η : Env) (i : Nat) : (dropS η i).length = η.length := by
  unfold dropS
  split <;> simp
/-- a list that nobody owns any more -/
theorem ER.drop (r : ER K B old O H σ η) (i : Nat) : ER K B old (minus O i) H σ (dropS η i) := by
  have e0 : ∀ k, k ≠ i → (dropS η i)[k]? = η[k]? := fun k hk => by
    unfold dropS
    split
    · rw [List.getElem?_set_ne (Ne.symm hk)]
    · rw [List.getElem?_set_ne (Ne.symm hk)]
    · rw [List.getElem?_set_ne (Ne.symm hk)]
    · rfl
  refine ⟨by rw [dropS_len]; exact r.len, fun k s e => ?_, fun k a e => ?_, fun k l a h1 h2 => r.inj k l a (minus_some h1).2 (minus_some h2).2, fun k a e => r.disj k a (minus_some e).2, fun k a e => r.fr k a (minus_some e).2, r.same, r.bt, r.gh.ca ca_minus, r.fb, fun k a e => r.fc k a (minus_some e).2⟩
  · by_cases hk : k = i
    · subst hk
      unfold dropS at e
      split at e
      · rename_i ds hd
        have hl := (List.getElem?_eq_some_iff.mp hd).1
        rw [List.getElem?_set_self hl] at e
        cases e
        obtain ⟨a, vs, q0, q1, q2, q3⟩ := r.sl k _ hd
        refine ⟨_, q1, .lst (.inl ⟨fun z => ?_, .inl q2⟩) (q3.ca ca_minus)⟩
        rcases z with ⟨l, z⟩ | z
        · obtain ⟨h1, h2⟩ := minus_some z
          exact h1 (r.inj l k a h2 q0)
        · exact r.disj k a q0 z
      · rename_i l hd
        have hl := (List.getElem?_eq_some_iff.mp hd).1
        rw [List.getElem?_set_self hl] at e
        cases e
        obtain ⟨a, q0, q1, q2⟩ := r.sl k _ hd
        refine ⟨_, q1, .dct (fun z => ?_) (.inl q2)⟩
        rcases z with ⟨l, z⟩ | z
        · obtain ⟨h1, h2⟩ := minus_some z
          exact h1 (r.inj l k a h2 q0)
        · exact r.disj k a q0 z
      · rename_i xs hd
        have hl := (List.getElem?_eq_some_iff.mp hd).1
        rw [List.getElem?_set_self hl] at e
        cases e
      · rename_i hn hm hp
        have q := r.sl k s e
        cases s with
        | sh d =>
          obtain ⟨v, q1, q2⟩ := q
          exact ⟨v, q1, q2.ca ca_minus⟩
        | ow ds => exact absurd e (hn ds)
        | od l => exact absurd e (hm l)
        | kk x =>
          obtain ⟨v, q1, q2⟩ := q
          exact ⟨v, q1, q2.ca (K := K) ca_minus⟩
        | fr d =>
          obtain ⟨v, q1, q2⟩ := q
          exact ⟨v, q1, q2.ca ca_minus.or⟩
        | st xs => exact absurd e (hp xs)
    · rw [e0 k hk] at e
      have q := r.sl k s e
      cases s with
      | sh d =>
        obtain ⟨v, q1, q2⟩ := q
        exact ⟨v, q1, q2.ca ca_minus⟩
      | ow ds =>
        obtain ⟨a, vs, q0, q1, q2, q3⟩ := q
        exact ⟨a, vs, by unfold minus; rw [if_neg hk]; exact q0, q1, q2, q3.ca ca_minus⟩
      | od l =>
        obtain ⟨a, q0, q1, q2⟩ := q
        exact ⟨a, by unfold minus; rw [if_neg hk]; exact q0, q1, q2⟩
      | kk x =>
        obtain ⟨v, q1, q2⟩ := q
        exact ⟨v, q1, q2.ca (K := K) ca_minus⟩
      | st xs =>
        obtain ⟨d, a, q0, q1, q2, q3, q4⟩ := q
        exact ⟨d, a, by unfold minus; rw [if_neg hk]; exact q0, q1, q2, q3, q4⟩
      | fr d =>
        obtain ⟨v, q1, q2⟩ := q
        exact ⟨v, q1, q2.ca ca_minus.or⟩
  · obtain ⟨hk, e⟩ := minus_some e
    obtain ⟨ds, q, hs⟩ := r.dom k a e
    exact ⟨ds, by rw [e0 k hk]; exact q, hs⟩
theorem ER.setN {i : Nat} {v : V} {x : Sl} (r : ER K B old O H σ η) (hi : i < η.length) (rv : SlR K old (Own (minus O i) B) (minus O i) H (σ.set i (some v)) i x) : ER K B old (minus O i) H (σ.set i (some v)) (η.set i (some x)) := by
  refine ⟨by rw [List.length_set, List.length_set]; exact r.len, fun k s e => ?_, fun k a e => ?_, fun k l a h1 h2 => r.inj k l a (minus_some h1).2 (minus_some h2).2, fun k a e => r.disj k a (minus_some e).2, fun k a e => r.fr k a (minus_some e).2, r.same, r.bt, r.gh.ca ca_minus, r.fb, fun k a e => r.fc k a (minus_some e).2⟩
  · by_cases hk : i = k
    · subst hk
      rw [List.getElem?_set_self hi] at e
      cases e
      exact rv
    · rw [List.getElem?_set_ne hk] at e
      have q := r.sl k s e
      cases s with
      | sh d =>
        obtain ⟨w, q1, q2⟩ := q
        exact ⟨w, by rw [List.getElem?_set_ne hk]; exact q1, q2.ca ca_minus⟩
      | ow ds =>
        obtain ⟨a, vs, q0, q1, q2, q3⟩ := q
        exact ⟨a, vs, by unfold minus; rw [if_neg (Ne.symm hk)]; exact q0, by rw [List.getElem?_set_ne hk]; exact q1, q2, q3.ca ca_minus⟩
      | od l =>
        obtain ⟨a, q0, q1, q2⟩ := q
        exact ⟨a, by unfold minus; rw [if_neg (Ne.symm hk)]; exact q0, by rw [List.getElem?_set_ne hk]; exact q1, q2⟩
      | kk x =>
        obtain ⟨w, q1, q2⟩ := q
        exact ⟨w, by rw [List.getElem?_set_ne hk]; exact q1, q2.ca (K := K) ca_minus⟩
      | st xs =>
        obtain ⟨d, a, q0, q1, q2, q3, q4⟩ := q
        exact ⟨d, a, by unfold minus; rw [if_neg (Ne.symm hk)]; exact q0, by rw [List.getElem?_set_ne hk]; exact q1, q2, q3, q4⟩
      | fr d =>
        obtain ⟨w, q1, q2⟩ := q
        exact ⟨w, by rw [List.getElem?_set_ne hk]; exact q1, q2.ca ca_minus.or⟩
  · obtain ⟨hk, e⟩ := minus_some e
    obtain ⟨ds, q, hs⟩ := r.dom k a e
    exact ⟨ds, by rw [List.getElem?_set_ne (Ne.symm hk)]; exact q, hs⟩
theorem ER.setSh {i : Nat} {v : V} {d : D} (r : ER K B old O H σ η) (hi : i < η.length) (rv : Rp K (Own (minus O i) B) H v d) : ER K B old (minus O i) H (σ.set i (some v)) (η.set i (some (.sh d))) :=
  r.setN hi ⟨v, List.getElem?_set_self (by rw [r.len]; exact hi), rv⟩
theorem ER.setKk {i : Nat} {v : V} {k : Sk} (r : ER K B old O H σ η) (hi : i < η.length) (rv : KkR (Own (minus O i) B) H v k) : ER K B old (minus O i) H (σ.set i (some v)) (η.set i (some (.kk k))) :=
  r.setN hi ⟨v, List.getElem?_set_self (by rw [r.len]; exact hi), rv⟩
theorem ER.setFr {i : Nat} {v : V} {d : D} (r : ER K B old O H σ η) (hi : i < η.length) (rv : Rp K (fun b => Own (minus O i) B b ∨ old.fa b) H v d) : ER K B old (minus O i) H (σ.set i (some v)) (η.set i (some (.fr d))) :=
  r.setN hi ⟨v, List.getElem?_set_self (by rw [r.len]; exact hi), rv⟩
theorem plus_sub {i : Nat} {a : Addr} : ∀ b, Own (plus O i a) B b → Own O B b ∨ b = a := fun b h => by
  rcases h with ⟨k, h⟩ | h
  · unfold plus at h
    split at h
    · cases h; exact .inr rfl
    · exact .inl (.inl ⟨k, h⟩)
  · exact .inl (.inr h)
theorem ER.setO {i : Nat} {a v0 : Addr} {x : Sl} (r : ER K B old O H σ η) (hi : i < η.length) (s : Same H H') (ha : H a = none) (hx : x.own = true) (rv : SlR K old (Own (plus O i a) B) (plus O i a) H' (σ.set i (some (.ref v0))) i x) :
    ER K B old (plus O i a) H' (σ.set i (some (.ref v0))) (η.set i (some x)) := by
  have sub : ∀ b, Own (plus O i a) B b → Own O B b ∨ b = a := fun b h => by
    rcases h with ⟨k, h⟩ | h
    · unfold plus at h
      split at h
      · cases h; exact .inr rfl
      · exact .inl (.inl ⟨k, h⟩)
    · exact .inl (.inr h)
  have c : Ca K (Own O B) (Own (plus O i a) B) H H' := Ca.more s fun b h => (sub b h).elim .inl fun q => .inr (q ▸ ha)
  have pl : ∀ k b, plus O i a k = some b → (k = i ∧ b = a) ∨ (k ≠ i ∧ O k = some b) := fun k b h => by
    unfold plus at h
    split at h
    · cases h; exact .inl ⟨by assumption, rfl⟩
    · exact .inr ⟨by assumption, h⟩
  have na : ∀ k, O k ≠ some a := fun k e => by
    exact r.lst e ha
  refine ⟨by rw [List.length_set, List.length_set]; exact r.len, fun k s' e => ?_, fun k b e => ?_, fun k l b h1 h2 => ?_, fun k b e => ?_, fun k b e => ?_, r.same.trans s, fun b h z => r.bt b h (s.free z), r.gh.ca c, fun b h z => r.fb b h (s.free z), fun k b e => ?_⟩
  · by_cases hk : i = k
    · subst hk
      rw [List.getElem?_set_self hi] at e
      cases e
      exact rv
    · rw [List.getElem?_set_ne hk] at e
      have q := r.sl k s' e
      cases s' with
      | sh d =>
        obtain ⟨w, q1, q2⟩ := q
        exact ⟨w, by rw [List.getElem?_set_ne hk]; exact q1, q2.ca c⟩
      | ow ds =>
        obtain ⟨b, ws, q0, q1, q2, q3⟩ := q
        exact ⟨b, ws, by unfold plus; rw [if_neg (Ne.symm hk)]; exact q0, by rw [List.getElem?_set_ne hk]; exact q1, s _ _ q2, q3.ca c⟩
      | od l =>
        obtain ⟨b, q0, q1, q2⟩ := q
        exact ⟨b, by unfold plus; rw [if_neg (Ne.symm hk)]; exact q0, by rw [List.getElem?_set_ne hk]; exact q1, s _ _ q2⟩
      | kk y =>
        obtain ⟨w, q1, q2⟩ := q
        exact ⟨w, by rw [List.getElem?_set_ne hk]; exact q1, q2.ca c⟩
      | st xs =>
        obtain ⟨d, b, q0, q1, q2, q3, q4⟩ := q
        exact ⟨d, b, by unfold plus; rw [if_neg (Ne.symm hk)]; exact q0, by rw [List.getElem?_set_ne hk]; exact q1, s _ _ q2, s _ _ q3, q4⟩
      | fr d =>
        obtain ⟨w, q1, q2⟩ := q
        exact ⟨w, by rw [List.getElem?_set_ne hk]; exact q1, q2.ca c.or⟩
  · rcases pl k b e with ⟨h1, h2⟩ | ⟨h1, h2⟩
    · subst h1
      exact ⟨x, List.getElem?_set_self hi, hx⟩
    · obtain ⟨es, q, hs⟩ := r.dom k b h2
      exact ⟨es, by rw [List.getElem?_set_ne (Ne.symm h1)]; exact q, hs⟩
  · rcases pl k b h1 with ⟨p1, p2⟩ | ⟨p1, p2⟩ <;> rcases pl l b h2 with ⟨p3, p4⟩ | ⟨p3, p4⟩
    · rw [p1, p3]
    · exact absurd (p2 ▸ p4) (na l)
    · exact absurd (p4 ▸ p2) (na k)
    · exact r.inj k l b p2 p4
  · rcases pl k b e with ⟨h1, h2⟩ | ⟨h1, h2⟩
    · exact fun z => r.bt b z (h2 ▸ ha)
    · exact r.disj k b h2
  · rcases pl k b e with ⟨h1, h2⟩ | ⟨h1, h2⟩
    · rw [h2]; exact r.same.free ha
    · exact r.fr k b h2
  · rcases pl k b e with ⟨h1, h2⟩ | ⟨h1, h2⟩
    · exact fun z => r.fb b z (h2 ▸ ha)
    · exact r.fc k b h2
theorem ER.setOw {i : Nat} {a : Addr} {vs : List V} {ds : List D} (r : ER K B old O H σ η) (hi : i < η.length) (s : Same H H') (ha : H a = none) (ha' : H' a = some (.lst vs)) (rv : RpAll K (fun b => Own O B b ∨ b = a) H' vs ds) :
    ER K B old (plus O i a) H' (σ.set i (some (.ref a))) (η.set i (some (.ow ds))) :=
  r.setO hi s ha rfl ⟨a, vs, by unfold plus; rw [if_pos rfl], List.getElem?_set_self (by rw [r.len]; exact hi), ha', rv.ca (Ca.less plus_sub)⟩
theorem ER.asg {i : Nat} {v : V} {x : Val} (r : ER K B old O H σ η) (s : Same H H') (vr : VR K B O H H' v x) (h : asgV η i x = some η') : ∃ O', ER K B old O' H' (σ.set i (some v)) η' := by
  unfold asgV at h
  split at h
  · rename_i hi
    cases h
    cases x with
    | cl d => exact ⟨_, (r.ext s).setSh hi (Rp.ca ca_minus vr)⟩
    | nw ds =>
      obtain ⟨a, vs, rfl, h2, h3, h4⟩ := vr
      exact ⟨_, r.setOw hi s h2 h3 h4⟩
    | br j ds =>
      obtain ⟨a, vs, h1, rfl, h3, h4⟩ := vr
      have r1 := (r.ext s).drop j
      refine ⟨_, r1.setSh (by rw [dropS_len]; exact hi) (.lst (.inl ⟨fun z => ?_, .inl h3⟩) ((h4.ca ca_minus).ca ca_minus))⟩
      rcases own_minus z with ⟨l, z⟩ | z
      · obtain ⟨q1, q2⟩ := minus_some z
        exact q1 (r.inj l j a q2 h1)
      · exact r.disj j a h1 z
    | nd l =>
      obtain ⟨a, rfl, h2, h3⟩ := vr
      exact ⟨_, r.setO hi s h2 rfl ⟨a, by unfold plus; rw [if_pos rfl], List.getElem?_set_self (by rw [r.len]; exact hi), h3⟩⟩
    | bd j l =>
      obtain ⟨a, h1, rfl, h3⟩ := vr
      have r1 := (r.ext s).drop j
      refine ⟨_, r1.setSh (by rw [dropS_len]; exact hi) (.dct (fun z => ?_) (.inl h3))⟩
      rcases own_minus z with ⟨l, z⟩ | z
      · obtain ⟨q1, q2⟩ := minus_some z
        exact q1 (r.inj l j a q2 h1)
      · exact r.disj j a h1 z
  · cases h
/-- an owned thing is changed, by whom ever; the rest stays -/
theorem ER.mutX {i : Nat} {a : Addr} {x y : Sl} (r : ER K B old O H σ η) (hi : η[i]? = some (some y)) (ha : O i = some a) (hx : x.own = true) (sx : ∀ b o, b ≠ a → H b = some o → H' b = some o) (hn : H' a ≠ none) (c : Ca K (Own O B) (Own O B) H H') (rv : SlR K old (Own O B) O H' σ i x) :
    ER K B old O H' σ (η.set i (some x)) := by
  have hlt := (List.getElem?_eq_some_iff.mp hi).1
  have nn : ∀ b, H b ≠ none → H' b ≠ none := fun b h z => by
    by_cases hb : b = a
    · rw [hb] at z; exact hn z
    · cases e : H b with
      | none => exact h e
      | some o => rw [sx b o hb e] at z; cases z
  refine ⟨by rw [List.length_set]; exact r.len, fun k s e => ?_, fun k b e => ?_, r.inj, r.disj, r.fr, fun b o e => ?_, fun b h => nn b (r.bt b h), r.gh.ca c, fun b h => nn b (r.fb b h), r.fc⟩
  · by_cases hk : i = k
    · subst hk
      rw [List.getElem?_set_self hlt] at e
      cases e
      exact rv
    · rw [List.getElem?_set_ne hk] at e
      have q := r.sl k s e
      cases s with
      | sh d =>
        obtain ⟨w, q1, q2⟩ := q
        exact ⟨w, q1, q2.ca c⟩
      | ow es =>
        obtain ⟨b, ws, q0, q1, q2, q3⟩ := q
        have nb : b ≠ a := fun z => hk (r.inj i k a ha (z ▸ q0))
        exact ⟨b, ws, q0, q1, sx _ _ nb q2, q3.ca c⟩
      | od l =>
        obtain ⟨b, q0, q1, q2⟩ := q
        have nb : b ≠ a := fun z => hk (r.inj i k a ha (z ▸ q0))
        exact ⟨b, q0, q1, sx _ _ nb q2⟩
      | kk k =>
        obtain ⟨w, q1, q2⟩ := q
        exact ⟨w, q1, q2.ca c⟩
      | fr d =>
        obtain ⟨w, q1, q2⟩ := q
        exact ⟨w, q1, q2.ca c.or⟩
      | st xs =>
        obtain ⟨d, b, q0, q1, q2, q3, q4⟩ := q
        have nb : b ≠ a := fun z => hk (r.inj i k a ha (z ▸ q0))
        have nd : d ≠ a := fun z => r.noOwn q2 (fun _ z => nomatch z) (fun _ z => nomatch z) i (z ▸ ha)
        exact ⟨d, b, q0, q1, sx _ _ nd q2, sx _ _ nb q3, q4⟩
  · by_cases hk : i = k
    · subst hk
      exact ⟨x, List.getElem?_set_self hlt, hx⟩
    · obtain ⟨es, q, hs⟩ := r.dom k b e
      exact ⟨es, by rw [List.getElem?_set_ne hk]; exact q, hs⟩
  · have nb : b ≠ a := fun z => by rw [z, r.fr i a ha] at e; cases e
    exact sx b o nb (r.same b o e)
theorem ER.mutG {i : Nat} {a : Addr} {o : HO} {x y : Sl} (r : ER K B old O H σ η) (hi : η[i]? = some (some y)) (ha : O i = some a) (hx : x.own = true) (c : Ca K (Own O B) (Own O B) H (upd H a o)) (rv : SlR K old (Own O B) O (upd H a o) σ i x) :
    ER K B old O (upd H a o) σ (η.set i (some x)) :=
  r.mutX hi ha hx (fun b u nb e => by rw [upd_ne nb]; exact e) (by rw [upd_same]; exact fun z => nomatch z) c rv
/-- an owned list is changed -/
theorem ER.mut {i : Nat} {a : Addr} {vs vs' : List V} {ds ds' : List D} (r : ER K B old O H σ η) (hi : η[i]? = some (some (.ow ds))) (ha : O i = some a) (hl : H a = some (.lst vs)) (rv : RpAll K (Own O B) H vs' ds') :
    ER K B old O (upd H a (.lst vs')) σ (η.set i (some (.ow ds'))) := by
  have c : Ca K (Own O B) (Own O B) H (upd H a (.lst vs')) := Ca.upd (.inl ⟨i, ha⟩) hl
  obtain ⟨b, ws, q0, q1, q2, q3⟩ := r.sl i _ hi
  rw [ha] at q0
  cases q0
  exact r.mutG hi ha rfl c ⟨a, vs', ha, q1, upd_same, rv.ca c⟩
/-- an owned dict is changed -/
theorem ER.mutD {i : Nat} {a : Addr} {l l' : Dl} (r : ER K B old O H σ η) (hi : η[i]? = some (some (.od l))) (ha : O i = some a) (hl : H a = some (.dT (dV l))) :
    ER K B old O (upd H a (.dT (dV l'))) σ (η.set i (some (.od l'))) := by
  have c : Ca K (Own O B) (Own O B) H (upd H a (.dT (dV l'))) := Ca.updD (.inl ⟨i, ha⟩) hl
  obtain ⟨b, q0, q1, q2⟩ := r.sl i _ hi
  rw [ha] at q0
  cases q0
  exact r.mutG hi ha rfl c ⟨a, ha, q1, upd_same⟩
theorem odOf_ok {i : Nat} {l : Dl} (r : ER K B old O H σ η) (h : odOf η i = some l) : η[i]? = some (some (.od l)) ∧ ∃ a, O i = some a ∧ σ[i]? = some (some (.ref a)) ∧ H a = some (.dT (dV l)) := by
  unfold odOf at h
  split at h
  · rename_i es e
    cases h
    exact ⟨e, r.sl i _ e⟩
  · cases h
theorem owOf_ok {i : Nat} {ds : List D} (r : ER K B old O H σ η) (h : owOf η i = some ds) : η[i]? = some (some (.ow ds)) ∧ ∃ a vs, O i = some a ∧ σ[i]? = some (some (.ref a)) ∧ H a = some (.lst vs) ∧ RpAll K (Own O B) H vs ds := by
  unfold owOf at h
  split at h
  · rename_i es e
    cases h
    exact ⟨e, r.sl i _ e⟩
  · cases h
/-- beside the names -/
def Old.add (o : Old) (v : V) (d : D) : Old := ⟨o.hp, v :: o.gv, d :: o.gd, o.st, o.fa⟩
theorem ER.un {v : V} {d : D} (r : ER K B (old.add v d) O H σ η) : ER K B old O H σ η ∧ Rp K (Own O B) H v d := by
  have g : RpAll K (Own O B) H (v :: old.gv) (d :: old.gd) := r.gh
  cases g with
  | cons h t => exact ⟨⟨r.len, r.sl, r.dom, r.inj, r.disj, r.fr, r.same, r.bt, t, r.fb, r.fc⟩, h⟩
theorem ER.add {v : V} {d : D} (r : ER K B old O H σ η) (h : Rp K (Own O B) H v d) : ER K B (old.add v d) O H σ η :=
  ⟨r.len, r.sl, r.dom, r.inj, r.disj, r.fr, r.same, r.bt, .cons h r.gh, r.fb, r.fc⟩

/-! ### statements' readings -/
def FR (K : Fg) (xa : Nat → Addr) (W : WX) (B : Addr → Prop) (old : Old) (D : Ends) : Fl → Prop
  | .nx η => ∀ O σ H, ER K B old O H σ η → D.nx σ H
  | .bk η => ∀ O σ H, ER K B old O H σ η → D.bk σ H
  | .ct η => ∀ O σ H, ER K B old O H σ η → D.ct σ H
  | .rt d => ∀ v H, Same old.hp H → RetR K old.hp H v d → D.rt v H
  | .rs d xs => ∀ v H, Same old.hp H → (∀ l a, xs = some l → old.st = some a → H a = some (.lst (l.map V.int))) → Rp K (fun b => old.fa b ∨ (xs ≠ none ∧ old.st = some b)) H v d → D.rt v H
  | .ex c η => XH K xa W B old η c
  | .st => False
def SndS (K : Fg) (xa : Nat → Addr) (W : WX) (t : TS) (f : Env → Fl) : Prop := ∀ B old O σ H η D, ER K B old O H σ η → FR K xa W B old D (f η) → t D σ H
def canS (K : Fg) (xa : Nat → Addr) (W : WX) (f : Env → Fl) : TS := fun D σ H => ∃ B old O η, ER K B old O H σ η ∧ FR K xa W B old D (f η)
theorem FR.of {xa : Nat → Addr} {W : WX} {D : Ends} {α : Type} {r : Res α} {k : α → Fl} (h : FR K xa W B old D (Fl.of η r k)) : Rs (XH K xa W B old η) (fun a => FR K xa W B old D (k a)) r := by
  cases r <;> exact h
theorem FR.on {xa : Nat → Addr} {W : WX} {D : Ends} {α : Type} {r : Option α} {k : α → Fl} (h : FR K xa W B old D (Fl.on r k)) : ∃ a, r = some a ∧ FR K xa W B old D (k a) := by
  cases r with
  | none => exact h.elim
  | some a => exact ⟨a, rfl, h⟩
end
section
structure GS (T : Tb) (M : Nx) (xa : Nat → Addr) (X : Cx) (W : WX) : Prop extends GX T M.toNm xa X W where
  po : PassesOwn (model X.prog X.w) X.A X.env X.xe
  fnT : ∀ x, X.fn x = true
  bk : X.env.blockKind = .function
  stk : X.stack = X.env :: X.outer
  frm : X.env.frame = some X.env.locals
  exc : ∀ c x, M.ex c = some x → X.mg x = some (.ref (xa c)) ∧ PySem.W.keepIn X.K (.ref (xa c)) = true ∧ PySem.W.excIn X.K (xa c) [.type "ValueError", .type "Exception", .type "BaseException", .type "object"] "ValueError.__new__" = true ∧
    PySem.W.subIn X.K (.ref (xa c)) (.type "BaseException") = some true ∧ PySem.W.typeIn X.K (.ref (xa c)) = some (.type "type")
  ctc : ∀ x y, M.ct x = some y → X.mg y = some (.ref (xa x)) ∧ ∀ c, PySem.W.exmOne X.K (.ref (xa c)) (.ref (xa x)) = some (subX c x)
  on : M.on = true → M.hx = true ∧ ∃ st f fd, Fun X.K "_law_only" "_law_only" st f fd ∧ X.mg "_law_only" = some (.ref f) ∧ L2.Binds X.K fd ["_law_e", "_law_at"] [] ∧ PySem.W.keepIn X.K (.ref f) = true ∧
    FnScope ["_law_e", "_law_at", "_law_kinds", "_law_k"] ["_law_e", "_law_at"] (defScope st) ∧ okOnly M st = true
variable {T : Tb} {M : Nx} {xa : Nat → Addr} {X : Cx} {W : WX}
theorem GS.tr (g : GS T M xa X W) (pn : List (Addr × Obj)) (xe : Value → Shared → Prop) {W' : WX} (tk : L2N.Takes (X.tr pn xe) W') (po : PassesOwn (model X.prog X.w) X.A X.env xe) : GS T M xa (X.tr pn xe) W' where
  calm := g.calm
  nd := g.nd
  blt := g.blt
  lv := g.lv
  ls := g.ls
  gl := g.gl
  tk := tk
  py := ⟨g.py.ns, g.py.tr, g.py.dp, g.py.stk⟩
  po := po
  fnT := g.fnT
  bk := g.bk
  stk := g.stk
  frm := g.frm
  exc := g.exc
  ctc := g.ctc
  hx := g.hx
  exm := g.exm
  exn := g.exn
  on := g.on
variable (T M xa) in
def SS (x : S) : Prop := ∀ X W st, GS T M xa X W → okS M X.N X.env.scope st x = true → ∃ t, PS X st t ∧ SndS X.K xa W t (exS T x)
variable (T M xa) in
def SSs (x : S) : Prop := ∀ X W st, GS T M xa X W → okSs M X.N X.env.scope st x = true → ∃ t, PSs X st t ∧ SndS X.K xa W t (exS T x)
theorem loc_of {sc : Scope} {x : Str} (h : locB sc x = true) : L2.Loc sc x := by
  unfold locB at h
  split at h
  · rename_i e; exact .inl e
  · rename_i e; exact .inr e
  · cases h
theorem lcl_of {sc : Scope} {x : Str} (h : lclB sc x = true) : sc.names.lookup x = some .local := by
  unfold lclB at h
  split at h
  · rename_i e; exact e
  · cases h
theorem nameB_of {N : List Str} {sc : Scope} {x : Str} {i : Nat} (h : nameB N sc x i = true) : N[i]? = some x ∧ L2.Loc sc x := by
  unfold nameB at h
  simp only [Bool.and_eq_true, decide_eq_true_eq] at h
  exact ⟨h.1, loc_of h.2⟩
theorem vis_loc {sc : Scope} {x : Str} (h : L2.Loc sc x) : L2.Vis sc x := h.elim .inl fun q => .inr (.inl q)
/-- a name that holds an owned list, read -/
theorem pe_nm (g : GS T M xa X W) {x : Str} {i : Nat} {p : Pos} (h : nameB X.N X.env.scope x i = true) (ho : okName x = true) : PE X (.Name x p) (tVar i) :=
  pe_var (nameB_of h).1 (vis_loc (nameB_of h).2) (name_of ho).1 (name_of ho).2
theorem swaps_lc {t : Str} {p pos : Pos} {l : Nat} {elt : Expr} {gs : List Comprehension} {scope : Scope} (hb : X.env.blockKind = .function) :
    swapsWith (.ListComp elt gs scope pos) (some (.Name t p)) l X.env = pure (lcS X.env.scope t p.line (.ListComp elt gs scope pos)) := by
  have e : swapsWith (.ListComp elt gs scope pos) (some (.Name t p)) l X.env = pure (X.env.blockKind == .function && X.env.kindOf t == some .local && p.line == pos.line && !(scope.names.any fun (n, k) => n == t && (k == .local || k == .cell))) := rfl
  rw [e]
  congr 1
  unfold lcS
  dsimp only
  rw [hb]
  have e1 : (X.env.kindOf t == some .local) = (match X.env.scope.names.lookup t with | some .local => true | _ => false) := by
    show (X.env.scope.names.lookup t == some .local) = _
    cases X.env.scope.names.lookup t with
    | none => rfl
    | some k => cases k <;> rfl
  rw [e1]
  have e2 : (p.line == pos.line) = decide (p.line = pos.line) := by
    by_cases h : p.line = pos.line
    · rw [h]; simp
    · rw [decide_eq_false h]; simp [h]
  rw [e2]
  rfl
/-- x = e -/
theorem set_any (g : GS T M xa X W) {x : Str} {i : Nat} {e : E} {v : Expr} {p pos : Pos} (h : nameB X.N X.env.scope x i = true) (he : okE M.toNm X.N X.env.scope v e = true) :
    ∃ t, PS X (.Assign [.Name x p] v pos) (tAsg t (gName i)) ∧ Snd xa X W t (ev T e) := by
  obtain ⟨h1, h2⟩ := nameB_of h
  have hf : X.fn x = true ∨ X.env.scope.names.lookup x = some .local := .inl (g.fnT x)
  cases v with
  | ListComp elt gs scope q =>
    cases e with
    | comp w it c y =>
      obtain ⟨t, pt, st, sw⟩ := exL g.toGX he
      cases hs : lcS X.env.scope x p.line (.ListComp elt gs scope q) with
      | false => exact ⟨t, ps_set g.nd h1 h2 pt (by rw [swaps_lc g.bk, hs]) hf, st⟩
      | true =>
        have hl : X.env.scope.names.lookup x = some .local := by
          unfold lcS at hs
          simp only [Bool.and_eq_true] at hs
          have := hs.1.1
          split at this
          · assumption
          · cases this
        exact ⟨t, sw i x p pos h1 hl (by rw [swaps_lc g.bk, hs]), st⟩
    | comp2 w u it y =>
      obtain ⟨t, pt, st, sw⟩ := exL2 g.toGX he
      cases hs : lcS X.env.scope x p.line (.ListComp elt gs scope q) with
      | false => exact ⟨t, ps_set g.nd h1 h2 pt (by rw [swaps_lc g.bk, hs]) hf, st⟩
      | true =>
        have hl : X.env.scope.names.lookup x = some .local := by
          unfold lcS at hs
          simp only [Bool.and_eq_true] at hs
          have := hs.1.1
          split at this
          · assumption
          · cases this
        exact ⟨t, sw i x p pos h1 hl (by rw [swaps_lc g.bk, hs]), st⟩
    | _ => cases he
  | SetComp => exact absurd he (by cases e <;> simp [okE])
  | DictComp => exact absurd he (by cases e <;> simp [okE])
  | _ =>
    obtain ⟨t, pt, st⟩ := exE g.toGX he
    exact ⟨t, ps_set g.nd h1 h2 pt rfl hf, st⟩
theorem f_asg {i : Nat} {e : E} : SS T M xa (.asg i e) := by
  intro X W st g h
  unfold okS at h
  split at h
  · rename_i x p v pos
    simp only [Bool.and_eq_true] at h
    obtain ⟨t, pt, st⟩ := set_any g (p := p) (pos := pos) h.1 h.2
    refine ⟨_, pt, fun B old O σ H η D r q => ?_⟩
    unfold exS at q
    refine st B old O σ H η _ r (q.of.imp fun x k v H1 s1 vx => ?_)
    obtain ⟨η', e1, k⟩ := k.on
    obtain ⟨O', r'⟩ := r.asg s1 vx e1
    exact k _ _ _ r'
  · cases h
theorem names_len : ∀ {N : List Str} {sc : Scope} {ts : List Expr} {is : List Nat}, namesB N sc ts is = true → ts.length = is.length
  | _, _, [], [], _ => rfl
  | _, _, .Name _ _ :: ts, i :: is, h => by
    simp only [namesB, Bool.and_eq_true] at h
    simp [names_len h.2]
  | _, _, [], _ :: _, h => by simp [namesB] at h
  | _, _, .Name _ _ :: _, [], h => by simp [namesB] at h
def gNames : List Nat → TGs
  | [] => gNil
  | i :: is => gCons (gName i) (gNames is)
theorem pgs_names (g : GS T M xa X W) : ∀ {ts : List Expr} {is : List Nat}, namesB X.N X.env.scope ts is = true → PGs X ts (gNames is)
  | [], [], _ => pgs_nil
  | .Name x p :: ts, i :: is, h => by
    simp only [namesB, Bool.and_eq_true] at h
    exact pgs_cons (pg_name g.nd (nameB_of h.1).1 (nameB_of h.1).2 (.inl (g.fnT x))) (pgs_names g h.2)
  | [], _ :: _, h => by simp [namesB] at h
  | .Name _ _ :: _, [], h => by simp [namesB] at h
theorem names_each {env : PySem.Env} : ∀ {N : List Str} {sc : Scope} {ts : List Expr} {is : List Nat}, namesB N sc ts is = true → (assignEach ts env).length = is.length ∧ (assignEach ts env).findIdx? (·.1) = none
  | _, _, [], [], _ => ⟨rfl, rfl⟩
  | _, _, .Name x p :: ts, i :: is, h => by
    simp only [namesB, Bool.and_eq_true] at h
    obtain ⟨h1, h2⟩ := names_each (env := env) h.2
    refine ⟨?_, ?_⟩
    · show (assignEach ts env).length + 1 = is.length + 1
      rw [h1]
    · show ((false, assign (.Name x p) env) :: assignEach ts env).findIdx? (·.1) = none
      rw [List.findIdx?_cons, h2]
      rfl
  | _, _, [], _ :: _, h => by simp [namesB] at h
  | _, _, .Name _ _ :: _, [], h => by simp [namesB] at h
/-- names that get the parts of a tuple -/
theorem asgL_ok {K : Fg} {B : Addr → Prop} {old : Old} : ∀ {is : List Nat} {vs : List V} {ds : List D} {O : Ow} {σ : L2.St} {H : Hp} {η η' : Env} {Q : L2.St → Hp → Prop}, ER K B old O H σ η → RpAll K (Own O B) H vs ds → asgL η is ds = some η' →
    (∀ O σ, ER K B old O H σ η' → Q σ H) → gNames is vs σ H Q
  | [], _, [], O, σ, H, η, η', Q, r, .nil, e, k => by
    cases e
    exact ⟨rfl, k _ _ r⟩
  | i :: is, _, d :: ds, O, σ, H, η, η', Q, r, .cons rv rs, e, k => by
    rename_i v vs
    unfold asgL at e
    cases e1 : asgV η i (.cl d) with
    | none => rw [e1] at e; cases e
    | some η1 =>
      rw [e1] at e
      refine ⟨v, vs, rfl, ?_⟩
      have r1 : ER K B old (minus O i) H (σ.set i (some v)) η1 := by
        unfold asgV at e1
        split at e1
        · rename_i hi
          cases e1
          exact r.setSh hi (rv.ca ca_minus)
        · cases e1
      exact asgL_ok r1 (rs.ca ca_minus) e k
  | [], _, _ :: _, _, _, _, _, _, _, _, _, e, _ => by cases e
  | _ :: _, _, [], _, _, _, _, _, _, _, _, e, _ => by cases e
theorem tupOf_ok {K : Fg} {B : Addr → Prop} {O : Ow} {H0 H : Hp} {v : V} {x : Val} {ds : List D} (r : VR K B O H0 H v x) (e : tupOf x = some ds) : ∃ a vs, v = .ref a ∧ SqT K H a vs ∧ RpAll K (Own O B) H vs ds := by
  unfold tupOf at e
  split at e
  · cases e
    cases r with
    | tup h q => exact ⟨_, _, rfl, h, q⟩
  · cases e
theorem lstOf_ok {K : Fg} {B : Addr → Prop} {O : Ow} {H0 H : Hp} {v : V} {x : Val} {ds : List D} (r : VR K B O H0 H v x) (e : lstOf x = some ds) : ∃ a vs, v = .ref a ∧ SqL K H a vs ∧ RpAll K (Own O B) H vs ds := by
  unfold lstOf at e
  split at e
  · cases e
    obtain ⟨a, vs, rfl, _, h, q⟩ := r
    exact ⟨a, vs, rfl, .inl (Rd.of h), q.ca (Ca.less fun _ z => .inl z)⟩
  · cases e
    obtain ⟨a, vs, _, rfl, h, q⟩ := r
    exact ⟨a, vs, rfl, .inl (Rd.of h), q⟩
  · cases e
theorem asgL_len : ∀ {is : List Nat} {η η' : Env} {ds : List PyData}, asgL η is ds = some η' → is.length = ds.length
  | [], _, _, [], _ => rfl
  | i :: is, η, η', d :: ds, e => by
    unfold asgL at e
    cases e1 : asgV η i (.cl d) with
    | none => rw [e1] at e; cases e
    | some η1 =>
      rw [e1] at e
      have e : asgL η1 is ds = some η' := e
      simp [asgL_len e]
  | [], _, _, _ :: _, e => by cases e
  | _ :: _, _, _, [], e => by cases e
theorem swapped_none {x y : Str} {px py p1 p2 : Pos} {k1 k2 : Nat} {vs : List Expr} (h : lclB X.env.scope x = false ∨ lclB X.env.scope y = false) :
    swappedStores [.Tuple [.Name x px, .Name y py] k1 p1] (.Tuple vs k2 p2) X.env = pure none := by
  have e : ∀ z, lclB X.env.scope z = false → (X.env.kindOf z == some .local) = false := fun z hz => by
    unfold lclB at hz
    show (X.env.scope.names.lookup z == some .local) = false
    cases q : X.env.scope.names.lookup z with
    | none => rfl
    | some k =>
      rw [q] at hz
      cases k <;> first | rfl | cases hz
  have hlen : (([.Name x px, .Name y py] : List Expr).filterMap fun
      | .Name id pos => if (X.env.kindOf id == some .local && pos.line == (([.Name x px, .Name y py] : List Expr).head?.map (·.pos.line)).getD 0) = true then some id else none
      | _ => none).length ≠ 2 := by
    rcases h with h | h
    · simp only [List.filterMap_cons, List.filterMap_nil, e x h, Bool.false_and, Bool.false_eq_true, if_false]
      split <;> simp
    · simp only [List.filterMap_cons, List.filterMap_nil, e y h, Bool.false_and, Bool.false_eq_true, if_false]
      split <;> simp
  unfold swappedStores
  dsimp only
  split
  · rfl
  · split
    · rfl
    · rw [if_pos (by rw [Bool.or_eq_true]; exact .inl (bne_iff_ne.mpr hlen))]
theorem swapped_fold {ts vs : List Expr} {k1 k2 : Nat} {p1 p2 : Pos} {env : PySem.Env} (h : vs.all (foldedForSure 8) = true) : swappedStores [.Tuple ts k1 p1] (.Tuple vs k2 p2) env = pure none := by
  unfold swappedStores
  dsimp only
  split
  · rfl
  · split
    · rfl
    · split
      · rfl
      · first | rfl | rw [if_pos h]
theorem f_asgT {is : List Nat} {e : E} : SS T M xa (.asgT is e) := by
  intro X W st g h
  unfold okS at h
  split at h
  · rename_i ts k p v pos
    simp only [Bool.and_eq_true] at h
    obtain ⟨⟨h1, h2⟩, h3⟩ := h
    obtain ⟨t, pt, st⟩ := exE g.toGX h2
    obtain ⟨l1, l2⟩ := names_each (env := X.env) h1
    have hs : swapsWithSole [.Tuple ts k p] v pos.line X.env = pure false := by cases v <;> rfl
    have hw : swappedStores [.Tuple ts k p] v X.env = pure none := by
      cases v with
      | Tuple vs k2 p2 =>
        have h3 : (tupNo X.env.scope ts || vs.all (foldedForSure 8)) = true := h3
        rcases (Bool.or_eq_true _ _).mp h3 with h3 | h3
        · unfold tupNo at h3
          split at h3
          · simp only [Bool.or_eq_true, Bool.not_eq_true'] at h3
            exact swapped_none h3
          · cases h3
        · exact swapped_fold h3
      | _ => rfl
    refine ⟨_, ps_asg pt (pg_tup g.calm (pgs_names g h1) l1 l2) hs hw, fun B old O σ H η D r q => ?_⟩
    unfold exS at q
    refine st B old O σ H η _ r (q.of.imp fun x k v H1 s1 vx => ?_)
    obtain ⟨ds, e1, k⟩ := k.on
    obtain ⟨η', e2, k⟩ := k.on
    obtain ⟨a, vs, rfl, ht, ra⟩ := tupOf_ok vx e1
    refine ⟨a, vs, rfl, ht, ?_, asgL_ok (r.ext s1) ra e2 fun O' σ' r' => k _ _ _ r'⟩
    have := ra.length
    rw [this, asgL_len e2]
  · cases h
theorem f_asgN {is : List Nat} {e : E} : SS T M xa (.asgN is e) := by
  intro X W st g h
  unfold okS at h
  split at h
  · rename_i ts k p v pos
    simp only [Bool.and_eq_true] at h
    obtain ⟨⟨h1, h2⟩, h3⟩ := h
    obtain ⟨t, pt, st⟩ := exE g.toGX h2
    obtain ⟨l1, l2⟩ := names_each (env := X.env) h1
    have hs : swapsWithSole [.Tuple ts k p] v pos.line X.env = pure false := by cases v <;> rfl
    have hw : swappedStores [.Tuple ts k p] v X.env = pure none := by
      cases v with
      | Tuple vs k2 p2 =>
        have h3 : tupNo X.env.scope ts = true := h3
        unfold tupNo at h3
        split at h3
        · simp only [Bool.or_eq_true, Bool.not_eq_true'] at h3
          exact swapped_none h3
        · cases h3
      | _ => rfl
    refine ⟨_, ps_asg pt (pg_lst g.calm (pgs_names g h1) l1 l2) hs hw, fun B old O σ H η D r q => ?_⟩
    unfold exS at q
    refine st B old O σ H η _ r (q.of.imp fun x k v H1 s1 vx => ?_)
    obtain ⟨ds, e1, k⟩ := k.on
    obtain ⟨η', e2, k⟩ := k.on
    obtain ⟨a, vs, rfl, ht, ra⟩ := lstOf_ok vx e1
    refine ⟨a, vs, rfl, ht, ?_, asgL_ok (r.ext s1) ra e2 fun O' σ' r' => k _ _ _ r'⟩
    have := ra.length
    rw [this, asgL_len e2]
  · cases h

theorem swapped2 (g : GS T M xa X W) {x y : Str} {px py p1 p2 : Pos} {k1 k2 : Nat} {a b : Expr} (hx : lclB X.env.scope x = true) (hy : lclB X.env.scope y = true) (hl : px.line = py.line) (hxy : x ≠ y)
    (ha : ∀ q r, a ≠ .Starred q r) (hb : ∀ q r, b ≠ .Starred q r) (hf : (foldedForSure 8 a && foldedForSure 8 b) = false) (hc : (constantsAlone 8 a && constantsAlone 8 b) = false) :
    swappedStores [.Tuple [.Name x px, .Name y py] k1 p1] (.Tuple [a, b] k2 p2) X.env = pure (some [x, y]) := by
  have kx : X.env.kindOf x = some .local := lcl_of hx
  have ky : X.env.kindOf y = some .local := lcl_of hy
  have sa : (match a with | .Starred .. => true | _ => false) = false := by
    cases a <;> first | rfl | exact absurd rfl (ha _ _)
  have sb : (match b with | .Starred .. => true | _ => false) = false := by
    cases b <;> first | rfl | exact absurd rfl (hb _ _)
  have e1 : (Expr.Name x px).pos.line = px.line := rfl
  have hyx : (y == x) = false := by simpa using Ne.symm hxy
  unfold swappedStores
  simp only [List.length_cons, List.length_nil, g.bk, List.any_cons, List.any_nil, sa, sb, List.filterMap_cons, List.filterMap_nil, kx, ky, hl, List.head?_cons, Option.map_some, Option.getD_some, e1, List.all_cons, List.all_nil, Bool.and_true, hf, hc]
  simp [List.eraseDups_cons, hxy, hyx]
theorem f_par {i j : Nat} {a b : E} : SS T M xa (.par i j a b) := by
  intro X W st g h
  unfold okS at h
  split at h
  · rename_i x px y py k1 p1 u v k2 p2 pos
    simp only [Bool.and_eq_true, decide_eq_true_eq, Bool.not_eq_true'] at h
    obtain ⟨⟨⟨⟨⟨⟨⟨⟨⟨h1, h2⟩, h3⟩, h4⟩, h5⟩, h6⟩, h7⟩, h8⟩, h9⟩, h10⟩ := h
    obtain ⟨ta, pa, sa⟩ := exE g.toGX h7
    obtain ⟨tb, pb, sb⟩ := exE g.toGX h8
    have hxy : x ≠ y := fun z => by
      subst z
      exact h3 (nodup_ix g.nd h1 h2)
    have hw := swapped2 g (k1 := k1) (k2 := k2) (p1 := p1) (p2 := p2) h4 h5 h6 hxy (a := u) (b := v) (fun q r z => by rw [z, okE_star] at h7; cases h7) (fun q r z => by rw [z, okE_star] at h8; cases h8) h9 h10
    refine ⟨_, ps_par g.calm g.nd h1 h2 h3 (lcl_of h4) (lcl_of h5) (pa_cons pa (pa_cons pb pa_nil (star_of h8 _ _)) (star_of h7 _ _)) hw rfl, fun B old O σ H η D r q => ?_⟩
    unfold exS at q
    refine sa B old O σ H η _ r (q.of.imp fun x' k v1 H1 s1 vx => ?_)
    refine sb B old O σ H1 η _ (r.ext s1) (k.of.imp fun y' k w1 H2 s2 vy => ?_)
    obtain ⟨d, e1, k⟩ := k.on
    obtain ⟨d', e2, k⟩ := k.on
    obtain ⟨η', e3, k⟩ := k.on
    have ob := r.ob
    have ra : RpAll X.K (Own O B) H2 [v1, w1] [d, d'] := .cons ((vx.ext s2).shared ob.l ob.b e1) (.cons ((vy.back s1).shared ob.l ob.b e2) .nil)
    refine ⟨v1, w1, rfl, ?_⟩
    have q := asgL_ok (Q := D.nx) ((r.ext s1).ext s2) ra e3 fun O' σ' r' => k _ _ _ r'
    obtain ⟨_, _, z1, q⟩ := q
    cases z1
    obtain ⟨_, _, z2, q⟩ := q
    cases z2
    exact q.2
  · cases h
theorem f_ret {e : E} : SS T M xa (.ret e) := by
  intro X W st g h
  unfold okS at h
  split at h
  · obtain ⟨t, pt, st⟩ := exE g.toGX h
    refine ⟨_, ps_ret pt, fun B old O σ H η D r q => ?_⟩
    unfold exS at q
    refine st B old O σ H η _ r (q.of.imp fun x k v H1 s1 vx => ?_)
    obtain ⟨d, e1, k⟩ := k.on
    refine k v H1 (r.same.trans s1) ?_
    unfold retD at e1
    split at e1
    · split at e1
      · cases e1
        rename_i hl
        exact .inl ⟨hl, Rp.free (fun _ _ h => h) vx hl⟩
      · cases e1
    · split at e1
      · cases e1
        rename_i hl
        obtain ⟨a, vs, rfl, h2, h3, h4⟩ := vx
        exact .inr (.inl ⟨_, a, vs, rfl, hl, rfl, r.same.free h2, h3, h4.free (fun _ _ h => h) hl⟩)
      · cases e1
    · split at e1
      · cases e1
        rename_i hl
        obtain ⟨a, vs, h1, rfl, h3, h4⟩ := vx
        exact .inr (.inl ⟨_, a, vs, rfl, hl, rfl, r.fr _ a h1, h3, h4.free (fun _ _ h => h) hl⟩)
      · cases e1
    · cases e1
      obtain ⟨a, rfl, h2, h3⟩ := vx
      exact .inr (.inr ⟨_, a, rfl, rfl, r.same.free h2, h3⟩)
    · cases e1
      obtain ⟨a, h1, rfl, h3⟩ := vx
      exact .inr (.inr ⟨_, a, rfl, rfl, r.fr _ a h1, h3⟩)
  · cases h
theorem f_ret0 : SS T M xa .ret0 := by
  intro X W st g h
  unfold okS at h
  split at h
  · exact ⟨_, ps_retN, fun B old O σ H η D r q => q .non H r.same (.inl ⟨rfl, .non⟩)⟩
  · cases h
theorem f_ex {e : E} : SS T M xa (.ex e) := by
  intro X W st g h
  unfold okS at h
  split at h
  · rename_i v pos
    simp only [Bool.and_eq_true] at h
    obtain ⟨t, pt, st⟩ := exE g.toGX h.1
    have hs : swapsWith v none pos.line X.env = pure false := by
      have h2 := h.2
      cases v with
      | ListComp => cases h2
      | SetComp => exact absurd h.1 (by cases e <;> simp [okE])
      | DictComp => exact absurd h.1 (by cases e <;> simp [okE])
      | _ => rfl
    refine ⟨_, ps_expr pt hs, fun B old O σ H η D r q => ?_⟩
    unfold exS at q
    exact st B old O σ H η _ r (q.of.imp fun x k v H1 s1 vx => k _ _ _ (r.ext s1))
  · cases h
theorem f_brk : SS T M xa .brk := by
  intro X W st g h
  unfold okS at h
  split at h
  · exact ⟨_, ps_break, fun B old O σ H η D r q => q _ _ _ r⟩
  · cases h
theorem f_cnt : SS T M xa .cnt := by
  intro X W st g h
  unfold okS at h
  split at h
  · exact ⟨_, ps_continue, fun B old O σ H η D r q => q _ _ _ r⟩
  · cases h
theorem f_skip : SS T M xa .skip := by
  intro X W st g h
  unfold okS at h
  split at h
  · exact ⟨_, ps_pass, fun B old O σ H η D r q => q _ _ _ r⟩
  · exact ⟨_, ps_doc, fun B old O σ H η D r q => q _ _ _ r⟩
  · cases h
theorem f_rai {c : Nat} : SS T M xa (.rai c) := by
  intro X W st g h
  unfold okS at h
  split at h
  · simp only [Bool.and_eq_true, decide_eq_true_eq] at h
    obtain ⟨⟨h1, h2⟩, h3⟩ := h
    obtain ⟨m1, m2, m3, m4, m5⟩ := g.exc c _ h1
    refine ⟨_, L2N.ps_raise g.calm g.tk (L2N.pmk_own PySem.F.excBase_ValueError m3 m1 m2 (raises_own m4 m5) (gl_of h2) (name_of h3).1), fun B old O σ H η D r q => ?_⟩
    exact q O σ H r
  · cases h
theorem f_ite {c : E} {a b : S} (iha : SSs T M xa a) (ihb : SSs T M xa b) : SS T M xa (.ite c a b) := by
  intro X W st g h
  unfold okS at h
  split at h
  · simp only [Bool.and_eq_true] at h
    obtain ⟨⟨h1, h2⟩, h3⟩ := h
    obtain ⟨tc, pc, sc⟩ := exT g.toGX h1
    obtain ⟨ta, pa, sa⟩ := iha X W _ g h2
    obtain ⟨tb, pb, sb⟩ := ihb X W _ g h3
    refine ⟨_, ps_if pc pa pb, fun B old O σ H η D r q => ?_⟩
    unfold exS at q
    refine sc B old O σ H η _ r (q.of.imp fun k q H1 s1 => ?_)
    cases k with
    | true => exact iteT (sa _ _ _ _ _ _ _ (r.ext s1) q)
    | false => exact iteF (sb _ _ _ _ _ _ _ (r.ext s1) q)
  · cases h
theorem f_nil : SSs T M xa .skip := by
  intro X W st g h
  unfold okSs at h
  split at h
  · exact ⟨_, pss_nil, fun B old O σ H η D r q => q _ _ _ r⟩
  · cases h
theorem f_seq {a b : S} (iha : SS T M xa a) (ihb : SSs T M xa b) : SSs T M xa (.seq a b) := by
  intro X W st g h
  unfold okSs at h
  split at h
  · simp only [Bool.and_eq_true] at h
    obtain ⟨ta, pa, sa⟩ := iha X W _ g h.1
    obtain ⟨tb, pb, sb⟩ := ihb X W _ g h.2
    refine ⟨_, pss_cons pa pb, fun B old O σ H η D r q => ?_⟩
    unfold exS at q
    refine sa B old O σ H η _ r ?_
    revert q
    cases exS T a η with
    | nx η' => exact fun q O σ H r' => sb _ _ _ _ _ _ _ r' q
    | _ => exact fun q => q
  · cases h
theorem FR.ends {K : Fg} {W : WX} {B : Addr → Prop} {old old' : Old} {D D' : Ends} {w : Env → Fl} {f : Fl} (h : FR K xa W B old D (turnF w f)) (ho : old'.hp = old.hp) (hst : old'.st = old.st) (hfa : old'.fa = old.fa)
    (un : ∀ O σ H η, ER K B old' O H σ η → ER K B old O H σ η)
    (hn : ∀ η, FR K xa W B old D (w η) → ∀ O σ H, ER K B old' O H σ η → D'.nx σ H) (hc : ∀ η, FR K xa W B old D (w η) → ∀ O σ H, ER K B old' O H σ η → D'.ct σ H)
    (hb : ∀ σ H, D.nx σ H → D'.bk σ H) (hr : ∀ v H, D.rt v H → D'.rt v H) : FR K xa W B old' D' f := by
  cases f with
  | nx η => exact fun O σ H r => hn η h O σ H r
  | ct η => exact fun O σ H r => hc η h O σ H r
  | bk η => exact fun O σ H r => hb σ H (h O σ H (un _ _ _ _ r))
  | rt d =>
    intro v H s rr
    rw [ho] at s rr
    exact hr v H (h v H s rr)
  | rs d xs =>
    intro v H s a rr
    rw [ho] at s
    rw [hst] at a rr
    rw [hfa] at rr
    exact hr v H (h v H s a rr)
  | ex c η => exact fun O σ H r => h O σ H (un _ _ _ _ r)
  | st => exact h
theorem f_wh {c : E} {b : S} (ihb : SSs T M xa b) : SS T M xa (.wh c b) := by
  intro X W st g h
  unfold okS at h
  split at h
  · simp only [Bool.and_eq_true] at h
    obtain ⟨tc, pc, sc⟩ := exT g.toGX h.1
    obtain ⟨tb, pb, sb⟩ := ihb X W _ g h.2
    refine ⟨_, ps_while g.po pc pb, fun B old O σ H η D r q => ?_⟩
    unfold exS at q
    obtain ⟨n, hn⟩ := whS_is (evt T c) (exS T b) η
    rw [hn] at q
    refine ⟨fun m σ H => ∃ O η, ER X.K B old O H σ η ∧ FR X.K xa W B old D (itW (evt T c) (exS T b) m η), ⟨n, O, η, r, q⟩, fun m σ H hW => ?_⟩
    obtain ⟨O, η, r, q⟩ := hW
    cases m with
    | zero => exact q.elim
    | succ m =>
      rw [itW] at q
      refine sc B old O σ H η _ r (q.of.imp fun k q H1 s1 => ?_)
      cases k with
      | false => exact iteF (q _ _ _ (r.ext s1))
      | true =>
        refine iteT ⟨fun σ H => ∃ O η, ER X.K B old O H σ η ∧ FR X.K xa W B old D (itW (evt T c) (exS T b) m η), fun σ' H' hN => ⟨m, Nat.lt_succ_self _, hN⟩, sb _ _ _ _ _ _ _ (r.ext s1) ?_⟩
        exact FR.ends q rfl rfl rfl (fun _ _ _ _ r => r) (fun η q O σ H r => ⟨O, η, r, q⟩) (fun η q O σ H r => ⟨O, η, r, q⟩) (fun _ _ h => h) (fun _ _ h => h)
  · cases h

/-! ### for -/
theorem for_okP {K : Fg} {W : WX} {B : Addr → Prop} {old old' : Old} {J : It} {ds : List D} {bd : D → Env → Fl} {gt : TG} {tb : TS} {En : Ends} {O0 : Ow} {σ0 : L2.St} {H1 : Hp} {η0 : Env} (P : Ow → Hp → V → D → Prop) (ho : old'.hp = old.hp ∧ old'.st = old.st ∧ old'.fa = old.fa)
    (un : ∀ O σ H η, ER K B old' O H σ η → ER K B old O H σ η)
    (walk : ∀ O σ H η i, ER K B old' O H σ η → (ds.length ≤ i → J.stop i H) ∧ ∀ d, ds[i]? = some d → J.go i H ∧ ∀ x H', J.yld i H x H' → H' = H ∧ P O H x d)
    (r0 : ER K B old' O0 H1 σ0 η0) (q0 : FR K xa W B old En (loopF bd ds η0))
    (body : ∀ O σ H η x d En', ER K B old' O H σ η → P O H x d → FR K xa W B old' En' (bd d η) → gt x σ H fun σ2 H2 => tb En' σ2 H2) :
    ∃ Wf : Nat → Nat → L2.St → Hp → Prop, (∃ m, Wf 0 m σ0 H1) ∧ ∀ i m σ H, Wf i m σ H →
      (J.stop i H ∧ En.nx σ H) ∨ (J.go i H ∧ ∃ N : L2.St → Hp → Prop, (∀ σ' H', N σ' H' → ∃ m', m' < m ∧ Wf (i + 1) m' σ' H') ∧ ∀ x H', J.yld i H x H' → gt x σ H' fun σ2 H2 => tb { En with nx := N, ct := N, bk := En.nx } σ2 H2) := by
  refine ⟨fun i m σ H => m = ds.length - i ∧ i ≤ ds.length ∧ ∃ O η, ER K B old' O H σ η ∧ FR K xa W B old En (loopF bd (ds.drop i) η), ⟨_, rfl, Nat.zero_le _, O0, η0, r0, q0⟩, fun i m σ H hW => ?_⟩
  obtain ⟨rfl, hi, O, η, r, q⟩ := hW
  obtain ⟨w1, w2⟩ := walk O σ H η i r
  by_cases hlt : i < ds.length
  · right
    obtain ⟨go, yl⟩ := w2 _ (List.getElem?_eq_getElem hlt)
    rw [List.drop_eq_getElem_cons hlt, loopF] at q
    refine ⟨go, fun σ' H' => ∃ O η, ER K B old' O H' σ' η ∧ FR K xa W B old En (loopF bd (ds.drop (i + 1)) η), fun σ' H' hN => ⟨ds.length - (i + 1), by omega, rfl, hlt, hN⟩, fun x H' hy => ?_⟩
    obtain ⟨rfl, rx⟩ := yl x H' hy
    exact body O σ H' η x _ _ r rx (FR.ends q ho.1 ho.2.1 ho.2.2 un (fun η q O σ H r => ⟨O, η, r, q⟩) (fun η q O σ H r => ⟨O, η, r, q⟩) (fun _ _ h => h) (fun _ _ h => h))
  · left
    have e : i = ds.length := by omega
    subst e
    rw [List.drop_length, loopF] at q
    exact ⟨w1 (Nat.le_refl _), q _ _ _ (un _ _ _ _ r)⟩
theorem for_ok {K : Fg} {W : WX} {B : Addr → Prop} {old old' : Old} {J : It} {ds : List D} {bd : D → Env → Fl} {gt : TG} {tb : TS} {En : Ends} {O0 : Ow} {σ0 : L2.St} {H1 : Hp} {η0 : Env} (ho : old'.hp = old.hp ∧ old'.st = old.st ∧ old'.fa = old.fa)
    (un : ∀ O σ H η, ER K B old' O H σ η → ER K B old O H σ η)
    (walk : ∀ O σ H η i, ER K B old' O H σ η → (ds.length ≤ i → J.stop i H) ∧ ∀ d, ds[i]? = some d → J.go i H ∧ ∀ x H', J.yld i H x H' → H' = H ∧ Rp K (Own O B) H x d)
    (r0 : ER K B old' O0 H1 σ0 η0) (q0 : FR K xa W B old En (loopF bd ds η0))
    (body : ∀ O σ H η x d En', ER K B old' O H σ η → Rp K (Own O B) H x d → FR K xa W B old' En' (bd d η) → gt x σ H fun σ2 H2 => tb En' σ2 H2) :
    ∃ Wf : Nat → Nat → L2.St → Hp → Prop, (∃ m, Wf 0 m σ0 H1) ∧ ∀ i m σ H, Wf i m σ H →
      (J.stop i H ∧ En.nx σ H) ∨ (J.go i H ∧ ∃ N : L2.St → Hp → Prop, (∀ σ' H', N σ' H' → ∃ m', m' < m ∧ Wf (i + 1) m' σ' H') ∧ ∀ x H', J.yld i H x H' → gt x σ H' fun σ2 H2 => tb { En with nx := N, ct := N, bk := En.nx } σ2 H2) :=
  for_okP (fun O H x d => Rp K (Own O B) H x d) ho un walk r0 q0 body
/-- a walked value is kept beside the names -/
theorem pre_ok {K : Fg} {B : Addr → Prop} {old : Old} {O : Ow} {H H1 : Hp} {σ : L2.St} {η : Env} {v : V} {x : Val} (r : ER K B old O H σ η) (s : Same H H1) (vx : VR K B O H H1 v x) : ∃ O', ER K B (old.add v x.d) O' H1 σ ((Wk.v x).pre η) := by
  cases x with
  | cl d => exact ⟨O, (r.ext s).add vx⟩
  | nw ds => exact ⟨O, (r.ext s).add (vx.shared r.ob.l r.ob.b rfl)⟩
  | br j ds =>
    obtain ⟨a, vs, h1, rfl, h3, h4⟩ := vx
    have r1 := (r.ext s).drop j
    refine ⟨_, r1.add (.lst (.inl ⟨fun z => ?_, .inl h3⟩) (h4.ca ca_minus))⟩
    rcases z with ⟨l, z⟩ | z
    · obtain ⟨q1, q2⟩ := minus_some z
      exact q1 (r.inj l j a q2 h1)
    · exact r.disj j a h1 z
  | nd l => exact ⟨O, (r.ext s).add (vx.shared r.ob.l r.ob.b rfl)⟩
  | bd j l =>
    obtain ⟨a, h1, rfl, h3⟩ := vx
    have r1 := (r.ext s).drop j
    refine ⟨_, r1.add (.dct (fun z => ?_) (.inl h3))⟩
    rcases z with ⟨l, z⟩ | z
    · obtain ⟨q1, q2⟩ := minus_some z
      exact q1 (r.inj l j a q2 h1)
    · exact r.disj j a h1 z
theorem walk_v {K : Fg} {B : Addr → Prop} {old : Old} {O : Ow} {H : Hp} {σ : L2.St} {η : Env} {a : Addr} {d0 : D} {ds : List D} {J : It} (hs : d0.seq = some ds) (hj : (∃ es, d0 = .list es ∧ J = Itl K a) ∨ (∃ es, d0 = .tuple es ∧ J = Itt K a)) (i : Nat)
    (r : ER K B (old.add (.ref a) d0) O H σ η) : (ds.length ≤ i → J.stop i H) ∧ ∀ d, ds[i]? = some d → J.go i H ∧ ∀ x H', J.yld i H x H' → H' = H ∧ Rp K (Own O B) H x d := by
  have rd := r.un.2
  rcases hj with ⟨es, rfl, rfl⟩ | ⟨es, rfl, rfl⟩
  · cases hs
    cases rd with
    | lst h ra =>
      rename_i vs
      refine ⟨fun hl => ⟨vs, h.sq, by rw [ra.length]; exact hl⟩, fun d hd => ?_⟩
      obtain ⟨v, e1, e2⟩ := ra.get hd
      refine ⟨⟨vs, v, h.sq, e1⟩, fun x H' y => ⟨y.1, ?_⟩⟩
      have := y.2 vs h.sq
      rw [e1] at this
      cases this
      exact e2
  · cases hs
    cases rd with
    | tup h ra =>
      rename_i vs
      refine ⟨fun hl => ⟨vs, h, by rw [ra.length]; exact hl⟩, fun d hd => ?_⟩
      obtain ⟨v, e1, e2⟩ := ra.get hd
      refine ⟨⟨vs, v, h, e1⟩, fun x H' y => ⟨y.1, ?_⟩⟩
      have := y.2 vs h
      rw [e1] at this
      cases this
      exact e2
theorem walk_r {K : Fg} {A : Addr → Prop} {H : Hp} {lo : Int} {n : Nat} (i : Nat) : ((rngD lo n).length ≤ i → (Itr lo n).stop i H) ∧ ∀ d, (rngD lo n)[i]? = some d → (Itr lo n).go i H ∧ ∀ x H', (Itr lo n).yld i H x H' → H' = H ∧ Rp K A H x d := by
  have el : (rngD lo n).length = n := by simp [rngD]
  refine ⟨fun hl => by rw [el] at hl; exact hl, fun d hd => ?_⟩
  have hi : i < n := by
    have := (List.getElem?_eq_some_iff.mp hd).1
    rw [el] at this
    exact this
  have ed : d = .int (lo + i) := by
    simp only [rngD, List.getElem?_map, List.getElem?_range hi, Option.map_some, Option.some.injEq] at hd
    exact hd.symm
  subst ed
  exact ⟨hi, fun x H' y => ⟨y.1, by rw [y.2]; exact .int _⟩⟩
theorem walk_c {K : Fg} {A : Addr → Prop} {H : Hp} {lo c : Int} {n : Nat} (i : Nat) : ((rngC lo c n).length ≤ i → (Itc lo c n).stop i H) ∧ ∀ d, (rngC lo c n)[i]? = some d → (Itc lo c n).go i H ∧ ∀ x H', (Itc lo c n).yld i H x H' → H' = H ∧ Rp K A H x d := by
  have el : (rngC lo c n).length = n := by simp [rngC]
  refine ⟨fun hl => by rw [el] at hl; exact hl, fun d hd => ?_⟩
  have hi : i < n := by
    have := (List.getElem?_eq_some_iff.mp hd).1
    rw [el] at this
    exact this
  have ed : d = .int (lo + (i : Int) * c) := by
    simp only [rngC, List.getElem?_map, List.getElem?_range hi, Option.map_some, Option.some.injEq] at hd
    exact hd.symm
  subst ed
  exact ⟨hi, fun x H' y => ⟨y.1, by rw [y.2]; exact .int _⟩⟩
/-- a for's reading, whatever its target -/
theorem evi_d {it : E} {η : Env} {l : Dl} (h : evi T it η = .ok (.d l)) : isItd it = true := by
  cases it with
  | itd a => rfl
  | its a => rfl
  | itv a =>
    unfold evi at h
    cases e1 : ev T a η with
    | ok x =>
      rw [e1] at h
      have h : (oOk x.d.seq).map (fun _ => Wk.v x) = .ok (.d l) := h
      cases e2 : x.d.seq with
      | none => rw [e2] at h; cases h
      | some ds => rw [e2] at h; cases h
    | ex c => rw [e1] at h; cases h
    | st => rw [e1] at h; cases h
  | ir1 a =>
    unfold evi at h
    cases e1 : ev T a η with
    | ok x =>
      rw [e1] at h
      have h : (intOf x).bind (fun n => if small n then Res.ok (Wk.r 0 n.toNat) else .st) = Res.ok (Wk.d l) := h
      cases e2 : intOf x with
      | ok n =>
        rw [e2] at h
        have h : (if small n then Res.ok (Wk.r 0 n.toNat) else .st) = .ok (.d l) := h
        split at h <;> cases h
      | ex c => rw [e2] at h; cases h
      | st => rw [e2] at h; cases h
    | ex c => rw [e1] at h; cases h
    | st => rw [e1] at h; cases h
  | ir2 a b =>
    unfold evi at h
    cases e1 : ev T a η with
    | ok x =>
      rw [e1] at h
      have h : ((ev T b η).bind fun y => (intOf x).bind fun i => (intOf y).bind fun j => if small i ∧ small j then Res.ok (Wk.r i (j - i).toNat) else .st) = .ok (.d l) := h
      cases e2 : ev T b η with
      | ok z =>
        rw [e2] at h
        have h : ((intOf x).bind fun i => (intOf z).bind fun j => if small i ∧ small j then Res.ok (Wk.r i (j - i).toNat) else .st) = .ok (.d l) := h
        cases e3 : intOf x with
        | ok i =>
          rw [e3] at h
          have h : ((intOf z).bind fun j => if small i ∧ small j then Res.ok (Wk.r i (j - i).toNat) else .st) = .ok (.d l) := h
          cases e4 : intOf z with
          | ok j =>
            rw [e4] at h
            have h : (if small i ∧ small j then Res.ok (Wk.r i (j - i).toNat) else .st) = .ok (.d l) := h
            split at h <;> cases h
          | ex c => rw [e4] at h; cases h
          | st => rw [e4] at h; cases h
        | ex c => rw [e3] at h; cases h
        | st => rw [e3] at h; cases h
      | ex c => rw [e2] at h; cases h
      | st => rw [e2] at h; cases h
    | ex c => rw [e1] at h; cases h
    | st => rw [e1] at h; cases h
  | ir3 a b c =>
    unfold evi at h
    cases e1 : ev T a η with
    | ok x =>
      rw [e1] at h
      have h : ((ev T b η).bind fun y => (intOf x).bind fun i => (intOf y).bind fun j => rgV i j c) = .ok (.d l) := h
      cases e2 : ev T b η with
      | ok z =>
        rw [e2] at h
        have h : ((intOf x).bind fun i => (intOf z).bind fun j => rgV i j c) = .ok (.d l) := h
        cases e3 : intOf x with
        | ok i =>
          rw [e3] at h
          have h : ((intOf z).bind fun j => rgV i j c) = .ok (.d l) := h
          cases e4 : intOf z with
          | ok j =>
            rw [e4] at h
            have h : rgV i j c = .ok (.d l) := h
            unfold rgV at h
            split at h <;> cases h
          | ex c => rw [e4] at h; cases h
          | st => rw [e4] at h; cases h
        | ex c => rw [e3] at h; cases h
        | st => rw [e3] at h; cases h
      | ex c => rw [e2] at h; cases h
      | st => rw [e2] at h; cases h
    | ex c => rw [e1] at h; cases h
    | st => rw [e1] at h; cases h
  | _ => cases h
theorem evi_s {it : E} {η : Env} {l : Str} (h : evi T it η = .ok (.txt l)) : isItd it = true := by
  cases it with
  | itd a => rfl
  | its a => rfl
  | itv a =>
    unfold evi at h
    cases e1 : ev T a η with
    | ok x =>
      rw [e1] at h
      have h : (oOk x.d.seq).map (fun _ => Wk.v x) = .ok (.txt l) := h
      cases e2 : x.d.seq with
      | none => rw [e2] at h; cases h
      | some ds => rw [e2] at h; cases h
    | ex c => rw [e1] at h; cases h
    | st => rw [e1] at h; cases h
  | ir1 a =>
    unfold evi at h
    cases e1 : ev T a η with
    | ok x =>
      rw [e1] at h
      have h : (intOf x).bind (fun n => if small n then Res.ok (Wk.r 0 n.toNat) else .st) = Res.ok (Wk.txt l) := h
      cases e2 : intOf x with
      | ok n =>
        rw [e2] at h
        have h : (if small n then Res.ok (Wk.r 0 n.toNat) else .st) = .ok (.txt l) := h
        split at h <;> cases h
      | ex c => rw [e2] at h; cases h
      | st => rw [e2] at h; cases h
    | ex c => rw [e1] at h; cases h
    | st => rw [e1] at h; cases h
  | ir2 a b =>
    unfold evi at h
    cases e1 : ev T a η with
    | ok x =>
      rw [e1] at h
      have h : ((ev T b η).bind fun y => (intOf x).bind fun i => (intOf y).bind fun j => if small i ∧ small j then Res.ok (Wk.r i (j - i).toNat) else .st) = .ok (.txt l) := h
      cases e2 : ev T b η with
      | ok z =>
        rw [e2] at h
        have h : ((intOf x).bind fun i => (intOf z).bind fun j => if small i ∧ small j then Res.ok (Wk.r i (j - i).toNat) else .st) = .ok (.txt l) := h
        cases e3 : intOf x with
        | ok i =>
          rw [e3] at h
          have h : ((intOf z).bind fun j => if small i ∧ small j then Res.ok (Wk.r i (j - i).toNat) else .st) = .ok (.txt l) := h
          cases e4 : intOf z with
          | ok j =>
            rw [e4] at h
            have h : (if small i ∧ small j then Res.ok (Wk.r i (j - i).toNat) else .st) = .ok (.txt l) := h
            split at h <;> cases h
          | ex c => rw [e4] at h; cases h
          | st => rw [e4] at h; cases h
        | ex c => rw [e3] at h; cases h
        | st => rw [e3] at h; cases h
      | ex c => rw [e2] at h; cases h
      | st => rw [e2] at h; cases h
    | ex c => rw [e1] at h; cases h
    | st => rw [e1] at h; cases h
  | ir3 a b c =>
    unfold evi at h
    cases e1 : ev T a η with
    | ok x =>
      rw [e1] at h
      have h : ((ev T b η).bind fun y => (intOf x).bind fun i => (intOf y).bind fun j => rgV i j c) = .ok (.txt l) := h
      cases e2 : ev T b η with
      | ok z =>
        rw [e2] at h
        have h : ((intOf x).bind fun i => (intOf z).bind fun j => rgV i j c) = .ok (.txt l) := h
        cases e3 : intOf x with
        | ok i =>
          rw [e3] at h
          have h : ((intOf z).bind fun j => rgV i j c) = .ok (.txt l) := h
          cases e4 : intOf z with
          | ok j =>
            rw [e4] at h
            have h : rgV i j c = .ok (.txt l) := h
            unfold rgV at h
            split at h <;> cases h
          | ex c => rw [e4] at h; cases h
          | st => rw [e4] at h; cases h
        | ex c => rw [e3] at h; cases h
        | st => rw [e3] at h; cases h
      | ex c => rw [e2] at h; cases h
      | st => rw [e2] at h; cases h
    | ex c => rw [e1] at h; cases h
    | st => rw [e1] at h; cases h
  | _ => cases h
theorem for_any {it : E} {gt : TG} {tb : TS} {wi : TI} {bd : D → Env → Fl} (hnd : isItd it = false) (si : SndI xa X W wi (evi T it))
    (body : ∀ B old O σ H η x d En', ER X.K B old O H σ η → Rp X.K (Own O B) H x d → FR X.K xa W B old En' (bd d η) → gt x σ H fun σ2 H2 => tb En' σ2 H2) :
    SndS X.K xa W (tFor wi gt tb) (fun η => Fl.of η (evi T it η) fun w => loopF bd w.ds (w.pre η)) := by
  intro B old O σ H η D r q
  dsimp only at q
  refine si B old O σ H η _ r ?_
  cases ew : evi T it η with
  | st => rw [ew] at q; exact q.elim
  | ex c => rw [ew] at q; exact q
  | ok w =>
    rw [ew] at q
    intro J H1 s1 hw
    cases w with
    | d l => rw [evi_d ew] at hnd; cases hnd
    | txt l => rw [evi_s ew] at hnd; cases hnd
    | v x =>
      obtain ⟨a, vx, hj⟩ := hw
      obtain ⟨O', r'⟩ := pre_ok r s1 vx
      cases es : x.d.seq with
      | none => exact absurd es (evi_seq ew x rfl)
      | some ds =>
        have e2 : (Wk.v x).ds = ds := by
          show x.d.seq.getD [] = ds
          rw [es]
          rfl
        have q : FR X.K xa W B old D (loopF bd (Wk.v x).ds ((Wk.v x).pre η)) := q
        rw [e2] at q
        exact for_ok (old := old) (old' := old.add (.ref a) x.d) ⟨rfl, rfl, rfl⟩ (fun _ _ _ _ r => r.un.1) (fun O σ H η i r => walk_v es hj i r) r' q (fun O σ H η x d En' r rx q => body _ _ O σ H η x d En' r rx q)
    | r lo n =>
      cases hw
      exact for_ok (old := old) (old' := old) ⟨rfl, rfl, rfl⟩ (fun _ _ _ _ r => r) (fun O σ H η i r => walk_r i) (r.ext s1) q (fun O σ H η x d En' r rx q => body _ _ O σ H η x d En' r rx q)
    | c lo c n =>
      cases hw
      exact for_ok (old := old) (old' := old) ⟨rfl, rfl, rfl⟩ (fun _ _ _ _ r => r) (fun O σ H η i r => walk_c i) (r.ext s1) q (fun O σ H η x d En' r rx q => body _ _ O σ H η x d En' r rx q)
theorem f_fo {v : Nat} {it : E} {b : S} (ihb : SSs T M xa b) : SS T M xa (.fo v it b) := by
  intro X W st g h
  unfold okS at h
  split at h
  · simp only [Bool.and_eq_true, Bool.not_eq_true'] at h
    obtain ⟨⟨⟨h1, h2⟩, h3⟩, hnd⟩ := h
    rename_i y py iter body pos
    obtain ⟨⟨wi, pi, si⟩, hf⟩ := exI (tg := .Name y py) g.toGX h2
    obtain ⟨tb, pb, sb⟩ := ihb X W _ g h3
    refine ⟨_, ps_for g.po g.calm pi (pg_name g.nd (nameB_of h1).1 (nameB_of h1).2 (.inl (g.fnT y))) pb hf, ?_⟩
    have e : exS T (.fo v it b) = fun η => Fl.of η (evi T it η) fun w => loopF (fun d η => Fl.on (asgV η v (.cl d)) (exS T b)) w.ds (w.pre η) := by
      funext η
      rw [exS]
    rw [e]
    refine for_any hnd si fun B old O σ H η x d En' r rx q => ?_
    obtain ⟨η', e1, q⟩ := q.on
    obtain ⟨O', r'⟩ := r.asg (x := .cl d) (Same.refl H) rx e1
    exact sb _ _ _ _ _ _ _ r' q
  · cases h
theorem f_foT {vs : List Nat} {it : E} {b : S} (ihb : SSs T M xa b) : SS T M xa (.foT vs it b) := by
  intro X W st g h
  unfold okS at h
  split at h
  · simp only [Bool.and_eq_true, Bool.not_eq_true'] at h
    obtain ⟨⟨⟨h1, h2⟩, h3⟩, hnd⟩ := h
    rename_i ts k py iter body pos
    obtain ⟨⟨wi, pi, si⟩, hf⟩ := exI (tg := .Tuple ts k py) g.toGX h2
    obtain ⟨tb, pb, sb⟩ := ihb X W _ g h3
    obtain ⟨l1, l2⟩ := names_each (env := X.env) h1
    refine ⟨_, ps_for g.po g.calm pi (pg_tup g.calm (pgs_names g h1) l1 l2) pb hf, ?_⟩
    have e : exS T (.foT vs it b) = fun η => Fl.of η (evi T it η) fun w => loopF (fun d η => Fl.on (tupOf (.cl d)) fun ds => Fl.on (asgL η vs ds) (exS T b)) w.ds (w.pre η) := by
      funext η
      rw [exS]
    rw [e]
    refine for_any hnd si fun B old O σ H η x d En' r rx q => ?_
    obtain ⟨ds, e1, q⟩ := q.on
    obtain ⟨η', e2, q⟩ := q.on
    obtain ⟨a, ws, rfl, ht, ra⟩ := tupOf_ok (H0 := H) (x := .cl d) rx e1
    refine ⟨a, ws, rfl, ht, by rw [ra.length, asgL_len e2], asgL_ok r ra e2 fun O' σ' r' => sb _ _ _ _ _ _ _ r' q⟩
  · cases h

theorem for_okE {K : Fg} {W : WX} {B : Addr → Prop} {old old' : Old} {J : It} {ds : List D} {bd : D → Env → Fl} {gt : TG} {tb : TS} {En : Ends} {O0 : Ow} {σ0 : L2.St} {H1 : Hp} {η0 : Env} (ho : old'.hp = old.hp ∧ old'.st = old.st ∧ old'.fa = old.fa)
    (un : ∀ O σ H η, ER K B old' O H σ η → ER K B old O H σ η)
    (walk : ∀ O σ H η i, ER K B old' O H σ η → (ds.length ≤ i → J.stop i H) ∧ ∀ d, ds[i]? = some d → J.go i H ∧ ∀ x H', J.yld i H x H' → ER K B old' O H' σ η ∧ Rp K (Own O B) H' x d)
    (r0 : ER K B old' O0 H1 σ0 η0) (q0 : FR K xa W B old En (loopF bd ds η0))
    (body : ∀ O σ H η x d En', ER K B old' O H σ η → Rp K (Own O B) H x d → FR K xa W B old' En' (bd d η) → gt x σ H fun σ2 H2 => tb En' σ2 H2) :
    ∃ Wf : Nat → Nat → L2.St → Hp → Prop, (∃ m, Wf 0 m σ0 H1) ∧ ∀ i m σ H, Wf i m σ H →
      (J.stop i H ∧ En.nx σ H) ∨ (J.go i H ∧ ∃ N : L2.St → Hp → Prop, (∀ σ' H', N σ' H' → ∃ m', m' < m ∧ Wf (i + 1) m' σ' H') ∧ ∀ x H', J.yld i H x H' → gt x σ H' fun σ2 H2 => tb { En with nx := N, ct := N, bk := En.nx } σ2 H2) := by
  refine ⟨fun i m σ H => m = ds.length - i ∧ i ≤ ds.length ∧ ∃ O η, ER K B old' O H σ η ∧ FR K xa W B old En (loopF bd (ds.drop i) η), ⟨_, rfl, Nat.zero_le _, O0, η0, r0, q0⟩, fun i m σ H hW => ?_⟩
  obtain ⟨rfl, hi, O, η, r, q⟩ := hW
  obtain ⟨w1, w2⟩ := walk O σ H η i r
  by_cases hlt : i < ds.length
  · right
    obtain ⟨go, yl⟩ := w2 _ (List.getElem?_eq_getElem hlt)
    rw [List.drop_eq_getElem_cons hlt, loopF] at q
    refine ⟨go, fun σ' H' => ∃ O η, ER K B old' O H' σ' η ∧ FR K xa W B old En (loopF bd (ds.drop (i + 1)) η), fun σ' H' hN => ⟨ds.length - (i + 1), by omega, rfl, hlt, hN⟩, fun x H' hy => ?_⟩
    obtain ⟨r', rx⟩ := yl x H' hy
    exact body O σ H' η x _ _ r' rx (FR.ends q ho.1 ho.2.1 ho.2.2 un (fun η q O σ H r => ⟨O, η, r, q⟩) (fun η q O σ H r => ⟨O, η, r, q⟩) (fun _ _ h => h) (fun _ _ h => h))
  · left
    have e : i = ds.length := by omega
    subst e
    rw [List.drop_length, loopF] at q
    exact ⟨w1 (Nat.le_refl _), q _ _ _ (un _ _ _ _ r)⟩
theorem walk_e {K : Fg} {B : Addr → Prop} {old : Old} {O : Ow} {H : Hp} {σ : L2.St} {η : Env} {a : Addr} {ds : List D} (i : Nat) (r : ER K B (old.add (.ref a) (.list ds)) O H σ η) :
    ((enumF 0 ds).length ≤ i → (Ite K a).stop i H) ∧ ∀ d, (enumF 0 ds)[i]? = some d → (Ite K a).go i H ∧ ∀ x H', (Ite K a).yld i H x H' → ER K B (old.add (.ref a) (.list ds)) O H' σ η ∧ Rp K (Own O B) H' x d := by
  have rd := r.un.2
  cases rd with
  | lst h ra =>
    rename_i vs
    refine ⟨fun hl => ⟨vs, h.sq, by rw [ra.length]; rw [enumF_len] at hl; exact hl⟩, fun d hd => ?_⟩
    obtain ⟨e, e1, rfl⟩ := enumF_get ds 0 i hd
    obtain ⟨v, e2, e3⟩ := ra.get e1
    refine ⟨⟨vs, v, h.sq, e2⟩, fun x H' y => ?_⟩
    obtain ⟨T, z, rfl, hT, rfl, hz⟩ := y
    have := hz vs h.sq
    rw [e2] at this
    cases this
    have s := same_upd (o := .tup [.int (i : Nat), v]) hT
    refine ⟨r.ext s, ?_⟩
    rw [Nat.zero_add]
    exact .tup (SqT.of upd_same) (.cons (.int _) (.cons (e3.ca (Ca.grow s)) .nil))
theorem f_foE {p : Nat} {vs : List Nat} {e : E} {b : S} (ihb : SSs T M xa b) : SS T M xa (.foE p vs e b) := by
  intro X W st g h
  unfold okS at h
  split at h
  · rename_i y py ts k1 p1 k2 p2 rr pr x cp u pos
    simp only [Bool.and_eq_true, decide_eq_true_eq] at h
    obtain ⟨⟨⟨⟨⟨h1, h2⟩, h0⟩, h3⟩, h4⟩, h5⟩ := h
    subst h0
    obtain ⟨te, pe, se⟩ := exE g.toGX h4
    obtain ⟨tb, pb, sb⟩ := ihb X W _ g h5
    obtain ⟨l1, l2⟩ := names_each (env := X.env) h2
    have e1 : starEach [x] X.env = [(false, eval x X.env)] := star_of h4 _ _
    have pi := pi_enum (tpos := p2) (elts := [.Name y py, .Tuple ts k1 p1]) (kk := k2) (pos := cp) (p := pr) (gl_of h3) (g.blt _ (by decide)) (pa_cons pe pa_nil e1) e1
    refine ⟨_, ps_for g.po g.calm pi (pg_tup (n := 2) g.calm (pgs_cons (pg_name g.nd (nameB_of h1).1 (nameB_of h1).2 (.inl (g.fnT y))) (pgs_cons (pg_tup g.calm (pgs_names g h2) l1 l2) pgs_nil)) rfl rfl) pb (fun _ => rfl), fun B old O σ H η D r q => ?_⟩
    unfold exS at q
    refine se B old O σ H η _ r (q.of.imp fun x k v1 H1 s1 vx => ?_)
    obtain ⟨ds, e2, k⟩ := k.on
    obtain ⟨a, ws, rfl, ht, ra⟩ := lstOf_ok vx e2
    obtain ⟨O', r'⟩ := pre_ok r s1 vx
    have ed : x.d = .list ds := by
      unfold lstOf at e2
      split at e2 <;> first | (cases e2; rfl) | cases e2
    rw [ed] at r'
    refine ⟨a, ws, rfl, ht, ?_⟩
    refine for_okE (old := old) (old' := old.add (.ref a) (.list ds)) ⟨rfl, rfl, rfl⟩ (fun _ _ _ _ r => r.un.1) (fun O σ H η i r => walk_e i r) r' k (fun O σ H η x d En' r rx q => ?_)
    obtain ⟨η', e3, k3⟩ := q.on
    unfold asgE at e3
    split at e3
    · rename_i i es
      split at e3
      · rename_i hl
        cases e4 : asgV η p (.cl (.int i)) with
        | none => rw [e4] at e3; cases e3
        | some η1 =>
          rw [e4] at e3
          have e3 : asgL η1 vs es = some η' := e3
          cases rx with
          | tup hT rw1 =>
            rename_i aT _
            cases rw1 with
            | cons ra1 rw1 =>
              cases rw1 with
              | cons ra2 rw1 =>
                cases rw1
                cases ra2 with
                | tup hT2 rb2 =>
                  rename_i a2 w2
                  obtain ⟨O2, r2⟩ := r.asg (x := .cl (.int i)) (Same.refl H) ra1 e4
                  refine ⟨aT, _, rfl, hT, rfl, _, _, rfl, ?_⟩
                  refine ⟨_, _, rfl, ⟨a2, w2, rfl, hT2, by rw [rb2.length, asgL_len e3], asgL_ok r2 (RpAll.free (fun _ _ z => z) rb2 hl) e3 fun O3 σ3 r3 => ⟨rfl, sb _ _ _ _ _ _ _ r3 k3⟩⟩⟩
      · cases e3
    · cases e3
  · cases h

/-! ### lists that change -/
theorem set_get {H : Hp} {xs : List V} {n : Int} {v : V} {a : Addr} (e : atI xs n = some v) : ixN xs.length n ≠ none := by
  intro z
  unfold atI at e
  rw [z] at e
  cases e
theorem f_put {i : Nat} {k e : E} : SS T M xa (.put i k e) := by
  intro X W st g h
  unfold okS at h
  split at h
  · rename_i x p kk k1 v pos
    simp only [Bool.and_eq_true] at h
    obtain ⟨⟨⟨h1, h2⟩, h3⟩, h4⟩ := h
    obtain ⟨tk, pk, sk⟩ := exE g.toGX h3
    obtain ⟨tv, pv', sv⟩ := exE g.toGX h4
    have hs : swapsWithSole [.Subscript (.Name x p) kk k1] v pos.line X.env = pure false := by cases v <;> rfl
    have hw : swappedStores [.Subscript (.Name x p) kk k1] v X.env = pure none := by cases v <;> rfl
    refine ⟨_, ps_asg pv' (pg_sub (pe_nm g h1 h2) pk set_list (fun v => by cases kk <;> first | rfl | (rw [okE_slice] at h3; cases h3))) hs hw, fun B old O σ H η D r q => ?_⟩
    unfold exS at q
    refine sv B old O σ H η _ r (q.of.imp fun y q v1 H1 s1 vy => ?_)
    obtain ⟨ds, e1, q⟩ := q.on
    have r1 := r.ext s1
    obtain ⟨hi, a, vs, a1, a2, a3, a4⟩ := owOf_ok r1 e1
    refine ⟨_, a2, sk B old O σ H1 η _ r1 (q.of.imp fun z q v2 H2 s2 vz => ?_)⟩
    obtain ⟨n, en, _, q⟩ := int_ok vz q.of
    obtain ⟨d, e2, q⟩ := q.on
    obtain ⟨j, e3, q⟩ := q.on
    have ra := a4.ca (Ca.grow (K := X.K) (A := Own O B) s2)
    have ob := r.ob
    refine ⟨a, vs, n, j, rfl, en, s2 _ _ a3, by rw [ra.length]; exact e3, q _ _ _ ((r1.ext s2).mut hi a1 (s2 _ _ a3) (ra.set ((vy.ext s2).shared ob.l ob.b e2) j))⟩
  · cases h
theorem get_list : PGet X (rIxL X.K) := by
  intro pins s σ H o i ov iv Q I r1 r2 h
  obtain ⟨p, xs, n, z, rfl, rfl, hq, he, q⟩ := h
  cases r1
  obtain ⟨t, rfl⟩ := r2
  obtain ⟨its, r, pl, hz⟩ := I.list hq
  obtain ⟨j, h1, h2, h3, h4, h5⟩ := atI_get he
  obtain ⟨w, ew, rw'⟩ := r.get h2
  have hl := r.length
  have hn := line63
  have fin : EP X pins σ Q w s := ⟨z, H, I, rw', q⟩
  by_cases h0 : 0 ≤ n
  · have hj : n.toNat = j := by
      rw [seqIndex_of h0 h5] at h1
      exact Option.some.inj h1
    exact wpAny_getItem_list pl.isList h0 (by omega) (by rw [hj]; simpa using ew) fin
  · have hj : (n + (its.toArray.size : Int)).toNat = j := by
      rw [seqIndex_neg (by omega) h4] at h1
      rw [List.size_toArray, ← hl]
      exact Option.some.inj h1
    exact wpAny_getItem_list_neg pl.isList (by omega) (by rw [List.size_toArray] <;> omega) (by omega) (by rw [hj]; simpa using ew) fin
theorem ip_of (o : Bo) (h : (match o with | .add => true | .sub => true | _ => false) = true) : ∃ f : Int → Int → Int, PIp X (boP o) (ipI f) ∧ ∀ i j, binV o (.cl (.int i)) (.cl (.int j)) = .ok (.cl (.int (f i j))) := by
  cases o with
  | add => exact ⟨_, ip_add, fun _ _ => rfl⟩
  | sub => exact ⟨_, ip_sub, fun _ _ => rfl⟩
  | _ => cases h
theorem ip_of2 (o : Bo) (h : (match o with | .add => true | .sub => true | .mul => true | _ => false) = true) : ∃ f : TIp, PIp X (boP o) f ∧ ∀ i j, binV o (.cl (.int i)) (.cl (.int j)) = .st ∨
    ∃ c, binV o (.cl (.int i)) (.cl (.int j)) = .ok (.cl (.int c)) ∧ ∀ H (Q : VK), Q (.int c) H → f (.int i) (.int j) H Q := by
  cases o with
  | add => exact ⟨_, ip_add, fun i j => .inr ⟨i + j, rfl, fun H Q q => ⟨i, j, rfl, rfl, q⟩⟩⟩
  | sub => exact ⟨_, ip_sub, fun i j => .inr ⟨i - j, rfl, fun H Q q => ⟨i, j, rfl, rfl, q⟩⟩⟩
  | mul =>
    refine ⟨_, ip_mul, fun i j => ?_⟩
    have e : binV .mul (.cl (.int i)) (.cl (.int j)) = if MuOk i j then .ok (.cl (.int (i * j))) else .st := rfl
    by_cases hm : MuOk i j
    · rw [if_pos hm] at e
      exact .inr ⟨_, e, fun H Q q => ⟨i, j, rfl, rfl, hm, q⟩⟩
    · rw [if_neg hm] at e
      exact .inl e
  | _ => cases h
theorem f_aug {i : Nat} {o : Bo} {e : E} : SS T M xa (.aug i o e) := by
  intro X W st g h
  unfold okS at h
  split at h
  · rename_i x p op v pos
    simp only [Bool.and_eq_true, decide_eq_true_eq] at h
    obtain ⟨⟨⟨h1, h2⟩, h3⟩, h4⟩ := h
    subst h3
    obtain ⟨f, ho, hv⟩ := ip_of2 (X := X) o h4
    obtain ⟨te, pe, se⟩ := exE g.toGX h2
    refine ⟨_, ps_aug g.nd (nameB_of h1).1 (nameB_of h1).2 pe ho (.inl (g.fnT x)), fun B old O σ H η D r q => ?_⟩
    unfold exS at q
    have q := q.of
    unfold slotV at q
    split at q
    · rename_i d hd
      obtain ⟨w, a1, a2⟩ := r.sl i _ hd
      refine ⟨w, a1, ?_⟩
      obtain ⟨m, em, ex, q⟩ := int_ok (B := B) (O := O) (H := H) (H' := H) (K := X.K) (x := .cl d) a2 (FR.of q)
      cases ex
      subst em
      refine se B old O σ H η _ r (q.of.imp fun y q v2 H2 s2 vy => ?_)
      obtain ⟨n, en, ey, q⟩ := int_ok vy q.of
      subst ey
      rcases hv m n with hv | ⟨c, hv, hq⟩
      · rw [hv] at q
        exact q.elim
      · rw [hv] at q
        obtain ⟨η', e1, q⟩ := q.on
        rw [en]
        refine hq _ _ ?_
        obtain ⟨O', r'⟩ := (r.ext s2).asg (x := .cl (.int c)) (Same.refl H2) (Rp.int _) e1
        exact q _ _ _ r'
    · exact q.elim
    · exact q.elim
    · rename_i k hk
      cases k <;> exact q.elim
    · rename_i d hd
      obtain ⟨w, a1, a2⟩ := r.sl i _ hd
      have a2 : Rp X.K (Own O B) H w d := a2.ca (Ca.less fun _ z => .inl z)
      refine ⟨w, a1, ?_⟩
      obtain ⟨m, em, ex, q⟩ := int_ok (B := B) (O := O) (H := H) (H' := H) (K := X.K) (x := .cl d) a2 (FR.of q)
      cases ex
      subst em
      refine se B old O σ H η _ r (q.of.imp fun y q v2 H2 s2 vy => ?_)
      obtain ⟨n, en, ey, q⟩ := int_ok vy q.of
      subst ey
      rcases hv m n with hv | ⟨c, hv, hq⟩
      · rw [hv] at q
        exact q.elim
      · rw [hv] at q
        obtain ⟨η', e1, q⟩ := q.on
        rw [en]
        refine hq _ _ ?_
        obtain ⟨O', r'⟩ := (r.ext s2).asg (x := .cl (.int c)) (Same.refl H2) (Rp.int _) e1
        exact q _ _ _ r'
    · exact q.elim
  · cases h
theorem f_aput {i : Nat} {o : Bo} {k e : E} : SS T M xa (.aput i o k e) := by
  intro X W st g h
  unfold okS at h
  split at h
  · rename_i x p kk tp op v pos
    simp only [Bool.and_eq_true, decide_eq_true_eq] at h
    obtain ⟨⟨⟨⟨⟨h1, h2⟩, h3⟩, h4⟩, h5⟩, h6⟩ := h
    subst h5
    obtain ⟨f, ho, hv⟩ := ip_of (X := X) o h6
    obtain ⟨tk, pk, sk⟩ := exE g.toGX h3
    obtain ⟨te, pe, se⟩ := exE g.toGX h4
    have ha : ∀ ov iv new, augStore kk ov iv new = (do holding [new, ov, iv] (setItem ov iv new); release [new, ov, iv] []; pure .next) := by
      intro ov iv new
      cases kk <;> first | rfl | (rw [okE_slice] at h3; cases h3)
    refine ⟨_, ps_augS (pe_nm g h1 h2) pk get_list pe ho set_list ha, fun B old O σ H η D r q => ?_⟩
    unfold exS at q
    obtain ⟨ds, e1, q⟩ := q.on
    obtain ⟨hi, a, vs, a1, a2, a3, a4⟩ := owOf_ok r e1
    refine ⟨_, a2, sk B old O σ H η _ r (q.of.imp fun z q v1 H1 s1 vz => ?_)⟩
    obtain ⟨n, en, _, q⟩ := int_ok vz q.of
    obtain ⟨d, e2, q⟩ := q.on
    have ra := a4.ca (Ca.grow (K := X.K) (A := Own O B) s1)
    obtain ⟨w, w1, w2⟩ := atI_rp ra e2
    refine ⟨a, vs, n, w, rfl, en, SqL.of (s1 _ _ a3), w1, ?_⟩
    obtain ⟨m, em, ex, q⟩ := int_ok (B := B) (O := O) (H := H1) (H' := H1) (K := X.K) (x := .cl d) w2 (FR.of q)
    cases ex
    subst em
    have q : FR X.K xa W B old D (Fl.of η (ev T e η) _) := q
    refine se B old O σ H1 η _ (r.ext s1) (q.of.imp fun y q v2 H2 s2 vy => ?_)
    have s12 := s1.trans s2
    obtain ⟨m2, em2, _, q⟩ := int_ok vy q.of
    subst em2
    rw [hv] at q
    obtain ⟨j, e3, q⟩ := FR.on (show FR X.K xa W B old D (Fl.on (ixN ds.length n) _) from q)
    have ra2 := a4.ca (Ca.grow (K := X.K) (A := Own O B) s12)
    exact ⟨m, m2, rfl, rfl, a, vs, n, j, rfl, en, s12 _ _ a3, by rw [ra2.length]; exact e3, q _ _ _ ((r.ext s12).mut hi a1 (s12 _ _ a3) (ra2.set (.int _) j))⟩
  · cases h
theorem bm_app (g : GS T M xa X W) {x : Str} {i : Nat} {e : E} {v : Expr} {p ap cp : Pos} (h1 : nameB X.N X.env.scope x i = true) (h2 : okName x = true) (h3 : okE M.toNm X.N X.env.scope v e = true) (h4 : ap.endLine = cp.line) :
    ∃ t, PE X (.Call (.Attribute (.Name x p) "append" ap) [v] [] cp) (tBM X.K "list" rAppend (tVar i) (tCons t tNil)) ∧ Snd xa X W t (ev T e) := by
  obtain ⟨t, pt, st⟩ := exE g.toGX h3
  have e1 : starEach [v] X.env = [(false, eval v X.env)] := star_of h3 _ _
  refine ⟨t, pe_bm PySem.F.plainAttrs_list PySem.F.slot_list_append PySem.F.type_list_append mt_append (pe_nm g h1 h2) (pa_cons pt pa_nil e1) rfl ?_ (by rw [h4]; simp) e1 rfl, st⟩
  rw [e1]
  rfl
theorem f_app {i : Nat} {e : E} : SS T M xa (.app i e) := by
  intro X W st g h
  unfold okS at h
  split at h
  · rename_i x p m ap v cp pos
    simp only [Bool.and_eq_true, decide_eq_true_eq] at h
    obtain ⟨⟨⟨⟨h1, h2⟩, h3⟩, h4⟩, h5⟩ := h
    subst h3
    obtain ⟨t, pt, st⟩ := bm_app g (p := p) h1 h2 h4 h5
    refine ⟨_, ps_expr pt rfl, fun B old O σ H η D r q => ?_⟩
    unfold exS at q
    obtain ⟨ds, e1, q⟩ := q.on
    obtain ⟨hi, a, vs, a1, a2, a3, a4⟩ := owOf_ok r e1
    refine ⟨_, a2, .inl ⟨rfl, _, SqL.of a3⟩, st B old O σ H η _ r (q.of.imp fun y q v1 H1 s1 vy => ?_)⟩
    obtain ⟨d, e2, q⟩ := q.on
    split at q
    · rename_i hb
      have ra := a4.ca (Ca.grow (K := X.K) (A := Own O B) s1)
      have ob := r.ob
      exact ⟨a, vs, v1, rfl, rfl, s1 _ _ a3, by rw [ra.length, sz]; exact hb, q _ _ _ ((r.ext s1).mut hi a1 (s1 _ _ a3) (ra.append (.cons (vy.shared ob.l ob.b e2) .nil)))⟩
    · exact q.elim
  · cases h
theorem bm_pop (g : GS T M xa X W) {x : Str} {i : Nat} {p ap cp : Pos} (h1 : nameB X.N X.env.scope x i = true) (h2 : okName x = true) (h4 : ap.endLine = cp.line) :
    PE X (.Call (.Attribute (.Name x p) "pop" ap) [] [] cp) (tBM0 X.K "list" rPop (tVar i)) :=
  pe_bm0 PySem.F.plainAttrs_list PySem.F.slot_list_pop PySem.F.type_list_pop mt_pop (pe_nm g h1 h2) rfl (by rw [h4]; simp)
theorem pop_ok {K : Fg} {B : Addr → Prop} {old : Old} {O : Ow} {H : Hp} {σ : L2.St} {η : Env} {i : Nat} {ds : List D} {d : D} {Q : VK} (r : ER K B old O H σ η) (e1 : owOf η i = some ds) (e2 : ds[ds.length - 1]? = some d)
    (q : ∀ v H', Rp K (Own O B) H' v d → ER K B old O H' σ (η.set i (some (.ow ds.dropLast))) → Q v H') : tBM0 K "list" rPop (tVar i) σ H Q := by
  obtain ⟨hi, a, vs, a1, a2, a3, a4⟩ := owOf_ok r e1
  obtain ⟨v, w1, w2⟩ := a4.get e2
  have c : Ca K (Own O B) (Own O B) H (upd H a (.lst vs.dropLast)) := Ca.upd (.inl ⟨i, a1⟩) a3
  exact ⟨_, a2, .inl ⟨rfl, _, SqL.of a3⟩, a, vs, v, rfl, rfl, a3, by rw [a4.length]; exact w1, q _ _ (w2.ca c) (r.mut hi a1 a3 a4.dropLast)⟩
theorem f_pop {i : Nat} : SS T M xa (.pop i) := by
  intro X W st g h
  unfold okS at h
  split at h
  · rename_i x p m ap cp pos
    simp only [Bool.and_eq_true, decide_eq_true_eq] at h
    obtain ⟨⟨⟨h1, h2⟩, h3⟩, h5⟩ := h
    subst h3
    refine ⟨_, ps_expr (bm_pop g h1 h2 h5) rfl, fun B old O σ H η D r q => ?_⟩
    unfold exS at q
    obtain ⟨ds, e1, q⟩ := q.on
    obtain ⟨d, e2, q⟩ := q.on
    exact pop_ok r e1 e2 fun v H' _ r' => q _ _ _ r'
  · cases h
theorem f_popA {j i : Nat} : SS T M xa (.popA j i) := by
  intro X W st g h
  unfold okS at h
  split at h
  · rename_i y py x p m ap cp pos
    simp only [Bool.and_eq_true, decide_eq_true_eq] at h
    obtain ⟨⟨⟨⟨h0, h1⟩, h2⟩, h3⟩, h5⟩ := h
    subst h3
    refine ⟨_, ps_set g.nd (nameB_of h0).1 (nameB_of h0).2 (bm_pop g h1 h2 h5) rfl (.inl (g.fnT y)), fun B old O σ H η D r q => ?_⟩
    unfold exS at q
    obtain ⟨ds, e1, q⟩ := q.on
    obtain ⟨d, e2, q⟩ := q.on
    obtain ⟨η', e3, q⟩ := q.on
    refine pop_ok r e1 e2 fun v H' rv r' => ?_
    obtain ⟨O', r2⟩ := r'.asg (x := .cl d) (Same.refl H') rv e3
    exact q _ _ _ r2
  · cases h
theorem f_asgP {j i : Nat} {e : E} : SS T M xa (.asgP j e i) := by
  intro X W st g h
  unfold okS at h
  split at h
  · rename_i y py v x p m ap cp bp pos
    simp only [Bool.and_eq_true, decide_eq_true_eq] at h
    obtain ⟨⟨⟨⟨⟨h0, he⟩, h1⟩, h2⟩, h3⟩, h5⟩ := h
    subst h3
    obtain ⟨te, pe, se⟩ := exE g.toGX he
    refine ⟨_, ps_set g.nd (nameB_of h0).1 (nameB_of h0).2 (pe_op op_mulG pe (bm_pop g h1 h2 h5)) rfl (.inl (g.fnT y)), fun B old O σ H η D r q => ?_⟩
    unfold exS at q
    refine se B old O σ H η _ r ?_
    refine q.of.imp fun xv q v H1 s1 vx => ?_
    obtain ⟨m, rfl, _, q⟩ := int_ok vx q.of
    obtain ⟨ds, e1, q⟩ := q.on
    obtain ⟨d, e2, q⟩ := q.on
    have r1 := r.ext s1
    refine pop_ok r1 e1 e2 fun v' H' rv r' => ?_
    have vd : VR X.K B O H' H' v' (.cl d) := rv
    obtain ⟨k, rfl, _, q⟩ := int_ok vd q.of
    have q := q.of
    unfold mulV at q
    dsimp only at q
    split at q
    · rename_i hm
      obtain ⟨η', e3, q⟩ := q.on
      obtain ⟨O', r2⟩ := r'.asg (x := .cl (.int (m * k))) (Same.refl H') (VR.mkInt (m * k)) e3
      exact .inl (.inl ⟨m, k, rfl, rfl, hm, q _ _ _ r2⟩)
    · exact q.elim
  · cases h
theorem f_popT {js : List Nat} {i : Nat} : SS T M xa (.popT js i) := by
  intro X W st g h
  unfold okS at h
  split at h
  · rename_i ts k py x p m ap cp pos
    simp only [Bool.and_eq_true, decide_eq_true_eq] at h
    obtain ⟨⟨⟨⟨h0, h1⟩, h2⟩, h3⟩, h5⟩ := h
    subst h3
    obtain ⟨l1, l2⟩ := names_each (env := X.env) h0
    refine ⟨_, ps_asg (bm_pop g h1 h2 h5) (pg_tup g.calm (pgs_names g h0) l1 l2) rfl rfl, fun B old O σ H η D r q => ?_⟩
    unfold exS at q
    obtain ⟨ds, e1, q⟩ := q.on
    obtain ⟨d, e2, q⟩ := q.on
    obtain ⟨es, e3, q⟩ := q.on
    obtain ⟨η', e4, q⟩ := q.on
    refine pop_ok r e1 e2 fun v H' rv r' => ?_
    obtain ⟨a, ws, rfl, ht, ra⟩ := tupOf_ok (H0 := H') (x := .cl d) rv e3
    exact ⟨a, ws, rfl, ht, by rw [ra.length, asgL_len e4], asgL_ok r' ra e4 fun O' σ' r2 => q _ _ _ r2⟩
  · cases h

/-! ### try: .. except X: constants -/
theorem okH_ok {h : S} {s0 : Stmt} {ss : List Stmt} {pn : List (Addr × Obj)} {a : Addr} {oe : Obj} (g : GS T M xa X W) (hk : okH X.N X.env.scope (s0 :: ss) h = true) :
    PSs (X.suite a ((a, oe) :: pn)) (s0 :: ss) (canS X.K xa W (exS T h)) := by
  unfold okH at hk
  split at hk
  · split at hk
    · rename_i i b sts x px c k1 k2 pos e0
      cases e0
      simp only [Bool.and_eq_true, decide_eq_true_eq] at hk
      obtain ⟨h1, rfl⟩ := hk
      have pt : PSs (X.suite a ((a, oe) :: pn)) [.Assign [.Name x px] (.Constant (.bool b) k1 k2) pos] (tAsg (tC (.bl b)) (gName i)) :=
        pss_one (ps_set (X := X.suite a ((a, oe) :: pn)) g.nd (nameB_of h1).1 (nameB_of h1).2 pe_bl rfl (.inl (g.fnT x)))
      refine ⟨fun pins s σ H D I q => pt.run pins s σ H D I ?_⟩
      obtain ⟨B, old, O, η, r, q⟩ := q
      unfold exS at q
      have q : FR X.K xa W B old D (Fl.seq (Fl.on (asgV η i (.cl (.bool b))) .nx) (exS T .skip)) := q
      cases e1 : asgV η i (.cl (.bool b)) with
      | none => rw [e1] at q; exact q.elim
      | some η' =>
        rw [e1] at q
        obtain ⟨O', r'⟩ := r.asg (x := .cl (.bool b)) (Same.refl H) (Rp.bl b) e1
        exact q _ _ _ r'
    · cases hk
  · split at hk
    · rename_i b sts c k1 k2 pos e0
      cases e0
      have hk := of_decide_eq_true hk
      subst hk
      have pt : PSs (X.suite a ((a, oe) :: pn)) [.Return (some (.Constant (.bool b) k1 k2)) pos] (tRet (tC (.bl b))) :=
        pss_one (ps_ret (X := X.suite a ((a, oe) :: pn)) pe_bl)
      refine ⟨fun pins s σ H D I q => pt.run pins s σ H D I ?_⟩
      obtain ⟨B, old, O, η, r, q⟩ := q
      exact q (.bl b) H r.same (.inl ⟨rfl, .bl b⟩)
    · cases hk
  · cases hk
/-! ### what is asked in a suite -/
section
variable {a : Addr} {oe : Obj} {pn : List (Addr × Obj)} {c i : Nat}
theorem is_ok {Y : Cx} {p : Addr × Obj} (hp : p ∈ Y.pn) (hblt : Y.mg "isinstance" = none) (C : ExcC Y.K (xa c)) (hz : Zc (.ref (xa c)) none p.2) (hf : ∃ vs, p.2.data = .fields vs)
    (hc : ∀ j y, M.ex j = some y → Y.mg y = some (.ref (xa j))) (hk : ∀ j y, M.ex j = some y → PySem.W.kitOne Y.K (.ref (xa c)) (.ref (xa j)) = some (subX c j)) {j : Nat} {e : Expr} (h : okIs M Y.N Y.env.scope i j e = true) : PB Y i p.1 e (subX c j) := by
  unfold okIs at h
  split at h
  · rename_i f p0 x p1 y p2 pos
    simp only [Bool.and_eq_true, decide_eq_true_eq] at h
    obtain ⟨⟨⟨⟨⟨⟨⟨h1, h2⟩, h3⟩, h4⟩, h5⟩, h6⟩, h7⟩, h8⟩ := h
    subst h1
    exact pb_is hp C hz hf h3 (vis_of h4) h5 (gl_of h2) hblt (gl_of h6) (hc j y h8) h7 (hk j y h8)
  · cases h
theorem ve_ok {Y : Cx} {p : Addr × Obj} (hp : p ∈ Y.pn) (hblt : Y.mg "isinstance" = none) (hve : Y.mg "ValueError" = none) (C : ExcC Y.K (xa c)) (hz : Zc (.ref (xa c)) none p.2) (hf : ∃ vs, p.2.data = .fields vs)
    (hk : PySem.W.kitOne Y.K (.ref (xa c)) (.type "ValueError") = some true) {e : Expr} (h : okVe Y.N Y.env.scope i e = true) : PB Y i p.1 e true := by
  unfold okVe at h
  split at h
  · rename_i f p0 x p1 y p2 pos
    simp only [Bool.and_eq_true, decide_eq_true_eq] at h
    obtain ⟨⟨⟨⟨⟨⟨h1, h2⟩, h3⟩, h4⟩, h5⟩, h6⟩, h7⟩ := h
    subst h1
    subst h7
    exact pb_ve hp C hz hf h3 (vis_of h4) h5 (gl_of h2) hblt (gl_of h6) hve hk
  · cases h
theorem iss_ok {Y : Cx} {p : Addr × Obj} (hp : p ∈ Y.pn) (hblt : Y.mg "isinstance" = none) (C : ExcC Y.K (xa c)) (hz : Zc (.ref (xa c)) none p.2) (hf : ∃ vs, p.2.data = .fields vs)
    (hc : ∀ j y, M.ex j = some y → Y.mg y = some (.ref (xa j))) (hk : ∀ j y, M.ex j = some y → PySem.W.kitOne Y.K (.ref (xa c)) (.ref (xa j)) = some (subX c j)) : ∀ {es : List Expr} {js : List Nat}, okIss M Y.N Y.env.scope i es js = true → PAB Y i p.1 es (js.map (subX c))
  | [], [], _ => pab_nil
  | e :: es, j :: js, h => by
    unfold okIss at h
    simp only [Bool.and_eq_true] at h
    refine pab_cons (is_ok hp hblt C hz hf hc hk h.1) (iss_ok hp hblt C hz hf hc hk h.2) ?_
    have h1 := h.1
    unfold okIs at h1
    split at h1
    · rfl
    · cases h1
  | [], _ :: _, h => by cases h
  | _ :: _, [], h => by cases h
end
section
variable {a : Addr} {oe : Obj} {pn : List (Addr × Obj)} {c i : Nat}
/-- a test in the suite, the heap grown -/
def PBg (Y : Cx) (i : Nat) (a : Addr) (e : Expr) (b : Bool) : Prop := PE Y e fun σ H Q => At i a σ ∧ ∀ H', Same H H' → Q (.bl b) H'
theorem PB.g {Y : Cx} {e : Expr} {b : Bool} (h : PB Y i a e b) : PBg Y i a e b := ⟨fun pins s σ H Q I w => h.run pins s σ H Q I ⟨w.1, w.2 H (Same.refl H)⟩⟩
theorem only_ok (g : GS T M xa X W) (hon : M.on = true) (hz : L2N.Zn (.ref (xa c)) none oe) (hf : ∃ vs, oe.data = .fields vs) {k : Int} {e : Expr} (h : okHE M X.N X.env.scope i e (.only k) = true) :
    PBg (X.suite a ((a, oe) :: pn)) i a e (heB c (.only k)) := by
  unfold okHE at h
  split at h
  · rename_i f p0 x p1 k' kk p2 pos
    simp only [Bool.and_eq_true, decide_eq_true_eq] at h
    obtain ⟨⟨⟨⟨⟨⟨_, h1⟩, h2⟩, h3⟩, h4⟩, h5⟩, h6⟩ := h
    subst h1
    subst h6
    obtain ⟨hhx, st, fa, fd, F, m, B, kp, S, ok⟩ := g.on hon
    obtain ⟨hve, hcls⟩ := g.hx hhx
    obtain ⟨C, kve, ksub⟩ := hcls c
    obtain ⟨oc, od, kV, doc, pm, an, cdv, ct, osl, rfl, lk, hcd⟩ := F.ex
    obtain ⟨n, room, hn3, _⟩ := g.lv
    have r3 := (L2H.roomH_of room).mono hn3
    have rm : L2H.RoomH (2 + 1) (X.A.mark (some (.ref a))) := ⟨r3.dp, r3.un⟩
    have hot : L2H.Hot1 (X.A.mark (some (.ref a))) (a, oe) := ⟨rfl, hf.choose, hf.choose_spec, hz.2.2 _ hf.choose_spec⟩
    have pa := pa_cons (X := X.suite a ((a, oe) :: pn)) (pe_var (X := X.suite a ((a, oe) :: pn)) (pos := p1) h3 (vis_of h4) (name_of h5).1 (name_of h5).2) (pa_cons (show PE (X.suite a ((a, oe) :: pn)) (.Constant (.int k') kk p2) (tC (.int k')) from pe_int) pa_nil)
    refine ⟨fun pins s σ H Q I w => ?_⟩
    refine wpAny_Call_Name_kw (ld_glob (X := X.suite a ((a, oe) :: pn)) I (gl_of h2) m ?_ (by decide))
    refine PySem.W.callWith_K (h₀ := X.base) I.ok.mod.kin kp (thn (pa.run pos pins s σ H (fun vs H1 => vs = [.ref a, .int k'] ∧ H1 = H) I ⟨.ref a, w.1, rfl, rfl⟩) fun us s1 ⟨vs, H1, I1, r, e1, e2⟩ => ⟨I1.kIn, ?_⟩) rfl rfl
    subst e1 e2
    refine run_hot (X := X.suite a ((a, oe) :: pn)) (CX := L2N.CX X.prog X.w) (E := fun _ _ _ => False) (p := (a, oe)) (k := 2) List.mem_cons_self hot rm lk hcd S B (fun _ _ _ e s' _ h => ?_) I1 r rfl ?_
    · obtain ⟨_, _, _, _, _, _, _, _, _, _, _, _, z⟩ := h
      exact z.elim
    · generalize hY : L2H.cxH (L2N.CX X.prog X.w) (X.suite a ((a, oe) :: pn)).prog (X.suite a ((a, oe) :: pn)).w (X.suite a ((a, oe) :: pn)).K (X.suite a ((a, oe) :: pn)).mg (X.suite a ((a, oe) :: pn)).base ["_law_e", "_law_at", "_law_kinds", "_law_k"] "_law_only" (defScope st) fa cdv (X.suite a ((a, oe) :: pn)).A (X.suite a ((a, oe) :: pn)).stack s1 H1 (fun _ _ _ => False) (a, oe) = Y
      have yN : Y.N = ([("_law_e" : Str), ("_law_at" : Str), ("_law_kinds" : Str), ("_law_k" : Str)] : List Str) := by rw [← hY]; rfl
      have ysc : Y.env.scope = defScope st := by rw [← hY]; rfl
      have ypn : Y.pn = [(a, oe)] := by rw [← hY]; rfl
      have yK : Y.K = X.K := by rw [← hY]; rfl
      have ymg : Y.mg = X.mg := by rw [← hY]; rfl
      have yhot : L2H.HotC Y := by rw [← hY]; exact ⟨(a, oe), hot, List.mem_cons_self⟩
      have yu : Y.A.units + 64 < cLine := by
        have q := (rm.deeper (envOfC "_law_only" (defScope st) s1.heap.objs.size fa cdv)).un
        rw [← hY]
        show (X.A.mark (some (.ref a))).units + 3 + 64 < cLine
        have q : (X.A.mark (some (.ref a))).units + 3 + 16 * 2 + 200 < cLine := q
        omega
      have yblt : Y.mg "isinstance" = none := by rw [ymg]; exact g.blt _ (by decide)
      have yve : Y.mg "ValueError" = none := by rw [ymg]; exact hve
      have yrg : Y.mg "range" = none := by rw [ymg]; exact g.blt _ (by decide)
      have yC : ExcC Y.K (xa c) := by rw [yK]; exact C
      have ycl : ∀ j y, M.ex j = some y → Y.mg y = some (.ref (xa j)) := fun j y e => by rw [ymg]; exact (g.exc j y e).1
      have ysb : ∀ j y, M.ex j = some y → PySem.W.kitOne Y.K (.ref (xa c)) (.ref (xa j)) = some (subX c j) := fun j y e => by rw [yK]; exact ksub j y e
      have ykv : PySem.W.kitOne Y.K (.ref (xa c)) (.type "ValueError") = some true := by rw [yK]; exact kve
      have hp : (a, oe) ∈ Y.pn := by rw [ypn]; exact List.mem_cons_self
      unfold okOnly at ok
      dsimp only at ok
      rw [← ysc] at ok
      split at ok
      · rename_i k1 q1 es1 q2 q3 k2 q4 k3 q5 es2 q6 q7 q8 i1 i2 k4 q9 y q10 tn q11 q12 y2 q13 rg q14 nn kn q15 q16 scope q17 q18 q19 q20 ebody
        simp only [Bool.and_eq_true, decide_eq_true_eq] at ok
        obtain ⟨⟨⟨⟨⟨⟨⟨⟨⟨⟨⟨⟨⟨⟨⟨⟨⟨o1, o2⟩, o3⟩, o4⟩, o5⟩, o6⟩, o7⟩, o8⟩, o9⟩, o10⟩, o11⟩, o12⟩, o13⟩, o14⟩, o15⟩, o16⟩, o17⟩, o18⟩ := ok
        subst o5 o6 o7 o8 o10 o11 o14 o16 o18
        rw [ebody]
        have nd : Y.N.Nodup := by rw [yN]; exact S.nd
        rw [← yN] at o1 o2 o3 o4 o13
        have t1 := iss_ok (xa := xa) hp yblt yC hz.zc hf ycl ysb o1
        have t2 := iss_ok (xa := xa) hp yblt yC hz.zc hf ycl ysb o2
        have t3 := is_ok (xa := xa) hp yblt yC hz.zc hf ycl ysb o3
        have t4 := ve_ok (xa := xa) hp yblt yve yC hz.zc hf ykv o4
        obtain ⟨t, pt, qt⟩ := only_body (X := Y) (p := (a, oe)) yhot nd yu t1 t2 (by simp) (by simp) t3 t4 (by rw [yN]; rfl) (lcl_of o9) (by decide) (by rw [yN]; rfl) (by decide) (lcl_of o12) o13 (by rw [yN]; rfl) (by decide) o15 (gl_of o17) yrg
        refine ⟨t, pt, ?_⟩
        refine qt H1 k' _ [none, none] rfl fun H' s' => ?_
        have w2 := w.2 H' s'
        have e0 : subX c 0 = true := rfl
        have e : ([1, 2, 3, 4] : List Nat).map (subX c) ++ ([5, 6, 7, 8] : List Nat).map (subX c) = (List.range 8).map fun j => subX c (j + 1) := rfl
        show Q _ H'
        rw [e0, if_pos rfl, if_pos rfl, e]
        unfold heB at w2
        exact w2
      · cases ok
  · cases h
end
section
variable {a : Addr} {oe : Obj} {pn : List (Addr × Obj)} {c i : Nat}
/-- the tests whose answer is a truth -/
theorem heB_ok (g : GS T M xa X W) (hh : M.hx = true) (hz : L2N.Zn (.ref (xa c)) none oe) (hf : ∃ vs, oe.data = .fields vs) : ∀ (h : HE) (e : Expr), heT h = true → okHE M X.N X.env.scope i e h = true → PBg (X.suite a ((a, oe) :: pn)) i a e (heB c h)
  | .is j, e, _, h => by
    obtain ⟨hve, hcls⟩ := g.hx hh
    obtain ⟨C, kve, ksub⟩ := hcls c
    unfold okHE at h
    have q := is_ok (M := M) (xa := xa) (Y := X.suite a ((a, oe) :: pn)) (p := (a, oe)) List.mem_cons_self (g.blt _ (by decide)) C hz.zc hf (fun j y e => (g.exc j y e).1) ksub h
    unfold heB
    exact q.g
  | .ve, e, _, h => by
    obtain ⟨hve, hcls⟩ := g.hx hh
    obtain ⟨C, kve, ksub⟩ := hcls c
    unfold okHE at h
    have q := ve_ok (xa := xa) (Y := X.suite a ((a, oe) :: pn)) (p := (a, oe)) List.mem_cons_self (g.blt _ (by decide)) hve C hz.zc hf kve h
    unfold heB
    exact q.g
  | .only k, e, _, h => by
    have hon : M.on = true := by
      unfold okHE at h
      split at h
      · simp only [Bool.and_eq_true] at h
        exact h.1.1.1.1.1.1
      · cases h
    exact only_ok g hon hz hf h
  | .nt b, e, _, h => by
    unfold okHE at h
    split at h
    · simp only [Bool.and_eq_true] at h
      have q := heB_ok g hh hz hf b _ h.2 h.1
      unfold heB
      exact ⟨fun pins s σ H Q I w => (pe_not q).run pins s σ H Q I ⟨w.1, fun H' s' => ⟨_, rfl, w.2 H' s'⟩⟩⟩
    · cases h
  | .an b d, e, _, h => by
    unfold okHE at h
    split at h
    · simp only [Bool.and_eq_true] at h
      have q := heB_ok g hh hz hf b _ h.1.2 h.1.1.1
      have q2 := heB_ok g hh hz hf d _ h.2 h.1.1.2
      unfold heB
      refine ⟨fun pins s σ H Q I w => (pe_and q (pe_one q2)).run pins s σ H Q I ⟨w.1, fun H' s' => ⟨_, rfl, ?_⟩⟩⟩
      cases hb : heB c b with
      | false =>
        have w2 := w.2 H' s'
        rw [hb] at w2
        exact w2
      | true =>
        refine ⟨w.1, fun H'' s'' => ?_⟩
        have w2 := w.2 H'' (s'.trans s'')
        rw [hb] at w2
        exact w2
    · cases h
  | .str _, _, h, _ => by cases h
  | .two _ _, _, h, _ => by cases h
  | .tri _ _ _, _, h, _ => by cases h
end
section
variable {a : Addr} {oe : Obj} {pn : List (Addr × Obj)} {c i : Nat}
/-- what is wished of an answer in a suite -/
def HEw (K : Fg) (i : Nat) (a : Addr) (d : D) : TE := fun σ H Q => At i a σ ∧ ∀ v H', Same H H' → Rp K (fun _ => False) H' v d → Q v H'
theorem star_he {N : List Str} {sc : Scope} {h : HE} {e : Expr} (ok : okHE M N sc i e h = true) (es : List Expr) (env : PySem.Env) : starEach (e :: es) env = (false, eval e env) :: starEach es env := by
  cases e <;> first | rfl | (cases h <;> simp [okHE, okIs, okVe] at ok)
theorem tupF {K : Fg} {H : Hp} {p : Addr} {vs : List V} {ds : List D} (np : H p = none) (r : RpAll K (fun _ => False) H vs ds) : Rp K (fun _ => False) (upd H p (.tup vs)) (.ref p) (.tuple ds) :=
  Rp.ca (Ca.less fun _ z => z.elim) (show Rp K (Own (fun _ => none) fun _ => False) (upd H p (.tup vs)) (.ref p) (.tuple ds) from mkTup (H0 := H) (B := fun _ => False) (O := fun _ => none) np (r.ca (Ca.less fun a z => by
    rcases z with ⟨i, z⟩ | z
    · cases z
    · exact z)))
theorem he_ok (g : GS T M xa X W) (hh : M.hx = true) (hz : L2N.Zn (.ref (xa c)) none oe) (hf : ∃ vs, oe.data = .fields vs) : ∀ (h : HE) (e : Expr), okHE M X.N X.env.scope i e h = true → PE (X.suite a ((a, oe) :: pn)) e (HEw X.K i a (heD c h))
  | .str s, e, h => by
    unfold okHE at h
    split at h
    · have h := of_decide_eq_true h
      subst h
      unfold heD
      exact ⟨fun pins s σ H Q I w => pe_str.run pins s σ H Q I (w.2 _ H (Same.refl H) (.str _))⟩
    · cases h
  | .two x y, e, h => by
    unfold okHE at h
    split at h
    · simp only [Bool.and_eq_true] at h
      have q1 := he_ok g hh hz hf x _ h.1
      have q2 := he_ok g hh hz hf y _ h.2
      unfold heD
      refine ⟨fun pins s σ H Q I w => (pe_tup (pa_cons q1 (pa_cons q2 pa_nil (star_he h.2 _ _)) (star_he h.1 _ _))).run pins s σ H Q I ⟨w.1, fun v1 H1 s1 r1 => ⟨w.1, fun v2 H2 s2 r2 => ?_⟩⟩⟩
      refine ⟨Nat.le_trans (show 2 ≤ 100 by omega) (by decide), fun p np => w.2 _ _ ((s1.trans s2).trans (same_upd np)) (tupF np (.cons (r1.ca (Ca.grow s2)) (.cons r2 .nil)))⟩
    · cases h
  | .tri x y z, e, h => by
    unfold okHE at h
    split at h
    · simp only [Bool.and_eq_true] at h
      have q1 := he_ok g hh hz hf x _ h.1.1
      have q2 := he_ok g hh hz hf y _ h.1.2
      have q3 := he_ok g hh hz hf z _ h.2
      unfold heD
      refine ⟨fun pins s σ H Q I w => (pe_tup (pa_cons q1 (pa_cons q2 (pa_cons q3 pa_nil (star_he h.2 _ _)) (star_he h.1.2 _ _)) (star_he h.1.1 _ _))).run pins s σ H Q I ⟨w.1, fun v1 H1 s1 r1 => ⟨w.1, fun v2 H2 s2 r2 => ⟨w.1, fun v3 H3 s3 r3 => ?_⟩⟩⟩⟩
      refine ⟨Nat.le_trans (show 3 ≤ 100 by omega) (by decide), fun p np => w.2 _ _ (((s1.trans s2).trans s3).trans (same_upd np)) (tupF np (.cons ((r1.ca (Ca.grow s2)).ca (Ca.grow s3)) (.cons (r2.ca (Ca.grow s3)) (.cons r3 .nil))))⟩
    · cases h
  | .is j, e, h => by
    have q := heB_ok (a := a) (pn := pn) g hh hz hf (.is j) e rfl h
    exact ⟨fun pins s σ H Q I w => q.run pins s σ H Q I ⟨w.1, fun H' s' => w.2 _ H' s' (.bl _)⟩⟩
  | .ve, e, h => by
    have q := heB_ok (a := a) (pn := pn) g hh hz hf .ve e rfl h
    exact ⟨fun pins s σ H Q I w => q.run pins s σ H Q I ⟨w.1, fun H' s' => w.2 _ H' s' (.bl _)⟩⟩
  | .only k, e, h => by
    have q := heB_ok (a := a) (pn := pn) g hh hz hf (.only k) e rfl h
    exact ⟨fun pins s σ H Q I w => q.run pins s σ H Q I ⟨w.1, fun H' s' => w.2 _ H' s' (.bl _)⟩⟩
  | .nt b, e, h => by
    have q := heB_ok (a := a) (pn := pn) g hh hz hf (.nt b) e rfl h
    exact ⟨fun pins s σ H Q I w => q.run pins s σ H Q I ⟨w.1, fun H' s' => w.2 _ H' s' (.bl _)⟩⟩
  | .an b d, e, h => by
    have q := heB_ok (a := a) (pn := pn) g hh hz hf (.an b d) e rfl h
    exact ⟨fun pins s σ H Q I w => q.run pins s σ H Q I ⟨w.1, fun H' s' => w.2 _ H' s' (.bl _)⟩⟩
end
theorem f_tryN {b h : S} {x : Nat} (ihb : SSs T M xa b) : SS T M xa (.tryN b x h) := by
  intro X W st g hk
  unfold okS at hk
  split at hk
  · rename_i body y py s0 ss p1 p2
    simp only [Bool.and_eq_true, decide_eq_true_eq] at hk
    obtain ⟨⟨⟨⟨h1, h2⟩, h3⟩, h4⟩, h5⟩ := hk
    obtain ⟨m1, m2⟩ := g.ctc x y h2
    refine ⟨_, L2N.ps_try_many (tb := fun W' => canS X.K xa W' (exS T b)) g.stk g.frm g.tk (fun W' pn xe tk po => ?_) (.cons (ts := fun _ _ _ => canS X.K xa W (exS T h)) ⟨gl_of h3, (name_of h4).1, .inl m1⟩ (fun a oe cls d pn _ _ => okH_ok g h5) .nil), fun B old O σ H η D r q => ?_⟩
    · obtain ⟨t, pt, st⟩ := ihb (X.tr pn xe) W' body (g.tr pn xe tk po) h1
      refine ⟨fun pins s σ H D I q => ?_⟩
      obtain ⟨B, old, O, η, r, q⟩ := q
      exact pt.run pins s σ H D I (st B old O σ H η D r q)
    · refine ⟨B, old, O, η, r, ?_⟩
      unfold exS at q
      revert q
      cases exS T b η with
      | ex c η' =>
        intro q O' σ' H' r'
        refine ⟨subX c x, m2 c, fun hx a na => ⟨B, old, O', η', r', ?_⟩, fun hx => ?_⟩
        · have q : FR X.K xa W B old D (if subX c x = true then exS T h η' else .ex c η') := q
          rw [if_pos hx] at q
          exact q
        · have q : FR X.K xa W B old D (if subX c x = true then exS T h η' else .ex c η') := q
          rw [if_neg (by rw [hx]; exact Bool.false_ne_true)] at q
          exact q O' σ' H' r'
      | _ => exact fun q => q
  · cases hk

/-- a name of which nothing is told may hold anything -/
theorem ER.loose {K : Fg} {B : Addr → Prop} {old : Old} {O : Ow} {H : Hp} {σ : L2.St} {η : Env} (r : ER K B old O H σ η) {i : Nat} (e : η[i]? = some none) (x : Option V) : ER K B old O H (σ.set i x) η where
  len := by rw [List.length_set]; exact r.len
  sl := fun k s es => by
    have hk : i ≠ k := fun z => by rw [z, es] at e; cases e
    have q := r.sl k s es
    cases s with
    | sh d =>
      obtain ⟨v, q1, q2⟩ := q
      exact ⟨v, by rw [List.getElem?_set_ne hk]; exact q1, q2⟩
    | ow ds =>
      obtain ⟨a, vs, q0, q1, q2, q3⟩ := q
      exact ⟨a, vs, q0, by rw [List.getElem?_set_ne hk]; exact q1, q2, q3⟩
    | od l =>
      obtain ⟨a, q0, q1, q2⟩ := q
      exact ⟨a, q0, by rw [List.getElem?_set_ne hk]; exact q1, q2⟩
    | kk y =>
      obtain ⟨v, q1, q2⟩ := q
      exact ⟨v, by rw [List.getElem?_set_ne hk]; exact q1, q2⟩
    | fr y =>
      obtain ⟨v, q1, q2⟩ := q
      exact ⟨v, by rw [List.getElem?_set_ne hk]; exact q1, q2⟩
    | st xs =>
      obtain ⟨d, a, q0, q1, q2, q3, q4⟩ := q
      exact ⟨d, a, q0, by rw [List.getElem?_set_ne hk]; exact q1, q2, q3, q4⟩
  dom := r.dom
  inj := r.inj
  disj := r.disj
  fr := r.fr
  same := r.same
  bt := r.bt
  gh := r.gh
  fb := r.fb
  fc := r.fc
theorem swaps_he {N : List Str} {sc : Scope} {i l : Nat} {t : Option Expr} {env : PySem.Env} : ∀ {h : HE} {v : Expr}, okHE M N sc i v h = true → swapsWith v t l env = pure false
  | .str _, v, ok => by
    unfold okHE at ok
    split at ok
    · rfl
    · cases ok
  | .two _ _, v, ok => by
    unfold okHE at ok
    split at ok
    · rfl
    · cases ok
  | .tri _ _ _, v, ok => by
    unfold okHE at ok
    split at ok
    · rfl
    · cases ok
  | .nt _, v, ok => by
    unfold okHE at ok
    split at ok
    · rfl
    · cases ok
  | .an _ _, v, ok => by
    unfold okHE at ok
    split at ok
    · rfl
    · cases ok
  | .only _, v, ok => by
    unfold okHE at ok
    split at ok
    · rfl
    · cases ok
  | .is _, v, ok => by
    unfold okHE okIs at ok
    split at ok
    · rfl
    · cases ok
  | .ve, v, ok => by
    unfold okHE okVe at ok
    split at ok
    · rfl
    · cases ok
/-- what the suite is to reach -/
def hsW (K : Fg) (xa : Nat → Addr) (i : Nat) (h : HS) (a : Addr) (cls : Value) (d : Option Addr) : TS := fun D σ H => ∃ c, cls = .ref (xa c) ∧ d = none ∧ At i a σ ∧ match h with
  | .ret e => ∀ v H', Same H H' → Rp K (fun _ => False) H' v (heD c e) → D.rt v H'
  | .asg j e => ∀ v H', Same H H' → Rp K (fun _ => False) H' v (heD c e) → D.nx (σ.set j (some v)) H'
theorem hs_ok (g : GS T M xa X W) (hh : M.hx = true) {i : Nat} {h : HS} {s0 : Stmt} (ok : okHS M X.N X.env.scope i s0 h = true) {a : Addr} {oe : Obj} {cls : Value} {d : Option Addr} {pn : List (Addr × Obj)} (hz : L2N.Zn cls d oe) (hf : ∃ vs, oe.data = .fields vs) :
    PSs (X.suite a ((a, oe) :: pn)) [s0] (hsW X.K xa i h a cls d) := by
  refine ⟨fun pins s σ H D I q => ?_⟩
  obtain ⟨c, rfl, rfl, ha, q⟩ := q
  cases h with
  | ret e =>
    unfold okHS at ok
    dsimp only at ok
    split at ok
    · exact (pss_one (ps_ret (X := X.suite a ((a, oe) :: pn)) (he_ok (a := a) (pn := pn) g hh hz hf e _ ok))).run pins s σ H D I ⟨ha, q⟩
    · cases ok
  | asg j e =>
    unfold okHS at ok
    dsimp only at ok
    split at ok
    · simp only [Bool.and_eq_true] at ok
      exact (pss_one (ps_set (X := X.suite a ((a, oe) :: pn)) g.nd (nameB_of ok.1).1 (nameB_of ok.1).2 (he_ok (a := a) (pn := pn) g hh hz hf e _ ok.2) (swaps_he ok.2) (.inl (g.fnT _)))).run pins s σ H D I ⟨ha, q⟩
    · cases ok
theorem lf_heD (c : Nat) : ∀ e : HE, lf (heD c e) = true
  | .str s => rfl
  | .two a b => by
    rw [heD, lf, lfAll, lfAll, lfAll, lf_heD c a, lf_heD c b]
    rfl
  | .tri a b d => by
    rw [heD, lf, lfAll, lfAll, lfAll, lfAll, lf_heD c a, lf_heD c b, lf_heD c d]
    rfl
  | .is _ => rfl
  | .ve => rfl
  | .only _ => rfl
  | .nt _ => rfl
  | .an _ _ => rfl
theorem f_tryA {b : S} {x i : Nat} {h : HS} (ihb : SSs T M xa b) : SS T M xa (.tryA b x i h) := by
  intro X W st g hk
  unfold okS at hk
  split at hk
  · rename_i body y py n s0 p1 p2
    simp only [Bool.and_eq_true, decide_eq_true_eq] at hk
    obtain ⟨⟨⟨⟨⟨⟨⟨h1, h2⟩, h3⟩, h4⟩, hh⟩, hi⟩, hl⟩, h5⟩ := hk
    obtain ⟨m1, m2⟩ := g.ctc x y h2
    refine ⟨_, L2N.ps_try_as (tb := fun W' => canS X.K xa W' (exS T b)) (ts := hsW X.K xa i h) g.stk g.frm g.nd hi (lcl_of hl) ⟨gl_of h3, (name_of h4).1, .inl m1⟩ g.tk (fun W' pn xe tk po => ?_) (fun a oe cls d pn hz hf => hs_ok g hh h5 hz hf), fun B old O σ H η D r q => ?_⟩
    · obtain ⟨t, pt, st⟩ := ihb (X.tr pn xe) W' body (g.tr pn xe tk po) h1
      refine ⟨fun pins s σ H D I q => ?_⟩
      obtain ⟨B, old, O, η, r, q⟩ := q
      exact pt.run pins s σ H D I (st B old O σ H η D r q)
    · refine ⟨B, old, O, η, r, ?_⟩
      unfold exS at q
      revert q
      cases exS T b η with
      | ex c η' =>
        intro q O' σ' H' r'
        refine ⟨subX c x, m2 c, fun hx a na => ?_, fun hx => ?_⟩
        · have q : FR X.K xa W B old D (if subX c x = true then hsF c i η' h else .ex c η') := q
          rw [if_pos hx] at q
          cases h with
          | ret e =>
            unfold hsF at q
            dsimp only at q
            split at q
            · rename_i hlt
              refine ⟨c, rfl, rfl, ?_, fun v H'' s' rv => ?_⟩
              · show (σ'.set i (some (.ref a)))[i]? = _
                rw [List.getElem?_set_self (by rw [r'.len]; exact hlt)]
              · exact q v H'' (r'.same.trans s') (.inl ⟨lf_heD c e, rv⟩)
            · exact q.elim
          | asg j e =>
            unfold hsF at q
            dsimp only at q
            split at q
            · exact q.elim
            · rename_i hji
              split at q
              · rename_i hn
                have hlt : i < η'.length := by
                  obtain ⟨z, _⟩ := List.getElem?_eq_some_iff.mp hn
                  exact z
                refine ⟨c, rfl, rfl, ?_, fun v H'' s' rv => ?_⟩
                · show (σ'.set i (some (.ref a)))[i]? = _
                  rw [List.getElem?_set_self (by rw [r'.len]; exact hlt)]
                · cases e1 : asgV η' j (.cl (heD c e)) with
                  | none => rw [e1] at q; exact q.elim
                  | some η2 =>
                    rw [e1] at q
                    have r1 := (r'.loose hn (some (.ref a))).ext s'
                    obtain ⟨O2, r2⟩ := r1.asg (x := .cl (heD c e)) (Same.refl H'') (Rp.free (fun _ _ z => z) rv (lf_heD c e)) e1
                    have hn2 : η2[i]? = some none := by
                      unfold asgV at e1
                      split at e1
                      · cases e1
                        rw [List.getElem?_set_ne hji]
                        exact hn
                      · cases e1
                    exact q O2 _ H'' (r2.loose hn2 none)
              · exact q.elim
        · have q : FR X.K xa W B old D (if subX c x = true then hsF c i η' h else .ex c η') := q
          rw [if_neg (by rw [hx]; exact Bool.false_ne_true)] at q
          exact q O' σ' H' r'
      | _ => exact fun q => q
  · cases hk
theorem vis_lcl {sc : Scope} {x : Str} (h : lclB sc x = true) : visB sc x = true := by
  unfold lclB at h
  unfold visB
  split at h
  · rename_i e
    rw [e]
  · cases h
theorem f_tryK {b : S} {x i j : Nat} (ihb : SSs T M xa b) : SS T M xa (.tryK b x i j) := by
  intro X W st g hk
  unfold okS at hk
  split at hk
  · rename_i body y py n r pr n' pn' pa p1 p2
    simp only [Bool.and_eq_true, decide_eq_true_eq] at hk
    obtain ⟨⟨⟨⟨⟨⟨⟨⟨h1, h2⟩, h3⟩, h4⟩, hi⟩, hl⟩, h5⟩, h6⟩, h7⟩ := hk
    subst h6
    obtain ⟨m1, m2⟩ := g.ctc x y h2
    refine ⟨_, ps_try_trk (tb := fun W' => canS X.K xa W' (exS T b)) g.stk g.frm g.nd hi (lcl_of hl) ⟨gl_of h3, (name_of h4).1, .inl m1⟩ g.tk (fun W' pn xe tk po => ?_)
      (fun a oe pn => pss_one (ps_set (X := X.suite a ((a, oe) :: pn)) g.nd (nameB_of h5).1 (nameB_of h5).2 (pe_var (X := X.suite a ((a, oe) :: pn)) hi (vis_of (vis_lcl hl)) (name_of h7).1 (name_of h7).2) rfl (.inl (g.fnT _)))), fun B old O σ H η D rr q => ?_⟩
    · obtain ⟨t, pt, st⟩ := ihb (X.tr pn xe) W' body (g.tr pn xe tk po) h1
      refine ⟨fun pins s σ H D I q => ?_⟩
      obtain ⟨B, old, O, η, r, q⟩ := q
      exact pt.run pins s σ H D I (st B old O σ H η D r q)
    · refine ⟨B, old, O, η, rr, ?_⟩
      unfold exS at q
      revert q
      cases exS T b η with
      | ex c η' =>
        intro q O' σ' H' r'
        refine ⟨subX c x, m2 c, fun hx => ⟨xa c, rfl, rfl, fun a na => ?_⟩, fun hx => ?_⟩
        · have q : FR X.K xa W B old D (if subX c x = true then keepF T.ex c i j η' else .ex c η') := q
          rw [if_pos hx] at q
          unfold keepF at q
          split at q
          · exact q.elim
          · rename_i hji
            split at q
            · rename_i nm hn hc
              have hlt : i < η'.length := by
                obtain ⟨z, _⟩ := List.getElem?_eq_some_iff.mp hn
                exact z
              refine ⟨.ref a, ?_, fun na2 => ?_⟩
              · show (σ'.set i (some (.ref a)))[i]? = _
                rw [List.getElem?_set_self (by rw [r'.len]; exact hlt)]
              · cases e1 : asgV η' j (.cl (exD nm)) with
                | none => rw [e1] at q; exact q.elim
                | some η2 =>
                  rw [e1] at q
                  have r1 := (r'.loose hn (some (.ref a))).ext (same_upd (o := Exo (xa c) a) na)
                  obtain ⟨O2, r2⟩ := r1.asg (x := .cl (exD nm)) (Same.refl _) (Rp.exc (g.exn c nm hc) upd_same) e1
                  have hn2 : η2[i]? = some none := by
                    unfold asgV at e1
                    split at e1
                    · cases e1
                      rw [List.getElem?_set_ne hji]
                      exact hn
                    · cases e1
                  exact q O2 _ _ (r2.loose hn2 none)
            · exact q.elim
        · have q : FR X.K xa W B old D (if subX c x = true then keepF T.ex c i j η' else .ex c η') := q
          rw [if_neg (by rw [hx]; exact Bool.false_ne_true)] at q
          exact q O' σ' H' r'
      | _ => exact fun q => q
  · cases hk
theorem swapped_nest {ts us vs : List Expr} {k1 k2 k3 k4 : Nat} {p1 p2 p3 p4 : Pos} {env : PySem.Env} :
    swappedStores [.Tuple [.Tuple ts k1 p1, .Tuple us k2 p2] k3 p3] (.Tuple vs k4 p4) env = pure none := by
  unfold swappedStores
  dsimp only
  split
  · rfl
  · split
    · rfl
    · rfl
theorem f_asgQ {is js : List Nat} {e : E} : SS T M xa (.asgQ is js e) := by
  intro X W st g h
  unfold okS at h
  split at h
  · rename_i ts k1 p1 us k2 p2 k3 p3 vs k p pos
    simp only [Bool.and_eq_true] at h
    obtain ⟨⟨h1, h2⟩, h3⟩ := h
    obtain ⟨t, pt, st⟩ := exE g.toGX h3
    obtain ⟨l1, l2⟩ := names_each (env := X.env) h1
    obtain ⟨m1, m2⟩ := names_each (env := X.env) h2
    refine ⟨_, ps_asg pt (pg_tup (n := 2) g.calm (pgs_cons (pg_tup g.calm (pgs_names g h1) l1 l2) (pgs_cons (pg_tup g.calm (pgs_names g h2) m1 m2) pgs_nil)) rfl rfl) rfl swapped_nest, fun B old O σ H η D r q => ?_⟩
    unfold exS at q
    refine st B old O σ H η _ r (q.of.imp fun x k v H1 s1 vx => ?_)
    obtain ⟨ds, e1, k⟩ := k.on
    unfold asgQF at k
    split at k
    · rename_i d1 d2
      obtain ⟨as, e2, k⟩ := k.on
      obtain ⟨bs, e3, k⟩ := k.on
      split at k
      · rename_i hb
        obtain ⟨η1, e4, k⟩ := k.on
        obtain ⟨η2, e5, k⟩ := k.on
        obtain ⟨a, ws, rfl, ht, ra⟩ := tupOf_ok vx e1
        cases ra with
        | cons ra1 ra =>
          cases ra with
          | cons ra2 ra =>
            cases ra
            obtain ⟨a1, w1, rfl, ht1, rb1⟩ := tupOf_ok (H0 := H1) (x := .cl d1) ra1 e2
            obtain ⟨a2, w2, rfl, ht2, rb2⟩ := tupOf_ok (H0 := H1) (x := .cl d2) ra2 e3
            refine ⟨a, _, rfl, ht, rfl, _, _, rfl, ⟨a1, w1, rfl, ht1, by rw [rb1.length, asgL_len e4], asgL_ok (r.ext s1) rb1 e4 fun O' σ' r' => ?_⟩⟩
            refine ⟨_, _, rfl, ⟨a2, w2, rfl, ht2, by rw [rb2.length, asgL_len e5], asgL_ok r' (RpAll.free (fun _ _ z => z) rb2 hb) e5 fun O2 σ2 r2 => ⟨rfl, k _ _ _ r2⟩⟩⟩
      · exact k.elim
    · exact k.elim
  · cases h
/-! ### dicts -/
theorem vrs_ints {K : Fg} {B : Addr → Prop} {O : Ow} {H H' : Hp} {vs : List V} {xs : List Val} {k : List Int} (r : VRs K B O H H' vs xs) (e : intsOf (xs.map Val.d) = some k) : vs = k.map V.int := by
  have a := r.any
  rw [intsOf_inv e] at a
  exact ints_vals a
theorem setK_ok {η η' : Env} {i : Nat} {k : Sk} (h : setK η i k = some η') : i < η.length ∧ η' = η.set i (some (.kk k)) := by
  unfold setK at h
  split at h
  · cases h
    exact ⟨by assumption, rfl⟩
  · cases h
theorem f_asgK {i : Nat} {es : E} : SS T M xa (.asgK i es) := by
  intro X W st g h
  unfold okS at h
  split at h
  · rename_i x px vs k p pos
    simp only [Bool.and_eq_true, decide_eq_true_eq] at h
    obtain ⟨⟨h1, h2⟩, h3⟩ := h
    obtain ⟨t, ht, hq⟩ := exA g.toGX h2
    refine ⟨_, ps_set g.nd (nameB_of h1).1 (nameB_of h1).2 (pe_tup ht) rfl (.inl (g.fnT x)), fun B old O σ H η D r q => hq B old O σ H η _ r ?_⟩
    unfold exS at q
    refine q.of.imp fun ys q ey vs H' s vr => ⟨len_ok (by rw [vr.len, evs_len es ey]; exact h3), fun p hp => ?_⟩
    obtain ⟨k, e1, q⟩ := q.on
    obtain ⟨η', e2, q⟩ := q.on
    obtain ⟨hi, rfl⟩ := setK_ok e2
    have ev := vrs_ints vr e1
    subst ev
    exact q _ _ _ (((r.ext s).ext (same_upd hp)).setKk hi ⟨p, rfl, upd_same⟩)
  · cases h
theorem pa_keys {X : Cx} : ∀ {es : List Expr} {ks : List (List Int)}, keysB (es.map some) ks = true → ∃ t, PA X es t ∧ ∀ σ H Q, (∀ vs H', Same H H' → vs.length = ks.length → LkR H' vs ks → Q vs H') → t σ H Q
  | [], [], _ => ⟨_, pa_nil, fun σ H Q q => q [] H (Same.refl H) rfl trivial⟩
  | .Tuple es' kn p :: es, k :: ks, h => by
    simp only [List.map_cons, keysB, Bool.and_eq_true, decide_eq_true_eq] at h
    obtain ⟨⟨h1, h3⟩, h2⟩ := h
    obtain ⟨tk, pk, qk⟩ := pa_ints (X := X) h1
    obtain ⟨t, pt, qt⟩ := pa_keys h2
    refine ⟨_, pa_cons (pe_tup pk) pt, fun σ H Q q => qk σ H _ ⟨len_ok (by rw [List.length_map]; exact h3), fun p hp => ?_⟩⟩
    refine qt σ _ _ fun vs H' s hl r => q (.ref p :: vs) H' ((same_upd hp).trans s) (by rw [List.length_cons, List.length_cons, hl]) ⟨⟨p, rfl, s _ _ upd_same⟩, r⟩
  | [], _ :: _, h => by cases h
  | e :: es, [], h => by
    rw [List.map_cons] at h
    cases e <;> cases h
theorem f_asgKs {i : Nat} {ks : List (List Int)} : SS T M xa (.asgKs i ks) := by
  intro X W st g h
  unfold okS at h
  split at h
  · rename_i x px vs p pos
    simp only [Bool.and_eq_true, decide_eq_true_eq] at h
    obtain ⟨⟨h1, h2⟩, h3⟩ := h
    obtain ⟨t, ht, hq⟩ := pa_keys (X := X) h2
    refine ⟨_, ps_set g.nd (nameB_of h1).1 (nameB_of h1).2 (pe_lst ht) rfl (.inl (g.fnT x)), fun B old O σ H η D r q => hq σ H _ fun ws H' s hl lr => ⟨len_ok (by omega), fun p hp => ?_⟩⟩
    unfold exS at q
    obtain ⟨η', e2, q⟩ := q.on
    obtain ⟨hi, rfl⟩ := setK_ok e2
    have r2 := (r.ext s).ext (same_upd (o := .lst ws) hp)
    refine q _ _ _ (r2.setKk hi ⟨p, ws, rfl, fun z => ?_, Rd.of upd_same, lr.ca (K := X.K) (A := fun _ => False) (A' := fun _ => False) (Ca.grow (same_upd hp))⟩)
    have ob := (r.ext s).ob
    rcases own_minus z with ⟨j, z⟩ | z
    · exact ob.l j p z hp
    · exact ob.b p z hp
  · cases h
theorem dput_ok {X : Cx} {B : Addr → Prop} {old : Old} {O : Ow} {H : Hp} {σ : L2.St} {η : Env} {i : Nat} {l : Dl} {k : List Int} {n : Int} {a b : Addr} {Q : Hp → Prop} (r : ER X.K B old O H σ η) (hi : η[i]? = some (some (.od l))) (ha : O i = some a) (hl : H a = some (.dT (dV l)))
    (hb : H b = some (.tup (k.map V.int))) (hz : Sm (l.length + 1)) (q : ∀ H', ER X.K B old O H' σ (η.set i (some (.od (putL l k n)))) → Q H') : rSetD (.ref a) (.ref b) (.int n) H Q := by
  refine ⟨a, _, rfl, DPut.t (k := k.map Sum.inl) hl (by rw [key_kV]; exact hb) ?_, ?_⟩
  · show (dV l).length < sizeLine
    have e : (dV l).length = l.length := List.length_map _
    rw [e, sz]
    exact hz
  · rw [← dV_put]
    exact q _ (r.mutD hi ha hl)
theorem units1 (g : GS T M xa X W) : X.A.units + 1 < cLine := by
  obtain ⟨n, room, _⟩ := g.lv
  have := room.units
  omega
theorem f_dputE {i : Nat} {es e : E} : SS T M xa (.dputE i es e) := by
  intro X W st g h
  unfold okS at h
  split at h
  · rename_i x p vs kn kp k1 v pos
    simp only [Bool.and_eq_true, decide_eq_true_eq] at h
    obtain ⟨⟨⟨⟨h1, h2⟩, h3⟩, h4⟩, h5⟩ := h
    obtain ⟨tk, pk, sk⟩ := exA g.toGX h3
    obtain ⟨tv, pv', sv⟩ := exE g.toGX h5
    have hs : swapsWithSole [.Subscript (.Name x p) (.Tuple vs kn kp) k1] v pos.line X.env = pure false := by cases v <;> rfl
    have hw : swappedStores [.Subscript (.Name x p) (.Tuple vs kn kp) k1] v X.env = pure none := by cases v <;> rfl
    refine ⟨_, ps_asg pv' (pg_sub (pe_nm g h1 h2) (pe_tup pk) (set_dict (units1 g)) (fun v => rfl)) hs hw, fun B old O σ H η D r q => ?_⟩
    unfold exS at q
    refine sv B old O σ H η _ r (q.of.imp fun y q v1 H1 s1 vy => ?_)
    obtain ⟨n, rfl, _, q⟩ := int_ok vy q.of
    obtain ⟨l, e1, q⟩ := q.on
    have r1 := r.ext s1
    obtain ⟨hi, a, a1, a2, a3⟩ := odOf_ok r1 e1
    refine ⟨_, a2, sk B old O σ H1 η _ r1 (q.of.imp fun ys q ey ws H2 s2 vr => ⟨len_ok (by rw [vr.len, evs_len es ey]; exact h4), fun b hb => ?_⟩)⟩
    obtain ⟨k, e2, q⟩ := q.on
    split at q
    · rename_i hz
      have ew := vrs_ints vr e2
      subst ew
      exact dput_ok ((r1.ext s2).ext (same_upd hb)) hi a1 (same_upd hb _ _ (s2 _ _ a3)) upd_same hz fun H' r' => q _ _ _ r'
    · exact q.elim
  · cases h
theorem tkOf_ok {K : Fg} {B : Addr → Prop} {old : Old} {O : Ow} {H : Hp} {σ : L2.St} {η : Env} {i : Nat} {k : List Int} (r : ER K B old O H σ η) (h : tkOf η i = some k) : ∃ a, σ[i]? = some (some (.ref a)) ∧ H a = some (.tup (k.map V.int)) := by
  unfold tkOf at h
  split at h
  · rename_i es e
    cases h
    obtain ⟨v, q1, a, rfl, q2⟩ := r.sl i _ e
    exact ⟨a, q1, q2⟩
  · cases h
theorem lkOf_ok {K : Fg} {B : Addr → Prop} {old : Old} {O : Ow} {H : Hp} {σ : L2.St} {η : Env} {i : Nat} {ks : List (List Int)} (r : ER K B old O H σ η) (h : lkOf η i = some ks) : ∃ a vs, σ[i]? = some (some (.ref a)) ∧ Rd H a (.lst vs) ∧ LkR H vs ks := by
  unfold lkOf at h
  split at h
  · rename_i es e
    cases h
    obtain ⟨v, q1, a, vs, rfl, _, q2, q3⟩ := r.sl i _ e
    exact ⟨a, vs, q1, q2, q3⟩
  · cases h
theorem LkR.len {H : Hp} : ∀ {vs : List V} {ks : List (List Int)}, LkR H vs ks → vs.length = ks.length
  | [], [], _ => rfl
  | v :: vs, k :: ks, r => by rw [List.length_cons, List.length_cons, LkR.len r.2]
  | [], _ :: _, r => r.elim
  | _ :: _, [], r => r.elim
theorem LkR.get {H : Hp} : ∀ {vs : List V} {ks : List (List Int)} {j : Nat} {k : List Int}, LkR H vs ks → ks[j]? = some k → ∃ v, vs[j]? = some v ∧ TkR H v k
  | [], [], _, _, _, e => by simp at e
  | v :: vs, k :: ks, 0, _, r, e => by
    simp at e
    subst e
    exact ⟨v, rfl, r.1⟩
  | v :: vs, k :: ks, j + 1, _, r, e => by
    obtain ⟨u, h1, h2⟩ := LkR.get (j := j) r.2 (by simpa using e)
    exact ⟨u, by simpa using h1, h2⟩
  | [], _ :: _, _, _, r, _ => r.elim
  | _ :: _, [], _, _, r, _ => r.elim
theorem LkR.at {H : Hp} {vs : List V} {ks : List (List Int)} {m : Int} {k : List Int} (r : LkR H vs ks) (e : atI ks m = some k) : ∃ v, atI vs m = some v ∧ TkR H v k := by
  unfold atI at e ⊢
  rw [r.len]
  cases e1 : ixN ks.length m with
  | none => rw [e1] at e; cases e
  | some j =>
    rw [e1] at e
    exact r.get e
theorem f_dputV {i j : Nat} {e : E} : SS T M xa (.dputV i j e) := by
  intro X W st g h
  unfold okS at h
  split at h
  · rename_i x p y py k1 v pos
    simp only [Bool.and_eq_true, decide_eq_true_eq] at h
    obtain ⟨⟨⟨⟨h1, h2⟩, h3⟩, h4⟩, h5⟩ := h
    obtain ⟨tv, pv', sv⟩ := exE g.toGX h5
    have hs : swapsWithSole [.Subscript (.Name x p) (.Name y py) k1] v pos.line X.env = pure false := by cases v <;> rfl
    have hw : swappedStores [.Subscript (.Name x p) (.Name y py) k1] v X.env = pure none := by cases v <;> rfl
    refine ⟨_, ps_asg pv' (pg_sub (pe_nm g h1 h2) (pe_nm g h3 h4) (set_dict (units1 g)) (fun v => rfl)) hs hw, fun B old O σ H η D r q => ?_⟩
    unfold exS at q
    refine sv B old O σ H η _ r (q.of.imp fun y q v1 H1 s1 vy => ?_)
    obtain ⟨n, rfl, _, q⟩ := int_ok vy q.of
    obtain ⟨l, e1, q⟩ := q.on
    obtain ⟨k, e2, q⟩ := q.on
    have r1 := r.ext s1
    obtain ⟨hi, a, a1, a2, a3⟩ := odOf_ok r1 e1
    obtain ⟨b, b1, b2⟩ := tkOf_ok r1 e2
    split at q
    · rename_i hz
      exact ⟨_, a2, _, b1, dput_ok r1 hi a1 a3 b2 hz fun H' r' => q _ _ _ r'⟩
    · exact q.elim
  · cases h
theorem f_dputI {i j : Nat} {k e : E} : SS T M xa (.dputI i j k e) := by
  intro X W st g h
  unfold okS at h
  split at h
  · rename_i x p y py kk kp k1 v pos
    simp only [Bool.and_eq_true, decide_eq_true_eq] at h
    obtain ⟨⟨⟨⟨⟨h1, h2⟩, h3⟩, h4⟩, h6⟩, h5⟩ := h
    obtain ⟨tv, pv', sv⟩ := exE g.toGX h5
    obtain ⟨tk, pk, sk⟩ := exE g.toGX h6
    have hs : swapsWithSole [.Subscript (.Name x p) (.Subscript (.Name y py) kk kp) k1] v pos.line X.env = pure false := by cases v <;> rfl
    have hw : swappedStores [.Subscript (.Name x p) (.Subscript (.Name y py) kk kp) k1] v X.env = pure none := by cases v <;> rfl
    refine ⟨_, ps_asg pv' (pg_sub (pe_nm g h1 h2) (pe_ix ix_seq (pe_nm g h3 h4) pk (plain_of h6)) (set_dict (units1 g)) (fun v => rfl)) hs hw, fun B old O σ H η D r q => ?_⟩
    unfold exS at q
    refine sv B old O σ H η _ r (q.of.imp fun y q v1 H1 s1 vy => ?_)
    obtain ⟨n, rfl, _, q⟩ := int_ok vy q.of
    obtain ⟨l, e1, q⟩ := q.on
    obtain ⟨ks, e2, q⟩ := q.on
    have r1 := r.ext s1
    obtain ⟨hi, a, a1, a2, a3⟩ := odOf_ok r1 e1
    obtain ⟨b, vs, b1, b2, b3⟩ := lkOf_ok r1 e2
    refine ⟨_, a2, _, b1, sk B old O σ H1 η _ r1 (q.of.imp fun y q w H2 s2 vk => ?_)⟩
    obtain ⟨m, rfl, _, q⟩ := int_ok vk q.of
    obtain ⟨k, e3, q⟩ := q.on
    have b4 := b3.ca (K := X.K) (A := fun _ => False) (A' := fun _ => False) (Ca.grow s2)
    obtain ⟨c, e4, d, rfl, d2⟩ := b4.at e3
    split at q
    · rename_i hz
      exact .inl ⟨b, vs, m, _, rfl, rfl, .inl (rd_same s2 b2), e4, dput_ok (r1.ext s2) hi a1 (s2 _ _ a3) d2 hz fun H' r' => q _ _ _ r'⟩
    · exact q.elim
  · cases h
/-! ### walks of dicts -/
section
variable {K : Fg} {B : Addr → Prop} {old : Old} {O : Ow} {H : Hp} {σ : L2.St} {η : Env} {D : Ends} {a : Addr} {o : Obj} {kvs : List (List Key × V)}
theorem ER.moreOld {hp' : Hp} (r : ER K B ⟨hp', old.gv, old.gd, old.st, old.fa⟩ O H σ η) (s : Same old.hp hp') : ER K B old O H σ η :=
  ⟨r.len, r.sl, r.dom, r.inj, r.disj, fun i a e => s.free (r.fr i a e), s.trans r.same, r.bt, r.gh, r.fb, r.fc⟩
theorem RetR.lessOld {H0 H0' : Hp} {v : V} {d : PyData} (s : Same H0 H0') (r : RetR K H0' H v d) : RetR K H0 H v d := by
  rcases r with r | ⟨ds, a, vs, h1, h2, h3, h4, h5⟩ | ⟨l, a, h1, h2, h3, h4⟩
  · exact .inl r
  · exact .inr (.inl ⟨ds, a, vs, h1, h2, h3, s.free h4, h5⟩)
  · exact .inr (.inr ⟨l, a, h1, h2, s.free h3, h4⟩)
theorem FR.moreOld {hp' : Hp} (s : Same old.hp hp') {f : Fl} (q : FR K xa W B old D f) : FR K xa W B ⟨hp', old.gv, old.gd, old.st, old.fa⟩ D f := by
  cases f with
  | nx η => exact fun O σ H r => q O σ H (r.moreOld s)
  | bk η => exact fun O σ H r => q O σ H (r.moreOld s)
  | ct η => exact fun O σ H r => q O σ H (r.moreOld s)
  | rt d => exact fun v H s' r => q v H (s.trans s') (r.lessOld s)
  | rs d xs => exact fun v H s' a r => q v H (s.trans s') a r
  | ex c η => exact fun O σ H r => q O σ H (r.moreOld s)
  | st => exact q
/-- a dict that somebody walks already -/
theorem ER.held (r : ER K B old O H σ η) (e : H a = some (.frz o (.dT kvs))) : ER K B ⟨upd old.hp a (.frz o (.dT kvs)), old.gv, old.gd, old.st, old.fa⟩ O H σ η := by
  have no := r.noOwn e (fun _ z => nomatch z) (fun _ z => nomatch z)
  refine ⟨r.len, r.sl, r.dom, r.inj, r.disj, fun i b h => ?_, fun b x h => ?_, r.bt, r.gh, r.fb, r.fc⟩
  · have nb : b ≠ a := fun z => no i (z ▸ h)
    show upd old.hp a _ b = none
    rw [upd_ne nb]
    exact r.fr i b h
  · by_cases hb : b = a
    · subst hb
      have h : upd old.hp b (.frz o (.dT kvs)) b = some x := h
      rw [upd_same] at h
      cases h
      exact e
    · have h : upd old.hp a (.frz o (.dT kvs)) b = some x := h
      rw [upd_ne hb] at h
      exact r.same b x h
theorem same_held {H0 : Hp} (s : Same H0 H) (e : H a = some (.frz o (.dT kvs))) : Same H0 (upd H0 a (.frz o (.dT kvs))) := fun b x h => by
  by_cases hb : b = a
  · subst hb
    have := s _ _ h
    rw [e] at this
    cases this
    exact upd_same
  · rw [upd_ne hb]
    exact h
/-- a dict is locked for a walk -/
theorem ER.lockD (r : ER K B old O H σ η) (e : H a = some (.dT kvs)) (no : ∀ i, O i ≠ some a) : ER K B ⟨upd old.hp a (.frz o (.dT kvs)), old.gv, old.gd, old.st, old.fa⟩ O (upd H a (.frz o (.dT kvs))) σ η := by
  have c : Ca K (Own O B) (Own O B) H (upd H a (.frz o (.dT kvs))) := Ca.lock e
  refine ⟨r.len, fun i x h => ?_, r.dom, r.inj, r.disj, fun i b h => ?_, fun b x h => ?_, fun b h z => ?_, r.gh.ca c, fun b h z => ?_, r.fc⟩
  · have q := r.sl i x h
    cases x with
    | sh d =>
      obtain ⟨v, q1, q2⟩ := q
      exact ⟨v, q1, q2.ca c⟩
    | ow ds =>
      obtain ⟨b, vs, q0, q1, q2, q3⟩ := q
      have nb : b ≠ a := fun z => no i (z ▸ q0)
      exact ⟨b, vs, q0, q1, by rw [upd_ne nb]; exact q2, q3.ca c⟩
    | od l =>
      obtain ⟨b, q0, q1, q2⟩ := q
      have nb : b ≠ a := fun z => no i (z ▸ q0)
      exact ⟨b, q0, q1, by rw [upd_ne nb]; exact q2⟩
    | kk k =>
      obtain ⟨v, q1, q2⟩ := q
      exact ⟨v, q1, q2.ca c⟩
    | fr d =>
      obtain ⟨v, q1, q2⟩ := q
      exact ⟨v, q1, q2.ca c.or⟩
    | st xs =>
      obtain ⟨d, b, q0, q1, q2, q3, q4⟩ := q
      have nb : b ≠ a := fun z => no i (z ▸ q0)
      have nd : d ≠ a := ne_of q2 e (fun z => nomatch z)
      exact ⟨d, b, q0, q1, by rw [upd_ne nd]; exact q2, by rw [upd_ne nb]; exact q3, q4⟩
  · have nb : b ≠ a := fun z => no i (z ▸ h)
    show upd old.hp a _ b = none
    rw [upd_ne nb]
    exact r.fr i b h
  · have h : upd old.hp a (.frz o (.dT kvs)) b = some x := h
    by_cases hb : b = a
    · subst hb
      rw [upd_same] at h ⊢
      exact h
    · rw [upd_ne hb] at h ⊢
      exact r.same b x h
  · by_cases hb : b = a
    · rw [hb, upd_same] at z
      cases z
    · rw [upd_ne hb] at z
      exact r.bt b h z
  · by_cases hb : b = a
    · rw [hb, upd_same] at z
      cases z
    · rw [upd_ne hb] at z
      exact r.fb b h z
theorem ER.unlockD (r : ER K B ⟨upd old.hp a (.frz o (.dT kvs)), old.gv, old.gd, old.st, old.fa⟩ O H σ η) (h0 : ∀ x, old.hp a = some x → x = .dT kvs) : H a = some (.frz o (.dT kvs)) ∧ ER K B old O (upd H a (.dT kvs)) σ η := by
  have e : H a = some (.frz o (.dT kvs)) := r.same a _ upd_same
  have c : Ca K (Own O B) (Own O B) H (upd H a (.dT kvs)) := Ca.unlock e
  have no := r.noOwn e (fun _ z => nomatch z) (fun _ z => nomatch z)
  refine ⟨e, r.len, fun i x h => ?_, r.dom, r.inj, r.disj, fun i b h => ?_, fun b x h => ?_, fun b h z => ?_, r.gh.ca c, fun b h z => ?_, r.fc⟩
  · have q := r.sl i x h
    cases x with
    | sh d =>
      obtain ⟨v, q1, q2⟩ := q
      exact ⟨v, q1, q2.ca c⟩
    | ow ds =>
      obtain ⟨b, vs, q0, q1, q2, q3⟩ := q
      have nb : b ≠ a := fun z => no i (z ▸ q0)
      exact ⟨b, vs, q0, q1, by rw [upd_ne nb]; exact q2, q3.ca c⟩
    | od l =>
      obtain ⟨b, q0, q1, q2⟩ := q
      have nb : b ≠ a := fun z => no i (z ▸ q0)
      exact ⟨b, q0, q1, by rw [upd_ne nb]; exact q2⟩
    | kk k =>
      obtain ⟨v, q1, q2⟩ := q
      exact ⟨v, q1, q2.ca c⟩
    | fr d =>
      obtain ⟨v, q1, q2⟩ := q
      exact ⟨v, q1, q2.ca c.or⟩
    | st xs =>
      obtain ⟨d, b, q0, q1, q2, q3, q4⟩ := q
      have nb : b ≠ a := fun z => no i (z ▸ q0)
      have nd : d ≠ a := ne_of q2 e (fun z => nomatch z)
      exact ⟨d, b, q0, q1, by rw [upd_ne nd]; exact q2, by rw [upd_ne nb]; exact q3, q4⟩
  · have nb : b ≠ a := fun z => no i (z ▸ h)
    have := r.fr i b h
    have this : upd old.hp a (.frz o (.dT kvs)) b = none := this
    rw [upd_ne nb] at this
    exact this
  · by_cases hb : b = a
    · subst hb
      rw [upd_same, h0 x h]
    · rw [upd_ne hb]
      refine r.same b x ?_
      show upd old.hp a _ b = some x
      rw [upd_ne hb]
      exact h
  · by_cases hb : b = a
    · rw [hb, upd_same] at z
      cases z
    · rw [upd_ne hb] at z
      exact r.bt b h z
  · by_cases hb : b = a
    · rw [hb, upd_same] at z
      cases z
    · rw [upd_ne hb] at z
      exact r.fb b h z
theorem RetR.unlockD {H0 : Hp} {v : V} {d : PyData} (e : H a = some (.frz o (.dT kvs))) (r : RetR K (upd H0 a (.frz o (.dT kvs))) H v d) : RetR K H0 (upd H a (.dT kvs)) v d := by
  have c : Ca K (fun _ => False) (fun _ => False) H (upd H a (.dT kvs)) := Ca.unlock e
  have f : ∀ b, upd H0 a (.frz o (.dT kvs)) b = none → b ≠ a ∧ H0 b = none := fun b h => by
    have nb : b ≠ a := fun z => by rw [z, upd_same] at h; cases h
    rw [upd_ne nb] at h
    exact ⟨nb, h⟩
  rcases r with ⟨h1, h2⟩ | ⟨ds, b, vs, h1, h2, h3, h4, h5, h6⟩ | ⟨l, b, h1, h2, h3, h4⟩
  · exact .inl ⟨h1, h2.ca c⟩
  · obtain ⟨nb, h4⟩ := f b h4
    exact .inr (.inl ⟨ds, b, vs, h1, h2, h3, h4, by rw [upd_ne nb]; exact h5, h6.ca c⟩)
  · obtain ⟨nb, h3⟩ := f b h3
    exact .inr (.inr ⟨l, b, h1, h2, h3, by rw [upd_ne nb]; exact h4⟩)
/-- the ends of a locked walk -/
def lockE (a : Addr) (o : Obj) (u : HO) (D : Ends) : Ends := ⟨fun σ' H' => H' a = some (.frz o u) ∧ D.nx σ' (upd H' a u), fun v H' => H' a = some (.frz o u) ∧ D.rt v (upd H' a u), fun σ' H' => H' a = some (.frz o u) ∧ D.bk σ' (upd H' a u), fun σ' H' => H' a = some (.frz o u) ∧ D.ct σ' (upd H' a u)⟩
theorem FR.lockD (h0 : ∀ x, old.hp a = some x → x = .dT kvs) {f : Fl} (q : FR K xa W B old D (noEx f)) : FR K xa W B ⟨upd old.hp a (.frz o (.dT kvs)), old.gv, old.gd, old.st, old.fa⟩ (lockE a o (.dT kvs) D) f := by
  cases f with
  | nx η => exact fun O σ H r => ⟨(r.unlockD h0).1, q O σ _ (r.unlockD h0).2⟩
  | bk η => exact fun O σ H r => ⟨(r.unlockD h0).1, q O σ _ (r.unlockD h0).2⟩
  | ct η => exact fun O σ H r => ⟨(r.unlockD h0).1, q O σ _ (r.unlockD h0).2⟩
  | rt d =>
    intro v H s r
    have e : H a = some (.frz o (.dT kvs)) := s a _ upd_same
    refine ⟨e, q v _ (fun b x h => ?_) (r.unlockD e)⟩
    by_cases hb : b = a
    · subst hb
      rw [upd_same, h0 x h]
    · rw [upd_ne hb]
      refine s b x ?_
      show upd old.hp a _ b = some x
      rw [upd_ne hb]
      exact h
  | rs d xs =>
    intro v H s ha r
    have e : H a = some (.frz o (.dT kvs)) := s a _ upd_same
    have c : Ca K (fun b => old.fa b ∨ (xs ≠ none ∧ old.st = some b)) (fun b => old.fa b ∨ (xs ≠ none ∧ old.st = some b)) H (upd H a (.dT kvs)) := Ca.unlock e
    refine ⟨e, q v _ (fun b x h => ?_) (fun l b hl hb => ?_) (r.ca c)⟩
    · by_cases hb : b = a
      · subst hb
        rw [upd_same, h0 x h]
      · rw [upd_ne hb]
        refine s b x ?_
        show upd old.hp a _ b = some x
        rw [upd_ne hb]
        exact h
    · have e2 := ha l b hl hb
      have nb : b ≠ a := fun z => by rw [z, e] at e2; cases e2
      rw [upd_ne nb]
      exact e2
  | ex c η => exact q.elim
  | st => exact q
theorem FR.noEx {f : Fl} (q : FR K xa W B old D (noEx f)) : FR K xa W B old D f := by
  cases f with
  | ex c η => exact q.elim
  | _ => exact q
/-- the walk of a locked dict -/
theorem walk_d {l : Dl} {O : Ow} {H : Hp} {σ : L2.St} {η : Env} (i : Nat) (r : ER K B ⟨upd old.hp a (.frz o (.dT (dV l))), old.gv, old.gd, old.st, old.fa⟩ O H σ η) :
    ((dkeys l).length ≤ i → (Itkt a o (dV l)).stop i H) ∧ ∀ d, (dkeys l)[i]? = some d → (Itkt a o (dV l)).go i H ∧ ∀ x H', (Itkt a o (dV l)).yld i H x H' → H' = H ∧ ∃ k, d = .tuple (k.map PyData.int) ∧ TkR H x k := by
  have e : H a = some (.frz o (.dT (dV l))) := r.same a _ upd_same
  have l1 : (dkeys l).length = l.length := List.length_map _
  have l2 : (dV l).length = l.length := List.length_map _
  refine ⟨fun h => ⟨e, by omega⟩, fun d hd => ?_⟩
  have hi := (List.getElem?_eq_some_iff.mp hd).1
  refine ⟨⟨e, by omega⟩, fun x H' y => ⟨y.1, ?_⟩⟩
  obtain ⟨_, k, v, q, e1, rfl, e2⟩ := y
  unfold dkeys at hd
  unfold dV at e1
  rw [List.getElem?_map] at hd e1
  cases ep : l[i]? with
  | none => rw [ep] at hd; cases hd
  | some p =>
    rw [ep] at hd e1
    cases hd
    cases e1
    exact ⟨p.1, rfl, q, rfl, by rw [← key_kV]; exact e2⟩
end
theorem dropD_ok {K : Fg} {B : Addr → Prop} {old : Old} {O : Ow} {H : Hp} {σ : L2.St} {η : Env} {i : Nat} {x : Val} {l : Dl} (r : ER K B old O H σ η) (e1 : slotV η i = .ok x) (e2 : x.d.dct = some l) :
    ∃ a O', σ[i]? = some (some (.ref a)) ∧ Rd H a (.dT (dV l)) ∧ ER K B old O' H σ (dropS η i) ∧ ∀ j, O' j ≠ some a := by
  unfold slotV at e1
  have nsh : ∀ {v : V} {d : PyData}, σ[i]? = some (some v) → Rp K (Own O B) H v d → PD.D.dct d = some l → dropS η i = η → ∃ a O', σ[i]? = some (some (.ref a)) ∧ Rd H a (.dT (dV l)) ∧ ER K B old O' H σ (dropS η i) ∧ ∀ j, O' j ≠ some a := by
    intro v d h1 h2 h3 h4
    rw [dct_inv h3] at h2
    generalize hd : dD l = d at h2
    cases h2 with
    | dct n h =>
      rename_i a l'
      have e1 : dctL (l.map fun p => (.tuple (p.1.map PyData.int), .int p.2)) = dctL (l'.map fun p => (.tuple (p.1.map PyData.int), .int p.2)) := by
        rw [PyData.dict.inj hd]
      rw [dctL_map, dctL_map] at e1
      cases e1
      exact ⟨a, O, h1, h, by rw [h4]; exact r, fun j z => n (.inl ⟨j, z⟩)⟩
    | exc h1 h2 =>
      cases l with
      | nil => cases hd
      | cons p l => cases hd
    | _ => cases hd
  split at e1
  · rename_i d hs
    cases e1
    obtain ⟨v, q1, q2⟩ := r.sl i _ hs
    exact nsh q1 q2 e2 (by unfold dropS; rw [hs])
  · cases e1
    cases e2
  · rename_i l' hs
    cases e1
    obtain ⟨a, q0, q1, q2⟩ := r.sl i _ hs
    have el : some l' = some l := by rw [← dct_dD l']; exact e2
    cases el
    refine ⟨a, minus O i, q1, .inl q2, r.drop i, fun j z => ?_⟩
    obtain ⟨h1, h2⟩ := minus_some z
    exact h1 (r.inj j i a h2 q0)
  · rename_i k hs
    cases e1
    cases k <;> cases e2
  · rename_i d hs
    cases e1
    obtain ⟨v, q1, q2⟩ := r.sl i _ hs
    exact nsh q1 (q2.ca (Ca.less fun _ z => .inl z)) e2 (by unfold dropS; rw [hs])
  · cases e1
theorem fod_any {i : Nat} {gt : TG} {tb : TS} {bd : D → Env → Fl}
    (body : ∀ B old O σ H η x d En', ER X.K B old O H σ η → (∃ k, d = .tuple (k.map PyData.int) ∧ TkR H x k) → FR X.K xa W B old En' (bd d η) → gt x σ H fun σ2 H2 => tb En' σ2 H2) :
    SndS X.K xa W (fun D σ H => tLock (tFor (iKeys (tVar i)) gt tb) D σ H ∨ tFor (iKeys (tVar i)) gt tb D σ H) (fun η => Fl.of η (slotV η i) fun x => Fl.on x.d.dct fun l => noEx (loopF bd (dkeys l) (dropS η i))) := by
  intro B old O σ H η D r q
  dsimp only at q
  cases e1 : slotV η i with
  | st => rw [e1] at q; exact q.elim
  | ex c =>
    unfold slotV at e1
    split at e1 <;> cases e1
  | ok x =>
    rw [e1] at q
    obtain ⟨l, e2, q⟩ := FR.on (show FR X.K xa W B old D (Fl.on x.d.dct fun l => noEx (loopF bd (dkeys l) (dropS η i))) from q)
    obtain ⟨a, O', h1, h2, r', no⟩ := dropD_ok r e1 e2
    rcases h2 with h2 | ⟨o, h2⟩
    · left
      refine ⟨a, .dT (dV l), h2, True.intro, fun od => ⟨_, h1, a, od, rfl, .inr ⟨dV l, upd_same, ?_⟩⟩⟩
      have h0 : ∀ x, old.hp a = some x → x = .dT (dV l) := fun x e => by
        have := r.same a x e
        rw [h2] at this
        exact (Option.some.inj this).symm
      exact for_okP (old := ⟨upd old.hp a (.frz od (.dT (dV l))), old.gv, old.gd, old.st, old.fa⟩) (old' := ⟨upd old.hp a (.frz od (.dT (dV l))), old.gv, old.gd, old.st, old.fa⟩) (fun O H x d => ∃ k, d = .tuple (k.map PyData.int) ∧ TkR H x k) ⟨rfl, rfl, rfl⟩ (fun _ _ _ _ r => r) (fun O σ H η i r => walk_d i r)
        (r'.lockD h2 no) (q.lockD (o := od) h0) (fun O σ H η x d En' r rx q => body _ _ O σ H η x d En' r rx q)
    · right
      refine ⟨_, h1, a, o, rfl, .inr ⟨dV l, h2, ?_⟩⟩
      exact for_okP (old := ⟨upd old.hp a (.frz o (.dT (dV l))), old.gv, old.gd, old.st, old.fa⟩) (old' := ⟨upd old.hp a (.frz o (.dT (dV l))), old.gv, old.gd, old.st, old.fa⟩) (fun O H x d => ∃ k, d = .tuple (k.map PyData.int) ∧ TkR H x k) ⟨rfl, rfl, rfl⟩ (fun _ _ _ _ r => r) (fun O σ H η i r => walk_d i r)
        (r'.held h2) (q.noEx.moreOld (same_held r.same h2)) (fun O σ H η x d En' r rx q => body _ _ O σ H η x d En' r rx q)
theorem f_fod {v i : Nat} {b : S} (ihb : SSs T M xa b) : SS T M xa (.fod v i b) := by
  intro X W st g h
  unfold okS at h
  split at h
  · rename_i y py x px body pos
    simp only [Bool.and_eq_true] at h
    obtain ⟨⟨⟨h1, h2⟩, h3⟩, h4⟩ := h
    obtain ⟨tb, pb, sb⟩ := ihb X W _ g h4
    have pf := ps_for (pos := pos) g.po g.calm (pi_keys (tg := .Name y py) (pe_nm (p := px) g h2 h3)) (pg_name g.nd (nameB_of h1).1 (nameB_of h1).2 (.inl (g.fnT y))) pb (fun _ => rfl)
    refine ⟨_, ps_or (ps_lock pf) pf, ?_⟩
    have e : exS T (.fod v i b) = fun η => Fl.of η (slotV η i) fun x => Fl.on x.d.dct fun l => noEx (loopF (fun d η => Fl.on (keyOf d) fun k => Fl.on (setK η v (.tk k)) (exS T b)) (dkeys l) (dropS η i)) := by
      funext η
      rw [exS]
    rw [e]
    refine fod_any fun B old O σ H η x d En' r rx q => ?_
    obtain ⟨k, rfl, tk⟩ := rx
    obtain ⟨k', e1, q⟩ := q.on
    have ek : some k = some k' := by rw [← intsOf_map k]; exact e1
    cases ek
    obtain ⟨η', e2, q⟩ := q.on
    obtain ⟨hi, rfl⟩ := setK_ok e2
    exact sb _ _ _ _ _ _ _ (r.setKk (k := .tk k) hi tk) q
  · cases h
theorem f_fodT {vs : List Nat} {i : Nat} {b : S} (ihb : SSs T M xa b) : SS T M xa (.fodT vs i b) := by
  intro X W st g h
  unfold okS at h
  split at h
  · rename_i ts k py x px body pos
    simp only [Bool.and_eq_true] at h
    obtain ⟨⟨⟨h1, h2⟩, h3⟩, h4⟩ := h
    obtain ⟨tb, pb, sb⟩ := ihb X W _ g h4
    obtain ⟨l1, l2⟩ := names_each (env := X.env) h1
    have pf := ps_for (pos := pos) g.po g.calm (pi_keys (tg := .Tuple ts k py) (pe_nm (p := px) g h2 h3)) (pg_tup g.calm (pgs_names g h1) l1 l2) pb (fun _ => rfl)
    refine ⟨_, ps_or (ps_lock pf) pf, ?_⟩
    have e : exS T (.fodT vs i b) = fun η => Fl.of η (slotV η i) fun x => Fl.on x.d.dct fun l => noEx (loopF (fun d η => Fl.on (tupOf (.cl d)) fun ds => Fl.on (asgL η vs ds) (exS T b)) (dkeys l) (dropS η i)) := by
      funext η
      rw [exS]
    rw [e]
    refine fod_any fun B old O σ H η x d En' r rx q => ?_
    obtain ⟨k, rfl, tk⟩ := rx
    obtain ⟨ds, e1, q⟩ := q.on
    cases e1
    obtain ⟨η', e2, q⟩ := q.on
    obtain ⟨a, rfl, ht⟩ := tk
    have el := asgL_len e2
    rw [List.length_map] at el
    exact ⟨a, _, rfl, SqT.of ht, by rw [List.length_map]; exact el.symm, asgL_ok r (RpAll.ints k) e2 fun O' σ' r' => sb _ _ _ _ _ _ _ r' q⟩
  · cases h
end
end PD

/-! PDM: expressions that draw from a state, and the statements over them; all statements. -/
namespace PD
open PySem PySem.Spec PyProof.Rows L2
section
variable {T : Tb} {M : Nx} {xa : Nat → Addr} {X : Cx} {W : WX}
variable {K : Fg} {B : Addr → Prop} {old : Old} {O O' : Ow} {H H0 H1 H' H'' : Hp} {σ : L2.St} {η η' : Env} {s : Nat}
/-- all but the state's list stays -/
def SBut (s : Nat) (O : Ow) (H H' : Hp) : Prop := ∀ b o, O s ≠ some b → H b = some o → H' b = some o
abbrev Fr (K : Fg) (B : Addr → Prop) (old : Old) (O : Ow) (H : Hp) (v : V) (d : D) : Prop := Rp K (fun b => Own O B b ∨ old.fa b) H v d
/-- fewer names own, the state's is the same -/
def OLe (s : Nat) (O' O : Ow) : Prop := (∀ j a, O' j = some a → O j = some a) ∧ O' s = O s
theorem OLe.refl (O : Ow) : OLe s O O := ⟨fun _ _ h => h, rfl⟩
theorem OLe.trans {O'' : Ow} (h : OLe s O'' O') (k : OLe s O' O) : OLe s O'' O := ⟨fun j a e => k.1 j a (h.1 j a e), h.2.trans k.2⟩
theorem OLe.own (h : OLe s O' O) : ∀ a, Own O' B a → Own O B a := fun a z => z.elim (fun ⟨i, z⟩ => .inl ⟨i, h.1 i a z⟩) .inr
theorem SBut.of (k : Same H H') : SBut s O H H' := fun b o _ e => k b o e
theorem SBut.trans (h : SBut s O H H') (le : OLe s O' O) (k : SBut s O' H' H'') : SBut s O H H'' := fun b o n e => k b o (by rw [le.2]; exact n) (h b o n e)
theorem SBut.ca {A : Addr → Prop} (h : SBut s O H H') (r : ER K B old O H σ η) (hA : ∀ b, O s = some b → A b) : Ca K A A H H' where
  l := fun a xs n e => ⟨n, by
    rcases e with e | ⟨o, e⟩
    · exact .inl (h _ _ (fun z => n (hA a z)) e)
    · exact .inr ⟨o, h _ _ (fun z => n (hA a z)) e⟩⟩
  t := fun a xs e => by
    rcases e with (e | ⟨o, e⟩) | e
    · exact .inl (.inl (h _ _ (r.noOwn e (fun _ z => nomatch z) (fun _ z => nomatch z) s) e))
    · exact .inl (.inr ⟨o, h _ _ (r.noOwn e (fun _ z => nomatch z) (fun _ z => nomatch z) s) e⟩)
    · exact .inr e
  x := fun a φ e => h _ _ (r.noOwn e (fun _ z => nomatch z) (fun _ z => nomatch z) s) e
  d := fun a kvs n e => ⟨n, by
    rcases e with e | ⟨o, e⟩
    · exact .inl (h _ _ (fun z => n (hA a z)) e)
    · exact .inr ⟨o, h _ _ (fun z => n (hA a z)) e⟩⟩
  tt := fun a xs e => h _ _ (r.noOwn e (fun _ z => nomatch z) (fun _ z => nomatch z) s) e
theorem Fr.go {v : V} {d : D} (f : Fr K B old O H v d) (h : SBut s O H H') (r : ER K B old O H σ η) (le : OLe s O' O) : Fr K B old O' H' v d :=
  (Rp.ca (h.ca r fun b e => .inl (.inl ⟨s, e⟩)) f).ca (Ca.less fun a z => z.elim (fun z => .inl (le.own a z)) .inr)
/-- drawn: nothing is raised -/
abbrev Rf {α : Type} (k : α → Prop) (r : Res α) : Prop := Rs (fun _ => False) k r
theorem Rf.sure {α β : Type} {k : β → Prop} {r : Res α} {f : α → Res β} {xc : Nat → Prop} (h : Rf k (r.sure.bind f)) : Rs xc (fun a => Rf k (f a)) r := by
  cases r with
  | ok a => exact h
  | ex c => exact h.elim
  | st => exact h.elim
theorem Rf.bnd {α β : Type} {k : β → Prop} {r : Res α} {f : α → Res β} (h : Rf k (r.bind f)) : Rf (fun a => Rf k (f a)) r := Rs.bind h
variable (xa X W) in
def SndM (s : Nat) (t : TE) (f : Env → Res (D × Env)) : Prop := ∀ B old O σ H η Q, ER X.K B old O H σ η →
  Rf (fun p => ∀ O' v H', OLe s O' O → ER X.K B old O' H' σ p.2 → SBut s O H H' → Fr X.K B old O' H' v p.1 → Q v H') (f η) → t σ H Q
/-- arguments: none is the state's list; where all are drawn, all are new -/
def ArR (K : Fg) (B : Addr → Prop) (old : Old) (s : Nat) (pl : Bool) (O : Ow) (H : Hp) (vs : List V) (ds : List D) : Prop :=
  RpAll K (fun b => O s = some b) H vs ds ∧ (pl = true → RpAll K (fun b => Own O B b ∨ old.fa b) H vs ds)
variable (X) in
def SndMs (s : Nat) (pl : Bool) (n : Nat) (t : TA) (f : Env → Res (List D × Env)) : Prop := ∀ B old O σ H η Q, ER X.K B old O H σ η →
  Rf (fun p => ∀ O' vs H', OLe s O' O → ER X.K B old O' H' σ p.2 → SBut s O H H' → ArR X.K B old s pl O' H' vs p.1 → vs.length = n → Q vs H') (f η) → t σ H Q
variable (T M xa) in
def MM (m : EM) : Prop := (∀ X W s e, GX T M.toNm xa X W → okM M s X.N X.env.scope e m = true → ∃ t, PE X e t ∧ SndM X s t (evM T s m)) ∧
  ∀ X W s es, GX T M.toNm xa X W → okMs M s X.N X.env.scope es m = true → (∃ t, PA X es t ∧ SndMs X s m.plain es.length t (evMs T s m)) ∧ starEach es X.env = es.map fun e => (false, eval e X.env)
theorem VR.fresh {v : V} {x : Val} {d : D} (r : ER K B old O H σ η) (vr : VR K B O H H' v x) (e : x.fresh = some d) : Fr K B old O H' v d := by
  cases x with
  | cl d' =>
    have e : (if lf d' = true then some d' else none) = some d := e
    split at e
    · cases e
      rename_i hl
      exact Rp.free (fun _ _ h => h) vr hl
    · cases e
  | nw ds =>
    have e : (if lfAll ds = true then some (.list ds) else none) = some d := e
    split at e
    · cases e
      rename_i hl
      obtain ⟨a, vs, rfl, h2, h3, h4⟩ := vr
      refine .lst (.inl ⟨fun z => ?_, .inl h3⟩) (h4.free (fun _ _ h => h) hl)
      rcases z with z | z
      · exact ob_sub r.ob (Same.refl H) a z h2
      · exact r.fb a z h2
    · cases e
  | nd l =>
    cases e
    obtain ⟨a, rfl, h2, h3⟩ := vr
    refine .dct (fun z => ?_) (.inl h3)
    rcases z with z | z
    · exact ob_sub r.ob (Same.refl H) a z h2
    · exact r.fb a z h2
  | _ => cases e
theorem okM_star {N : List Str} {sc : Scope} {a : Expr} {p : Pos} (x : EM) : okM M s N sc (.Starred a p) x = false := by
  cases x <;> first | rfl | exact okE_star _
theorem starM_of {N : List Str} {sc : Scope} {e : Expr} {x : EM} (h : okM M s N sc e x = true) (es : List Expr) (env : PySem.Env) : starEach (e :: es) env = (false, eval e env) :: starEach es env := by
  cases e <;> first | rfl | (rw [okM_star] at h; cases h)
theorem anyM (pos : Pos) (env : PySem.Env) {es : List Expr} (h : starEach es env = es.map fun e => (false, eval e env)) : (backTo pos (starEach es env)).any (·.1) = false := by
  rw [h]
  exact any_all _ _ _
theorem MM.e {m : EM} (h : ∀ X W s e, GX T M.toNm xa X W → okM M s X.N X.env.scope e m = true → ∃ t, PE X e t ∧ SndM X s t (evM T s m)) (no : ∀ s N sc es, okMs M s N sc es m = false) : MM T M xa m :=
  ⟨h, fun X W s es g k => by rw [no] at k; cases k⟩
theorem m_p (e : E) : MM T M xa (.p e) := MM.e (fun X W s x g h => by
  obtain ⟨t, pt, st⟩ := exE g h
  refine ⟨t, pt, fun B old O σ H η Q r q => ?_⟩
  unfold evM at q
  refine st B old O σ H η Q r (q.sure.imp fun x k v H1 s1 vx => ?_)
  obtain ⟨d, e1, k⟩ := oOk_ok k.bnd
  exact k O v H1 (OLe.refl O) (r.ext s1) (SBut.of s1) (vx.fresh r e1)) fun _ _ _ _ => rfl
/-- a name gives up what it owns -/
theorem ER.give {i : Nat} {x : Sl} {d : D} {v : V} (r : ER K B old O H σ η) (e : η[i]? = some (some x)) (ev : σ[i]? = some (some v)) (rv : Fr K B old (minus O i) H v d) : ER K B old (minus O i) H σ (η.set i (some (.fr d))) := by
  have hi := (List.getElem?_eq_some_iff.mp e).1
  have hs : σ.set i (some v) = σ := by
    have hl : i < σ.length := by rw [r.len]; exact hi
    refine List.ext_getElem? fun k => ?_
    by_cases hk : i = k
    · subst hk
      rw [List.getElem?_set_self hl, ev]
    · rw [List.getElem?_set_ne hk]
  have := r.setFr hi rv
  rw [hs] at this
  exact this
theorem m_v (i : Nat) : MM T M xa (.v i) := MM.e (fun X W s x g h => by
  have h : okE M.toNm X.N X.env.scope x (.var i) = true := h
  unfold okE at h
  split at h
  · rename_i x p
    simp only [Bool.and_eq_true, decide_eq_true_eq] at h
    obtain ⟨⟨h1, h2⟩, h3⟩ := h
    refine ⟨_, pe_var h1 (vis_of h2) (name_of h3).1 (name_of h3).2, fun B old O σ H η Q r q => ?_⟩
    unfold evM at q
    split at q
    · exact q.elim
    rename_i his
    have le : OLe s (minus O i) O := ⟨fun j a e => (minus_some e).2, by unfold minus; rw [if_neg (Ne.symm his)]⟩
    unfold freshV at q
    split at q
    · rename_i d hs
      obtain ⟨v, e1, e2⟩ := r.sl i _ hs
      exact ⟨v, e1, q O v H (OLe.refl O) r (SBut.of (Same.refl H)) e2⟩
    · rename_i d hs
      split at q
      · rename_i hl
        obtain ⟨v, e1, e2⟩ := r.sl i _ hs
        exact ⟨v, e1, q O v H (OLe.refl O) r (SBut.of (Same.refl H)) (e2.free (fun _ _ h => h) hl)⟩
      · exact q.elim
    · rename_i ds hs
      split at q
      · rename_i hl
        obtain ⟨a, vs, e0, e1, e2, e3⟩ := r.sl i _ hs
        have f : Fr X.K B old (minus O i) H (.ref a) (.list ds) := by
          refine .lst (.inl ⟨fun z => ?_, .inl e2⟩) (e3.free (fun _ _ h => h) hl)
          rcases z with (⟨k, z⟩ | z) | z
          · obtain ⟨z1, z2⟩ := minus_some z
            exact z1 (r.inj k i a z2 e0)
          · exact r.disj i a e0 z
          · exact r.fc i a e0 z
        exact ⟨_, e1, q _ _ H le (r.give hs e1 f) (SBut.of (Same.refl H)) f⟩
      · exact q.elim
    · rename_i l hs
      obtain ⟨a, e0, e1, e2⟩ := r.sl i _ hs
      have f : Fr X.K B old (minus O i) H (.ref a) (dD l) := by
        refine .dct (fun z => ?_) (.inl e2)
        rcases z with (⟨k, z⟩ | z) | z
        · obtain ⟨z1, z2⟩ := minus_some z
          exact z1 (r.inj k i a z2 e0)
        · exact r.disj i a e0 z
        · exact r.fc i a e0 z
      exact ⟨_, e1, q _ _ H le (r.give hs e1 f) (SBut.of (Same.refl H)) f⟩
    · exact q.elim
  · cases h) fun _ _ _ _ => rfl
theorem m_nil : MM T M xa .nil := ⟨fun X W s e g k => (by cases k), fun X W s es g h => by
  cases es with
  | nil =>
    refine ⟨⟨_, pa_nil, fun B old O σ H η Q r q => ?_⟩, rfl⟩
    unfold evMs at q
    exact q O [] H (OLe.refl O) r (SBut.of (Same.refl H)) ⟨.nil, fun _ => .nil⟩ rfl
  | cons a l => cases h⟩
theorem ArR.go {pl : Bool} {vs : List V} {ds : List D} (f : ArR K B old s pl O H vs ds) (h : SBut s O H H') (r : ER K B old O H σ η) (le : OLe s O' O) : ArR K B old s pl O' H' vs ds :=
  ⟨by
    have := f.1.ca (h.ca r (A := fun b => O s = some b) fun b e => e)
    rw [le.2]
    exact this, fun e => ((f.2 e).ca (h.ca r fun b e => .inl (.inl ⟨s, e⟩))).ca (Ca.less fun a z => z.elim (fun z => .inl (le.own a z)) .inr)⟩
theorem m_cons {m ms : EM} (ih : MM T M xa m) (ihs : MM T M xa ms) : MM T M xa (.cons m ms) := ⟨fun X W s e g k => (by cases k), fun X W s es g h => by
  cases es with
  | nil => cases h
  | cons x xs =>
    have h : (okM M s X.N X.env.scope x m && okMs M s X.N X.env.scope xs ms) = true := h
    simp only [Bool.and_eq_true] at h
    obtain ⟨t, pt, st⟩ := ih.1 X W s x g h.1
    obtain ⟨⟨ts, pts, sts⟩, e2⟩ := ihs.2 X W s xs g h.2
    refine ⟨⟨_, pa_cons pt pts (starM_of h.1 _ _), fun B old O σ H η Q r q => ?_⟩, by rw [starM_of h.1, e2]; rfl⟩
    unfold evMs at q
    refine st B old O σ H η _ r (q.bnd.imp fun p k O1 v H1 le1 r1 b1 f1 => ?_)
    refine sts B old O1 σ H1 p.2 _ r1 (k.bnd.imp fun p2 k2 O2 vs H2 le2 r2 b2 f2 l2 => ?_)
    have f1' := f1.go b2 r1 le2
    refine k2 O2 (v :: vs) H2 (le2.trans le1) r2 (b1.trans le1 b2) ⟨.cons (Rp.ca (Ca.less fun b e => .inl (.inl ⟨s, e⟩)) f1') f2.1, fun e => .cons f1' (f2.2 e)⟩ (by simp [l2])⟩
theorem offS_ok {x : Val} {v : V} (r : ER K B old O H σ η) (vr : VR K B O H H' v x) (h : x.offS s = true) : Rp K (fun b => O s = some b) H' v x.d := by
  cases e : O s with
  | none => exact vr.any.ca (Ca.less fun b z => by cases z)
  | some a =>
    have hj : ∀ j ds, x = .br j ds → O j ≠ some a := fun j ds z k => by
      subst z
      have h : decide (j ≠ s) = true := h
      exact (of_decide_eq_true h) (r.inj j s a k e)
    have hl : ∀ j l, x = .bd j l → O j ≠ some a := fun j ds z k => by
      subst z
      have h : decide (j ≠ s) = true := h
      exact (of_decide_eq_true h) (r.inj j s a k e)
    exact (vr.off (.inl ⟨s, e⟩) (r.lst e) hj hl).ca (Ca.less fun b z => (Option.some.inj z).symm)
theorem m_ap {e : E} {ms : EM} (ihs : MM T M xa ms) : MM T M xa (.ap e ms) := ⟨fun X W s e g k => (by cases k), fun X W s es g h => by
  cases es with
  | nil => cases h
  | cons x xs =>
    have h : (okE M.toNm X.N X.env.scope x e && okMs M s X.N X.env.scope xs ms) = true := h
    simp only [Bool.and_eq_true] at h
    obtain ⟨t, pt, st⟩ := exE g h.1
    obtain ⟨⟨ts, pts, sts⟩, e2⟩ := ihs.2 X W s xs g h.2
    refine ⟨⟨_, pa_cons pt pts (star_of h.1 _ _), fun B old O σ H η Q r q => ?_⟩, by rw [star_of h.1, e2]; rfl⟩
    unfold evMs at q
    refine st B old O σ H η _ r (q.sure.imp fun x k v H1 s1 vx => ?_)
    split at k
    · rename_i ho
      have f1 := offS_ok r vx ho
      have r1 := r.ext s1
      refine sts B old O σ H1 η _ r1 (k.bnd.imp fun p2 k2 O2 vs H2 le2 r2 b2 f2 l2 => ?_)
      refine k2 O2 (v :: vs) H2 le2 r2 ((SBut.of s1).trans (OLe.refl O) b2) ⟨.cons ?_ f2.1, fun e => by cases e⟩ (by simp [l2])
      rw [le2.2]
      exact f1.ca (b2.ca r1 (A := fun b => O s = some b) fun b e => e)
    · exact k.elim⟩
theorem m_tup {ms : EM} (ihs : MM T M xa ms) : MM T M xa (.tup ms) := MM.e (fun X W s x g h => by
  unfold okM at h
  split at h
  · rename_i xs k p
    simp only [Bool.and_eq_true, decide_eq_true_eq] at h
    obtain ⟨⟨h1, h2⟩, h3⟩ := h
    obtain ⟨⟨ts, pts, sts⟩, e2⟩ := ihs.2 X W s xs g h1
    refine ⟨_, pe_tup pts, fun B old O σ H η Q r q => ?_⟩
    unfold evM at q
    refine sts B old O σ H η _ r (q.bnd.imp fun p k O1 vs H1 le1 r1 b1 f1 l1 => ?_)
    have ra := f1.2 h3
    refine ⟨len_ok ?_, fun a ha => k O1 _ _ le1 (r1.ext (same_upd ha)) (b1.trans le1 (SBut.of (same_upd ha))) (.tup (SqT.of upd_same) (ra.ca (Ca.grow (same_upd ha))))⟩
    rw [l1]; exact h2
  · cases h) fun _ _ _ _ => rfl
theorem m_lst {ms : EM} (ihs : MM T M xa ms) : MM T M xa (.lst ms) := MM.e (fun X W s x g h => by
  unfold okM at h
  split at h
  · rename_i xs p
    simp only [Bool.and_eq_true, decide_eq_true_eq] at h
    obtain ⟨⟨h1, h2⟩, h3⟩ := h
    obtain ⟨⟨ts, pts, sts⟩, e2⟩ := ihs.2 X W s xs g h1
    refine ⟨_, pe_lst pts, fun B old O σ H η Q r q => ?_⟩
    unfold evM at q
    refine sts B old O σ H η _ r (q.bnd.imp fun p k O1 vs H1 le1 r1 b1 f1 l1 => ?_)
    have ra := f1.2 h3
    refine ⟨len_ok ?_, fun a ha => k O1 _ _ le1 (r1.ext (same_upd ha)) (b1.trans le1 (SBut.of (same_upd ha))) (.lst (.inl ⟨fun z => ?_, .inl upd_same⟩) (ra.ca (Ca.grow (same_upd ha))))⟩
    · rw [l1]; exact h2
    · rcases z with z | z
      · exact ob_sub r1.ob (Same.refl H1) a z ha
      · exact r1.fb a z ha
  · cases h) fun _ _ _ _ => rfl
/-! ### calls -/
theorem m_pc {f : Nat} {es : E} : MM T M xa (.pc f es) := MM.e (fun X W s e g h => by
  unfold okM at h
  split at h
  · rename_i x p1 a as p2
    simp only [Bool.and_eq_true] at h
    obtain ⟨⟨⟨h0, h1⟩, h2⟩, h3⟩ := h
    split at h0
    · rename_i y n hf
      simp only [Bool.and_eq_true, decide_eq_true_eq] at h0
      obtain ⟨e1, e2⟩ := h0
      subst e1
      obtain ⟨k, room, _, fns⟩ := g.lv
      obtain ⟨ad, fd, ps, m1, m2, m3, m4⟩ := fns f y n hf
      obtain ⟨t, ht, hq⟩ := exA g h3
      have hst := (calls_of (env := X.env) p2 h3).1
      have hpl := (calls_of (env := X.env) p2 h3).2
      refine ⟨_, pe_callS (E := WE W) m4 room (gl_of h1) m1 m2 m3 (fun σ => L2N.passAt g.tk σ) ht (name_of h2).1 hst hpl, fun B old O σ H η Q r q => hq B old O σ H η _ r ?_⟩
      unfold evM at q
      refine q.sure.imp fun ys k ey vs H' s' vr => ?_
      refine ⟨by rw [vr.len, evs_len es ey, ← okEs_len es h3, ← e2]; rfl, _, vr.any, ?_⟩
      revert k
      cases T.G f (ys.map Val.d) with
      | ok d =>
        intro k v H2 s2 rr
        have q2 : Rp X.K (fun b => H' b ≠ none) H2 v d := by
          rcases rr with r | ⟨_, r⟩
          · exact r.fresh
          · exact r
        refine k O v H2 (OLe.refl O) (r.ext (s'.trans s2)) (SBut.of (s'.trans s2)) (q2.ca (Ca.less fun b z => ?_))
        rcases z with z | z
        · exact ob_sub r.ob s' b z
        · exact fun w => r.fb b z (s'.free w)
      | ex c => exact fun k => False.elim k
      | st => exact fun k => k
    · cases h0
  · cases h) fun _ _ _ _ => rfl
theorem stOf_ok {i : Nat} {xs : List Int} (r : ER K B old O H σ η) (e : stOf η i = some xs) : η[i]? = some (some (.st xs)) ∧ ∃ d a, O i = some a ∧ σ[i]? = some (some (.ref d)) ∧ H d = some (stO a) ∧ H a = some (.lst (xs.map V.int)) ∧ (i = 0 → ∀ b, old.st = some b → b = a) := by
  unfold stOf at e
  split at e
  · rename_i ys h
    cases e
    exact ⟨h, r.sl i _ h⟩
  · cases e
theorem m_cs {f : Nat} {ms : EM} (ihs : MM T M xa ms) : MM T M xa (.cs f ms) := MM.e (fun X W s e g h => by
  unfold okM at h
  split at h
  · rename_i x p1 z zp as p2
    simp only [Bool.and_eq_true] at h
    obtain ⟨⟨⟨⟨h0, h1⟩, h2⟩, h4⟩, h3⟩ := h
    split at h0
    · rename_i y n hf
      simp only [Bool.and_eq_true, decide_eq_true_eq] at h0
      obtain ⟨e1, e2⟩ := h0
      subst e1
      obtain ⟨k, room, _, fns⟩ := g.ls
      obtain ⟨ad, fd, ps, m1, m2, m3, m4⟩ := fns f y n hf
      obtain ⟨⟨ts, pts, sts⟩, e3⟩ := ihs.2 X W s as g h3
      have h4 : okE M.toNm X.N X.env.scope (.Name z zp) (.var s) = true := h4
      unfold okE at h4
      simp only [Bool.and_eq_true, decide_eq_true_eq] at h4
      have pv' := pe_var (pos := zp) h4.1.1 (vis_of h4.1.2) (name_of h4.2).1 (name_of h4.2).2
      have hst : starEach (.Name z zp :: as) X.env = (false, eval (.Name z zp) X.env) :: starEach as X.env := rfl
      have hpl : (backTo p2 (starEach as X.env)).any (·.1) = false := anyM _ _ e3
      refine ⟨_, pe_callS (E := WE W) m4 room (gl_of h1) m1 m2 m3 (fun σ => L2N.passAt g.tk σ) (pa_cons pv' pts hst) (name_of h2).1 hst hpl, fun B old O σ H η Q r q => ?_⟩
      unfold evM at q
      obtain ⟨xs0, es0, q⟩ := oOk_ok q.bnd
      obtain ⟨_, d0, _, _, hv0, _⟩ := stOf_ok r es0
      refine ⟨_, hv0, sts B old O σ H η _ r (q.bnd.imp fun p k O1 vs H1 le1 r1 b1 f1 l1 => ?_)⟩
      obtain ⟨xs, es, k⟩ := oOk_ok k.bnd
      obtain ⟨hs, d, a, q0, q1, q2, q3, q4⟩ := stOf_ok r1 es
      rw [hv0] at q1
      cases q1
      refine ⟨?_, d0, a, xs, vs, p.1, rfl, q2, q3, ?_, ?_⟩
      · show vs.length + 1 = n
        rw [l1]; exact e2
      · exact f1.1.ca (Ca.less fun b e => by rw [e]; exact q0)
      · revert k
        cases T.S f xs p.1 with
        | ok dx =>
          obtain ⟨d9, xs'⟩ := dx
          intro k v H2 hsame hax rr
          have sb : SBut s O1 H1 H2 := fun b o n e => hsame b o (fun z => n (z ▸ q0)) e
          have nd : d0 ≠ a := ne_of q2 q3 (fun z => nomatch z)
          have r2 := r1.mutX (x := .st xs') hs q0 rfl hsame (by rw [hax]; exact fun z => nomatch z) (sb.ca r1 fun b e => .inl ⟨s, e⟩) ⟨d0, a, q0, hv0, hsame _ _ nd q2, hax, q4⟩
          refine k O1 v H2 le1 r2 (b1.trans le1 sb) (rr.ca (Ca.less fun b z => ?_))
          rcases z with z | z
          · exact ob_sub r1.ob (Same.refl H1) b z
          · exact r1.fb b z
        | ex c => exact fun k => False.elim k
        | st => exact fun k => False.elim k
    · cases h0
  · cases h) fun _ _ _ _ => rfl
/-! ### parts, sums -/
theorem Fr.seqD {v : V} {d : D} {ds : List D} (f : Fr K B old O H v d) (e : d.seq = some ds) : ∃ a vs, v = .ref a ∧ RpAll K (fun b => Own O B b ∨ old.fa b) H vs ds ∧ ((d = .list ds ∧ SqL K H a vs) ∨ (d = .tuple ds ∧ SqT K H a vs)) := by
  cases f with
  | lst h q => cases e; exact ⟨_, _, rfl, q, .inl ⟨rfl, h.sq⟩⟩
  | tup h q => cases e; exact ⟨_, _, rfl, q, .inr ⟨rfl, h⟩⟩
  | _ => cases e
theorem m_idx {m : EM} {e : E} (ih : MM T M xa m) : MM T M xa (.idx m e) := MM.e (fun X W s x g h => by
  unfold okM at h
  split at h
  · rename_i x y pos
    simp only [Bool.and_eq_true] at h
    obtain ⟨ta, pa, sa⟩ := ih.1 X W s x g h.1
    obtain ⟨tb, pb, sb⟩ := exE g h.2
    refine ⟨_, pe_ix ix_seq pa pb (plain_of h.2), fun B old O σ H η Q r q => ?_⟩
    unfold evM at q
    refine sa B old O σ H η _ r (q.bnd.imp fun p k O1 v H1 le1 r1 b1 f1 => ?_)
    refine sb B old O1 σ H1 p.2 _ r1 (k.sure.imp fun y k2 w H2 s2 vy => ?_)
    have k3 := k2.bnd
    unfold idxD at k3
    have fin : ∀ (ds : List D) (n : Int), p.1.seq = some ds → y = .cl (.int n) → Rf (fun a => ∀ O' v H', OLe s O' O → ER X.K B old O' H' σ p.2 → SBut s O H H' → Fr X.K B old O' H' v a → Q v H') (oOk (atI ds n)) → rIx X.K v w H2 Q := by
      intro ds n e1 e2 kk
      subst e2
      cases vy.int
      obtain ⟨a, vs, rfl, ra, hk⟩ := f1.seqD e1
      cases e4 : atI ds n with
      | none => rw [e4] at kk; exact kk.elim
      | some d =>
        rw [e4] at kk
        unfold atI at e4
        cases e5 : ixN ds.length n with
        | none => rw [e5] at e4; cases e4
        | some j =>
          rw [e5] at e4
          obtain ⟨z, z1, z2⟩ := ra.get (show ds[j]? = some d from e4)
          have ez : atI vs n = some z := by
            unfold atI
            rw [ra.length, e5]
            exact z1
          have fz : Fr X.K B old O1 H2 z d := z2.ca (Ca.grow s2)
          have fq := kk O1 z H2 le1 (r1.ext s2) (b1.trans le1 (SBut.of s2)) fz
          rcases hk with ⟨_, hs⟩ | ⟨_, hs⟩
          · exact .inl ⟨a, vs, n, z, rfl, rfl, s2.seq hs, ez, fq⟩
          · exact .inr (.inl ⟨a, vs, n, z, rfl, rfl, sqt_same s2 hs, ez, fq⟩)
    have k4 : Rf (fun a => ∀ O' v H', OLe s O' O → ER X.K B old O' H' σ p.2 → SBut s O H H' → Fr X.K B old O' H' v a → Q v H') (idxD p.1 y) := by
      unfold idxD
      exact k3
    unfold idxD at k4
    split at k4
    · rename_i ds n e1
      exact fin ds n (by rw [e1]; rfl) rfl k4
    · rename_i ds n e1
      exact fin ds n (by rw [e1]; rfl) rfl k4
    · exact k4.elim
  · cases h) fun _ _ _ _ => rfl
/-- list + list, tuple + tuple, whatever they are -/
def rCatL (K : Fg) : R2 := fun x y H Q => ∃ a b xs ys, x = .ref a ∧ y = .ref b ∧ SqL K H a xs ∧ SqL K H b ys ∧ xs.length + ys.length ≤ sizeLine ∧ ∀ p, H p = none → Q (.ref p) (upd H p (.lst (xs ++ ys)))
theorem op_catL {X : Cx} : OpR X (binaryOp .Add) (rCatL X.K) := by
  intro pins s σ H x y v u Q I rx ry h
  obtain ⟨a, b, xs, ys, rfl, rfl, ha, hb, hz, q⟩ := h
  cases rx
  cases ry
  obtain ⟨its, r1, p1, _⟩ := I.list ha
  obtain ⟨its2, r2, p2, _⟩ := I.list hb
  obtain ⟨⟨cls, dd, data, sl⟩, ho, hc, n, hd⟩ := id p1.isList
  obtain ⟨⟨cls2, dd2, data2, sl2⟩, ho2, hc2, n2, hd2⟩ := id p2.isList
  simp only at hc hd hc2 hd2
  subst hc hd hc2 hd2
  have e : its.toArray ++ its2.toArray = (its ++ its2).toArray := by simp
  have hz2 : its.toArray.size + its2.toArray.size ≤ sizeLine := by
    rw [List.size_toArray, List.size_toArray, ← r1.length, ← r2.length]
    exact hz
  refine concat_meets ⟨_, ho, rfl⟩ ⟨_, ho2, rfl⟩ noFill_list_add seq_list_add PySem.F.slot_list_add PySem.F.entry_list_add (PySem.F.args_list_add_2 _ _) (list_addW a b its.toArray its2.toArray n n2 dd dd2 sl sl2 hz2) ⟨ho, ho2, ?_⟩
  rw [e]
  exact ⟨.ref _, _, I.lnew (t' := s.toks) (r1.append r2) (by rw [List.length_append]; exact hz), rfl, q _ I.fresh⟩
def rBoM (K : Fg) (o : Bo) : R2 := fun x y H Q => rBo K o x y H Q ∨ (o = .add ∧ (rCatL K x y H Q ∨ rCatT K x y H Q ∨ rCatT0 K x y H Q))
theorem op_boM {X : Cx} (p : PyG X) (o : Bo) : OpR X (binaryOp (boP o)) (rBoM X.K o) := by
  intro pins s σ H x y v u Q I rx ry h
  rcases h with h | ⟨rfl, h | h | h⟩
  · exact op_bo p o pins s σ H x y v u Q I rx ry h
  · exact op_catL pins s σ H x y v u Q I rx ry h
  · exact op_catT pins s σ H x y v u Q I rx ry h
  · exact op_catT0 pins s σ H x y v u Q I rx ry h
theorem binD_ok {o : Bo} {x y : D} {v w : V} {B' : Addr → Prop} {Q : VK} (ob : OB O B H) (fb : ∀ b, old.fa b → H b ≠ none) (fx : Fr K B old O H v x) (fy : Fr K B old O H w y) (q : Rf (fun d => ∀ u H', Same H H' → Fr K B old O H' u d → Q u H') (binD o x y)) : rBoM K o v w H Q := by
  unfold binD at q
  split at q
  · rename_i ds es
    split at q
    · rename_i hz
      obtain ⟨a, vs, rfl, ra, hk⟩ := fx.seqD rfl
      obtain ⟨b, ws, rfl, rb, hl⟩ := fy.seqD rfl
      rcases hk with ⟨_, h1⟩ | ⟨e, _⟩
      · rcases hl with ⟨_, h2⟩ | ⟨e, _⟩
        · refine .inr ⟨rfl, .inl ⟨a, b, vs, ws, rfl, rfl, h1, h2, by rw [ra.length, rb.length, sz]; exact hz, fun p hp => q _ _ (same_upd hp) ?_⟩⟩
          refine .lst (.inl ⟨fun z => ?_, .inl upd_same⟩) ((ra.append rb).ca (Ca.grow (same_upd hp)))
          rcases z with z | z
          · exact ob_sub ob (Same.refl H) p z hp
          · exact fb p z hp
        · cases e
      · cases e
    · exact q.elim
  · rename_i ds es
    split at q
    · rename_i hz
      obtain ⟨a, vs, rfl, ra, hk⟩ := fx.seqD rfl
      obtain ⟨b, ws, rfl, rb, hl⟩ := fy.seqD rfl
      rcases hk with ⟨e, _⟩ | ⟨_, h1⟩
      · cases e
      rcases hl with ⟨e, _⟩ | ⟨_, h2⟩
      · cases e
      cases vs with
      | nil =>
        cases ra
        exact .inr ⟨rfl, .inr (.inr ⟨a, b, ws, rfl, rfl, h1, h2, q _ H (Same.refl H) (.tup h2 rb)⟩)⟩
      | cons v0 vs =>
        refine .inr ⟨rfl, .inr (.inl ⟨a, b, v0 :: vs, ws, rfl, rfl, h1, h2, (fun z => by cases z), by rw [ra.length, rb.length, sz]; exact hz, fun hw => ?_, fun hw p hp => q _ _ (same_upd hp) (.tup (SqT.of upd_same) ((ra.append rb).ca (Ca.grow (same_upd hp))))⟩)⟩
        subst hw
        cases rb
        rw [List.append_nil] at q
        exact q _ H (Same.refl H) (.tup h1 ra)
    · exact q.elim
  · rename_i i j
    cases fx
    cases fy
    left
    have b := bo_ok (K := K) o (fun _ => False) (fun _ => none) H H (.cl (.int i)) (.cl (.int j)) (.int i) (.int j) Q (fun _ => False) ⟨fun _ _ e => (by cases e), fun _ e => e.elim⟩ (Same.refl H) (Rp.int i) (Rp.int j)
    refine b ?_
    split at q
    · rename_i k e
      rw [e]
      intro u H' s' r
      cases r
      exact q _ H' s' (.int k)
    · exact q.elim
  · exact q.elim
theorem m_bin {o : Bo} {a b : EM} (iha : MM T M xa a) (ihb : MM T M xa b) : MM T M xa (.bin o a b) := MM.e (fun X W s x g h => by
  unfold okM at h
  split at h
  · rename_i x p y pos
    simp only [Bool.and_eq_true, decide_eq_true_eq] at h
    obtain ⟨⟨h1, h2⟩, h3⟩ := h
    subst h1
    obtain ⟨ta, pa, sa⟩ := iha.1 X W s x g h2
    obtain ⟨tb, pb, sb⟩ := ihb.1 X W s y g h3
    refine ⟨_, pe_op (op_boM g.py o) pa pb, fun B old O σ H η Q r q => ?_⟩
    unfold evM at q
    refine sa B old O σ H η _ r (q.bnd.imp fun p k O1 v H1 le1 r1 b1 f1 => ?_)
    refine sb B old O1 σ H1 p.2 _ r1 (k.bnd.imp fun p2 k2 O2 w H2 le2 r2 b2 f2 => ?_)
    exact binD_ok (B' := B) r2.ob r2.fb (f1.go b2 r1 le2) f2 (k2.bnd.imp fun d k3 u H' s' f => k3 O2 u H' (le2.trans le1) (r2.ext s') ((b1.trans le1 b2).trans (le2.trans le1) (SBut.of s')) f)
  · cases h) fun _ _ _ _ => rfl
theorem drawn : ∀ m : EM, MM T M xa m := by
  intro m
  induction m with
  | p e => exact m_p e
  | v i => exact m_v i
  | cs f ms ih => exact m_cs ih
  | pc f es => exact m_pc
  | tup ms ih => exact m_tup ih
  | lst ms ih => exact m_lst ih
  | idx m e ih => exact m_idx ih
  | bin o a b iha ihb => exact m_bin iha ihb
  | nil => exact m_nil
  | cons m ms ih ihs => exact m_cons ih ihs
  | ap e ms ih => exact m_ap ih
/-! ### statements -/
theorem OLe.z {xc : Nat → Prop} : True := trivial
theorem mM {m : EM} {s : Nat} {e : Expr} (g : GX T M.toNm xa X W) (h : okM M s X.N X.env.scope e m = true) : ∃ t, PE X e t ∧ SndM X s t (evM T s m) := (drawn m).1 X W s e g h
theorem asgFr_ok {i : Nat} {d : D} {v : V} (r : ER K B old O H σ η) (f : Fr K B old O H v d) (e : asgFr η i d = some η') : ER K B old (minus O i) H (σ.set i (some v)) η' := by
  unfold asgFr at e
  split at e
  · rename_i hi
    cases e
    exact r.setFr hi (f.ca (Ca.less fun a z => z.elim (fun z => .inl (own_minus z)) .inr))
  · cases e
theorem FR.rf {D : Ends} {α : Type} {η0 : Env} {r : Res α} {k : α → Fl} (h : FR K xa W B old D (Fl.of η0 r k)) (no : ∀ c, r ≠ .ex c) : Rf (fun a => FR K xa W B old D (k a)) r := by
  cases r with
  | ok a => exact h
  | ex c => exact absurd rfl (no c)
  | st => exact h
mutual
theorem evM_nx : ∀ (m : EM) (s : Nat) (η : Env) (c : Nat), evM T s m η ≠ .ex c
  | .p e, s, η, c, h => by
    unfold evM at h
    cases e1 : ev T e η with
    | ok x =>
      rw [e1] at h
      have h : (oOk x.fresh).bind (fun d => Res.ok (d, η)) = .ex c := h
      cases e2 : x.fresh with
      | none => rw [e2] at h; cases h
      | some d => rw [e2] at h; cases h
    | ex c => rw [e1] at h; cases h
    | st => rw [e1] at h; cases h
  | .v i, s, η, c, h => by
    unfold evM at h
    split at h
    · cases h
    · unfold freshV at h
      split at h <;> first | (cases h; done) | (split at h <;> cases h)
  | .cs f ms, s, η, c, h => by
    unfold evM at h
    cases e0 : stOf η s with
    | none => rw [e0] at h; cases h
    | some x0 =>
    rw [e0] at h
    have h : ((evMs T s ms η).bind fun p => (oOk (stOf p.2 s)).bind fun xs => (T.S f xs p.1).sure.bind fun q => Res.ok (q.1, p.2.set s (some (.st q.2)))) = .ex c := h
    cases e1 : evMs T s ms η with
    | ok p =>
      rw [e1] at h
      have h : ((oOk (stOf p.2 s)).bind fun xs => (T.S f xs p.1).sure.bind fun q => Res.ok (q.1, p.2.set s (some (.st q.2)))) = .ex c := h
      cases e2 : stOf p.2 s with
      | none => rw [e2] at h; cases h
      | some xs =>
        rw [e2] at h
        have h : ((T.S f xs p.1).sure.bind fun q => Res.ok (q.1, p.2.set s (some (.st q.2)))) = .ex c := h
        cases e3 : T.S f xs p.1 with
        | ok q => rw [e3] at h; cases h
        | ex c => rw [e3] at h; cases h
        | st => rw [e3] at h; cases h
    | ex c' => exact evMs_nx ms s η c' e1
    | st => rw [e1] at h; cases h
  | .pc f es, s, η, c, h => by
    unfold evM at h
    cases e1 : evs T es η with
    | ok xs =>
      rw [e1] at h
      have h : ((T.G f (xs.map Val.d)).sure.bind fun d => Res.ok (d, η)) = .ex c := h
      cases e3 : T.G f (xs.map Val.d) with
      | ok q => rw [e3] at h; cases h
      | ex c => rw [e3] at h; cases h
      | st => rw [e3] at h; cases h
    | ex c => rw [e1] at h; cases h
    | st => rw [e1] at h; cases h
  | .tup ms, s, η, c, h => by
    unfold evM at h
    cases e1 : evMs T s ms η with
    | ok p => rw [e1] at h; cases h
    | ex c' => exact evMs_nx ms s η c' e1
    | st => rw [e1] at h; cases h
  | .lst ms, s, η, c, h => by
    unfold evM at h
    cases e1 : evMs T s ms η with
    | ok p => rw [e1] at h; cases h
    | ex c' => exact evMs_nx ms s η c' e1
    | st => rw [e1] at h; cases h
  | .idx m e, s, η, c, h => by
    unfold evM at h
    cases e1 : evM T s m η with
    | ok p =>
      rw [e1] at h
      have h : ((ev T e p.2).sure.bind fun y => (idxD p.1 y).bind fun d => Res.ok (d, p.2)) = .ex c := h
      cases e2 : ev T e p.2 with
      | ok y =>
        rw [e2] at h
        have h : ((idxD p.1 y).bind fun d => Res.ok (d, p.2)) = .ex c := h
        cases e3 : idxD p.1 y with
        | ok d => rw [e3] at h; cases h
        | ex c' =>
          unfold idxD at e3
          split at e3
          · generalize atI _ _ = z at e3
            cases z <;> cases e3
          · generalize atI _ _ = z at e3
            cases z <;> cases e3
          · cases e3
        | st => rw [e3] at h; cases h
      | ex c => rw [e2] at h; cases h
      | st => rw [e2] at h; cases h
    | ex c' => exact evM_nx m s η c' e1
    | st => rw [e1] at h; cases h
  | .bin o a b, s, η, c, h => by
    unfold evM at h
    cases e1 : evM T s a η with
    | ok p =>
      rw [e1] at h
      have h : ((evM T s b p.2).bind fun q => (binD o p.1 q.1).bind fun d => Res.ok (d, q.2)) = .ex c := h
      cases e2 : evM T s b p.2 with
      | ok q =>
        rw [e2] at h
        have h : ((binD o p.1 q.1).bind fun d => Res.ok (d, q.2)) = .ex c := h
        cases e3 : binD o p.1 q.1 with
        | ok d => rw [e3] at h; cases h
        | ex c' =>
          unfold binD at e3
          split at e3
          · split at e3 <;> cases e3
          · split at e3 <;> cases e3
          · split at e3 <;> cases e3
          · cases e3
        | st => rw [e3] at h; cases h
      | ex c' => exact evM_nx b s p.2 c' e2
      | st => rw [e2] at h; cases h
    | ex c' => exact evM_nx a s η c' e1
    | st => rw [e1] at h; cases h
  | .nil, s, η, c, h => by unfold evM at h; cases h
  | .cons _ _, s, η, c, h => by unfold evM at h; cases h
  | .ap _ _, s, η, c, h => by unfold evM at h; cases h
theorem evMs_nx : ∀ (m : EM) (s : Nat) (η : Env) (c : Nat), evMs T s m η ≠ .ex c
  | .nil, s, η, c, h => by unfold evMs at h; cases h
  | .cons m ms, s, η, c, h => by
    unfold evMs at h
    cases e1 : evM T s m η with
    | ok p =>
      rw [e1] at h
      have h : ((evMs T s ms p.2).bind fun q => Res.ok (p.1 :: q.1, q.2)) = .ex c := h
      cases e2 : evMs T s ms p.2 with
      | ok q => rw [e2] at h; cases h
      | ex c' => exact evMs_nx ms s p.2 c' e2
      | st => rw [e2] at h; cases h
    | ex c' => exact evM_nx m s η c' e1
    | st => rw [e1] at h; cases h
  | .ap e ms, s, η, c, h => by
    unfold evMs at h
    cases e1 : ev T e η with
    | ok x =>
      rw [e1] at h
      have h : (if x.offS s = true then (evMs T s ms η).bind fun q => Res.ok (x.d :: q.1, q.2) else .st) = .ex c := h
      split at h
      · cases e2 : evMs T s ms η with
        | ok q => rw [e2] at h; cases h
        | ex c' => exact evMs_nx ms s η c' e2
        | st => rw [e2] at h; cases h
      · cases h
    | ex c => rw [e1] at h; cases h
    | st => rw [e1] at h; cases h
  | .p _, s, η, c, h => by unfold evMs at h; cases h
  | .v _, s, η, c, h => by unfold evMs at h; cases h
  | .cs _ _, s, η, c, h => by unfold evMs at h; cases h
  | .pc _ _, s, η, c, h => by unfold evMs at h; cases h
  | .tup _, s, η, c, h => by unfold evMs at h; cases h
  | .lst _, s, η, c, h => by unfold evMs at h; cases h
  | .idx _ _, s, η, c, h => by unfold evMs at h; cases h
  | .bin _ _ _, s, η, c, h => by unfold evMs at h; cases h
end
theorem f_asgM {s i : Nat} {m : EM} : SS T M xa (.asgM s i m) := by
  intro X W st g h
  unfold okS at h
  split at h
  · rename_i x p v pos
    simp only [Bool.and_eq_true] at h
    obtain ⟨⟨h1, h2⟩, h3⟩ := h
    obtain ⟨t, pt, st⟩ := mM g.toGX h2
    obtain ⟨k1, k2⟩ := nameB_of h1
    refine ⟨_, ps_set g.nd k1 k2 pt (by cases v <;> first | rfl | (cases h3)) (.inl (g.fnT x)), fun B old O σ H η D r q => ?_⟩
    unfold exS at q
    refine st B old O σ H η _ r ((q.rf (evM_nx _ _ _)).imp fun p k O1 v H1 le1 r1 b1 f1 => ?_)
    obtain ⟨η', e1, k⟩ := k.on
    exact k _ _ _ (asgFr_ok r1 f1 e1)
  · cases h
theorem asgFrL_ok : ∀ {is : List Nat} {vs : List V} {ds : List D} {O : Ow} {σ : L2.St} {H : Hp} {η η' : Env} {Q : L2.St → Hp → Prop}, ER K B old O H σ η → RpAll K (fun b => Own O B b ∨ old.fa b) H vs ds → asgFrL η is ds = some η' →
    (∀ O σ, ER K B old O H σ η' → Q σ H) → gNames is vs σ H Q
  | [], _, [], O, σ, H, η, η', Q, r, .nil, e, k => by
    cases e
    exact ⟨rfl, k _ _ r⟩
  | i :: is, _, d :: ds, O, σ, H, η, η', Q, r, .cons rv rs, e, k => by
    rename_i v vs
    unfold asgFrL at e
    cases e1 : asgFr η i d with
    | none => rw [e1] at e; cases e
    | some η1 =>
      rw [e1] at e
      exact ⟨v, vs, rfl, asgFrL_ok (asgFr_ok r rv e1) (rs.ca (Ca.less fun a z => z.elim (fun z => .inl (own_minus z)) .inr)) e k⟩
  | [], _, _ :: _, _, _, _, _, _, _, _, _, e, _ => by cases e
  | _ :: _, _, [], _, _, _, _, _, _, _, _, e, _ => by cases e
theorem asgFrL_len : ∀ {is : List Nat} {η η' : Env} {ds : List PyData}, asgFrL η is ds = some η' → is.length = ds.length
  | [], _, _, [], _ => rfl
  | i :: is, η, η', d :: ds, e => by
    unfold asgFrL at e
    cases e1 : asgFr η i d with
    | none => rw [e1] at e; cases e
    | some η1 =>
      rw [e1] at e
      have e : asgFrL η1 is ds = some η' := e
      simp [asgFrL_len e]
  | [], _, _, _ :: _, e => by cases e
  | _ :: _, _, _, [], e => by cases e
theorem f_asgTM {s : Nat} {is : List Nat} {m : EM} : SS T M xa (.asgTM s is m) := by
  intro X W st g h
  unfold okS at h
  split at h
  · rename_i ts k p v pos
    simp only [Bool.and_eq_true, Bool.not_eq_true'] at h
    obtain ⟨⟨h1, h2⟩, h3⟩ := h
    obtain ⟨t, pt, st⟩ := mM g.toGX h2
    obtain ⟨l1, l2⟩ := names_each (env := X.env) h1
    have hs : swapsWithSole [.Tuple ts k p] v pos.line X.env = pure false := by cases v <;> rfl
    have hw : swappedStores [.Tuple ts k p] v X.env = pure none := by
      cases v with
      | Tuple vs k2 p2 => cases h3
      | _ => rfl
    refine ⟨_, ps_asg pt (pg_tup g.calm (pgs_names g h1) l1 l2) hs hw, fun B old O σ H η D r q => ?_⟩
    unfold exS at q
    refine st B old O σ H η _ r ((q.rf (evM_nx _ _ _)).imp fun p k O1 v H1 le1 r1 b1 f1 => ?_)
    obtain ⟨ds, e1, k⟩ := k.on
    obtain ⟨η', e2, k⟩ := k.on
    unfold tupOf at e1
    split at e1
    · rename_i d ds' e3
      cases e1
      have e3 := Val.cl.inj e3
      rw [e3] at f1
      cases f1 with
      | tup ht ra =>
        refine ⟨_, _, rfl, ht, ?_, asgFrL_ok r1 ra e2 fun O' σ' r' => k _ _ _ r'⟩
        rw [ra.length, asgFrL_len e2]
    · cases e1
  · cases h
theorem sure_nx {α : Type} {r : Res α} : ∀ c, r.sure ≠ .ex c := fun c => by cases r <;> exact fun z => nomatch z
theorem f_iteM {s : Nat} {o : Co} {m : EM} {e : E} {a b : S} (iha : SSs T M xa a) (ihb : SSs T M xa b) : SS T M xa (.iteM s o m e a b) := by
  intro X W st g h
  unfold okS at h
  split at h
  · rename_i x p y cp u w pos
    simp only [Bool.and_eq_true, decide_eq_true_eq] at h
    obtain ⟨⟨⟨⟨h0, h1⟩, h2⟩, h3⟩, h4⟩ := h
    subst h0
    obtain ⟨tm, pm, sm⟩ := mM g.toGX h1
    obtain ⟨te, pe, se⟩ := exE g.toGX h2
    obtain ⟨ta, pa, sa⟩ := iha X W _ g h3
    obtain ⟨tb, pb, sb⟩ := ihb X W _ g h4
    obtain ⟨k, room, _⟩ := g.lv
    have pt := pt_cmpR (pos := cp) (op_co (X := X) (by have := room.un; omega) o) pm pe (marks_of _ h2)
    refine ⟨_, ps_if pt pa pb, fun B old O σ H η D r q => ?_⟩
    unfold exS at q
    refine sm B old O σ H η _ r ((q.rf (evM_nx _ _ _)).imp fun p k O1 v H1 le1 r1 b1 f1 => ?_)
    have k1 := k.rf sure_nx
    have k2 : Rf (fun y => FR X.K xa W B old D (Fl.of p.2 (intOf (.cl p.1)) fun i => Fl.of p.2 (intOf y) fun j => Fl.of p.2 (cmpV o (.cl (.int i)) (.cl (.int j))).sure fun k => if k = true then exS T a p.2 else exS T b p.2)) (ev T e p.2).sure := k1
    refine se B old O1 σ H1 p.2 _ r1 ?_
    cases e1 : ev T e p.2 with
    | ex c => rw [e1] at k2; exact k2.elim
    | st => rw [e1] at k2; exact k2.elim
    | ok y =>
      rw [e1] at k2
      intro w H2 s2 vy
      have k3 : FR X.K xa W B old D (Fl.of p.2 (intOf (.cl p.1)) fun i => Fl.of p.2 (intOf y) fun j => Fl.of p.2 (cmpV o (.cl (.int i)) (.cl (.int j))).sure fun k => if k = true then exS T a p.2 else exS T b p.2) := k2
      have hi : ∃ i, p.1 = .int i := by
        unfold intOf at k3
        split at k3
        · rename_i i e3
          exact ⟨i, Val.cl.inj e3⟩
        · exact k3.elim
      obtain ⟨i, ei⟩ := hi
      rw [ei] at k3 f1
      cases f1
      obtain ⟨j, ej, ey, k4⟩ := int_ok vy (FR.of k3)
      subst ej
      have k5 := FR.of k4
      have hb := co_ok (K := X.K) o (fun _ => False) (fun _ => none) H2 H2 (.cl (.int i)) (.cl (.int j)) (.int i) (.int j)
      cases e5 : cmpV o (.cl (.int i)) (.cl (.int j)) with
      | ex c => rw [e5] at k5; exact k5.elim
      | st => rw [e5] at k5; exact k5.elim
      | ok c =>
        rw [e5] at k5
        refine hb _ (fun _ => False) ⟨fun _ _ e => (by cases e), fun _ e => e.elim⟩ (Same.refl H2) (Rp.int i) (Rp.int j) ?_
        rw [e5]
        refine ⟨c, rfl, ?_⟩
        have k6 : FR X.K xa W B old D (if c = true then exS T a p.2 else exS T b p.2) := k5
        cases c with
        | true => exact iteT (sa _ _ _ _ _ _ _ (r1.ext s2) k6)
        | false => exact iteF (sb _ _ _ _ _ _ _ (r1.ext s2) k6)
  · cases h
theorem f_foM {s v : Nat} {m : EM} {b : S} (ihb : SSs T M xa b) : SS T M xa (.foM s v m b) := by
  intro X W st g h
  unfold okS at h
  split at h
  · rename_i y py r pr x cp u pos
    simp only [Bool.and_eq_true, decide_eq_true_eq] at h
    obtain ⟨⟨⟨⟨h1, h0⟩, h2⟩, h3⟩, h4⟩ := h
    subst h0
    obtain ⟨tm, pm, sm⟩ := mM g.toGX h3
    obtain ⟨tb, pb, sb⟩ := ihb X W _ g h4
    have e1 : starEach [x] X.env = [(false, eval x X.env)] := starM_of h3 _ _
    have pi := pi_range1 (tg := .Name y py) (pos := cp) (p := pr) (gl_of h2) (g.blt _ (by decide)) (pa_cons pm pa_nil e1) e1
    refine ⟨_, ps_for g.po g.calm pi (pg_name g.nd (nameB_of h1).1 (nameB_of h1).2 (.inl (g.fnT y))) pb (fun _ => rfl), fun B old O σ H η D r q => ?_⟩
    unfold exS at q
    refine sm B old O σ H η _ r ((q.rf (evM_nx _ _ _)).imp fun p k O1 v1 H1 le1 r1 b1 f1 => ?_)
    have hi : ∃ i, p.1 = .int i := by
      unfold intOf at k
      split at k
      · rename_i i e3
        exact ⟨i, Val.cl.inj e3⟩
      · exact k.elim
    obtain ⟨i, ei⟩ := hi
    rw [ei] at k f1
    cases f1
    have k : FR X.K xa W B old D (if small i then loopF (fun d η => Fl.on (asgV η v (.cl d)) (exS T b)) (rngD 0 i.toNat) p.2 else .st) := k
    split at k
    · rename_i hs
      obtain ⟨b1', b2'⟩ := small_of hs
      refine ⟨i, rfl, b1', b2', ?_⟩
      exact for_ok (old := old) (old' := old) ⟨rfl, rfl, rfl⟩ (fun _ _ _ _ r => r) (fun O σ H η i r => walk_r i) r1 k (fun O σ H η x d En' r rx q => by
        obtain ⟨η', e1, q⟩ := q.on
        obtain ⟨O', r'⟩ := r.asg (x := .cl d) (Same.refl H) rx e1
        exact sb _ _ _ _ _ _ _ r' q)
    · exact k.elim
  · cases h
theorem f_retM {s : Nat} {m : EM} : SS T M xa (.retM s m) := by
  intro X W st g h
  unfold okS at h
  split at h
  · obtain ⟨t, pt, st⟩ := mM g.toGX h
    refine ⟨_, ps_ret pt, fun B old O σ H η D r q => ?_⟩
    unfold exS at q
    split at q
    · rename_i hs0
      subst hs0
      refine st B old O σ H η _ r ((q.rf (evM_nx _ _ _)).imp fun p k O1 v1 H1 le1 r1 b1 f1 => ?_)
      obtain ⟨xs, e1, k⟩ := k.on
      obtain ⟨hs, d, a, q0, q1, q2, q3, q4⟩ := stOf_ok r1 e1
      refine k v1 H1 r1.same (fun l b el e => ?_) (f1.ca (Ca.less fun b e => ?_))
      · cases el
        rw [q4 rfl b e]; exact q3
      · rcases e with e | ⟨_, e⟩
        · exact .inr e
        · rw [q4 rfl b e]; exact .inl (.inl ⟨0, q0⟩)
    · exact q.elim
  · cases h
theorem f_retF {m : EM} : SS T M xa (.retF m) := by
  intro X W st g h
  unfold okS at h
  split at h
  · obtain ⟨t, pt, st⟩ := mM g.toGX h
    refine ⟨_, ps_ret pt, fun B old O σ H η D r q => ?_⟩
    unfold exS at q
    refine st B old O σ H η _ r ((q.rf (evM_nx _ _ _)).imp fun p k O1 v1 H1 le1 r1 b1 f1 => ?_)
    refine k v1 H1 r1.same (fun l b el e => by cases el) (f1.ca (Ca.less fun b e => ?_))
    rcases e with e | ⟨e, _⟩
    · exact .inr e
    · exact absurd rfl e
  · cases h
theorem newList_ok {v : V} {x : Val} {ds : List D} (r : VR K B O H H' v x) (e : newList x = some ds) : ∃ a vs, v = .ref a ∧ H a = none ∧ H' a = some (.lst vs) ∧ RpAll K (fun b => Own O B b ∨ b = a) H' vs ds := by
  cases x with
  | nw ds =>
    cases e
    exact r
  | _ => cases e
theorem bm_ext (g : GS T M xa X W) {x : Str} {i : Nat} {e : E} {v : Expr} {p ap cp : Pos} (h1 : nameB X.N X.env.scope x i = true) (h2 : okName x = true) (h3 : okE M.toNm X.N X.env.scope v e = true) (h4 : ap.endLine = cp.line) :
    ∃ t, PE X (.Call (.Attribute (.Name x p) "extend" ap) [v] [] cp) (tBM X.K "list" rExtend (tVar i) (tCons t tNil)) ∧ Snd xa X W t (ev T e) := by
  obtain ⟨t, pt, st⟩ := exE g.toGX h3
  have e1 : starEach [v] X.env = [(false, eval v X.env)] := star_of h3 _ _
  refine ⟨t, pe_bm PySem.F.plainAttrs_list PySem.F.slot_list_extend PySem.F.type_list_extend mt_extend (pe_nm g h1 h2) (pa_cons pt pa_nil e1) rfl ?_ (by rw [h4]; simp) e1 rfl, st⟩
  rw [e1]
  rfl
theorem f_ext {i : Nat} {e : E} : SS T M xa (.ext i e) := by
  intro X W st g h
  unfold okS at h
  split at h
  · rename_i x p m ap v cp pos
    simp only [Bool.and_eq_true, decide_eq_true_eq] at h
    obtain ⟨⟨⟨⟨h1, h2⟩, h3⟩, h4⟩, h5⟩ := h
    subst h3
    obtain ⟨t, pt, st⟩ := bm_ext g (p := p) h1 h2 h4 h5
    refine ⟨_, ps_expr pt rfl, fun B old O σ H η D r q => ?_⟩
    unfold exS at q
    obtain ⟨ds, e1, q⟩ := q.on
    obtain ⟨hi, a, vs, a1, a2, a3, a4⟩ := owOf_ok r e1
    refine ⟨_, a2, .inl ⟨rfl, _, SqL.of a3⟩, st B old O σ H η _ r (q.of.imp fun y q v1 H1 s1 vy => ?_)⟩
    obtain ⟨es, e2, q⟩ := q.on
    split at q
    · rename_i hb
      have ra := a4.ca (Ca.grow (K := X.K) (A := Own O B) s1)
      obtain ⟨b, ws, rfl, b1, b2, b3⟩ := newList_ok vy e2
      exact ⟨a, b, vs, ws, rfl, rfl, s1 _ _ a3, b2, by rw [ra.length, b3.length, sz]; exact hb, q _ _ _ ((r.ext s1).mut hi a1 (s1 _ _ a3) (ra.append (b3.ca (Ca.less fun _ z => .inl z))))⟩
    · exact q.elim
  · cases h
theorem f_mkSt {i : Nat} {e : E} : SS T M xa (.mkSt i e) := by
  intro X W st g h
  unfold okS at h
  split at h
  · rename_i x p k k1 k2 v p2 pos
    simp only [Bool.and_eq_true, decide_eq_true_eq] at h
    obtain ⟨⟨h1, hk⟩, h2⟩ := h
    subst hk
    obtain ⟨t, pt, st⟩ := exE g.toGX h2
    have pd : PE X (.Dict [some (.Constant (.str "xs") k1 k2)] [v] p2) (tDisp [(tC (.str "xs"), t)]) := pe_disp (pps_cons pe_str pt pps_nil) rfl rfl (by simp) (show 1 ≤ 15 by decide)
    refine ⟨_, ps_set g.nd (nameB_of h1).1 (nameB_of h1).2 pd rfl (.inl (g.fnT x)), fun B old O σ H η D r q => ?_⟩
    unfold exS at q
    split at q
    · exact q.elim
    rename_i hi0
    intro p hp
    have s0 : Same H (upd H p (.dK [])) := same_upd hp
    refine st B old O σ _ η _ (r.ext s0) (q.of.imp fun x k w H1 s1 vx => ?_)
    obtain ⟨ns, en, k⟩ := k.on
    split at k
    · rename_i hi
      obtain ⟨a, rfl, ha, ha'⟩ := newInts_ok vx en
      refine ⟨s1 _ _ upd_same, [(.inr "xs", .ref a)], rfl, (show 1 ≤ 15 by decide), ?_⟩
      have em : mergeK [] [((Sum.inr "xs" : Key), V.ref a)] = [(.inr "xs", .ref a)] := rfl
      rw [em]
      have hpa : a ≠ p := fun z => by rw [z, upd_same] at ha; cases ha
      have s2 : Same H (upd H1 p (stO a)) := fun b o e => by
        have nb : b ≠ p := fun z => by rw [z, hp] at e; cases e
        rw [upd_ne nb]
        exact s1 _ _ (by rw [upd_ne nb]; exact e)
      have hfa : H a = none := by rw [upd_ne hpa] at ha; exact ha
      refine k _ _ _ (r.setO (v0 := p) (x := .st ns) hi s2 hfa rfl ⟨p, a, by unfold plus; rw [if_pos rfl], List.getElem?_set_self (by rw [r.len]; exact hi), upd_same, by rw [upd_ne hpa]; exact ha', fun z => absurd z hi0⟩)
    · exact k.elim
  · cases h
theorem xs_pe {g : GX T M.toNm xa X W} {e : Expr} (h : okXs X.N X.env.scope e = true) : ∃ t, PE X e t ∧ ∀ σ H Q d a, σ[0]? = some (some (.ref d)) → H d = some (stO a) → Q (.ref a) H → t σ H Q := by
  unfold okXs at h
  split at h
  · rename_i z zp k k1 k2 p
    simp only [Bool.and_eq_true, decide_eq_true_eq] at h
    obtain ⟨⟨⟨h1, h2⟩, h3⟩, hk⟩ := h
    subst hk
    obtain ⟨n, room, _⟩ := g.lv
    have hu : X.A.units + 1 < cLine := by
      have := room.units
      omega
    refine ⟨_, pe_dget hu (pe_var (pos := zp) h1 (vis_of h2) (name_of h3).1 (name_of h3).2) pe_str (fun _ _ => rfl), fun σ H Q d a e1 e2 q => ?_⟩
    exact ⟨_, e1, d, _, rfl, DGet.k (k := Sum.inr "xs") e2, q⟩
  · cases h
theorem shapedI (ns : List Int) : SeqAt.shaped (.list (ns.map .int)) = true := by
  have h1 : ∀ ns : List Int, PyData.canLayAll0 (ns.map .int) = true := by
    intro ns
    induction ns with
    | nil => rfl
    | cons n ns ih => simpa [PyData.canLayAll0, PyData.canLay0] using ih
  have h2 : ∀ ns : List Int, PyData.depthAll (ns.map .int) = 0 := by
    intro ns
    induction ns with
    | nil => rfl
    | cons n ns ih => simpa [PyData.depthAll, PyData.depth] using ih
  unfold SeqAt.shaped
  simp [PyData.canLay0, PyData.depth, h1, h2]
theorem f_pick1 : SS T M xa .pick1 := by
  intro X W st g h
  unfold okS at h
  split at h
  · rename_i x lp cp n c1 c2 rp pos
    simp only [Bool.and_eq_true, decide_eq_true_eq] at h
    obtain ⟨h1, h2⟩ := h
    subst h2
    obtain ⟨t, pt, st⟩ := xs_pe (g := g.toGX) h1
    obtain ⟨k, room, _⟩ := g.lv
    have pc := pt_cmpR (pos := cp) (op_co (X := X) (by have := room.un; omega) .eq) pt (pe_lst (pos := lp) pa_nil) rfl
    refine ⟨_, ps_if (pos := pos) pc (pss_one (ps_ret (pe_int (pos := c2)))) pss_nil, fun B old O σ H η D r q => ?_⟩
    unfold exS at q
    obtain ⟨xs, e1, q⟩ := q.on
    obtain ⟨hs, d, a, q0, q1, q2, q3, q4⟩ := stOf_ok r e1
    refine st σ H _ d a q1 q2 ⟨Nat.zero_le _, fun p hp => ?_⟩
    have hb := co_ok (K := X.K) .eq (fun _ => False) (fun _ => none) (upd H p (.lst [])) (upd H p (.lst [])) (.cl (.list (xs.map .int))) (.cl (.list [])) (.ref a) (.ref p)
    have na : a ≠ p := ne_of_none q3 hp
    refine hb _ (fun _ => False) ⟨fun _ _ e => (by cases e), fun _ e => e.elim⟩ (Same.refl _) (.lst (.inl ⟨fun z => z.elim (fun ⟨_, z⟩ => by cases z) id, .inl (by rw [upd_ne na]; exact q3)⟩) (RpAll.ints xs)) (.lst (.inl ⟨fun z => z.elim (fun ⟨_, z⟩ => by cases z) id, .inl upd_same⟩) .nil) ?_
    have ee : cmpV .eq (.cl (.list (xs.map .int))) (.cl (.list [])) = .ok (xs.isEmpty) := by
      show eqD (.list (xs.map .int)) (.list []) = _
      have : eqD (.list (xs.map .int)) (.list []) = if SeqAt.shaped (.list (xs.map .int)) = true ∧ SeqAt.shaped (.list []) = true then .ok (PyData.eqv (.list (xs.map .int)) (.list [])) else .st := rfl
      rw [this, if_pos ⟨shapedI xs, by decide⟩]
      cases xs <;> rfl
    rw [ee]
    refine ⟨_, rfl, ?_⟩
    cases xs with
    | nil =>
      refine iteT (q (.int 0) _ (r.same.trans (same_upd hp)) (fun l b el e => ?_) (.int 0))
      cases el
      rw [q4 rfl b e, upd_ne na]
      exact q3
    | cons x xs => exact iteF (q O σ _ (r.ext (same_upd hp)))
  · cases h
theorem f_pick2 : SS T M xa .pick2 := by
  intro X W st g h
  unfold okS at h
  split at h
  · rename_i a b p m ap cp pos
    simp only [Bool.and_eq_true, decide_eq_true_eq] at h
    obtain ⟨⟨h1, h2⟩, h3⟩ := h
    subst h2
    obtain ⟨t, pt, st⟩ := xs_pe (g := g.toGX) h1
    refine ⟨_, ps_ret (pe_bm0 (apos := ap) (cpos := cp) PySem.F.plainAttrs_list PySem.F.slot_list_pop PySem.F.type_list_pop mt_pop pt rfl (by rw [h3]; simp)), fun B old O σ H η D r q => ?_⟩
    unfold exS at q
    obtain ⟨xs, e1, q⟩ := q.on
    obtain ⟨x, e2, q⟩ := q.on
    obtain ⟨hs, d, a, q0, q1, q2, q3, q4⟩ := stOf_ok r e1
    refine st σ H _ d a q1 q2 ⟨.inl ⟨rfl, _, SqL.of q3⟩, a, _, .int x, rfl, rfl, q3, ?_, ?_⟩
    · rw [List.length_map, List.getElem?_map, ← List.getLast?_eq_getElem?, e2]
      rfl
    · have sx : ∀ b o, b ≠ a → H b = some o → (upd H a (.lst ((xs.map V.int).dropLast))) b = some o := fun b o nb e => by rw [upd_ne nb]; exact e
      refine q (.int x) _ (fun b o e => ?_) (fun l b el e => ?_) (.int x)
      · have nb : b ≠ a := fun z => by rw [z, r.fr 0 a q0] at e; cases e
        exact sx b o nb (r.same b o e)
      · cases el
        rw [q4 rfl b e, upd_same, List.map_dropLast]
  · cases h
/-! ### all statements -/
theorem stmts : ∀ x : S, SS T M xa x ∧ SSs T M xa x := by
  have no : ∀ {x : S}, (∀ N sc sts, okSs M N sc sts x = false) → SSs T M xa x := fun h X W st g k => by rw [h] at k; cases k
  intro x
  induction x with
  | skip => exact ⟨f_skip, f_nil⟩
  | seq a b iha ihb => exact ⟨fun X W st g k => Bool.noConfusion (show false = true from k), f_seq iha.1 ihb.2⟩
  | asg i e => exact ⟨f_asg, no fun _ _ _ => rfl⟩
  | asgT is e => exact ⟨f_asgT, no fun _ _ _ => rfl⟩
  | asgN is e => exact ⟨f_asgN, no fun _ _ _ => rfl⟩
  | par i j a b => exact ⟨f_par, no fun _ _ _ => rfl⟩
  | put i k e => exact ⟨f_put, no fun _ _ _ => rfl⟩
  | aput i o k e => exact ⟨f_aput, no fun _ _ _ => rfl⟩
  | aug i o e => exact ⟨f_aug, no fun _ _ _ => rfl⟩
  | app i e => exact ⟨f_app, no fun _ _ _ => rfl⟩
  | pop i => exact ⟨f_pop, no fun _ _ _ => rfl⟩
  | popA j i => exact ⟨f_popA, no fun _ _ _ => rfl⟩
  | asgP j e i => exact ⟨f_asgP, no fun _ _ _ => rfl⟩
  | popT js i => exact ⟨f_popT, no fun _ _ _ => rfl⟩
  | ex e => exact ⟨f_ex, no fun _ _ _ => rfl⟩
  | ret e => exact ⟨f_ret, no fun _ _ _ => rfl⟩
  | ret0 => exact ⟨f_ret0, no fun _ _ _ => rfl⟩
  | ite c a b iha ihb => exact ⟨f_ite iha.2 ihb.2, no fun _ _ _ => rfl⟩
  | wh c b ih => exact ⟨f_wh ih.2, no fun _ _ _ => rfl⟩
  | fo v it b ih => exact ⟨f_fo ih.2, no fun _ _ _ => rfl⟩
  | foT vs it b ih => exact ⟨f_foT ih.2, no fun _ _ _ => rfl⟩
  | brk => exact ⟨f_brk, no fun _ _ _ => rfl⟩
  | cnt => exact ⟨f_cnt, no fun _ _ _ => rfl⟩
  | rai c => exact ⟨f_rai, no fun _ _ _ => rfl⟩
  | tryN b x h ihb ihh => exact ⟨f_tryN ihb.2, no fun _ _ _ => rfl⟩
  | tryA b x i h ihb => exact ⟨f_tryA ihb.2, no fun _ _ _ => rfl⟩
  | tryK b x i j ihb => exact ⟨f_tryK ihb.2, no fun _ _ _ => rfl⟩
  | foE p vs e b ih => exact ⟨f_foE ih.2, no fun _ _ _ => rfl⟩
  | asgQ is js e => exact ⟨f_asgQ, no fun _ _ _ => rfl⟩
  | fod v i b ih => exact ⟨f_fod ih.2, no fun _ _ _ => rfl⟩
  | fodT vs i b ih => exact ⟨f_fodT ih.2, no fun _ _ _ => rfl⟩
  | asgK i es => exact ⟨f_asgK, no fun _ _ _ => rfl⟩
  | asgKs i ks => exact ⟨f_asgKs, no fun _ _ _ => rfl⟩
  | dputE i es e => exact ⟨f_dputE, no fun _ _ _ => rfl⟩
  | dputV i j e => exact ⟨f_dputV, no fun _ _ _ => rfl⟩
  | dputI i j k e => exact ⟨f_dputI, no fun _ _ _ => rfl⟩
  | ext i e => exact ⟨f_ext, no fun _ _ _ => rfl⟩
  | asgM s i m => exact ⟨f_asgM, no fun _ _ _ => rfl⟩
  | asgTM s is m => exact ⟨f_asgTM, no fun _ _ _ => rfl⟩
  | iteM s o m e a b iha ihb => exact ⟨f_iteM iha.2 ihb.2, no fun _ _ _ => rfl⟩
  | foM s v m b ih => exact ⟨f_foM ih.2, no fun _ _ _ => rfl⟩
  | retM s m => exact ⟨f_retM, no fun _ _ _ => rfl⟩
  | retF m => exact ⟨f_retF, no fun _ _ _ => rfl⟩
  | mkSt i e => exact ⟨f_mkSt, no fun _ _ _ => rfl⟩
  | pick1 => exact ⟨f_pick1, no fun _ _ _ => rfl⟩
  | pick2 => exact ⟨f_pick2, no fun _ _ _ => rfl⟩
end
end PD

/-! PD8: defs, a program's table, the law's call. -/
namespace PD
open PySem PySem.Spec PyProof.Rows L2

/-- a def: its name, its names (parameters first), how many parameters, its body -/
structure Fi where
  name : Str
  N : List Str
  np : Nat
  body : S
  /-- the first name is a state -/
  st : Bool := false
  /-- nobody owns its answers -/
  sh : Bool := false
structure Pr where
  fs : List Fi
  gl : List (Str × D)
  ex : List Str
  ct : List Nat
  hx : Bool
  on : Bool
def Pr.nx (p : Pr) : Nx where
  fn := fun f => match p.fs[f]? with
    | some fi => if fi.st = true then none else some (fi.name, fi.np)
    | none => none
  sn := fun f => match p.fs[f]? with
    | some fi => if fi.st = true then some (fi.name, fi.np) else none
    | none => none
  gl := fun g => (p.gl[g]?).map (·.1)
  ex := fun c => p.ex[c]?
  ct := fun c => if c ∈ p.ct then p.ex[c]? else none
  hx := p.hx
  on := p.on
def env0 (fi : Fi) (ds : List D) : Env := (ds.map fun d => some (.sh d)) ++ List.replicate (fi.N.length - fi.np) none
def envS (fi : Fi) (xs : List Int) (ds : List D) : Env := some (.st xs) :: ((ds.map fun d => some (.sh d)) ++ List.replicate (fi.N.length - fi.np) none)
def finF : Fl → Res D
  | .nx _ => .ok .none
  | .rt d => .ok d
  | .ex c _ => .ex c
  | _ => .st
def finG : Fl → Res D
  | .rs d none => .ok d
  | f => finF f
def finS : Fl → Res (D × List Int)
  | .rs d (some xs) => .ok (d, xs)
  | _ => .st
def Pr.sh (p : Pr) (f : Nat) : Bool := match p.fs[f]? with
  | some fi => fi.sh
  | none => false
mutual
noncomputable def runF (p : Pr) : Nat → Nat → List D → Res D
  | 0, _, _ => .st
  | n + 1, f, ds => match p.fs[f]? with
    | none => .st
    | some fi => if fi.st = true then .st else if ds.length = fi.np then (if fi.sh = true then finG else finF) (exS ⟨runF p n, fun g => (p.gl[g]?).map (·.2), p.ex, runS p n, p.sh⟩ fi.body (env0 fi ds)) else .st
noncomputable def runS (p : Pr) : Nat → Nat → List Int → List D → Res (D × List Int)
  | 0, _, _, _ => .st
  | n + 1, f, xs, ds => match p.fs[f]? with
    | none => .st
    | some fi => if fi.st = true then (if ds.length + 1 = fi.np then finS (exS ⟨runF p n, fun g => (p.gl[g]?).map (·.2), p.ex, runS p n, p.sh⟩ fi.body (envS fi xs ds)) else .st) else .st
end
noncomputable def tbl (p : Pr) (n : Nat) : Tb := ⟨runF p n, fun g => (p.gl[g]?).map (·.2), p.ex, runS p n, p.sh⟩
theorem runF_eqG (p : Pr) (n f : Nat) (fi : Fi) (ds : List D) (h : p.fs[f]? = some fi) (hl : ds.length = fi.np) (hs : fi.st = false) : runF p (n + 1) f ds = (if fi.sh = true then finG else finF) (exS (tbl p n) fi.body (env0 fi ds)) := by
  rw [runF, h]
  dsimp only
  rw [if_neg (by rw [hs]; exact Bool.false_ne_true), if_pos hl]
  rfl
theorem runF_eq (p : Pr) (n f : Nat) (fi : Fi) (ds : List D) (h : p.fs[f]? = some fi) (hl : ds.length = fi.np) (hs : fi.st = false := by rfl) (hh : fi.sh = false := by rfl) : runF p (n + 1) f ds = finF (exS (tbl p n) fi.body (env0 fi ds)) := by
  rw [runF_eqG p n f fi ds h hl hs, if_neg (by rw [hh]; exact Bool.false_ne_true)]
theorem runF_eqH (p : Pr) (n f : Nat) (fi : Fi) (ds : List D) (h : p.fs[f]? = some fi) (hl : ds.length = fi.np) (hs : fi.st = false := by rfl) (hh : fi.sh = true := by rfl) : runF p (n + 1) f ds = finG (exS (tbl p n) fi.body (env0 fi ds)) := by
  rw [runF_eqG p n f fi ds h hl hs, if_pos hh]
theorem runS_eq (p : Pr) (n f : Nat) (fi : Fi) (xs : List Int) (ds : List D) (h : p.fs[f]? = some fi) (hl : ds.length + 1 = fi.np) (hs : fi.st = true := by rfl) : runS p (n + 1) f xs ds = finS (exS (tbl p n) fi.body (envS fi xs ds)) := by
  rw [runS, h]
  dsimp only
  rw [if_pos hs, if_pos hl]
  rfl
/-- a def of the text is the one of the table -/
def nodupB : List Str → Bool
  | [] => true
  | x :: xs => !(xs.contains x) && nodupB xs
def defOk (p : Pr) (st : Stmt) (fi : Fi) : Bool :=
  (match (defScope st).kind with | .function => true | _ => false) && !(defScope st).isCoroutine && !(defScope st).isGenerator && nodupB fi.N && decide (fi.np ≤ fi.N.length) &&
    ((fi.N.take fi.np).all fun x => locB (defScope st) x) && ((defScope st).names.all fun y => match y.2 with | .free => false | _ => true) && okSs p.nx fi.N (defScope st) (defBody st) fi.body
theorem nodup_of : ∀ {xs : List Str}, nodupB xs = true → xs.Nodup
  | [], _ => List.nodup_nil
  | x :: xs, h => by
    simp only [nodupB, Bool.and_eq_true, Bool.not_eq_true'] at h
    refine List.nodup_cons.mpr ⟨fun m => ?_, nodup_of h.2⟩
    have q := h.1
    rw [List.contains_iff_mem.mpr m] at q
    cases q
theorem scope_of {p : Pr} {st : Stmt} {fi : Fi} (h : defOk p st fi = true) : FnScope fi.N (fi.N.take fi.np) (defScope st) ∧ fi.np ≤ fi.N.length ∧ okSs p.nx fi.N (defScope st) (defBody st) fi.body = true := by
  unfold defOk at h
  simp only [Bool.and_eq_true, Bool.not_eq_true', decide_eq_true_eq, List.all_eq_true] at h
  obtain ⟨⟨⟨⟨⟨⟨⟨h1, h2⟩, h3⟩, h4⟩, h5⟩, h6⟩, h7⟩, h8⟩ := h
  refine ⟨⟨?_, h2, h3, nodup_of h4, ?_, fun x hx => loc_of (h6 x hx), fun y hy z => ?_⟩, h5, h8⟩
  · split at h1
    · assumption
    · cases h1
  · rw [List.length_take, Nat.min_eq_left h5]
  · have := h7 y hy
    rw [z] at this
    cases this

def scopeOk (st : Stmt) (N : List Str) (np : Nat) : Bool :=
  (match (defScope st).kind with | .function => true | _ => false) && !(defScope st).isCoroutine && !(defScope st).isGenerator && nodupB N && decide (np ≤ N.length) &&
    ((N.take np).all fun x => locB (defScope st) x) && ((defScope st).names.all fun y => match y.2 with | .free => false | _ => true)
theorem scopeOk_of {st : Stmt} {N : List Str} {np : Nat} (h : scopeOk st N np = true) : FnScope N (N.take np) (defScope st) := by
  unfold scopeOk at h
  simp only [Bool.and_eq_true, Bool.not_eq_true', decide_eq_true_eq, List.all_eq_true] at h
  obtain ⟨⟨⟨⟨⟨⟨h1, h2⟩, h3⟩, h4⟩, h5⟩, h6⟩, h7⟩ := h
  refine ⟨?_, h2, h3, nodup_of h4, ?_, fun x hx => loc_of (h6 x hx), fun y hy z => ?_⟩
  · split at h1
    · assumption
    · cases h1
  · rw [List.length_take, Nat.min_eq_left h5]
  · have := h7 y hy
    rw [z] at this
    cases this

section
variable {P : Program} {w : World} {K : Fg} {mg : Str → Option Value} {base : Heap} {xa : Nat → Addr} {p : Pr}
/-- the def is there -/
def FunAt (K : Fg) (mg : Str → Option Value) (x : Str) (st : Stmt) (ps : List Str) (f : Addr) (fd : FuncData) : Prop := Fun K x x st f fd ∧ mg x = some (.ref f) ∧ L2.Binds K fd ps []
/-- what the written part says -/
structure Fx (K : Fg) (mg : Str → Option Value) (xa : Nat → Addr) (p : Pr) : Prop where
  fn : ∀ (f : Nat) (fi : Fi), p.fs[f]? = some fi → ∃ st a fd, FunAt K mg fi.name st (fi.N.take fi.np) a fd ∧ defOk p st fi = true
  blt : ∀ x ∈ bltNames, mg x = none
  gl : ∀ (g : Nat) (y : Str) (d : D), p.gl[g]? = some (y, d) → ∃ v u, mg y = some u ∧ RelV v u ∧ ∀ A H, Rp K A H v d
  exc : ∀ (c : Nat) (x : Str), p.ex[c]? = some x → mg x = some (.ref (xa c)) ∧ PySem.W.keepIn K (.ref (xa c)) = true ∧ PySem.W.excIn K (xa c) [.type "ValueError", .type "Exception", .type "BaseException", .type "object"] "ValueError.__new__" = true ∧
    PySem.W.subIn K (.ref (xa c)) (.type "BaseException") = some true ∧ PySem.W.typeIn K (.ref (xa c)) = some (.type "type") ∧ PySem.W.nsIn K mainGlobals x = some (some (.ref (xa c)))
  ctc : ∀ x ∈ p.ct, ∀ c, PySem.W.exmOne K (.ref (xa c)) (.ref (xa x)) = some (subX c x)
  hx : p.hx = true → mg "ValueError" = none ∧ ∀ c, ExcC K (xa c) ∧ PySem.W.kitOne K (.ref (xa c)) (.type "ValueError") = some true ∧ ∀ j y, p.ex[j]? = some y → PySem.W.kitOne K (.ref (xa c)) (.ref (xa j)) = some (subX c j)
  on : p.on = true → p.hx = true ∧ ∃ st f fd, Fun K "_law_only" "_law_only" st f fd ∧ mg "_law_only" = some (.ref f) ∧ L2.Binds K fd ["_law_e", "_law_at"] [] ∧ PySem.W.keepIn K (.ref f) = true ∧
    FnScope ["_law_e", "_law_at", "_law_kinds", "_law_k"] ["_law_e", "_law_at"] (defScope st) ∧ okOnly p.nx st = true
theorem er0 {fi : Fi} {H : Hp} {vs : List V} {ds : List D} (h5 : fi.np ≤ fi.N.length) (hl : vs.length = fi.np) (ra : RpAll K (fun _ => False) H vs ds) :
    ER K (fun _ => False) ⟨H, [], [], none, fun a => H a ≠ none⟩ (fun _ => none) H (L2.start fi.N vs) (env0 fi ds) where
  len := by
    have := ra.length
    unfold L2.start env0
    simp only [List.length_append, List.length_map, List.length_replicate]
    omega
  sl := fun i s e => by
    have hl2 := ra.length
    unfold env0 at e
    by_cases hi : i < ds.length
    · rw [List.getElem?_append_left (by simpa using hi), List.getElem?_map] at e
      cases ed : ds[i]? with
      | none => rw [ed] at e; cases e
      | some d =>
        rw [ed] at e
        cases e
        obtain ⟨v, e1, e2⟩ := ra.get ed
        refine ⟨v, ?_, e2.ca (Ca.less fun a z => ?_)⟩
        · unfold L2.start
          rw [List.getElem?_append_left (by simpa [hl2] using hi), List.getElem?_map, e1]
          rfl
        · rcases z with ⟨k, z⟩ | z
          · cases z
          · exact z
    · rw [List.getElem?_append_right (by simpa using hi), List.getElem?_replicate] at e
      split at e <;> cases e
  dom := fun i a e => nomatch e
  inj := fun i j a e _ => nomatch e
  disj := fun i a e => nomatch e
  fr := fun i a e => nomatch e
  same := Same.refl H
  bt := fun a z => z.elim
  gh := .nil
  fb := fun a h => h
  fc := fun i a e => nomatch e
/-- the names of a def that draws, at its beginning -/
theorem erS {fi : Fi} {H : Hp} {s a : Addr} {xs : List Int} {vs : List V} {ds : List D} (h5 : fi.np ≤ fi.N.length) (hl : vs.length + 1 = fi.np) (hs : H s = some (stO a)) (ha : H a = some (.lst (xs.map V.int))) (ra : RpAll K (fun b => b = a) H vs ds) :
    ER K (fun _ => False) ⟨fun b => if b = a then none else H b, [], [], some a, fun b => H b ≠ none ∧ b ≠ a⟩ (fun i => if i = 0 then some a else none) H (L2.start fi.N (.ref s :: vs)) (envS fi xs ds) where
  len := by
    have := ra.length
    unfold L2.start envS
    simp only [List.length_append, List.length_map, List.length_replicate, List.length_cons]
    omega
  sl := fun i z e => by
    have hl2 := ra.length
    cases i with
    | zero =>
      cases e
      refine ⟨s, a, rfl, rfl, hs, ha, fun _ b e => (Option.some.inj e).symm⟩
    | succ i =>
      have e : ((ds.map fun d => some (Sl.sh d)) ++ List.replicate (fi.N.length - fi.np) none)[i]? = some (some z) := e
      by_cases hi : i < ds.length
      · rw [List.getElem?_append_left (by simpa using hi), List.getElem?_map] at e
        cases ed : ds[i]? with
        | none => rw [ed] at e; cases e
        | some d =>
          rw [ed] at e
          cases e
          obtain ⟨v, e1, e2⟩ := ra.get ed
          refine ⟨v, ?_, e2.ca (Ca.less fun b z => ?_)⟩
          · unfold L2.start
            rw [List.getElem?_append_left (by simpa [hl2] using hi), List.getElem?_map, List.getElem?_cons_succ, e1]
            rfl
          · rcases z with ⟨k, z⟩ | z
            · have z : (if k = 0 then some a else none) = some b := z
              split at z
              · exact (Option.some.inj z).symm
              · cases z
            · exact z.elim
      · rw [List.getElem?_append_right (by simpa using hi), List.getElem?_replicate] at e
        split at e <;> cases e
  dom := fun i b e => by
    have e : (if i = 0 then some a else none) = some b := e
    split at e
    · rename_i hi
      rw [hi]
      exact ⟨.st xs, rfl, rfl⟩
    · cases e
  inj := fun i j b e e2 => by
    have e : (if i = 0 then some a else none) = some b := e
    have e2 : (if j = 0 then some a else none) = some b := e2
    split at e
    · split at e2
      · omega
      · cases e2
    · cases e
  disj := fun i b e z => z
  fr := fun i b e => by
    have e : (if i = 0 then some a else none) = some b := e
    split at e
    · cases e
      exact if_pos rfl
    · cases e
  same := fun b o e => by
    have e : (if b = a then none else H b) = some o := e
    split at e
    · cases e
    · exact e
  bt := fun b z => z.elim
  gh := .nil
  fb := fun b h => h.1
  fc := fun i b e h => by
    have e : (if i = 0 then some a else none) = some b := e
    split at e
    · cases e
      exact h.2 rfl
    · cases e
theorem okN {CX : CXT} {P : Program} {w : World} {K : PySem.W.Frag} {mg : Str → Option Value} {base : Heap} {x qual : Str} {st : Stmt} {f : Addr} {fd : FuncData} {N ps : List Str} {k : Nat} {sp : Sp} (F : Fun K x qual st f fd) (S : FnScope N ps (defScope st)) (len : ∀ vs H Q E, sp vs H Q E → vs.length = ps.length)
    (hbody : ∀ (cdv : Value) (A : Around) (outer : List PySem.Env) (s : Shared) (H : Hp) (vs : List V) (Q : VK) (E : XK), Room k (A.deeper (envOfC qual (defScope st) s.heap.objs.size f cdv)) → sp vs H Q E →
      ∃ t, PSs (cxOf CX P w K mg base N qual (defScope st) f cdv A outer s H E) (defBody st) t ∧ t { nx := fun _ H' => Q .non H', rt := Q } (L2.start N vs) H) : FnOk P w K mg base CX (k + 1) f fd ps sp := by
  obtain ⟨oc, od, kV, doc, pm, an, cdv, ct, osl, rfl, lk, hcd⟩ := F.ex
  exact fn_of lk hcd S len fun A outer s H vs Q E hr hsp => hbody cdv A outer s H vs Q E hr hsp
/-- what the walk of a def has at hand -/
theorem gs_of (F : Fx K mg xa p) (htr : P.given.tree = none) (hns : base.NoSeer) {n : Nat} {fi : Fi} {st : Stmt} {a : Addr} (S : FnScope fi.N (fi.N.take fi.np) (defScope st)) {cdv : Value} {A : Around} {outer : List PySem.Env} {s : Shared} {H : Hp} {E : XK}
    (hr : Room (n + 40) (A.deeper (envOfC fi.name (defScope st) s.heap.objs.size a cdv))) {W : WX} (tk : L2N.Takes (cxOf (L2N.CX P w) P w K mg base fi.N fi.name (defScope st) a cdv A outer s H E) W) (po : PassesOwn (model P w) (A.deeper (envOfC fi.name (defScope st) s.heap.objs.size a cdv)) (envOfC fi.name (defScope st) s.heap.objs.size a cdv) (cxOf (L2N.CX P w) P w K mg base fi.N fi.name (defScope st) a cdv A outer s H E).xe)
    (ih : (∀ (f : Nat) (fi : Fi) (st : Stmt) (a : Addr) (fd : FuncData), p.fs[f]? = some fi → fi.st = false → FunAt K mg fi.name st (fi.N.take fi.np) a fd → defOk p st fi = true → FnOk P w K mg base (L2N.CX P w) (n + 40) a fd (fi.N.take fi.np) (spD K xa fi.np (p.sh f) (runF p n f))) ∧
      ∀ (f : Nat) (fi : Fi) (st : Stmt) (a : Addr) (fd : FuncData), p.fs[f]? = some fi → fi.st = true → FunAt K mg fi.name st (fi.N.take fi.np) a fd → defOk p st fi = true → FnOk P w K mg base (L2N.CX P w) (n + 40) a fd (fi.N.take fi.np) (spS K fi.np (runS p n f))) :
    GS (tbl p n) p.nx xa (cxOf (L2N.CX P w) P w K mg base fi.N fi.name (defScope st) a cdv A outer s H E) W :=
      { calm := rfl
        nd := S.nd
        blt := F.blt
        lv := ⟨n + 40, hr, by omega, fun f' y m e => by
          show ∃ a fd ps, mg y = some (.ref a) ∧ PySem.W.keepIn K (.ref a) = true ∧ L2.Binds K fd ps [] ∧ FnOk P w K mg base (L2N.CX P w) (n + 40) a fd ps (spD K xa m (p.sh f') (runF p n f'))
          have e : (match p.fs[f']? with | some fi => if fi.st = true then none else some (fi.name, fi.np) | none => none) = some (y, m) := e
          cases e2 : p.fs[f']? with
          | none => rw [e2] at e; cases e
          | some fi' =>
            rw [e2] at e
            have e : (if fi'.st = true then none else some (fi'.name, fi'.np)) = some (y, m) := e
            split at e
            · cases e
            · rename_i hst
              cases e
              obtain ⟨st', a', fd', hA', hd'⟩ := F.fn f' fi' e2
              exact ⟨a', fd', _, hA'.2.1, hA'.1.kp, hA'.2.2, ih.1 f' fi' st' a' fd' e2 (by simpa using hst) hA' hd'⟩⟩
        ls := ⟨n + 40, hr, by omega, fun f' y m e => by
          show ∃ a fd ps, mg y = some (.ref a) ∧ PySem.W.keepIn K (.ref a) = true ∧ L2.Binds K fd ps [] ∧ FnOk P w K mg base (L2N.CX P w) (n + 40) a fd ps (spS K m (runS p n f'))
          have e : (match p.fs[f']? with | some fi => if fi.st = true then some (fi.name, fi.np) else none | none => none) = some (y, m) := e
          cases e2 : p.fs[f']? with
          | none => rw [e2] at e; cases e
          | some fi' =>
            rw [e2] at e
            have e : (if fi'.st = true then some (fi'.name, fi'.np) else none) = some (y, m) := e
            split at e
            · rename_i hst
              cases e
              obtain ⟨st', a', fd', hA', hd'⟩ := F.fn f' fi' e2
              exact ⟨a', fd', _, hA'.2.1, hA'.1.kp, hA'.2.2, ih.2 f' fi' st' a' fd' e2 hst hA' hd'⟩
            · cases e⟩
        gl := fun gi y e => by
          have e : (p.gl[gi]?).map (·.1) = some y := e
          cases e2 : p.gl[gi]? with
          | none => rw [e2] at e; cases e
          | some yd =>
            rw [e2] at e
            cases e
            obtain ⟨v, u, m1, m2, m3⟩ := F.gl gi yd.1 yd.2 e2
            exact ⟨v, u, yd.2, m1, m2, by show (p.gl[gi]?).map (·.2) = _; rw [e2]; rfl, m3⟩
        tk := tk
        po := po
        fnT := fun _ => rfl
        bk := by
          show (if (defScope st).kind.isAnnotationScope then ScopeKind.function else (defScope st).kind) = .function
          rw [S.kind]
          rfl
        stk := rfl
        frm := rfl
        py := ⟨hns, htr, by have z : (A.deeper (envOfC fi.name (defScope st) s.heap.objs.size a cdv)).depth + 3 * (n + 40) + 5 < recursionLimit := hr.dp; show (A.deeper (envOfC fi.name (defScope st) s.heap.objs.size a cdv)).depth + 100 < recursionLimit; omega, _, _, rfl, S.gen, S.co, rfl, rfl⟩
        exc := fun c x e => by
          obtain ⟨a, b, c, d, f, _⟩ := F.exc c x e
          exact ⟨a, b, c, d, f⟩
        hx := F.hx
        exm := fun c x e => (F.exc c x e).1
        exn := fun c x e => (F.exc c x e).2.2.2.2.2
        on := F.on
        ctc := fun x y e => by
          have e : (if x ∈ p.ct then p.ex[x]? else none) = some y := e
          split at e
          · rename_i hx
            exact ⟨(F.exc x y e).1, F.ctc x hx⟩
          · cases e }
/-- THE THEOREM: each def of the table keeps what the table tells, so deep as n -/
theorem defs_all (F : Fx K mg xa p) (htr : P.given.tree = none) (hns : base.NoSeer) : ∀ n : Nat,
    (∀ (f : Nat) (fi : Fi) (st : Stmt) (a : Addr) (fd : FuncData), p.fs[f]? = some fi → fi.st = false → FunAt K mg fi.name st (fi.N.take fi.np) a fd → defOk p st fi = true → FnOk P w K mg base (L2N.CX P w) (n + 40) a fd (fi.N.take fi.np) (spD K xa fi.np (p.sh f) (runF p n f))) ∧
      ∀ (f : Nat) (fi : Fi) (st : Stmt) (a : Addr) (fd : FuncData), p.fs[f]? = some fi → fi.st = true → FunAt K mg fi.name st (fi.N.take fi.np) a fd → defOk p st fi = true → FnOk P w K mg base (L2N.CX P w) (n + 40) a fd (fi.N.take fi.np) (spS K fi.np (runS p n f)) := by
  intro n
  induction n with
  | zero =>
    refine ⟨fun f fi st a fd hf hst hA hd => ?_, fun f fi st a fd hf hst hA hd => ?_⟩
    · obtain ⟨_, h5, _⟩ := scope_of hd
      refine ⟨fun vs H Q E h => by rw [h.1, List.length_take, Nat.min_eq_left h5], fun A outer s H args us vs Q E hr he hb hv hs => ?_⟩
      obtain ⟨_, ds, _, k⟩ := hs
      exact False.elim k
    · obtain ⟨_, h5, _⟩ := scope_of hd
      refine ⟨fun vs H Q E h => by rw [h.1, List.length_take, Nat.min_eq_left h5], fun A outer s H args us vs Q E hr he hb hv hs => ?_⟩
      obtain ⟨_, _, _, _, _, ds, _, _, _, _, k⟩ := hs
      exact False.elim k
  | succ n ih =>
    refine ⟨fun f fi st a fd hf hst hA hd => ?_, fun f fi st a fd hf hst hA hd => ?_⟩
    · obtain ⟨hF, hm, hB⟩ := hA
      obtain ⟨S, h5, hb⟩ := scope_of hd
      refine okN hF S (fun vs H Q E h => by rw [h.1, List.length_take, Nat.min_eq_left h5]) (fun cdv A outer s H vs Q E hr h => ?_)
      obtain ⟨hl, ds, ra, q⟩ := h
      have g : GS (tbl p n) p.nx xa (cxOf (L2N.CX P w) P w K mg base fi.N fi.name (defScope st) a cdv A outer s H E) (fun cls d _ H => E cls d H) := gs_of F htr hns S hr (L2N.takes_of rfl rfl rfl rfl) (passes_of rfl) ih
      obtain ⟨t, pt, st'⟩ := (stmts fi.body).2 _ _ _ g hb
      refine ⟨t, pt, st' _ _ _ _ _ _ _ (er0 h5 hl ra) ?_⟩
      have hl2 : ds.length = fi.np := by rw [← ra.length]; exact hl
      have esh : p.sh f = fi.sh := by
        unfold Pr.sh
        rw [hf]
      rw [runF_eqG p n f fi ds hf hl2 hst, esh] at q
      revert q
      cases fi.sh with
      | false =>
        show _ → _
        cases exS (tbl p n) fi.body (env0 fi ds) with
        | nx η => exact fun q O σ H' r => q .non H' r.same (.inl (.inl ⟨rfl, .non⟩))
        | rt d => exact fun q v H' s r => q v H' s (.inl r)
        | rs d xs => exact fun q => False.elim q
        | ex c η => exact fun q O σ H' r => q H' r.same
        | bk η => exact fun q => False.elim q
        | ct η => exact fun q => False.elim q
        | st => exact fun q => False.elim q
      | true =>
        show _ → _
        cases exS (tbl p n) fi.body (env0 fi ds) with
        | nx η => exact fun q O σ H' r => q .non H' r.same (.inl (.inl ⟨rfl, .non⟩))
        | rt d => exact fun q v H' s r => q v H' s (.inl r)
        | rs d xs =>
          cases xs with
          | some xs => exact fun q => False.elim q
          | none => exact fun q v H' s _ r => q v H' s (.inr ⟨rfl, r.ca (Ca.less fun b z => .inl z)⟩)
        | ex c η => exact fun q O σ H' r => q H' r.same
        | bk η => exact fun q => False.elim q
        | ct η => exact fun q => False.elim q
        | st => exact fun q => False.elim q
    · obtain ⟨hF, hm, hB⟩ := hA
      obtain ⟨S, h5, hb⟩ := scope_of hd
      refine okN hF S (fun vs H Q E h => by rw [h.1, List.length_take, Nat.min_eq_left h5]) (fun cdv A outer s H vs Q E hr h => ?_)
      obtain ⟨hl, sd, ax, xs, vs', ds, rfl, hsd, hax, ra, q⟩ := h
      have g : GS (tbl p n) p.nx xa (cxOf (L2N.CX P w) P w K mg base fi.N fi.name (defScope st) a cdv A outer s H E) (fun cls d _ H => E cls d H) := gs_of F htr hns S hr (L2N.takes_of rfl rfl rfl rfl) (passes_of rfl) ih
      obtain ⟨t, pt, st'⟩ := (stmts fi.body).2 _ _ _ g hb
      refine ⟨t, pt, st' _ _ _ _ _ _ _ (erS (xs := xs) h5 hl hsd hax ra) ?_⟩
      have hl2 : ds.length + 1 = fi.np := by rw [← ra.length]; exact hl
      rw [runS_eq p n f fi xs ds hf hl2 hst] at q
      revert q
      cases exS (tbl p n) fi.body (envS fi xs ds) with
      | rs d xs' =>
        cases xs' with
        | none => exact fun q => False.elim q
        | some xs' =>
          refine fun q v H' s ha r => q v H' (fun b o nb e => s b o (by show (if b = ax then none else H b) = some o; rw [if_neg nb]; exact e)) (ha xs' ax rfl rfl) (r.ca (Ca.less fun b z => ?_))
          by_cases hb : b = ax
          · exact .inr ⟨(fun z => by cases z), by rw [hb]⟩
          · exact .inl ⟨z, hb⟩
      | _ => exact fun q => False.elim q
theorem defs_main (F : Fx K mg xa p) (htr : P.given.tree = none) (hns : base.NoSeer) (n f : Nat) (fi : Fi) (st : Stmt) (a : Addr) (fd : FuncData) (h : p.fs[f]? = some fi) (hs : fi.st = false) (hA : FunAt K mg fi.name st (fi.N.take fi.np) a fd) (hd : defOk p st fi = true) : FnOk P w K mg base (L2N.CX P w) (n + 40) a fd (fi.N.take fi.np) (spD K xa fi.np (p.sh f) (runF p n f)) := (defs_all F htr hns n).1 f fi st a fd h hs hA hd
end
theorem la_of {K : Fg} {H : Hp} {a : Addr} {xs : List V} (h : SqL K H a xs) : LA K (fun _ => False) H a xs := by
  rcases h with h | h
  · exact .inl ⟨id, h⟩
  · exact .inr (.inr h)
end PD

/-! PD9: what the top has written, gathered. -/
namespace PD
open PySem PySem.Spec PyProof.Rows L2
section
variable {K : Fg} {mg : Str → Option Value} {h : Heap} {p : Pr}
theorem funAt {x : Str} {st : Stmt} {ps : List Str} {f : Addr} {od an : Option Addr} {sl : Array (Option Value)} {oc kV dc pm cd ct : Value} (X : K.In h) (G : h.Ns mainGlobals mg)
    (a : PySem.W.nsIn K mainGlobals x = some (some (.ref f))) (l : K.lookup f = some ⟨oc, od, .func (PySem.W.fnOf x x (defArgs st) (defBody st) (defScope st) .none kV dc pm an cd ct), sl⟩) (c : PySem.W.codeIn K cd x = true) (k : PySem.W.keepIn K (.ref f) = true)
    (hb : ∀ (kV doc pm : Value) (an : Option Addr) (cdv ct : Value) (us : List Value), us.length = ps.length → bindArgs (PySem.W.fnOf x x (defArgs st) (defBody st) (defScope st) .none kV doc pm an cdv ct) ⟨us, []⟩ = pure (ps.zip us)) :
    ∃ a fd, FunAt K mg x st ps a fd := ⟨f, _, fun_mk l c k, PySem.W.mg_of X G a, (fun_mk l c k).binds hb⟩
def AllF (K : Fg) (mg : Str → Option Value) (p : Pr) : List Fi → List Stmt → Prop
  | [], [] => True
  | fi :: fs, st :: sts => ((∃ a fd, FunAt K mg fi.name st (fi.N.take fi.np) a fd) ∧ defOk p st fi = true) ∧ AllF K mg p fs sts
  | _, _ => False
theorem AllF.get : ∀ {fs : List Fi} {sts : List Stmt}, AllF K mg p fs sts → ∀ (f : Nat) (fi : Fi), fs[f]? = some fi → ∃ st a fd, FunAt K mg fi.name st (fi.N.take fi.np) a fd ∧ defOk p st fi = true
  | [], [], _, f, fi, e => by simp at e
  | x :: fs, st :: sts, h, 0, fi, e => by
    simp at e
    subst e
    obtain ⟨⟨⟨a, fd, h1⟩, h2⟩, _⟩ := h
    exact ⟨st, a, fd, h1, h2⟩
  | x :: fs, st :: sts, h, f + 1, fi, e => AllF.get h.2 f fi (by simpa using e)
  | _ :: _, [], h, _, _, _ => h.elim
def NoneAll (mg : Str → Option Value) : List Str → Prop
  | [] => True
  | x :: xs => mg x = none ∧ NoneAll mg xs
theorem NoneAll.get : ∀ {xs : List Str}, NoneAll mg xs → ∀ x ∈ xs, mg x = none
  | x :: xs, h, y, hy => by
    rcases List.mem_cons.mp hy with e | e
    · subst e; exact h.1
    · exact NoneAll.get h.2 y e
/-- the law's own def, as the end wants it -/
theorem lawAt {P : Program} {w : World} {CX : CXT} {fa : Addr} {x : Str} {xa : Nat → Addr} {st : Stmt} {n f : Nat} {fi : Fi} (F : Fx K mg xa p) (htr : P.given.tree = none) (hf : p.fs[f]? = some fi) (hn : fi.name = "law") (hx : fi.N.take fi.np = [x]) (hm : mg "law" = some (.ref fa))
    (hp : fi.np = 1) (hst : fi.st = false) (hsh : p.sh f = false) (hA : ∃ a fd, FunAt K mg fi.name st (fi.N.take fi.np) a fd)
    (hb : ∀ (kV doc pm : Value) (an : Option Addr) (cdv ct : Value) (s : Shared) (u : Value), BindsTo s (PySem.W.fnOf fi.name fi.name (defArgs st) (defBody st) (defScope st) .none kV doc pm an cdv ct) ⟨[u], []⟩ [(x, u)]) (hd : defOk p st fi = true) :
    ∃ fd : FuncData, (∀ (s : Shared) (u : Value), BindsTo s fd ⟨[u], []⟩ [(x, u)]) ∧ ∀ base : Heap, K.In base → base.Ns mainGlobals mg → base.NoSeer → FnOk P w K mg base (L2N.CX P w) (n + 40) fa fd [x] (spD K xa 1 false (runF p n f)) := by
  obtain ⟨a, fd, hA⟩ := hA
  obtain ⟨hF, h2, h3⟩ := id hA
  have e : a = fa := by
    rw [hn] at h2
    rw [h2] at hm
    cases hm
    rfl
  subst e
  obtain ⟨oc, od, kV, doc, pm, an, cdv, ct, osl, e2, _, _⟩ := hF.ex
  refine ⟨fd, fun s u => by rw [e2]; exact hb kV doc pm an cdv ct s u, fun base _ _ hns => ?_⟩
  have q := defs_main (P := P) (w := w) (base := base) F htr hns n f fi st a fd hf hst hA hd
  rw [hx, hp, hsh] at q
  exact q

/-- the law's promise: it ends, nothing is raised -/
def spL (K : Fg) (n : Nat) (g : List D → Res D) : Sp := fun vs H Q _ => vs.length = n ∧ ∃ ds, RpAll K (fun _ => False) H vs ds ∧ ∃ d, g ds = .ok d ∧ ∀ v H', Same H H' → RetR K H H' v d → Q v H'
theorem spL_spD {xa : Nat → Addr} {n : Nat} {g : List D → Res D} {vs : List V} {H : Hp} {Q : VK} {E : XK} (h : spL K n g vs H Q E) : spD K xa n false g vs H Q E := by
  obtain ⟨h1, ds, h2, d, h3, h4⟩ := h
  refine ⟨h1, ds, h2, ?_⟩
  rw [h3]
  exact fun v H' s r => h4 v H' s (r.elim id fun z => (by cases z.1))
theorem law_okL {n f : Nat} {H : Hp} {a : Addr} {ns : List Int} (hS : SqL K H a (ns.map V.int)) (h : runF p n f [.list (ns.map PyData.int)] = .ok (.bool true)) :
    spL K 1 (runF p n f) [.ref a] H (fun v _ => v = .bl true) fun _ _ _ => False := by
  refine ⟨rfl, [.list (ns.map PyData.int)], .cons (.lst (la_of hS) (RpAll.ints ns)) .nil, _, h, ?_⟩
  intro v H' s r
  rcases r with ⟨_, r⟩ | ⟨ds, _, _, e, _⟩ | ⟨l, _, e, _⟩
  · cases r
    rfl
  · cases e
  · cases e
theorem lawL {P : Program} {w : World} {fa : Addr} {x : Str} {xa : Nat → Addr} {st : Stmt} {n f : Nat} {fi : Fi} (F : Fx K mg xa p) (htr : P.given.tree = none) (hf : p.fs[f]? = some fi) (hn : fi.name = "law") (hx : fi.N.take fi.np = [x]) (hm : mg "law" = some (.ref fa))
    (hp : fi.np = 1) (hst : fi.st = false) (hsh : p.sh f = false) (hA : ∃ a fd, FunAt K mg fi.name st (fi.N.take fi.np) a fd)
    (hb : ∀ (kV doc pm : Value) (an : Option Addr) (cdv ct : Value) (s : Shared) (u : Value), BindsTo s (PySem.W.fnOf fi.name fi.name (defArgs st) (defBody st) (defScope st) .none kV doc pm an cdv ct) ⟨[u], []⟩ [(x, u)]) (hd : defOk p st fi = true) :
    ∃ fd : FuncData, (∀ (s : Shared) (u : Value), BindsTo s fd ⟨[u], []⟩ [(x, u)]) ∧ ∀ base : Heap, K.In base → base.Ns mainGlobals mg → base.NoSeer → FnOk P w K mg base (L2N.CX P w) (n + 40) fa fd [x] (spL K 1 (runF p n f)) := by
  obtain ⟨fd, h1, h2⟩ := lawAt (P := P) (w := w) (CX := L2N.CX P w) (n := n) F htr hf hn hx hm hp hst hsh hA hb hd
  exact ⟨fd, h1, fun base k1 k2 k3 => (h2 base k1 k2 k3).imp fun vs H Q E q => spL_spD q⟩
end
end PD

namespace PD
open PySem PySem.Spec PyProof.Rows L2
/-! ### the call, with what great divisions want -/
theorem seer_list {h : Heap} (n : h.NoSeer) : ∃ l : Fg, (∀ p ∈ l, h.get? p.1 = some p.2 ∧ ((∃ es ep, p.2.data = .dict es ep) ∨ p.2.cls = .type "module")) ∧ ∀ h' : Heap, (∀ p ∈ l, h'.get? p.1 = some p.2) → h'.NoSeer := by
  obtain ⟨mc, ⟨o1, e1, p1, g1, d1, r1⟩, c1, c2⟩ := n.statics
  obtain ⟨mm, ⟨o2, e2, p2, g2, d2, r2⟩, m1⟩ := n.mods
  obtain ⟨mb, ⟨o3, e3, p3, g3, d3, r3⟩, b1⟩ := n.imp
  obtain ⟨mg, bm, ob, ⟨o4, e4, p4, g4, d4, r4⟩, q1, q2, q3, q4⟩ := n.main
  refine ⟨[(cStatics, o1), (sysModules, o2), (builtinsNs, o3), (mainGlobals, o4), (bm, ob)], fun p hp => ?_, fun h' k => ⟨⟨mc, ⟨o1, e1, p1, k (cStatics, o1) (.head _), d1, r1⟩, c1, c2⟩, ⟨mm, ⟨o2, e2, p2, k (sysModules, o2) (.tail _ (.head _)), d2, r2⟩, m1⟩, ⟨mb, ⟨o3, e3, p3, k (builtinsNs, o3) (.tail _ (.tail _ (.head _))), d3, r3⟩, b1⟩, ⟨mg, bm, ob, ⟨o4, e4, p4, k (mainGlobals, o4) (.tail _ (.tail _ (.tail _ (.head _)))), d4, r4⟩, q1, k (bm, ob) (.tail _ (.tail _ (.tail _ (.tail _ (.head _))))), q3, q4⟩⟩⟩
  simp only [List.mem_cons, List.not_mem_nil, or_false] at hp
  rcases hp with rfl | rfl | rfl | rfl | rfl
  · exact ⟨g1, .inl ⟨_, _, d1⟩⟩
  · exact ⟨g2, .inl ⟨_, _, d2⟩⟩
  · exact ⟨g3, .inl ⟨_, _, d3⟩⟩
  · exact ⟨g4, .inl ⟨_, _, d4⟩⟩
  · exact ⟨q2, .inr q3⟩
theorem look_mem {l : Fg} {p : Addr × Obj} (hp : p ∈ l) : ∃ u, l.lookup p.1 = some u := by
  induction l with
  | nil => exact absurd hp (List.not_mem_nil)
  | cons q l ih =>
    rw [List.lookup_cons]
    by_cases hb : (p.1 == q.1) = true
    · rw [hb]; exact ⟨_, rfl⟩
    · rw [Bool.not_eq_true] at hb
      rw [hb]
      rcases List.mem_cons.mp hp with e | e
      · subst e
        rw [beq_self_eq_true] at hb
        exact Bool.noConfusion hb
      · exact ih e
theorem look_of {l : Fg} {b : Addr} {o : Obj} (e : l.lookup b = some o) : (b, o) ∈ l := by
  induction l with
  | nil => simp at e
  | cons q l ih =>
    rw [List.lookup_cons] at e
    by_cases hb : (b == q.1) = true
    · rw [hb] at e
      have e2 : q.2 = o := Option.some.inj e
      have h1 := beq_iff_eq.mp hb
      have : (b, o) = q := by rw [h1, ← e2]
      rw [this]
      exact .head _
    · rw [Bool.not_eq_true] at hb
      rw [hb] at e
      exact .tail _ (ih e)
theorem app_look {l K : Fg} {b : Addr} {o : Obj} (e : (l ++ K).lookup b = some o) : (b, o) ∈ l ∨ K.lookup b = some o := by
  rw [List.lookup_append] at e
  cases q : l.lookup b with
  | some u => rw [q] at e; cases e; exact .inl (look_of q)
  | none => rw [q] at e; exact .inr e
theorem in_add {l K : Fg} {h : Heap} (KX : K.In h) (hl : ∀ p ∈ l, h.get? p.1 = some p.2) : (l ++ K).In h := fun b o e => (app_look e).elim (fun m => hl _ m) fun q => KX b o q
theorem in_back {l K : Fg} {h h' : Heap} (KX : K.In h) (hl : ∀ p ∈ l, h.get? p.1 = some p.2) (X : (l ++ K).In h') : K.In h' ∧ ∀ p ∈ l, h'.get? p.1 = some p.2 := by
  have Y := in_add KX hl
  refine ⟨fun b o e => ?_, fun p hp => ?_⟩
  · have : ∃ u, (l ++ K).lookup b = some u := by
      rw [List.lookup_append, e]
      cases l.lookup b with
      | none => exact ⟨_, rfl⟩
      | some u => exact ⟨_, rfl⟩
    obtain ⟨u, hu⟩ := this
    have e1 := Y b u hu
    rw [KX b o e] at e1
    cases e1
    exact X b o hu
  · have : ∃ u, (l ++ K).lookup p.1 = some u := by
      obtain ⟨u, hu⟩ := look_mem hp
      rw [List.lookup_append, hu]
      exact ⟨_, rfl⟩
    obtain ⟨u, hu⟩ := this
    have e1 := Y _ u hu
    rw [hl p hp] at e1
    cases e1
    exact X _ _ hu
theorem fn_more {P : Program} {w : World} {K K2 : Fg} {mg : Str → Option Value} {base : Heap} {CX : CXT} {k : Nat} {f : Addr} {fd : FuncData} {ps : List Str} {sp : Sp} (h : K2.In base → K.In base) (F : FnOk P w K mg base CX k f fd ps sp) : FnOk P w K2 mg base CX k f fd ps sp :=
  ⟨F.len, fun A outer s H args us vs Q E hr e0 hb hv hs => F.run A outer s H args us vs Q E hr ⟨e0.frames, ⟨h e0.mod.kin, e0.mod.glob, e0.mod.blt, e0.mod.nolimit⟩, e0.bs, e0.bsz, e0.funs, e0.frf, e0.hok, e0.bare⟩ hb hv hs⟩
theorem walk_ofS {l : PySem.W.OpenLaw} {n k : Nat} {q : Program} {loose : List Str} {XP : (Str → Option Value) → Heap → Prop} {YP : World → Heap → Prop} {d : DefRec} {K : Params → Fg} {CX : World → CXT} {sp : World → Sp} {x : Str}
    (hq : PyProof.Rows.importsNone q = true) (hmost : l.most = some n) (hsz : n ≤ sizeLine) (hno : d.params.defaults = []) (room : Room k callerA)
    (hKin : ∀ (w : World) (h : Heap), YP w h → (K w.params).In h)
    (Fun : ∀ (w : World) (mg : Str → Option Value) (fa : Addr) (h : Heap), (K w.params).In h → h.Ns mainGlobals mg → mg d.name = some (.ref fa) →
      ∃ fd : FuncData, (∀ (s : Shared) (u : Value), BindsTo s fd ⟨[u], []⟩ [(x, u)]) ∧
        ∀ base : Heap, (K w.params).In base → base.Ns mainGlobals mg → base.NoSeer → FnOk l.prog w (K w.params) mg base (CX w) k fa fd [x] (sp w))
    (sps : ∀ (w : World) (H : Hp) (a : Addr) (ns : List Int), ns.length ≤ n → (∀ z ∈ ns, Builtin.Int.intBits z ≤ 1048576) → Only H → SqL (K w.params) H a (ns.map V.int) → sp w [.ref a] H (fun v _ => v = .bl true) fun _ _ _ => False)
    (cxs : ∀ (w : World) (H : Hp) (s : Shared) (e : Value) (s' : Shared), CX w [] H s (fun _ _ _ => False) e s' → False) :
    PySem.W.WalkO q loose XP YP l.row.toRowW d [] (fun f vs => PySem.call f vs) := by
  refine Att.attach_callB hmost hno fun w t₀ t₁ mg mb fa o pm cd doc a vs ns G Y ho hd hcd hmg hobj hints hlen hbits hg => ?_
  have KX := hKin w _ Y
  obtain ⟨fd, hb, hF⟩ := Fun w mg fa _ KX G.T.g hmg
  obtain ⟨L, hL, hback⟩ := seer_list (G.T.seer hq)
  have hL1 : ∀ p ∈ L, t₁.heap.get? p.1 = some p.2 := fun p hp => (hL p hp).1
  refine law_call (K := L ++ K w.params) (in_add KX hL1) G.T.g G.T.b G.T.builtins G.T.nolimit hg hobj hints (Nat.le_trans hlen hsz) room (fun base k1 k2 => ?_) hb (fun H hO hS => sps w H a ns hlen hbits hO ?_) fun H e s' => cxs w H t₁ e s'
  · obtain ⟨b1, b2⟩ := in_back KX hL1 k1
    exact fn_more (fun _ => b1) (hF base b1 k2 (hback base b2))
  · rcases hS with hS | ⟨ob, its, m, e1, e2, e3, e4, e5⟩
    · exact .inl hS
    · rcases app_look e1 with hm | hk
      · rcases (hL _ hm).2 with ⟨es, ep, z⟩ | z
        · rw [show ((a, ob) : Addr × Obj).2 = ob from rfl, e4] at z
          cases z
        · rw [show ((a, ob) : Addr × Obj).2 = ob from rfl, e2] at z
          have z1 := Value.type.inj z
          exact absurd z1 (by decide)
      · exact .inr ⟨ob, its, m, hk, e2, e3, e4, e5⟩
end PD

/-! PDS: stepping through a def in plain Lean. -/
namespace PD
open PySem PySem.Spec PyProof.Rows L2
section
variable {α β : Type} {T : Tb} {η : Env}
/-- owned by nobody, or as it is -/
def retW (sh : Bool) (d : D) : Val := if sh = true then .cl d else retV d
@[simp] theorem retW_f : retW false = retV := rfl
@[simp] theorem retW_t : retW true = Val.cl := rfl
@[simp] theorem Res.bind_ok (a : α) (f : α → Res β) : (Res.ok a).bind f = f a := rfl
@[simp] theorem Res.bind_ex (c : Nat) (f : α → Res β) : (Res.ex c : Res α).bind f = .ex c := rfl
@[simp] theorem Res.bind_st (f : α → Res β) : (Res.st : Res α).bind f = .st := rfl
@[simp] theorem Res.map_ok (a : α) (f : α → β) : (Res.ok a).map f = .ok (f a) := rfl
@[simp] theorem Res.map_ex (c : Nat) (f : α → β) : (Res.ex c : Res α).map f = .ex c := rfl
@[simp] theorem Fl.of_ok (a : α) (k : α → Fl) : Fl.of η (.ok a) k = k a := rfl
@[simp] theorem Fl.of_ex (c : Nat) (k : α → Fl) : Fl.of η (.ex c : Res α) k = .ex c η := rfl
@[simp] theorem Fl.on_some (a : α) (k : α → Fl) : Fl.on (some a) k = k a := rfl
@[simp] theorem Fl.seq_nx (k : Env → Fl) : Fl.seq (.nx η) k = k η := rfl
@[simp] theorem Fl.seq_rt (d : D) (k : Env → Fl) : Fl.seq (.rt d) k = .rt d := rfl
@[simp] theorem Fl.seq_rs (d : D) (xs : Option (List Int)) (k : Env → Fl) : Fl.seq (.rs d xs) k = .rs d xs := rfl
@[simp] theorem Fl.seq_ex (c : Nat) (k : Env → Fl) : Fl.seq (.ex c η) k = .ex c η := rfl
@[simp] theorem Fl.seq_bk (k : Env → Fl) : Fl.seq (.bk η) k = .bk η := rfl
@[simp] theorem Fl.seq_ct (k : Env → Fl) : Fl.seq (.ct η) k = .ct η := rfl
@[simp] theorem turnF_nx (w : Env → Fl) : turnF w (.nx η) = w η := rfl
@[simp] theorem turnF_ct (w : Env → Fl) : turnF w (.ct η) = w η := rfl
@[simp] theorem turnF_bk (w : Env → Fl) : turnF w (.bk η) = .nx η := rfl
@[simp] theorem turnF_rt (w : Env → Fl) (d : D) : turnF w (.rt d) = .rt d := rfl
@[simp] theorem turnF_rs (w : Env → Fl) (d : D) (xs : Option (List Int)) : turnF w (.rs d xs) = .rs d xs := rfl
@[simp] theorem turnF_ex (w : Env → Fl) (c : Nat) : turnF w (.ex c η) = .ex c η := rfl
@[simp] theorem finF_nx : finF (.nx η) = .ok .none := rfl
@[simp] theorem finF_rt (d : D) : finF (.rt d) = .ok d := rfl
@[simp] theorem finS_rs (d : D) (xs : List Int) : finS (.rs d (some xs)) = .ok (d, xs) := rfl
@[simp] theorem finG_rs (d : D) : finG (.rs d none) = .ok d := rfl
@[simp] theorem finG_rt (d : D) : finG (.rt d) = .ok d := rfl
@[simp] theorem finF_ex (c : Nat) : finF (.ex c η) = .ex c := rfl
@[simp] theorem oOk_some (a : α) : oOk (some a) = .ok a := rfl
@[simp] theorem ev_var (i : Nat) : ev T (.var i) η = slotV η i := by rw [ev]
@[simp] theorem ev_glob (i : Nat) : ev T (.glob i) η = (oOk (T.gl i)).map .cl := by rw [ev]
@[simp] theorem ev_int (n : Int) : ev T (.int n) η = .ok (.cl (.int n)) := by rw [ev]
@[simp] theorem ev_bl (b : Bool) : ev T (.bl b) η = .ok (.cl (.bool b)) := by rw [ev]
@[simp] theorem ev_non : ev T .non η = .ok (.cl .none) := by rw [ev]
@[simp] theorem ev_str (s : Str) : ev T (.str s) η = .ok (.cl (.str s)) := by rw [ev]
@[simp] theorem ev_tup (es : E) : ev T (.tup es) η = (evs T es η).bind fun xs => (oOk (shAll xs)).map fun ds => .cl (.tuple ds) := by rw [ev]
@[simp] theorem ev_lst (es : E) : ev T (.lst es) η = (evs T es η).bind fun xs => (oOk (shAll xs)).map .nw := by rw [ev]
@[simp] theorem ev_bin (o : Bo) (a b : E) : ev T (.bin o a b) η = (ev T a η).bind fun x => (ev T b η).bind fun y => binV o x y := by rw [ev]
@[simp] theorem ev_neg (a : E) : ev T (.neg a) η = (ev T a η).bind negV := by rw [ev]
@[simp] theorem ev_not (a : E) : ev T (.not a) η = (ev T a η).bind fun x => (bitOf x).map fun b => .cl (.bool (!b)) := by rw [ev]
@[simp] theorem ev_bop (k : Bool) (a r : E) : ev T (.bop k a r) η = (ev T a η).bind fun x => (bitOf x).bind fun b => if b = k then ev T r η else .ok (.cl (.bool b)) := by rw [ev]
@[simp] theorem ev_bone (k : Bool) (a : E) : ev T (.bone k a) η = ev T a η := by rw [ev]
@[simp] theorem ev_cmp (o : Co) (a b : E) : ev T (.cmp o a b) η = (ev T a η).bind fun x => (ev T b η).bind fun y => (cmpV o x y).map fun c => .cl (.bool c) := by rw [ev]
@[simp] theorem ev_ite (c a b : E) : ev T (.ite c a b) η = (evt T c η).bind fun c => if c = true then ev T a η else ev T b η := by rw [ev]
@[simp] theorem ev_idx (a i : E) : ev T (.idx a i) η = (ev T a η).bind fun x => (ev T i η).bind fun y => idxV x y := by rw [ev]
@[simp] theorem ev_sl (a lo hi : E) : ev T (.sl a lo hi) η = (ev T a η).bind fun x => (evo T lo η).bind fun l => (evo T hi η).bind fun h => slV x l h := by rw [ev]
@[simp] theorem ev_rev (a : E) : ev T (.rev a) η = (ev T a η).bind revV := by rw [ev]
@[simp] theorem ev_call (f : Nat) (es : E) : ev T (.call f es) η = (evs T es η).bind fun xs => (T.G f (xs.map Val.d)).map (retW (T.sh f)) := by rw [ev]; rfl
@[simp] theorem ev_calN (f : Nat) (x es : E) : ev T (.calN f x es) η = (ev T x η).bind fun v => (oOk (newInts v)).bind fun ns => (evs T es η).bind fun xs => (T.S f ns (xs.map Val.d)).sure.map fun p => .cl p.1 := by rw [ev]
@[simp] theorem ev_sind (s : Str) (b : E) : ev T (.sind s b) η = (ev T b η).bind (sindV s) := by rw [ev]
@[simp] theorem ev_bi (b : Bi) (es : E) : ev T (.bi b es) η = (evs T es η).bind fun xs => biV b xs := by rw [ev]
@[simp] theorem ev_isi (a : E) (t : Ty) : ev T (.isi a t) η = (ev T a η).bind fun x => (isiD x.d t).map fun b => .cl (.bool b) := by rw [ev]
theorem ev_comp (v : Nat) (it c e : E) : ev T (.comp v it c e) η = if freeS η v = true then (evi T it η).bind fun w =>
      compR (compF (fun d => tcond T c (η.set v (some (.sh d)))) (fun d => ev T e (η.set v (some (.sh d)))) w.ds []) else .st := by
  rw [ev]
  rfl
theorem ev_comp2 (v u : Nat) (it e : E) : ev T (.comp2 v u it e) η = if freeS η v = true ∧ freeS η u = true ∧ v ≠ u then (evi T it η).bind fun w =>
      compR (compF (fun _ => .ok true) (fun d => two2 d fun a b => ev T e ((η.set v (some (.sh a))).set u (some (.sh b)))) w.ds []) else .st := by rw [ev]
@[simp] theorem ev_join (s : Str) (b : E) : ev T (.join s b) η = (ev T b η).bind (joinV s) := by rw [ev]
@[simp] theorem ev_ch (o p : Co) (a b c : E) : ev T (.ch o p a b c) η = (ev T a η).bind fun x => (ev T b η).bind fun y => (cmpV o x y).bind fun k => if k = true then (ev T c η).bind fun z => (cmpV p y z).map fun k => .cl (.bool k) else .ok (.cl (.bool false)) := by rw [ev]
@[simp] theorem evt_tch (o p : Co) (a b c : E) : evt T (.tch o p a b c) η = (ev T a η).bind fun x => (ev T b η).bind fun y => (cmpV o x y).bind fun k => if k = true then (ev T c η).bind fun z => cmpV p y z else .ok false := by rw [evt]
@[simp] theorem evi_its (e : E) : evi T (.its e) η = (ev T e η).bind fun x => (oOk (strOf x)).map .txt := by rw [evi]
@[simp] theorem strOf_s (z : Str) : strOf (.cl (.str z)) = some z := rfl
@[simp] theorem idx_s (z : Str) (k : Int) : idxV (.cl (.str z)) (.cl (.int k)) = if Sm z.length then (oOk (atI z.cps.toList k)).map fun c => .cl (.str ⟨#[c]⟩) else .st := rfl
@[simp] theorem sl_s (z : Str) (lo hi : Option Int) : slV (.cl (.str z)) lo hi = if Sm z.length then .ok (.cl (.str (cutS z lo hi))) else .st := rfl
@[simp] theorem memD_s (d : D) (z : Str) : memD d (.str z) = signD d z := rfl
@[simp] theorem sign_1 (c : Nat) (z : Str) : signD (.str ⟨#[c]⟩) z = .ok (decide (c ∈ z.cps.toList)) := rfl
@[simp] theorem evs_nil : evs T .nil η = .ok [] := by rw [evs]
@[simp] theorem evs_cons (e es : E) : evs T (.cons e es) η = (ev T e η).bind fun x => (evs T es η).bind fun xs => .ok (x :: xs) := by rw [evs]
@[simp] theorem evt_tst (e : E) : evt T (.tst e) η = (ev T e η).bind fun x => truD x.d := by rw [evt]
@[simp] theorem evt_tcmp (o : Co) (a b : E) : evt T (.tcmp o a b) η = (ev T a η).bind fun x => (ev T b η).bind fun y => cmpV o x y := by rw [evt]
@[simp] theorem evt_tnot (t : E) : evt T (.tnot t) η = (evt T t η).map (!·) := by rw [evt]
@[simp] theorem evt_tbop (k : Bool) (t r : E) : evt T (.tbop k t r) η = (evt T t η).bind fun c => if c = k then evt T r η else .ok c := by rw [evt]
@[simp] theorem evt_tbone (k : Bool) (t : E) : evt T (.tbone k t) η = evt T t η := by rw [evt]
@[simp] theorem evi_v (e : E) : evi T (.itv e) η = (ev T e η).bind fun x => (oOk x.d.seq).map fun _ => .v x := by rw [evi]
@[simp] theorem evi_r1 (a : E) : evi T (.ir1 a) η = (ev T a η).bind fun x => (intOf x).bind fun n => if small n then .ok (.r 0 n.toNat) else .st := by rw [evi]
@[simp] theorem evi_r3 (a b : E) (c : Int) : evi T (.ir3 a b c) η = (ev T a η).bind fun x => (ev T b η).bind fun y => (intOf x).bind fun i => (intOf y).bind fun j => rgV i j c := by rw [evi]
@[simp] theorem evi_r2 (a b : E) : evi T (.ir2 a b) η = (ev T a η).bind fun x => (ev T b η).bind fun y => (intOf x).bind fun i => (intOf y).bind fun j => if small i ∧ small j then .ok (.r i (j - i).toNat) else .st := by rw [evi]
@[simp] theorem evo_nop : evo T .nop η = .ok none := by rw [evo]
@[simp] theorem evo_sop (e : E) : evo T (.sop e) η = (ev T e η).bind fun x => (intOf x).map some := by rw [evo]
@[simp] theorem exS_skip : exS T .skip η = .nx η := by rw [exS]
@[simp] theorem exS_seq (a b : S) : exS T (.seq a b) η = (exS T a η).seq (exS T b) := by rw [exS]
@[simp] theorem exS_asg (i : Nat) (e : E) : exS T (.asg i e) η = Fl.of η (ev T e η) fun x => Fl.on (asgV η i x) .nx := by rw [exS]
@[simp] theorem exS_asgT (is : List Nat) (e : E) : exS T (.asgT is e) η = Fl.of η (ev T e η) fun x => Fl.on (tupOf x) fun ds => Fl.on (asgL η is ds) .nx := by rw [exS]
@[simp] theorem exS_asgN (is : List Nat) (e : E) : exS T (.asgN is e) η = Fl.of η (ev T e η) fun x => Fl.on (lstOf x) fun ds => Fl.on (asgL η is ds) .nx := by rw [exS]
@[simp] theorem exS_par (i j : Nat) (a b : E) : exS T (.par i j a b) η = Fl.of η (ev T a η) fun x => Fl.of η (ev T b η) fun y => Fl.on x.sh fun d => Fl.on y.sh fun d' => Fl.on (asgL η [i, j] [d, d']) .nx := by rw [exS]
@[simp] theorem exS_put (i : Nat) (k e : E) : exS T (.put i k e) η = Fl.of η (ev T e η) fun x => Fl.on (owOf η i) fun ds => Fl.of η (ev T k η) fun y => Fl.of η (intOf y) fun n => Fl.on x.sh fun d => Fl.on (ixN ds.length n) fun j => .nx (η.set i (some (.ow (ds.set j d)))) := by rw [exS]
@[simp] theorem exS_aput (i : Nat) (o : Bo) (k e : E) : exS T (.aput i o k e) η = Fl.on (owOf η i) fun ds => Fl.of η (ev T k η) fun y => Fl.of η (intOf y) fun n => Fl.on (atI ds n) fun old => Fl.of η (intOf (.cl old)) fun m0 => Fl.of η (ev T e η) fun x =>
      Fl.of η (intOf x) fun m1 => Fl.of η (binV o (.cl (.int m0)) (.cl (.int m1))) fun z => Fl.of η (intOf z) fun m => Fl.on (ixN ds.length n) fun j => .nx (η.set i (some (.ow (ds.set j (.int m))))) := by rw [exS]
@[simp] theorem exS_aug (i : Nat) (o : Bo) (e : E) : exS T (.aug i o e) η = Fl.of η (slotV η i) fun x => Fl.of η (intOf x) fun _ => Fl.of η (ev T e η) fun y => Fl.of η (intOf y) fun _ => Fl.of η (binV o x y) fun z => Fl.on (asgV η i z) .nx := by rw [exS]
@[simp] theorem exS_app (i : Nat) (e : E) : exS T (.app i e) η = Fl.on (owOf η i) fun ds => Fl.of η (ev T e η) fun x => Fl.on x.sh fun d => if Sm (ds.length + 1) then .nx (η.set i (some (.ow (ds ++ [d])))) else .st := by rw [exS]
@[simp] theorem exS_pop (i : Nat) : exS T (.pop i) η = Fl.on (owOf η i) fun ds => Fl.on (ds[ds.length - 1]?) fun _ => .nx (η.set i (some (.ow ds.dropLast))) := by rw [exS]
@[simp] theorem exS_popA (j i : Nat) : exS T (.popA j i) η = Fl.on (owOf η i) fun ds => Fl.on (ds[ds.length - 1]?) fun d => Fl.on (asgV (η.set i (some (.ow ds.dropLast))) j (.cl d)) .nx := by rw [exS]
@[simp] theorem exS_asgP (j : Nat) (e : E) (i : Nat) : exS T (.asgP j e i) η = Fl.of η (ev T e η) fun x => Fl.of η (intOf x) fun m => Fl.on (owOf η i) fun ds => Fl.on (ds[ds.length - 1]?) fun d => Fl.of η (intOf (.cl d)) fun k => Fl.of η (mulV (.cl (.int m)) (.cl (.int k))) fun z => Fl.on (asgV (η.set i (some (.ow ds.dropLast))) j z) .nx := by rw [exS]
@[simp] theorem exS_popT (js : List Nat) (i : Nat) : exS T (.popT js i) η = Fl.on (owOf η i) fun ds => Fl.on (ds[ds.length - 1]?) fun d => Fl.on (tupOf (.cl d)) fun es => Fl.on (asgL (η.set i (some (.ow ds.dropLast))) js es) .nx := by rw [exS]
@[simp] theorem exS_ex (e : E) : exS T (.ex e) η = Fl.of η (ev T e η) fun _ => .nx η := by rw [exS]
@[simp] theorem exS_ret (e : E) : exS T (.ret e) η = Fl.of η (ev T e η) fun x => Fl.on (retD x) .rt := by rw [exS]
@[simp] theorem exS_ret0 : exS T .ret0 η = .rt .none := by rw [exS]
@[simp] theorem exS_ite (c : E) (a b : S) : exS T (.ite c a b) η = Fl.of η (evt T c η) fun k => if k = true then exS T a η else exS T b η := by rw [exS]
@[simp] theorem exS_wh (c : E) (b : S) : exS T (.wh c b) η = whS (evt T c) (exS T b) η := by rw [exS]
/-- a for's turn -/
noncomputable def foB (T : Tb) (v : Nat) (b : S) (d : D) (η : Env) : Fl := Fl.on (asgV η v (.cl d)) (exS T b)
noncomputable def foTB (T : Tb) (vs : List Nat) (b : S) (d : D) (η : Env) : Fl := Fl.on (tupOf (.cl d)) fun ds => Fl.on (asgL η vs ds) (exS T b)
@[simp] theorem exS_fo (v : Nat) (it : E) (b : S) : exS T (.fo v it b) η = Fl.of η (evi T it η) fun w => loopF (foB T v b) w.ds (w.pre η) := by rw [exS]; rfl
@[simp] theorem exS_foT (vs : List Nat) (it : E) (b : S) : exS T (.foT vs it b) η = Fl.of η (evi T it η) fun w => loopF (foTB T vs b) w.ds (w.pre η) := by rw [exS]; rfl
/-! drawn -/
@[simp] theorem evM_p (s : Nat) (e : E) : evM T s (.p e) η = (ev T e η).sure.bind fun x => (oOk x.fresh).bind fun d => .ok (d, η) := by rw [evM]
@[simp] theorem evM_v (s i : Nat) : evM T s (.v i) η = if i = s then .st else freshV η i := by rw [evM]
@[simp] theorem evM_cs (s f : Nat) (ms : EM) : evM T s (.cs f ms) η = (oOk (stOf η s)).bind fun _ => (evMs T s ms η).bind fun p => (oOk (stOf p.2 s)).bind fun xs => (T.S f xs p.1).sure.bind fun q => .ok (q.1, p.2.set s (some (.st q.2))) := by rw [evM]
@[simp] theorem evM_pc (s f : Nat) (es : E) : evM T s (.pc f es) η = (evs T es η).sure.bind fun xs => (T.G f (xs.map Val.d)).sure.bind fun d => .ok (d, η) := by rw [evM]
@[simp] theorem evM_tup (s : Nat) (ms : EM) : evM T s (.tup ms) η = (evMs T s ms η).bind fun p => .ok (.tuple p.1, p.2) := by rw [evM]
@[simp] theorem evM_lst (s : Nat) (ms : EM) : evM T s (.lst ms) η = (evMs T s ms η).bind fun p => .ok (.list p.1, p.2) := by rw [evM]
@[simp] theorem evM_idx (s : Nat) (m : EM) (e : E) : evM T s (.idx m e) η = (evM T s m η).bind fun p => (ev T e p.2).sure.bind fun y => (idxD p.1 y).bind fun d => .ok (d, p.2) := by rw [evM]
@[simp] theorem evM_bin (s : Nat) (o : Bo) (a b : EM) : evM T s (.bin o a b) η = (evM T s a η).bind fun p => (evM T s b p.2).bind fun q => (binD o p.1 q.1).bind fun d => .ok (d, q.2) := by rw [evM]
@[simp] theorem evMs_nil (s : Nat) : evMs T s .nil η = .ok ([], η) := by rw [evMs]
@[simp] theorem evMs_cons (s : Nat) (m ms : EM) : evMs T s (.cons m ms) η = (evM T s m η).bind fun p => (evMs T s ms p.2).bind fun q => .ok (p.1 :: q.1, q.2) := by rw [evMs]
@[simp] theorem evMs_ap (s : Nat) (e : E) (ms : EM) : evMs T s (.ap e ms) η = (ev T e η).sure.bind fun x => if x.offS s = true then (evMs T s ms η).bind fun q => .ok (x.d :: q.1, q.2) else .st := by rw [evMs]
@[simp] theorem exS_ext (i : Nat) (e : E) : exS T (.ext i e) η = Fl.on (owOf η i) fun ds => Fl.of η (ev T e η) fun x => Fl.on (newList x) fun es => if Sm (ds.length + es.length) then .nx (η.set i (some (.ow (ds ++ es)))) else .st := by rw [exS]
@[simp] theorem exS_asgM (s i : Nat) (m : EM) : exS T (.asgM s i m) η = Fl.of η (evM T s m η) fun p => Fl.on (asgFr p.2 i p.1) .nx := by rw [exS]
@[simp] theorem exS_asgTM (s : Nat) (is : List Nat) (m : EM) : exS T (.asgTM s is m) η = Fl.of η (evM T s m η) fun p => Fl.on (tupOf (.cl p.1)) fun ds => Fl.on (asgFrL p.2 is ds) .nx := by rw [exS]
@[simp] theorem exS_iteM (s : Nat) (o : Co) (m : EM) (e : E) (a b : S) : exS T (.iteM s o m e a b) η = Fl.of η (evM T s m η) fun p => Fl.of p.2 (ev T e p.2).sure fun y => Fl.of p.2 (intOf (.cl p.1)) fun i => Fl.of p.2 (intOf y) fun j => Fl.of p.2 (cmpV o (.cl (.int i)) (.cl (.int j))).sure fun k => if k = true then exS T a p.2 else exS T b p.2 := by rw [exS]
@[simp] theorem exS_foM (s v : Nat) (m : EM) (b : S) : exS T (.foM s v m b) η = Fl.of η (evM T s m η) fun p => Fl.of p.2 (intOf (.cl p.1)) fun n => if small n then loopF (foB T v b) (rngD 0 n.toNat) p.2 else .st := by rw [exS]; rfl
@[simp] theorem exS_retM (s : Nat) (m : EM) : exS T (.retM s m) η = if s = 0 then Fl.of η (evM T s m η) fun p => Fl.on (stOf p.2 0) fun xs => .rs p.1 (some xs) else .st := by rw [exS]
@[simp] theorem exS_retF (m : EM) : exS T (.retF m) η = Fl.of η (evM T 1000000 m η) fun p => .rs p.1 none := by rw [exS]
@[simp] theorem exS_mkSt (i : Nat) (e : E) : exS T (.mkSt i e) η = if i = 0 then .st else Fl.of η (ev T e η) fun x => Fl.on (newInts x) fun ns => if i < η.length then .nx (η.set i (some (.st ns))) else .st := by rw [exS]
theorem exS_pick1 : exS T .pick1 η = Fl.on (stOf η 0) fun xs => match xs with
    | [] => .rs (.int 0) (some [])
    | _ => .nx η := by
  rw [exS]
  all_goals rfl
theorem exS_pick2 : exS T .pick2 η = Fl.on (stOf η 0) fun xs => Fl.on xs.getLast? fun x => .rs (.int x) (some xs.dropLast) := by rw [exS]
@[simp] theorem sure_ok {α : Type} (a : α) : Res.sure (.ok a) = .ok a := rfl
@[simp] theorem stOf_0 (xs : List Int) (η : Env) : stOf (some (.st xs) :: η) 0 = some xs := rfl
@[simp] theorem stOf_s (s : Option Sl) (η : Env) (i : Nat) : stOf (s :: η) (i + 1) = stOf η i := by
  unfold stOf
  rw [List.getElem?_cons_succ]
@[simp] theorem asgFr_if (η : Env) (i : Nat) (d : D) : asgFr η i d = if i < η.length then some (η.set i (some (.fr d))) else none := rfl
@[simp] theorem asgFrL_nil (η : Env) : asgFrL η [] [] = some η := rfl
@[simp] theorem asgFrL_cons (η : Env) (i : Nat) (is : List Nat) (d : D) (ds : List D) : asgFrL η (i :: is) (d :: ds) = (asgFr η i d).bind fun η' => asgFrL η' is ds := rfl
@[simp] theorem fresh_cl (d : D) : Val.fresh (.cl d) = if lf d = true then some d else none := rfl
@[simp] theorem fresh_nw (ds : List D) : Val.fresh (.nw ds) = if lfAll ds = true then some (.list ds) else none := rfl
@[simp] theorem fresh_nd (l : Dl) : Val.fresh (.nd l) = some (dD l) := rfl
@[simp] theorem offS_cl (i : Nat) (d : D) : Val.offS i (.cl d) = true := rfl
@[simp] theorem offS_nw (i : Nat) (d : List D) : Val.offS i (.nw d) = true := rfl
@[simp] theorem offS_nd (i : Nat) (d : Dl) : Val.offS i (.nd d) = true := rfl
@[simp] theorem offS_br (i j : Nat) (d : List D) : Val.offS i (.br j d) = decide (j ≠ i) := rfl
@[simp] theorem offS_bd (i j : Nat) (d : Dl) : Val.offS i (.bd j d) = decide (j ≠ i) := rfl
@[simp] theorem newInts_nw (ds : List D) : newInts (.nw ds) = intsOf ds := rfl
@[simp] theorem newList_nw (ds : List D) : newList (.nw ds) = some ds := rfl
@[simp] theorem newDl_nd (l : Dl) : newDl (.nd l) = some l := rfl
@[simp] theorem evi_dd (e : E) : evi T (.itd e) η = (ev T e η).bind fun x => (oOk (newDl x)).map .d := by rw [evi]
@[simp] theorem idxD_l (ds : List D) (k : Int) : idxD (.list ds) (.cl (.int k)) = oOk (atI ds k) := rfl
@[simp] theorem idxD_t (ds : List D) (k : Int) : idxD (.tuple ds) (.cl (.int k)) = oOk (atI ds k) := rfl
def upF (s : Option Sl) : Res (D × Env) → Res (D × Env)
  | .ok p => .ok (p.1, s :: p.2)
  | r => r
@[simp] theorem upF_ok (s : Option Sl) (p : D × Env) : upF s (.ok p) = .ok (p.1, s :: p.2) := rfl
@[simp] theorem freshV_0f (d : D) (η : Env) : freshV (some (.fr d) :: η) 0 = .ok (d, some (.fr d) :: η) := rfl
@[simp] theorem freshV_0s (d : D) (η : Env) : freshV (some (.sh d) :: η) 0 = if lf d = true then .ok (d, some (.sh d) :: η) else .st := rfl
@[simp] theorem freshV_0o (ds : List D) (η : Env) : freshV (some (.ow ds) :: η) 0 = if lfAll ds = true then .ok (.list ds, some (.fr (.list ds)) :: η) else .st := rfl
@[simp] theorem freshV_0d (l : Dl) (η : Env) : freshV (some (.od l) :: η) 0 = .ok (dD l, some (.fr (dD l)) :: η) := rfl
@[simp] theorem freshV_s (s : Option Sl) (η : Env) (i : Nat) : freshV (s :: η) (i + 1) = upF s (freshV η i) := by
  unfold freshV
  rw [List.getElem?_cons_succ]
  cases η[i]? with
  | none => rfl
  | some t =>
    cases t with
    | none => rfl
    | some t =>
      cases t <;> first | rfl | (dsimp only; split <;> rfl)
@[simp] theorem exS_brk : exS T .brk η = .bk η := by rw [exS]
@[simp] theorem exS_cnt : exS T .cnt η = .ct η := by rw [exS]
@[simp] theorem exS_rai (c : Nat) : exS T (.rai c) η = .ex c η := by rw [exS]
noncomputable def foEB (T : Tb) (p : Nat) (vs : List Nat) (b : S) (d : D) (η : Env) : Fl := Fl.on (asgE η p vs d) (exS T b)
@[simp] theorem exS_foE (p : Nat) (vs : List Nat) (e : E) (b : S) : exS T (.foE p vs e b) η = Fl.of η (ev T e η) fun x => Fl.on (lstOf x) fun ds => loopF (foEB T p vs b) (enumF 0 ds) ((Wk.v x).pre η) := by rw [exS]; rfl
@[simp] theorem exS_asgQ (is js : List Nat) (e : E) : exS T (.asgQ is js e) η = Fl.of η (ev T e η) fun x => Fl.on (tupOf x) fun ds => asgQF η is js ds := by rw [exS]
noncomputable def fodB (T : Tb) (v : Nat) (b : S) (d : D) (η : Env) : Fl := Fl.on (keyOf d) fun k => Fl.on (setK η v (.tk k)) (exS T b)
@[simp] theorem exS_asgK (i : Nat) (es : E) : exS T (.asgK i es) η = Fl.of η (evs T es η) fun xs => Fl.on (intsOf (xs.map Val.d)) fun k => Fl.on (setK η i (.tk k)) .nx := by rw [exS]
@[simp] theorem exS_asgKs (i : Nat) (ks : List (List Int)) : exS T (.asgKs i ks) η = Fl.on (setK η i (.lk ks)) .nx := by rw [exS]
@[simp] theorem exS_dputE (i : Nat) (es e : E) : exS T (.dputE i es e) η = Fl.of η (ev T e η) fun x => Fl.of η (intOf x) fun n => Fl.on (odOf η i) fun l => Fl.of η (evs T es η) fun xs => Fl.on (intsOf (xs.map Val.d)) fun k => if Sm (l.length + 1) then .nx (η.set i (some (.od (putL l k n)))) else .st := by rw [exS]
@[simp] theorem exS_dputV (i j : Nat) (e : E) : exS T (.dputV i j e) η = Fl.of η (ev T e η) fun x => Fl.of η (intOf x) fun n => Fl.on (odOf η i) fun l => Fl.on (tkOf η j) fun k => if Sm (l.length + 1) then .nx (η.set i (some (.od (putL l k n)))) else .st := by rw [exS]
@[simp] theorem exS_dputI (i j : Nat) (k e : E) : exS T (.dputI i j k e) η = Fl.of η (ev T e η) fun x => Fl.of η (intOf x) fun n => Fl.on (odOf η i) fun l => Fl.on (lkOf η j) fun ks => Fl.of η (ev T k η) fun y => Fl.of η (intOf y) fun m => Fl.on (atI ks m) fun k => if Sm (l.length + 1) then .nx (η.set i (some (.od (putL l k n)))) else .st := by rw [exS]
@[simp] theorem exS_fod (v i : Nat) (b : S) : exS T (.fod v i b) η = Fl.of η (slotV η i) fun x => Fl.on x.d.dct fun l => noEx (loopF (fodB T v b) (dkeys l) (dropS η i)) := by rw [exS]; rfl
@[simp] theorem exS_fodT (vs : List Nat) (i : Nat) (b : S) : exS T (.fodT vs i b) η = Fl.of η (slotV η i) fun x => Fl.on x.d.dct fun l => noEx (loopF (foTB T vs b) (dkeys l) (dropS η i)) := by rw [exS]; rfl
@[simp] theorem noEx_nx (η : Env) : noEx (.nx η) = .nx η := rfl
@[simp] theorem ev_dnew : ev T .dnew η = .ok (.nd []) := by rw [ev]
@[simp] theorem ev_dis (ks : List (List Int)) (vs : E) : ev T (.dis ks vs) η = (evs T vs η).bind fun xs => (oOk (intsOf (xs.map Val.d))).bind fun ns => (oOk (disL [] ks ns)).map .nd := by rw [ev]
@[simp] theorem ev_dget (a k d : E) : ev T (.dget a k d) η = (ev T a η).bind fun x => (oOk x.d.dct).bind fun _ => (ev T k η).bind fun y => (ev T d η).bind fun z => (oOk x.d.dct).bind fun l => (oOk (keyOf y.d)).bind fun k => (intOf z).map fun n => .cl (.int ((lookL l k).getD n)) := by rw [ev]
@[simp] theorem ev_dat (a k : E) : ev T (.dat a k) η = (ev T a η).bind fun x => (ev T k η).bind fun y => (oOk x.d.dct).bind fun l => (oOk (keyOf y.d)).bind fun k => (oOk (lookL l k)).map fun n => .cl (.int n) := by rw [ev]
theorem exS_tryK (b : S) (x i j : Nat) : exS T (.tryK b x i j) η = (match exS T b η with
    | .ex c η' => if subX c x = true then keepF T.ex c i j η' else .ex c η'
    | f => f) := by
  rw [exS]
  all_goals (cases exS T b η <;> rfl)
@[simp] theorem ev_isx (a : E) (j : Nat) : ev T (.isx a j) η = (ev T a η).bind fun x => (oOk (exN T.ex x.d)).map fun c => .cl (.bool (subX c j)) := by rw [ev]
@[simp] theorem ev_isv (a : E) : ev T (.isv a) η = (ev T a η).bind fun x => (oOk (exN T.ex x.d)).map fun _ => .cl (.bool true) := by rw [ev]
@[simp] theorem exN_exD (l : List Str) (n : Str) : exN l (.dict [(.str n, .none)]) = exIx l n := rfl
theorem exS_tryA (b : S) (x i : Nat) (h : HS) : exS T (.tryA b x i h) η = (match exS T b η with
    | .ex c η' => if subX c x = true then hsF c i η' h else .ex c η'
    | f => f) := by
  rw [exS]
  all_goals (cases exS T b η <;> rfl)
theorem exS_tryN (b : S) (x : Nat) (h : S) : exS T (.tryN b x h) η = (match exS T b η with
    | .ex c η' => if subX c x = true then exS T h η' else .ex c η'
    | f => f) := by
  rw [exS]
  all_goals (cases exS T b η <;> rfl)
/-! names -/
@[simp] theorem slotV_0 (d : D) (η : Env) : slotV (some (.sh d) :: η) 0 = .ok (.cl d) := rfl
@[simp] theorem slotV_0o (ds : List D) (η : Env) : slotV (some (.ow ds) :: η) 0 = .ok (.br 0 ds) := rfl
def upB : Res Val → Res Val
  | .ok (.br j ds) => .ok (.br (j + 1) ds)
  | .ok (.bd j l) => .ok (.bd (j + 1) l)
  | r => r
@[simp] theorem slotV_0d (l : Dl) (η : Env) : slotV (some (.od l) :: η) 0 = .ok (.bd 0 l) := rfl
@[simp] theorem slotV_0f (d : D) (η : Env) : slotV (some (.fr d) :: η) 0 = .ok (.cl d) := rfl
@[simp] theorem slotV_0k (k : Sk) (η : Env) : slotV (some (.kk k) :: η) 0 = .ok (.cl k.d) := rfl
@[simp] theorem upB_bd (j : Nat) (l : Dl) : upB (.ok (.bd j l)) = .ok (.bd (j + 1) l) := rfl
@[simp] theorem upB_cl (d : D) : upB (.ok (.cl d)) = .ok (.cl d) := rfl
@[simp] theorem upB_br (j : Nat) (ds : List D) : upB (.ok (.br j ds)) = .ok (.br (j + 1) ds) := rfl
@[simp] theorem slotV_s (s : Option Sl) (η : Env) (i : Nat) : slotV (s :: η) (i + 1) = upB (slotV η i) := by
  unfold slotV
  rw [List.getElem?_cons_succ]
  cases η[i]? with
  | none => rfl
  | some s =>
    cases s with
    | none => rfl
    | some s => cases s <;> rfl
@[simp] theorem owOf_0 (ds : List D) (η : Env) : owOf (some (.ow ds) :: η) 0 = some ds := rfl
@[simp] theorem owOf_s (s : Option Sl) (η : Env) (i : Nat) : owOf (s :: η) (i + 1) = owOf η i := by
  unfold owOf
  rw [List.getElem?_cons_succ]
@[simp] theorem odOf_0 (l : Dl) (η : Env) : odOf (some (.od l) :: η) 0 = some l := rfl
@[simp] theorem odOf_s (s : Option Sl) (η : Env) (i : Nat) : odOf (s :: η) (i + 1) = odOf η i := by
  unfold odOf
  rw [List.getElem?_cons_succ]
@[simp] theorem tkOf_0 (k : List Int) (η : Env) : tkOf (some (.kk (.tk k)) :: η) 0 = some k := rfl
@[simp] theorem tkOf_s (s : Option Sl) (η : Env) (i : Nat) : tkOf (s :: η) (i + 1) = tkOf η i := by
  unfold tkOf
  rw [List.getElem?_cons_succ]
@[simp] theorem lkOf_0 (ks : List (List Int)) (η : Env) : lkOf (some (.kk (.lk ks)) :: η) 0 = some ks := rfl
@[simp] theorem lkOf_s (s : Option Sl) (η : Env) (i : Nat) : lkOf (s :: η) (i + 1) = lkOf η i := by
  unfold lkOf
  rw [List.getElem?_cons_succ]
@[simp] theorem setK_if (η : Env) (i : Nat) (k : Sk) : setK η i k = if i < η.length then some (η.set i (some (.kk k))) else none := rfl
@[simp] theorem asgV_nd (η : Env) (i : Nat) (l : Dl) : asgV η i (.nd l) = if i < η.length then some (η.set i (some (.od l))) else none := rfl
@[simp] theorem d_nd (l : Dl) : Val.d (.nd l) = dD l := rfl
@[simp] theorem d_bd (j : Nat) (l : Dl) : Val.d (.bd j l) = dD l := rfl
@[simp] theorem skd_tk (k : List Int) : Sk.d (.tk k) = .tuple (k.map PyData.int) := rfl
@[simp] theorem intsOf_nil : intsOf [] = some [] := rfl
@[simp] theorem intsOf_cons (i : Int) (r : List D) : intsOf (.int i :: r) = (intsOf r).map (i :: ·) := rfl
@[simp] theorem keyOf_t (ds : List D) : keyOf (.tuple ds) = intsOf ds := rfl
@[simp] theorem disL_nil (l : Dl) : disL l [] [] = some l := rfl
@[simp] theorem disL_cons (l : Dl) (k : List Int) (ks : List (List Int)) (v : Int) (vs : List Int) : disL l (k :: ks) (v :: vs) = disL (putL l k v) ks vs := rfl
@[simp] theorem retD_nd (l : Dl) : retD (.nd l) = some (dD l) := rfl
@[simp] theorem retD_bd (j : Nat) (l : Dl) : retD (.bd j l) = some (dD l) := rfl
@[simp] theorem asgV_cl (η : Env) (i : Nat) (d : D) : asgV η i (.cl d) = if i < η.length then some (η.set i (some (.sh d))) else none := rfl
@[simp] theorem asgV_nw (η : Env) (i : Nat) (ds : List D) : asgV η i (.nw ds) = if i < η.length then some (η.set i (some (.ow ds))) else none := rfl
@[simp] theorem asgL_nil (η : Env) : asgL η [] [] = some η := rfl
@[simp] theorem asgL_cons (η : Env) (i : Nat) (is : List Nat) (d : D) (ds : List D) : asgL η (i :: is) (d :: ds) = (asgV η i (.cl d)).bind fun η' => asgL η' is ds := rfl
@[simp] theorem tupOf_t (ds : List D) : tupOf (.cl (.tuple ds)) = some ds := rfl
@[simp] theorem lstOf_n (ds : List D) : lstOf (.nw ds) = some ds := rfl
@[simp] theorem lstOf_b (j : Nat) (ds : List D) : lstOf (.br j ds) = some ds := rfl
@[simp] theorem sh_cl (d : D) : Val.sh (.cl d) = some d := rfl
@[simp] theorem sh_nw (ds : List D) : Val.sh (.nw ds) = some (.list ds) := rfl
@[simp] theorem shAll_nil : shAll [] = some [] := rfl
@[simp] theorem shAll_cl (d : D) (xs : List Val) : shAll (.cl d :: xs) = (shAll xs).map (d :: ·) := by
  rw [shAll]
  cases shAll xs <;> rfl
@[simp] theorem shAll_nw (ds : List D) (xs : List Val) : shAll (.nw ds :: xs) = (shAll xs).map (.list ds :: ·) := by
  rw [shAll]
  cases shAll xs <;> rfl
@[simp] theorem d_cl (d : D) : Val.d (.cl d) = d := rfl
@[simp] theorem d_nw (ds : List D) : Val.d (.nw ds) = .list ds := rfl
@[simp] theorem d_br (j : Nat) (ds : List D) : Val.d (.br j ds) = .list ds := rfl
@[simp] theorem seq_l (ds : List D) : D.seq (.list ds) = some ds := rfl
@[simp] theorem seq_t (ds : List D) : D.seq (.tuple ds) = some ds := rfl
@[simp] theorem intOf_i (i : Int) : intOf (.cl (.int i)) = .ok i := rfl
@[simp] theorem bitOf_b (b : Bool) : bitOf (.cl (.bool b)) = .ok b := rfl
@[simp] theorem retV_l (ds : List D) : retV (.list ds) = .nw ds := rfl
@[simp] theorem retV_t (ds : List D) : retV (.tuple ds) = .cl (.tuple ds) := rfl
@[simp] theorem retV_i (i : Int) : retV (.int i) = .cl (.int i) := rfl
@[simp] theorem retV_b (b : Bool) : retV (.bool b) = .cl (.bool b) := rfl
@[simp] theorem retV_n : retV .none = .cl .none := rfl
@[simp] theorem retV_s (s : Str) : retV (.str s) = .cl (.str s) := rfl
/-! operations -/
@[simp] theorem add_i (i j : Int) : binV .add (.cl (.int i)) (.cl (.int j)) = .ok (.cl (.int (i + j))) := rfl
@[simp] theorem sub_i (i j : Int) : binV .sub (.cl (.int i)) (.cl (.int j)) = .ok (.cl (.int (i - j))) := rfl
@[simp] theorem mul_i (i j : Int) : binV .mul (.cl (.int i)) (.cl (.int j)) = if MuOk i j then .ok (.cl (.int (i * j))) else .st := rfl
@[simp] theorem fdiv_i (i j : Int) : binV .fdiv (.cl (.int i)) (.cl (.int j)) = if DivOk i j then .ok (.cl (.int (i.fdiv j))) else .st := rfl
@[simp] theorem mod_i (i j : Int) : binV .mod (.cl (.int i)) (.cl (.int j)) = if j = 0 then .st else .ok (.cl (.int (i.fmod j))) := rfl
@[simp] theorem pow_i (i j : Int) : binV .pow (.cl (.int i)) (.cl (.int j)) = if PowOk i j then .ok (.cl (.int (i ^ j.toNat))) else .st := rfl
@[simp] theorem neg_i (i : Int) : negV (.cl (.int i)) = .ok (.cl (.int (-i))) := rfl
noncomputable def catL (ds es : List D) : Res Val := if Sm (ds.length + es.length) then .ok (.nw (ds ++ es)) else .st
@[simp] theorem add_nn (ds es : List D) : binV .add (.nw ds) (.nw es) = catL ds es := rfl
@[simp] theorem add_nb (ds es : List D) (j : Nat) : binV .add (.nw ds) (.br j es) = catL ds es := rfl
@[simp] theorem add_bn (ds es : List D) (j : Nat) : binV .add (.br j ds) (.nw es) = catL ds es := rfl
@[simp] theorem add_bb (ds es : List D) (i j : Nat) : binV .add (.br i ds) (.br j es) = catL ds es := rfl
theorem catL_ok {ds es : List D} (h : ds.length + es.length ≤ big) : catL ds es = .ok (.nw (ds ++ es)) := if_pos h
noncomputable def repL (ds : List D) (k : Int) : Res Val := if RepOk ds.length k then .ok (.nw (List.replicate k.toNat ds).flatten) else .st
@[simp] theorem mul_n (ds : List D) (k : Int) : binV .mul (.nw ds) (.cl (.int k)) = repL ds k := rfl
@[simp] theorem mul_b (ds : List D) (j : Nat) (k : Int) : binV .mul (.br j ds) (.cl (.int k)) = repL ds k := rfl
theorem repL_one {d : D} {k : Nat} (h : k ≤ big) : repL [d] (k : Int) = .ok (.nw (List.replicate k d)) := by
  unfold repL
  have hb : big = 16777216 := rfl
  rw [if_pos (by
    refine ⟨by omega, by omega, ?_⟩
    simp only [List.length_cons, List.length_nil, Int.toNat_natCast]
    omega)]
  have e : (List.replicate k [d]).flatten = List.replicate k d := by
    induction k with
    | zero => rfl
    | succ k ih => rw [List.replicate_succ, List.flatten_cons, ih (by omega)]; rfl
  rw [Int.toNat_natCast, e]
@[simp] theorem lt_i (i j : Int) : cmpV .lt (.cl (.int i)) (.cl (.int j)) = .ok (decide (i < j)) := rfl
@[simp] theorem le_i (i j : Int) : cmpV .le (.cl (.int i)) (.cl (.int j)) = .ok (decide (i ≤ j)) := rfl
@[simp] theorem gt_i (i j : Int) : cmpV .gt (.cl (.int i)) (.cl (.int j)) = .ok (decide (j < i)) := rfl
@[simp] theorem ge_i (i j : Int) : cmpV .ge (.cl (.int i)) (.cl (.int j)) = .ok (decide (j ≤ i)) := rfl
@[simp] theorem eq_v (x y : Val) : cmpV .eq x y = eqD x.d y.d := rfl
@[simp] theorem in_v (x y : Val) : cmpV .inC x y = memD x.d y.d := rfl
@[simp] theorem ni_v (x y : Val) : cmpV .niC x y = (memD x.d y.d).map (!·) := rfl
@[simp] theorem ne_v (x y : Val) : cmpV .ne x y = (eqD x.d y.d).map (!·) := rfl
@[simp] theorem eqD_i (i j : Int) : eqD (.int i) (.int j) = .ok (decide (i = j)) := rfl
@[simp] theorem eqD_ss (a b : Str) : eqD (.str a) (.str b) = .ok (decide (a = b)) := rfl
@[simp] theorem is_b (x : Val) (b : Bool) : cmpV .isN x (.cl (.bool b)) = .ok (match x.d with | .bool a => a == b | _ => false) := by cases x <;> rfl
@[simp] theorem isnot_b (x : Val) (b : Bool) : cmpV .notN x (.cl (.bool b)) = .ok (match x.d with | .bool a => !(a == b) | _ => true) := by cases x <;> rfl
@[simp] theorem truD_b (b : Bool) : truD (.bool b) = .ok b := rfl
@[simp] theorem idx_t (ds : List D) (k : Int) : idxV (.cl (.tuple ds)) (.cl (.int k)) = (oOk (atI ds k)).map .cl := rfl
@[simp] theorem idx_l (ds : List D) (k : Int) : idxV (.cl (.list ds)) (.cl (.int k)) = (oOk (atI ds k)).map .cl := rfl
@[simp] theorem idx_n (ds : List D) (k : Int) : idxV (.nw ds) (.cl (.int k)) = (oOk (atI ds k)).map .cl := rfl
@[simp] theorem idx_b (j : Nat) (ds : List D) (k : Int) : idxV (.br j ds) (.cl (.int k)) = (oOk (atI ds k)).map .cl := rfl
@[simp] theorem sl_l (ds : List D) (lo hi : Option Int) : slV (.cl (.list ds)) lo hi = .ok (.nw (cutD ds lo hi)) := rfl
@[simp] theorem rev_t (ds : List D) : revV (.cl (.tuple ds)) = .ok (.cl (.tuple ds.reverse)) := rfl
@[simp] theorem rev_l (ds : List D) : revV (.cl (.list ds)) = .ok (.nw ds.reverse) := rfl
@[simp] theorem rev_n (ds : List D) : revV (.nw ds) = .ok (.nw ds.reverse) := rfl
@[simp] theorem rev_b (j : Nat) (ds : List D) : revV (.br j ds) = .ok (.nw ds.reverse) := rfl
@[simp] theorem sl_t (ds : List D) (lo hi : Option Int) : slV (.cl (.tuple ds)) lo hi = .ok (.cl (.tuple (cutD ds lo hi))) := rfl
@[simp] theorem sl_n (ds : List D) (lo hi : Option Int) : slV (.nw ds) lo hi = .ok (.nw (cutD ds lo hi)) := rfl
@[simp] theorem sl_b (j : Nat) (ds : List D) (lo hi : Option Int) : slV (.br j ds) lo hi = .ok (.nw (cutD ds lo hi)) := rfl
@[simp] theorem len_l (ds : List D) : biV .len [.cl (.list ds)] = .ok (.cl (.int ds.length)) := rfl
@[simp] theorem len_t (ds : List D) : biV .len [.cl (.tuple ds)] = .ok (.cl (.int ds.length)) := rfl
@[simp] theorem len_n (ds : List D) : biV .len [.nw ds] = .ok (.cl (.int ds.length)) := rfl
@[simp] theorem len_b (j : Nat) (ds : List D) : biV .len [.br j ds] = .ok (.cl (.int ds.length)) := rfl
@[simp] theorem abs_i (i : Int) : biV .abs [.cl (.int i)] = .ok (.cl (.int i.natAbs)) := rfl
@[simp] theorem max_i (i j : Int) : biV .max2 [.cl (.int i), .cl (.int j)] = .ok (.cl (.int (max i j))) := rfl
@[simp] theorem min_i (i j : Int) : biV .min2 [.cl (.int i), .cl (.int j)] = .ok (.cl (.int (min i j))) := rfl
@[simp] theorem int_i (i : Int) : biV .int1 [.cl (.int i)] = .ok (.cl (.int i)) := rfl
@[simp] theorem int_b (b : Bool) : biV .int1 [.cl (.bool b)] = .ok (.cl (.int (if b = true then 1 else 0))) := rfl
@[simp] theorem tup_t (ds : List D) : biV .tuple1 [.cl (.tuple ds)] = .ok (.cl (.tuple ds)) := rfl
@[simp] theorem tup_l (ds : List D) : biV .tuple1 [.cl (.list ds)] = .ok (.cl (.tuple ds)) := rfl
@[simp] theorem tup_n (ds : List D) : biV .tuple1 [.nw ds] = .ok (.cl (.tuple ds)) := rfl
@[simp] theorem tup_b (j : Nat) (ds : List D) : biV .tuple1 [.br j ds] = .ok (.cl (.tuple ds)) := rfl
@[simp] theorem list_t (ds : List D) : biV .list1 [.cl (.tuple ds)] = .ok (.nw ds) := rfl
@[simp] theorem list_l (ds : List D) : biV .list1 [.cl (.list ds)] = .ok (.nw ds) := rfl
@[simp] theorem list_n (ds : List D) : biV .list1 [.nw ds] = .ok (.nw ds) := rfl
@[simp] theorem list_b (j : Nat) (ds : List D) : biV .list1 [.br j ds] = .ok (.nw ds) := rfl
@[simp] theorem isi_i (i : Int) : isiD (.int i) .int = .ok true := rfl
@[simp] theorem isi_ib (i : Int) : isiD (.int i) .bool = .ok false := rfl
@[simp] theorem isi_t (ds : List D) : isiD (.tuple ds) .tuple = .ok true := rfl
@[simp] theorem isi_l (ds : List D) : isiD (.list ds) .list = .ok true := rfl
@[simp] theorem isi_b (b : Bool) : isiD (.bool b) .bool = .ok true := rfl
@[simp] theorem isi_bi (b : Bool) : isiD (.bool b) .int = .ok true := rfl
@[simp] theorem lf_i (i : Int) : lf (.int i) = true := rfl
@[simp] theorem lf_b (b : Bool) : lf (.bool b) = true := rfl
@[simp] theorem lf_t (ds : List D) : lf (.tuple ds) = lfAll ds := by rw [lf]
@[simp] theorem lf_s (s : Str) : lf (.str s) = true := rfl
@[simp] theorem lf_n : lf .none = true := rfl
@[simp] theorem lfAll_nil : lfAll [] = true := rfl
@[simp] theorem lfAll_cons (d : D) (ds : List D) : lfAll (d :: ds) = (lf d && lfAll ds) := by rw [lfAll]
@[simp] theorem lfAll_ints (ns : List Int) : lfAll (ns.map PyData.int) = true := by
  induction ns with
  | nil => rfl
  | cons n ns ih => rw [List.map_cons, lfAll_cons, ih]; rfl
@[simp] theorem retD_cl (d : D) : retD (.cl d) = if lf d = true then some d else none := rfl
@[simp] theorem retD_nw (ds : List D) : retD (.nw ds) = if lfAll ds = true then some (.list ds) else none := rfl
@[simp] theorem retD_br (j : Nat) (ds : List D) : retD (.br j ds) = if lfAll ds = true then some (.list ds) else none := rfl
@[simp] theorem wk_v (x : Val) : (Wk.v x).ds = x.d.seq.getD [] := rfl
@[simp] theorem wk_c (lo c : Int) (n : Nat) : (Wk.c lo c n).ds = rngC lo c n := rfl
@[simp] theorem pre_c (lo c : Int) (n : Nat) : Wk.pre η (.c lo c n) = η := rfl
@[simp] theorem wk_r (lo : Int) (n : Nat) : (Wk.r lo n).ds = rngD lo n := rfl
@[simp] theorem pre_cl (d : D) : Wk.pre η (.v (.cl d)) = η := rfl
@[simp] theorem pre_nw (ds : List D) : Wk.pre η (.v (.nw ds)) = η := rfl
@[simp] theorem pre_r (lo : Int) (n : Nat) : Wk.pre η (.r lo n) = η := rfl
/-! loops -/
theorem wh_step {c : Env → Res Bool} {b : Env → Fl} {η' : Env} (hc : c η = .ok true) (hb : b η = .nx η') : whS c b η = whS c b η' := by
  rw [whS_eq, hc]
  show turnF (whS c b) (b η) = _
  rw [hb]
  rfl
theorem wh_end {c : Env → Res Bool} {b : Env → Fl} (hc : c η = .ok false) : whS c b η = .nx η := by
  rw [whS_eq, hc]
  rfl
theorem loop_fold {σ : Type} {f : D → Env → Fl} {g : α → D} {En : σ → Env} {stp : σ → α → σ} {P : σ → Prop} (xs : List α) (h : ∀ s x, x ∈ xs → P s → f (g x) (En s) = .nx (En (stp s x)) ∧ P (stp s x)) :
    ∀ s, P s → loopF f (xs.map g) (En s) = .nx (En (xs.foldl stp s)) ∧ P (xs.foldl stp s) := by
  induction xs with
  | nil => exact fun s p => ⟨rfl, p⟩
  | cons x xs ih =>
    intro s p
    obtain ⟨h1, h2⟩ := h s x List.mem_cons_self p
    rw [List.map_cons, loopF, h1]
    exact ih (fun s y hy => h s y (List.mem_cons_of_mem _ hy)) _ h2
theorem loop_range {f : D → Env → Fl} {lo : Int} {n : Nat} {En : Nat → Env} (h : ∀ k, k < n → f (.int (lo + k)) (En k) = .nx (En (k + 1))) : loopF f (rngD lo n) (En 0) = .nx (En n) := by
  have key : ∀ m k, k + m = n → loopF f ((List.range' k m).map fun (j : Nat) => PyData.int (lo + j)) (En k) = .nx (En n) := by
    intro m
    induction m with
    | zero => intro k e; rw [← e]; rfl
    | succ m ih =>
      intro k e
      rw [List.range'_succ, List.map_cons, loopF, h k (by omega)]
      exact ih (k + 1) (by omega)
  have := key n 0 (by omega)
  rw [← List.range_eq_range'] at this
  exact this
/-- a loop over anything, by what is kept -/
theorem loop_inv {f : D → Env → Fl} {I : Env → Prop} {ds : List D} (h : ∀ d η, d ∈ ds → I η → ∃ η', f d η = .nx η' ∧ I η') : ∀ η, I η → ∃ η', loopF f ds η = .nx η' ∧ I η' := by
  induction ds with
  | nil => exact fun η i => ⟨η, rfl, i⟩
  | cons d ds ih =>
    intro η i
    obtain ⟨η1, h1, i1⟩ := h d η List.mem_cons_self i
    rw [loopF, h1]
    exact ih (fun d η hd => h d η (List.mem_cons_of_mem _ hd)) η1 i1
/-- a comprehension without a test -/
theorem comp_map {f : D → Res Val} {g : α → D} {k : α → D} (xs : List α) (h : ∀ x ∈ xs, f (g x) = .ok (.cl (k x))) : ∀ acc : List D, acc.length + xs.length ≤ big → compF (fun _ => .ok true) f (xs.map g) acc = .ok (acc ++ xs.map k) := by
  induction xs with
  | nil => intro acc _; simp [compF]
  | cons x xs ih =>
    intro acc hl
    simp only [List.length_cons] at hl
    rw [List.map_cons, compF, h x List.mem_cons_self]
    simp only [Res.bind_ok, if_true, sh_cl, oOk_some]
    rw [if_pos (show Sm (acc.length + 1) from show acc.length + 1 ≤ big by omega), ih (fun y hy => h y (List.mem_cons_of_mem _ hy)) _ (by simp; omega)]
    simp
theorem comp_filter {t : D → Res Bool} {f : D → Res Val} {g : α → D} {k : α → D} {p : α → Bool} (xs : List α) (ht : ∀ x ∈ xs, t (g x) = .ok (p x)) (h : ∀ x ∈ xs, p x = true → f (g x) = .ok (.cl (k x))) :
    ∀ acc : List D, acc.length + xs.length ≤ big → compF t f (xs.map g) acc = .ok (acc ++ (xs.filter p).map k) := by
  induction xs with
  | nil => intro acc _; simp [compF]
  | cons x xs ih =>
    intro acc hl
    simp only [List.length_cons] at hl
    rw [List.map_cons, compF, ht x List.mem_cons_self]
    cases hp : p x with
    | true =>
      rw [h x List.mem_cons_self hp]
      simp only [Res.bind_ok, if_true, sh_cl, oOk_some]
      rw [if_pos (show Sm (acc.length + 1) from show acc.length + 1 ≤ big by omega), ih (fun y hy => ht y (List.mem_cons_of_mem _ hy)) (fun y hy => h y (List.mem_cons_of_mem _ hy)) _ (by simp; omega)]
      simp [hp]
    | false =>
      simp only [Res.bind_ok, Bool.false_eq_true, if_false]
      rw [ih (fun y hy => ht y (List.mem_cons_of_mem _ hy)) (fun y hy => h y (List.mem_cons_of_mem _ hy)) _ (by omega)]
      simp [hp]
@[simp] theorem compR_ok (ds : List D) : compR (.ok ds) = .ok (.nw ds) := rfl
@[simp] theorem tcond_nop : tcond T .nop η = .ok true := rfl
end
/-! numbers -/
theorem mulOk_of {i j : Int} {a b : Nat} (hi : i.natAbs < 2 ^ a) (hj : j.natAbs < 2 ^ b) (h : a + b ≤ 133999990) : MuOk i j := by
  have x := PySem.Flt.log2_lt_of (k := a + 1) (by omega) (Nat.lt_of_lt_of_le hi (Nat.pow_le_pow_right (by omega) (by omega)))
  have y := PySem.Flt.log2_lt_of (k := b + 1) (by omega) (Nat.lt_of_lt_of_le hj (Nat.pow_le_pow_right (by omega) (by omega)))
  show i.natAbs.log2 + j.natAbs.log2 < 134000000
  omega
theorem divOk_of {i j : Int} (h0 : j ≠ 0) (h : j.natAbs.log2 < 9000) : DivOk i j := h0
theorem divOk_small {i j : Int} (h0 : j ≠ 0) (h : j.natAbs < 1073741824) : DivOk i j := h0
theorem small_nat {n : Nat} (h : n ≤ big) : small (n : Int) := by
  have hb : big = 16777216 := rfl
  exact ⟨by omega, by omega⟩
theorem atI_get' {α : Type} {xs : List α} {j : Nat} (h : j < xs.length) : atI xs (j : Int) = some xs[j] := atI_nat (List.getElem?_eq_getElem h)
theorem cutD_take (xs : List D) (k : Nat) : cutD xs none (some (k : Int)) = xs.take k := by
  unfold cutD
  rw [HT.sIx_none, HT.sIx_nat]
  simp only [List.drop_zero, Nat.sub_zero]
  rw [List.take_eq_take_iff]
  omega
theorem cutD_drop (xs : List D) (k : Nat) : cutD xs (some (k : Int)) none = xs.drop k := by
  unfold cutD
  rw [HT.sIx_none, HT.sIx_nat]
  by_cases h : k ≤ xs.length
  · rw [Nat.min_eq_left h, List.take_of_length_le (by simp)]
  · rw [Nat.min_eq_right (by omega), List.drop_of_length_le (Nat.le_refl _), List.drop_of_length_le (by omega)]
    simp
theorem cutD_both (xs : List D) (i j : Nat) : cutD xs (some (i : Int)) (some (j : Int)) = (xs.drop i).take (j - i) := by
  unfold cutD
  rw [HT.sIx_nat, HT.sIx_nat]
  by_cases h : i ≤ xs.length
  · rw [Nat.min_eq_left h]
    rw [List.take_eq_take_iff]
    simp only [List.length_drop]
    omega
  · rw [Nat.min_eq_right (show xs.length ≤ i by omega), List.drop_of_length_le (Nat.le_refl _), List.drop_of_length_le (show xs.length ≤ i by omega)]
    simp
/-- ints as data -/
def zs (ns : List Int) : List D := ns.map PyData.int
theorem zs_map (ns : List Int) : ns.map PyData.int = zs ns := rfl
@[simp] theorem zs_length (ns : List Int) : (zs ns).length = ns.length := List.length_map ..
@[simp] theorem zs_append (a b : List Int) : zs a ++ zs b = zs (a ++ b) := by simp [zs]
@[simp] theorem zs_take (a : List Int) (k : Nat) : (zs a).take k = zs (a.take k) := by simp [zs]
@[simp] theorem zs_drop (a : List Int) (k : Nat) : (zs a).drop k = zs (a.drop k) := by simp [zs]
@[simp] theorem zs_dropLast (a : List Int) : (zs a).dropLast = zs a.dropLast := by simp [zs, List.map_dropLast]
@[simp] theorem zs_set (a : List Int) (k : Nat) (x : Int) : (zs a).set k (.int x) = zs (a.set k x) := by simp [zs, List.map_set]
@[simp] theorem zs_snoc (a : List Int) (x : Int) : zs a ++ [.int x] = zs (a ++ [x]) := by simp [zs]
@[simp] theorem zs_cons (a : List Int) (x : Int) : PyData.int x :: zs a = zs (x :: a) := rfl
@[simp] theorem lfAll_zs (a : List Int) : lfAll (zs a) = true := lfAll_ints a
theorem zs_nil : zs [] = [] := rfl
theorem zs_rep (n : Nat) (x : Int) : List.replicate n (PyData.int x) = zs (List.replicate n x) := by simp [zs]
theorem zs_get {ns : List Int} {k : Nat} (h : k < ns.length) : (zs ns)[k]? = some (.int (ns[k]?.getD 0)) := by
  unfold zs
  rw [List.getElem?_map, List.getElem?_eq_getElem h]
  simp
theorem atI_zs {ns : List Int} {k : Nat} (h : k < ns.length) : atI (zs ns) (k : Int) = some (.int (ns[k]?.getD 0)) := atI_nat (zs_get h)
theorem ixN_nat {n k : Nat} (h : k < n) : ixN n (k : Int) = some k := by
  unfold ixN
  rw [if_pos (by omega), if_pos (by omega)]
  simp
@[simp] theorem tbl_ex (p : Pr) (n : Nat) : (tbl p n).ex = p.ex := rfl
@[simp] theorem tbl_G (p : Pr) (n : Nat) : (tbl p n).G = runF p n := rfl
@[simp] theorem tbl_S (p : Pr) (n : Nat) : (tbl p n).S = runS p n := rfl
@[simp] theorem tbl_sh (p : Pr) (n : Nat) : (tbl p n).sh = p.sh := rfl
theorem loop_rel {α σ : Type} {f : D → Env → Fl} {g : α → D} {R : σ → Env → Prop} {stp : σ → α → σ} (xs : List α) (h : ∀ s x η, x ∈ xs → R s η → ∃ η', f (g x) η = .nx η' ∧ R (stp s x) η') :
    ∀ s η, R s η → ∃ η', loopF f (xs.map g) η = .nx η' ∧ R (xs.foldl stp s) η' := by
  induction xs with
  | nil => exact fun s η r => ⟨η, rfl, r⟩
  | cons x xs ih =>
    intro s η r
    obtain ⟨η1, h1, r1⟩ := h s x η List.mem_cons_self r
    rw [List.map_cons, loopF, h1]
    exact ih (fun s y η hy => h s y η (List.mem_cons_of_mem _ hy)) _ η1 r1
/-- a loop over a range, by what holds at each turn -/
theorem loop_rng {f : D → Env → Fl} {lo : Int} {n : Nat} {R : Nat → Env → Prop} (h : ∀ k η, k < n → R k η → ∃ η', f (.int (lo + k)) η = .nx η' ∧ R (k + 1) η') : ∀ η, R 0 η → ∃ η', loopF f (rngD lo n) η = .nx η' ∧ R n η' := by
  have key : ∀ m k η, k + m = n → R k η → ∃ η', loopF f ((List.range' k m).map fun (j : Nat) => PyData.int (lo + j)) η = .nx η' ∧ R n η' := by
    intro m
    induction m with
    | zero =>
      intro k η e r
      have : k = n := by omega
      subst this
      exact ⟨η, rfl, r⟩
    | succ m ih =>
      intro k η e r
      obtain ⟨η1, h1, r1⟩ := h k η (by omega) r
      rw [List.range'_succ, List.map_cons, loopF, h1]
      exact ih (k + 1) η1 (by omega) r1
  intro η r
  have := key n 0 η (by omega) r
  rw [← List.range_eq_range'] at this
  exact this
theorem rngD_zero (n : Nat) : rngD 0 n = (List.range n).map fun (k : Nat) => PyData.int (k : Int) := by
  unfold rngD
  simp
theorem ev_comp_map {α : Type} {T : Tb} {η : Env} {v : Nat} {it e : E} {w : Wk} (xs : List α) (g k : α → D) (hv : freeS η v = true) (hi : evi T it η = .ok w) (hw : w.ds = xs.map g) (hl : xs.length ≤ big)
    (h : ∀ x ∈ xs, ev T e (η.set v (some (.sh (g x)))) = .ok (.cl (k x))) : ev T (.comp v it .nop e) η = .ok (.nw (xs.map k)) := by
  rw [ev_comp, if_pos hv, hi]
  simp only [Res.bind_ok, hw, tcond_nop]
  rw [comp_map xs h [] (by simpa using hl)]
  simp
theorem ev_comp2_map {α : Type} {T : Tb} {η : Env} {v u : Nat} {it e : E} {w : Wk} (xs : List α) (a b k : α → D) (hv : freeS η v = true) (hu : freeS η u = true) (hne : v ≠ u) (hi : evi T it η = .ok w) (hw : w.ds = xs.map fun x => .tuple [a x, b x]) (hl : xs.length ≤ big)
    (h : ∀ x ∈ xs, ev T e ((η.set v (some (.sh (a x)))).set u (some (.sh (b x)))) = .ok (.cl (k x))) : ev T (.comp2 v u it e) η = .ok (.nw (xs.map k)) := by
  rw [ev_comp2, if_pos ⟨hv, hu, hne⟩, hi]
  simp only [Res.bind_ok, hw]
  rw [comp_map (f := fun d => two2 d fun a b => ev T e ((η.set v (some (.sh a))).set u (some (.sh b)))) (g := fun x => PyData.tuple [a x, b x]) (k := k) xs h [] (by simpa using hl)]
  simp [compR]
theorem max_nat (a b : Nat) : max (a : Int) (b : Int) = ((max a b : Nat) : Int) := by omega
theorem canLay_zs (ns : List Int) : PyData.canLayAll0 (zs ns) = true := by
  induction ns with
  | nil => rfl
  | cons n ns ih =>
    show (PyData.canLay0 (.int n) && PyData.canLayAll0 (zs ns)) = true
    rw [ih]
    rfl
theorem depth_zs (ns : List Int) : PyData.depthAll (zs ns) = 0 := by
  induction ns with
  | nil => rfl
  | cons n ns ih =>
    show max (PyData.depth (.int n)) (PyData.depthAll (zs ns)) = 0
    rw [ih]
    rfl
theorem shaped_l (ns : List Int) : SeqAt.shaped (.list (zs ns)) = true := by
  unfold SeqAt.shaped
  rw [PyData.canLay0, canLay_zs, PyData.depth, depth_zs]
  rfl
theorem shaped_t (ns : List Int) : SeqAt.shaped (.tuple (zs ns)) = true := by
  unfold SeqAt.shaped
  rw [PyData.canLay0, canLay_zs, PyData.depth, depth_zs]
  rfl
theorem eqvAll_zs : ∀ a b : List Int, PyData.eqvAll (zs a) (zs b) = decide (a = b)
  | [], [] => by simp [zs, PyData.eqvAll]
  | [], _ :: _ => by simp [zs, PyData.eqvAll]
  | _ :: _, [] => by simp [zs, PyData.eqvAll]
  | x :: a, y :: b => by
    show (PyData.eqv (.int x) (.int y) && PyData.eqvAll (zs a) (zs b)) = _
    rw [eqvAll_zs a b]
    have : PyData.eqv (.int x) (.int y) = (x == y) := by rw [PyData.eqv]
    rw [this]
    by_cases h : x = y
    · subst h; simp
    · simp [h]
@[simp] theorem eqD_lz (a b : List Int) : eqD (.list (zs a)) (.list (zs b)) = .ok (decide (a = b)) := by
  have : eqD (.list (zs a)) (.list (zs b)) = if SeqAt.shaped (.list (zs a)) = true ∧ SeqAt.shaped (.list (zs b)) = true then .ok (PyData.eqv (.list (zs a)) (.list (zs b))) else .st := rfl
  rw [this, if_pos ⟨shaped_l a, shaped_l b⟩, PyData.eqv, eqvAll_zs]
@[simp] theorem eqD_tz (a b : List Int) : eqD (.tuple (zs a)) (.tuple (zs b)) = .ok (decide (a = b)) := by
  have : eqD (.tuple (zs a)) (.tuple (zs b)) = if SeqAt.shaped (.tuple (zs a)) = true ∧ SeqAt.shaped (.tuple (zs b)) = true then .ok (PyData.eqv (.tuple (zs a)) (.tuple (zs b))) else .st := rfl
  rw [this, if_pos ⟨shaped_t a, shaped_t b⟩, PyData.eqv, eqvAll_zs]
@[simp] theorem eqD_l0 (a : List Int) : eqD (.list (zs a)) (.list []) = .ok (decide (a = [])) := eqD_lz a []
@[simp] theorem eqD_t0 (a : List Int) : eqD (.tuple (zs a)) (.tuple []) = .ok (decide (a = [])) := eqD_tz a []
theorem boolsOf_map {α : Type} (xs : List α) (p : α → Bool) : boolsOf (xs.map fun x => .bool (p x)) = some (xs.map p) := by
  induction xs with
  | nil => rfl
  | cons x xs ih => rw [List.map_cons, boolsOf, ih]; rfl
theorem all1_n {α : Type} (xs : List α) (p : α → Bool) : biV .all1 [.nw (xs.map fun x => .bool (p x))] = .ok (.cl (.bool ((xs.map p).all id))) := by
  show (oOk (boolsOf (xs.map fun x => .bool (p x)))).map (fun bs => Val.cl (.bool (bs.all id))) = _
  rw [boolsOf_map]
  rfl
theorem fmod_lo (i : Int) {j : Int} (h : 0 < j) : 0 ≤ i.fmod j := Int.fmod_nonneg_of_pos i h
theorem fmod_hi (i : Int) {j : Int} (h : 0 < j) : i.fmod j < j := Int.fmod_lt_of_pos i h
/-! the atoms of lists of ints -/
theorem getD_mem {ns : List Int} {k : Nat} {P : Int → Prop} (h : ∀ c ∈ ns, P c) (h0 : P 0) : P (ns[k]?.getD 0) := by
  cases e : ns[k]? with
  | none => exact h0
  | some c => exact h c (List.mem_of_getElem? e)
end PD

/-! the table of law_k30_terms_shown, printed by wip/gen.py -/
namespace Lw
open PySem PySem.Spec PyProof.Rows L2 PD
def topS (i : Nat) : Stmt := PySem.Challenge.pw_planestacks_k30_terms_shown.main.body.getD i (.Pass ⟨0, 0, 0, 0⟩)
abbrev k_trimmed : Nat := 0
abbrev k_part_at : Nat := 1
abbrev k_row_plus : Nat := 2
abbrev k_row_minus : Nat := 3
abbrev k_row_times : Nat := 4
abbrev k_cut_off : Nat := 5
abbrev k_row_at : Nat := 6
abbrev k_board_plus : Nat := 7
abbrev k_board_minus : Nat := 8
abbrev k_board_times : Nat := 9
abbrev k_run_from : Nat := 10
abbrev k_mark_at : Nat := 11
abbrev k_marks_of : Nat := 12
abbrev k_check_open : Nat := 13
abbrev k_mark_of : Nat := 14
abbrev k_is_number : Nat := 15
abbrev k_atom_at : Nat := 16
abbrev k_power_of : Nat := 17
abbrev k_factor_at : Nat := 18
abbrev k_product_at : Nat := 19
abbrev k_sum_at : Nat := 20
abbrev k_read_term : Nat := 21
abbrev k_letter_text : Nat := 22
abbrev k_product_text : Nat := 23
abbrev k_products_of : Nat := 24
abbrev k_show_term : Nat := 25
abbrev k__law_cell : Nat := 26
abbrev k__law_numbers : Nat := 27
abbrev k__law_trim : Nat := 28
abbrev k__law_board_of : Nat := 29
abbrev k__law_product : Nat := 30
abbrev k__law_line : Nat := 31
abbrev k__law_conic : Nat := 32
abbrev k__law_board : Nat := 33
abbrev k__law_letter : Nat := 34
abbrev k__law_shown : Nat := 35
abbrev k__law_any : Nat := 36
abbrev k_law : Nat := 37
def c_trimmed_1 : E := .tbop true (.tcmp .gt (.var 1) (.int 0)) (.tbone true (.tcmp .eq (.idx (.var 0) (.bin .sub (.var 1) (.int 1))) (.int 0)))
def w_trimmed_1 : S := (.seq (.aug 1 .sub (.int 1)) .skip)
/-- trimmed -/
def b_trimmed : S := (.seq (.asg 1 (.bi .len (.cons (.var 0) .nil))) (.seq (.wh c_trimmed_1 w_trimmed_1) (.seq (.ret (.bi .tuple1 (.cons (.sl (.var 0) (.nop) (.sop (.var 1))) .nil))) .skip)))
abbrev i_trimmed : Fi := { name := "trimmed", N := ["parts", "end"], np := 1, body := b_trimmed }
/-- part_at -/
def b_part_at : S := (.seq (.ite (.tcmp .lt (.var 1) (.bi .len (.cons (.var 0) .nil))) (.seq (.ret (.idx (.var 0) (.var 1))) .skip) .skip) (.seq (.ret (.int 0)) .skip))
abbrev i_part_at : Fi := { name := "part_at", N := ["f", "power"], np := 2, body := b_part_at }
/-- row_plus -/
def b_row_plus : S := (.seq (.ret (.call k_trimmed (.cons (.comp 2 (.ir1 (.bi .max2 (.cons (.bi .len (.cons (.var 0) .nil)) (.cons (.bi .len (.cons (.var 1) .nil)) .nil)))) (.nop) (.bin .add (.call k_part_at (.cons (.var 0) (.cons (.var 2) .nil))) (.call k_part_at (.cons (.var 1) (.cons (.var 2) .nil))))) .nil))) .skip)
abbrev i_row_plus : Fi := { name := "row_plus", N := ["f", "g", "k"], np := 2, body := b_row_plus }
/-- row_minus -/
def b_row_minus : S := (.seq (.ret (.call k_trimmed (.cons (.comp 2 (.ir1 (.bi .max2 (.cons (.bi .len (.cons (.var 0) .nil)) (.cons (.bi .len (.cons (.var 1) .nil)) .nil)))) (.nop) (.bin .sub (.call k_part_at (.cons (.var 0) (.cons (.var 2) .nil))) (.call k_part_at (.cons (.var 1) (.cons (.var 2) .nil))))) .nil))) .skip)
abbrev i_row_minus : Fi := { name := "row_minus", N := ["f", "g", "k"], np := 2, body := b_row_minus }
def w_row_times_2 : S := (.seq (.aput 2 .add (.bin .add (.var 3) (.var 4)) (.bin .mul (.idx (.var 0) (.var 3)) (.idx (.var 1) (.var 4)))) .skip)
def w_row_times_1 : S := (.seq (.fo 4 (.ir1 (.bi .len (.cons (.var 1) .nil))) w_row_times_2) .skip)
/-- row_times -/
def b_row_times : S := (.seq (.asg 2 (.bin .mul (.lst (.cons (.int 0) .nil)) (.bin .add (.bi .len (.cons (.var 0) .nil)) (.bi .len (.cons (.var 1) .nil))))) (.seq (.fo 3 (.ir1 (.bi .len (.cons (.var 0) .nil))) w_row_times_1) (.seq (.ret (.call k_trimmed (.cons (.var 2) .nil))) .skip)))
abbrev i_row_times : Fi := { name := "row_times", N := ["f", "g", "found", "i", "j"], np := 2, body := b_row_times }
def c_cut_off_1 : E := .tbop true (.tcmp .gt (.var 1) (.int 0)) (.tbone true (.tcmp .eq (.idx (.var 0) (.bin .sub (.var 1) (.int 1))) (.tup .nil)))
def w_cut_off_1 : S := (.seq (.asg 1 (.bin .sub (.var 1) (.int 1))) .skip)
/-- cut_off -/
def b_cut_off : S := (.seq (.asg 1 (.bi .len (.cons (.var 0) .nil))) (.seq (.wh c_cut_off_1 w_cut_off_1) (.seq (.ret (.bi .tuple1 (.cons (.sl (.var 0) (.nop) (.sop (.var 1))) .nil))) .skip)))
abbrev i_cut_off : Fi := { name := "cut_off", N := ["rows", "end"], np := 1, body := b_cut_off }
/-- row_at -/
def b_row_at : S := (.seq (.ite (.tcmp .lt (.var 1) (.bi .len (.cons (.var 0) .nil))) (.seq (.ret (.idx (.var 0) (.var 1))) .skip) .skip) (.seq (.ret (.tup .nil)) .skip))
abbrev i_row_at : Fi := { name := "row_at", N := ["board", "power"], np := 2, body := b_row_at }
/-- board_plus -/
def b_board_plus : S := (.seq (.ret (.call k_cut_off (.cons (.comp 2 (.ir1 (.bi .max2 (.cons (.bi .len (.cons (.var 0) .nil)) (.cons (.bi .len (.cons (.var 1) .nil)) .nil)))) (.nop) (.call k_row_plus (.cons (.call k_row_at (.cons (.var 0) (.cons (.var 2) .nil))) (.cons (.call k_row_at (.cons (.var 1) (.cons (.var 2) .nil))) .nil)))) .nil))) .skip)
abbrev i_board_plus : Fi := { name := "board_plus", N := ["f", "g", "k"], np := 2, body := b_board_plus }
/-- board_minus -/
def b_board_minus : S := (.seq (.ret (.call k_cut_off (.cons (.comp 2 (.ir1 (.bi .max2 (.cons (.bi .len (.cons (.var 0) .nil)) (.cons (.bi .len (.cons (.var 1) .nil)) .nil)))) (.nop) (.call k_row_minus (.cons (.call k_row_at (.cons (.var 0) (.cons (.var 2) .nil))) (.cons (.call k_row_at (.cons (.var 1) (.cons (.var 2) .nil))) .nil)))) .nil))) .skip)
abbrev i_board_minus : Fi := { name := "board_minus", N := ["f", "g", "k"], np := 2, body := b_board_minus }
def w_board_times_2 : S := (.seq (.put 2 (.bin .add (.var 3) (.var 4)) (.call k_row_plus (.cons (.idx (.var 2) (.bin .add (.var 3) (.var 4))) (.cons (.call k_row_times (.cons (.idx (.var 0) (.var 3)) (.cons (.idx (.var 1) (.var 4)) .nil))) .nil)))) .skip)
def w_board_times_1 : S := (.seq (.fo 4 (.ir1 (.bi .len (.cons (.var 1) .nil))) w_board_times_2) .skip)
/-- board_times -/
def b_board_times : S := (.seq (.asg 2 (.comp 4 (.ir1 (.bin .add (.bi .len (.cons (.var 0) .nil)) (.bi .len (.cons (.var 1) .nil)))) (.nop) (.tup .nil))) (.seq (.fo 3 (.ir1 (.bi .len (.cons (.var 0) .nil))) w_board_times_1) (.seq (.ret (.call k_cut_off (.cons (.var 2) .nil))) .skip)))
abbrev i_board_times : Fi := { name := "board_times", N := ["f", "g", "found", "j", "k"], np := 2, body := b_board_times }
def c_run_from_1 : E := .tbop true (.tcmp .lt (.var 3) (.bi .len (.cons (.var 0) .nil))) (.tbone true (.tcmp .inC (.idx (.var 0) (.var 3)) (.var 2)))
def w_run_from_1 : S := (.seq (.asg 3 (.bin .add (.var 3) (.int 1))) .skip)
/-- run_from -/
def b_run_from : S := (.seq (.asg 3 (.var 1)) (.seq (.wh c_run_from_1 w_run_from_1) (.seq (.ret (.sl (.var 0) (.sop (.var 1)) (.sop (.var 3)))) .skip)))
abbrev i_run_from : Fi := { name := "run_from", N := ["text", "at", "signs", "end"], np := 3, body := b_run_from }
/-- mark_at -/
def b_mark_at : S := (.seq (.asg 2 (.call k_run_from (.cons (.var 0) (.cons (.var 1) (.cons (.bin .add (.glob 1) (.glob 0)) .nil))))) (.seq (.ite (.tcmp .ne (.var 2) (.str "")) (.seq (.ite (.tbop true (.tnot (.tst (.call k_is_number (.cons (.var 2) .nil)))) (.tbone true (.tcmp .niC (.var 2) (.glob 2)))) (.seq (.rai 1) .skip) .skip) (.seq (.ret (.var 2)) .skip)) .skip) (.seq (.ite (.tcmp .inC (.sl (.var 0) (.sop (.var 1)) (.sop (.bin .add (.var 1) (.int 2)))) (.tup (.cons (.str "<=") (.cons (.str ">=") (.cons (.str "!=") .nil))))) (.seq (.ret (.sl (.var 0) (.sop (.var 1)) (.sop (.bin .add (.var 1) (.int 2))))) .skip) .skip) (.seq (.ite (.tcmp .niC (.idx (.var 0) (.var 1)) (.glob 3)) (.seq (.rai 1) .skip) .skip) (.seq (.ret (.idx (.var 0) (.var 1))) .skip)))))
abbrev i_mark_at : Fi := { name := "mark_at", N := ["text", "at", "run"], np := 2, body := b_mark_at }
def w_marks_of_1 : S := (.seq (.ex (.call k_check_open (.cons (.var 1) (.cons (.var 3) .nil)))) .skip)
def c_marks_of_2 : E := .tcmp .lt (.var 2) (.bi .len (.cons (.var 0) .nil))
def w_marks_of_2 : S := (.seq (.ite (.tcmp .eq (.idx (.var 0) (.var 2)) (.str " ")) (.seq (.asg 2 (.bin .add (.var 2) (.int 1))) .skip) (.seq (.app 1 (.call k_mark_at (.cons (.var 0) (.cons (.var 2) .nil)))) (.seq (.asg 2 (.bin .add (.var 2) (.bi .len (.cons (.idx (.var 1) (.neg (.int 1))) .nil)))) .skip))) .skip)
/-- marks_of -/
def b_marks_of : S := (.seq (.asg 1 (.lst .nil)) (.seq (.asg 2 (.int 0)) (.seq (.wh c_marks_of_2 w_marks_of_2) (.seq (.fo 3 (.itv (.tup (.cons (.str "()") (.cons (.str "[]") .nil)))) w_marks_of_1) (.seq (.ret (.var 1)) .skip)))))
abbrev i_marks_of : Fi := { name := "marks_of", N := ["text", "found", "at", "pair"], np := 1, body := b_marks_of }
def w_check_open_1 : S := (.seq (.asg 2 (.bin .sub (.bin .add (.var 2) (.bi .int1 (.cons (.cmp .eq (.var 3) (.idx (.var 1) (.int 0))) .nil))) (.bi .int1 (.cons (.cmp .eq (.var 3) (.idx (.var 1) (.int 1))) .nil)))) (.seq (.ite (.tcmp .gt (.var 2) (.glob 5)) (.seq (.rai 1) .skip) .skip) .skip))
/-- check_open -/
def b_check_open : S := (.seq (.asg 2 (.int 0)) (.seq (.fo 3 (.itv (.var 0)) w_check_open_1) .skip))
abbrev i_check_open : Fi := { name := "check_open", N := ["marks", "pair", "many", "mark"], np := 2, body := b_check_open }
/-- mark_of -/
def b_mark_of : S := (.seq (.ite (.tcmp .lt (.var 1) (.bi .len (.cons (.var 0) .nil))) (.seq (.ret (.idx (.var 0) (.var 1))) .skip) .skip) (.seq (.ret (.str "")) .skip))
abbrev i_mark_of : Fi := { name := "mark_of", N := ["marks", "at"], np := 2, body := b_mark_of }
/-- is_number -/
def b_is_number : S := (.seq (.ite (.tbop false (.tnot (.tch .le .le (.int 1) (.bi .len (.cons (.var 0) .nil)) (.glob 7))) (.tbone false (.tbop true (.tcmp .eq (.idx (.var 0) (.int 0)) (.str "0")) (.tbone true (.tcmp .ne (.var 0) (.str "0")))))) (.seq (.ret (.bl false)) .skip) .skip) (.seq (.ret (.bi .all1 (.cons (.comp 1 (.its (.var 0)) (.nop) (.cmp .inC (.var 1) (.glob 1))) .nil))) .skip))
abbrev i_is_number : Fi := { name := "is_number", N := ["mark", "sign"], np := 1, body := b_is_number }
/-- atom_at -/
def b_atom_at : S := (.seq (.asg 2 (.call k_mark_of (.cons (.var 0) (.cons (.var 1) .nil)))) (.seq (.ite (.tst (.call k_is_number (.cons (.var 2) .nil))) (.seq (.asg 3 (.bi .int1 (.cons (.var 2) .nil))) (.seq (.ite (.tcmp .eq (.var 3) (.int 0)) (.seq (.ret (.tup (.cons (.tup .nil) (.cons (.bin .add (.var 1) (.int 1)) .nil)))) .skip) .skip) (.seq (.ret (.tup (.cons (.tup (.cons (.tup (.cons (.var 3) .nil)) .nil)) (.cons (.bin .add (.var 1) (.int 1)) .nil)))) .skip))) .skip) (.seq (.ite (.tcmp .eq (.var 2) (.str "x")) (.seq (.ret (.tup (.cons (.tup (.cons (.tup (.cons (.int 0) (.cons (.int 1) .nil))) .nil)) (.cons (.bin .add (.var 1) (.int 1)) .nil)))) .skip) .skip) (.seq (.ite (.tcmp .eq (.var 2) (.str "y")) (.seq (.ret (.tup (.cons (.tup (.cons (.tup .nil) (.cons (.tup (.cons (.int 1) .nil)) .nil))) (.cons (.bin .add (.var 1) (.int 1)) .nil)))) .skip) .skip) (.seq (.ite (.tcmp .ne (.var 2) (.str "(")) (.seq (.rai 1) .skip) .skip) (.seq (.asgT [4, 5] (.call k_sum_at (.cons (.var 0) (.cons (.bin .add (.var 1) (.int 1)) .nil)))) (.seq (.ite (.tcmp .ne (.call k_mark_of (.cons (.var 0) (.cons (.var 5) .nil))) (.str ")")) (.seq (.rai 1) .skip) .skip) (.seq (.ret (.tup (.cons (.var 4) (.cons (.bin .add (.var 5) (.int 1)) .nil)))) .skip))))))))
abbrev i_atom_at : Fi := { name := "atom_at", N := ["marks", "at", "mark", "number", "board", "end"], np := 2, body := b_atom_at }
def w_power_of_1 : S := (.seq (.asg 2 (.call k_board_times (.cons (.var 2) (.cons (.var 0) .nil)))) .skip)
/-- power_of -/
def b_power_of : S := (.seq (.asg 2 (.glob 8)) (.seq (.fo 3 (.ir1 (.var 1)) w_power_of_1) (.seq (.ret (.var 2)) .skip)))
abbrev i_power_of : Fi := { name := "power_of", N := ["board", "many", "found", "turn"], np := 2, body := b_power_of }
def c_factor_at_1 : E := .tcmp .eq (.call k_mark_of (.cons (.var 0) (.cons (.bin .add (.var 1) (.var 2)) .nil))) (.str "-")
def w_factor_at_1 : S := (.seq (.asg 2 (.bin .add (.var 2) (.int 1))) .skip)
/-- factor_at -/
def b_factor_at : S := (.seq (.asg 2 (.int 0)) (.seq (.wh c_factor_at_1 w_factor_at_1) (.seq (.ite (.tcmp .gt (.var 2) (.glob 6)) (.seq (.rai 1) .skip) .skip) (.seq (.asgT [3, 4] (.call k_atom_at (.cons (.var 0) (.cons (.bin .add (.var 1) (.var 2)) .nil)))) (.seq (.ite (.tcmp .eq (.call k_mark_of (.cons (.var 0) (.cons (.var 4) .nil))) (.str "^")) (.seq (.asg 5 (.call k_mark_of (.cons (.var 0) (.cons (.bin .add (.var 4) (.int 1)) .nil)))) (.seq (.ite (.tbop false (.tnot (.tst (.call k_is_number (.cons (.var 5) .nil)))) (.tbone false (.tcmp .ne (.bi .len (.cons (.var 5) .nil)) (.int 1)))) (.seq (.rai 1) .skip) .skip) (.seq (.asg 3 (.call k_power_of (.cons (.var 3) (.cons (.bi .int1 (.cons (.var 5) .nil)) .nil)))) (.seq (.asg 4 (.bin .add (.var 4) (.int 2))) .skip)))) .skip) (.seq (.ite (.tcmp .eq (.bin .mod (.var 2) (.int 2)) (.int 1)) (.seq (.asg 3 (.call k_board_minus (.cons (.tup .nil) (.cons (.var 3) .nil)))) .skip) .skip) (.seq (.ret (.tup (.cons (.var 3) (.cons (.var 4) .nil)))) .skip)))))))
abbrev i_factor_at : Fi := { name := "factor_at", N := ["marks", "at", "many", "board", "end", "mark"], np := 2, body := b_factor_at }
def c_product_at_1 : E := .tcmp .eq (.call k_mark_of (.cons (.var 0) (.cons (.var 3) .nil))) (.str "*")
def w_product_at_1 : S := (.seq (.asgT [4, 3] (.call k_factor_at (.cons (.var 0) (.cons (.bin .add (.var 3) (.int 1)) .nil)))) (.seq (.asg 2 (.call k_board_times (.cons (.var 2) (.cons (.var 4) .nil)))) .skip))
/-- product_at -/
def b_product_at : S := (.seq (.asgT [2, 3] (.call k_factor_at (.cons (.var 0) (.cons (.var 1) .nil)))) (.seq (.wh c_product_at_1 w_product_at_1) (.seq (.ret (.tup (.cons (.var 2) (.cons (.var 3) .nil)))) .skip)))
abbrev i_product_at : Fi := { name := "product_at", N := ["marks", "at", "board", "end", "more"], np := 2, body := b_product_at }
def c_sum_at_1 : E := .tcmp .inC (.call k_mark_of (.cons (.var 0) (.cons (.var 3) .nil))) (.tup (.cons (.str "+") (.cons (.str "-") .nil)))
def w_sum_at_1 : S := (.seq (.asg 4 (.idx (.var 0) (.var 3))) (.seq (.asgT [5, 3] (.call k_product_at (.cons (.var 0) (.cons (.bin .add (.var 3) (.int 1)) .nil)))) (.seq (.ite (.tcmp .eq (.var 4) (.str "+")) (.seq (.asg 2 (.call k_board_plus (.cons (.var 2) (.cons (.var 5) .nil)))) .skip) (.seq (.asg 2 (.call k_board_minus (.cons (.var 2) (.cons (.var 5) .nil)))) .skip)) .skip)))
/-- sum_at -/
def b_sum_at : S := (.seq (.asgT [2, 3] (.call k_product_at (.cons (.var 0) (.cons (.var 1) .nil)))) (.seq (.wh c_sum_at_1 w_sum_at_1) (.seq (.ret (.tup (.cons (.var 2) (.cons (.var 3) .nil)))) .skip)))
abbrev i_sum_at : Fi := { name := "sum_at", N := ["marks", "at", "board", "end", "sign", "more"], np := 2, body := b_sum_at }
/-- read_term -/
def b_read_term : S := (.seq (.ite (.tbop false (.tnot (.tst (.isi (.var 0) .str))) (.tbone false (.tcmp .gt (.bi .len (.cons (.var 0) .nil)) (.glob 4)))) (.seq (.rai 1) .skip) .skip) (.seq (.asg 1 (.call k_marks_of (.cons (.var 0) .nil))) (.seq (.asgT [2, 3] (.call k_sum_at (.cons (.var 1) (.cons (.int 0) .nil)))) (.seq (.ite (.tcmp .lt (.var 3) (.bi .len (.cons (.var 1) .nil))) (.seq (.rai 1) .skip) .skip) (.seq (.ret (.var 2)) .skip)))))
abbrev i_read_term : Fi := { name := "read_term", N := ["text", "marks", "board", "end"], np := 1, body := b_read_term }
/-- letter_text -/
def b_letter_text : S := (.seq (.ite (.tcmp .eq (.var 1) (.int 0)) (.seq (.ret (.lst .nil)) .skip) .skip) (.seq (.ite (.tcmp .eq (.var 1) (.int 1)) (.seq (.ret (.lst (.cons (.var 0) .nil))) .skip) .skip) (.seq (.ret (.lst (.cons (.bin .add (.bin .add (.var 0) (.str "^")) (.bi .str1 (.cons (.var 1) .nil))) .nil))) .skip)))
abbrev i_letter_text : Fi := { name := "letter_text", N := ["letter", "power"], np := 2, body := b_letter_text }
/-- product_text -/
def b_product_text : S := (.seq (.asg 3 (.bin .add (.call k_letter_text (.cons (.str "x") (.cons (.var 1) .nil))) (.call k_letter_text (.cons (.str "y") (.cons (.var 2) .nil))))) (.seq (.ite (.tbop false (.tcmp .ne (.var 0) (.int 1)) (.tbone false (.tcmp .eq (.var 3) (.lst .nil)))) (.seq (.asg 3 (.bin .add (.lst (.cons (.bi .str1 (.cons (.var 0) .nil)) .nil)) (.var 3))) .skip) .skip) (.seq (.ret (.join "*" (.var 3))) .skip)))
abbrev i_product_text : Fi := { name := "product_text", N := ["number", "across", "up", "parts"], np := 3, body := b_product_text }
def w_products_of_2 : S := (.seq (.ite (.tcmp .ne (.idx (.idx (.var 0) (.var 2)) (.var 3)) (.int 0)) (.seq (.app 1 (.tup (.cons (.idx (.idx (.var 0) (.var 2)) (.var 3)) (.cons (.var 3) (.cons (.var 2) .nil))))) .skip) .skip) .skip)
def w_products_of_1 : S := (.seq (.fo 3 (.ir3 (.bin .sub (.bi .len (.cons (.idx (.var 0) (.var 2)) .nil)) (.int 1)) (.neg (.int 1)) (-1)) w_products_of_2) .skip)
/-- products_of -/
def b_products_of : S := (.seq (.asg 1 (.lst .nil)) (.seq (.fo 2 (.ir3 (.bin .sub (.bi .len (.cons (.var 0) .nil)) (.int 1)) (.neg (.int 1)) (-1)) w_products_of_1) (.seq (.ret (.var 1)) .skip)))
abbrev i_products_of : Fi := { name := "products_of", N := ["board", "found", "up", "across"], np := 1, body := b_products_of }
def w_show_term_1 : S := (.seq (.ite (.tbop true (.tcmp .eq (.var 3) (.int 0)) (.tbone true (.tcmp .lt (.var 4) (.int 0)))) (.seq (.asg 2 (.str "-")) .skip) (.seq (.ite (.tcmp .gt (.var 3) (.int 0)) (.seq (.asg 2 (.bin .add (.var 2) (.idx (.lst (.cons (.str " + ") (.cons (.str " - ") .nil))) (.bi .int1 (.cons (.cmp .lt (.var 4) (.int 0)) .nil))))) .skip) .skip) .skip)) (.seq (.asg 2 (.bin .add (.var 2) (.call k_product_text (.cons (.bi .abs (.cons (.var 4) .nil)) (.cons (.var 5) (.cons (.var 6) .nil)))))) .skip))
/-- show_term -/
def b_show_term : S := (.seq (.asg 1 (.call k_products_of (.cons (.var 0) .nil))) (.seq (.ite (.tcmp .eq (.var 1) (.lst .nil)) (.seq (.ret (.str "0")) .skip) .skip) (.seq (.asg 2 (.str "")) (.seq (.foE 3 [4, 5, 6] (.var 1) w_show_term_1) (.seq (.ret (.var 2)) .skip)))))
abbrev i_show_term : Fi := { name := "show_term", N := ["board", "products", "found", "place", "number", "across", "up"], np := 1, body := b_show_term }
def w__law_cell_1 : S := (.seq (.asg 2 (.bin .mod (.bin .add (.bin .mul (.var 2) (.int 69621)) (.var 3)) (.int 2147483647))) .skip)
/-- _law_cell -/
def b__law_cell : S := (.seq (.ite (.tcmp .lt (.var 1) (.bi .len (.cons (.var 0) .nil))) (.seq (.ret (.idx (.var 0) (.var 1))) .skip) .skip) (.seq (.asg 2 (.bin .mod (.bin .mul (.int 48271) (.bin .add (.bin .add (.bin .mul (.var 1) (.var 1)) (.bin .mul (.int 7) (.var 1))) (.int 11))) (.int 2147483647))) (.seq (.fo 3 (.itv (.sl (.var 0) (.nop) (.sop (.int 3)))) w__law_cell_1) (.seq (.ret (.var 2)) .skip))))
abbrev i__law_cell : Fi := { name := "_law_cell", N := ["_law_script", "_law_k", "_law_state", "_law_cell_here"], np := 2, body := b__law_cell }
def w__law_numbers_1 : S := (.seq (.asg 3 (.bin .mod (.bin .add (.bin .add (.bin .mul (.var 3) (.bin .add (.bin .mod (.var 3) (.int 65521)) (.int 40487))) (.bin .mul (.int 7) (.var 5))) (.int 5)) (.int 1999999973))) (.seq (.app 2 (.idx (.lst (.cons (.var 3) (.cons (.bin .mod (.var 4) (.int 1000000)) .nil))) (.bi .int1 (.cons (.cmp .gt (.var 4) (.int 0)) .nil)))) (.seq (.asg 4 (.bin .fdiv (.var 4) (.int 1000000))) .skip)))
/-- _law_numbers -/
def b__law_numbers : S := (.seq (.asg 2 (.lst .nil)) (.seq (.asg 3 (.bin .mod (.bin .mul (.bin .add (.bin .mod (.var 0) (.int 1999999973)) (.int 31)) (.int 765432101)) (.int 1999999973))) (.seq (.asg 4 (.int 0)) (.seq (.ite (.tbop false (.tcmp .lt (.var 0) (.int 0)) (.tbone false (.tcmp .ge (.var 0) (.bin .pow (.int 10) (.int 18))))) (.seq (.asg 4 (.bi .abs (.cons (.var 0) .nil))) .skip) .skip) (.seq (.fo 5 (.ir1 (.var 1)) w__law_numbers_1) (.seq (.ret (.var 2)) .skip))))))
abbrev i__law_numbers : Fi := { name := "_law_numbers", N := ["_law_cell_here", "_law_many", "_law_found", "_law_state", "_law_digits", "_law_k"], np := 2, body := b__law_numbers }
def c__law_trim_1 : E := .tbop true (.tcmp .ne (.var 1) (.lst .nil)) (.tbone true (.tcmp .eq (.idx (.var 1) (.bin .sub (.bi .len (.cons (.var 1) .nil)) (.int 1))) (.int 0)))
def w__law_trim_1 : S := (.seq (.pop 1) .skip)
/-- _law_trim -/
def b__law_trim : S := (.seq (.asg 1 (.bi .list1 (.cons (.var 0) .nil))) (.seq (.wh c__law_trim_1 w__law_trim_1) (.seq (.ret (.bi .tuple1 (.cons (.var 1) .nil))) .skip)))
abbrev i__law_trim : Fi := { name := "_law_trim", N := ["_law_parts", "_law_found"], np := 1, body := b__law_trim }
def c__law_board_of_1 : E := .tbop true (.tcmp .ne (.var 1) (.lst .nil)) (.tbone true (.tcmp .eq (.idx (.var 1) (.bin .sub (.bi .len (.cons (.var 1) .nil)) (.int 1))) (.tup .nil)))
def w__law_board_of_1 : S := (.seq (.pop 1) .skip)
def w__law_board_of_2 : S := (.seq (.app 1 (.call k__law_trim (.cons (.comp 3 (.ir1 (.int 9)) (.nop) (.dget (.var 0) (.tup (.cons (.var 3) (.cons (.var 2) .nil))) (.int 0))) .nil))) .skip)
/-- _law_board_of -/
def b__law_board_of : S := (.seq (.asg 1 (.lst .nil)) (.seq (.fo 2 (.ir1 (.int 9)) w__law_board_of_2) (.seq (.wh c__law_board_of_1 w__law_board_of_1) (.seq (.ret (.bi .tuple1 (.cons (.var 1) .nil))) .skip))))
abbrev i__law_board_of : Fi := { name := "_law_board_of", N := ["_law_parts", "_law_rows", "_law_k", "_law_i"], np := 1, body := b__law_board_of }
def w__law_product_2 : S := (.seq (.dputE 2 (.cons (.bin .add (.var 3) (.var 5)) (.cons (.bin .add (.var 4) (.var 6)) .nil)) (.bin .add (.dget (.var 2) (.tup (.cons (.bin .add (.var 3) (.var 5)) (.cons (.bin .add (.var 4) (.var 6)) .nil))) (.int 0)) (.bin .mul (.dat (.var 0) (.tup (.cons (.var 3) (.cons (.var 4) .nil)))) (.dat (.var 1) (.tup (.cons (.var 5) (.cons (.var 6) .nil))))))) .skip)
def w__law_product_1 : S := (.seq (.fodT [5, 6] 1 w__law_product_2) .skip)
/-- _law_product -/
def b__law_product : S := (.seq (.asg 2 (.dnew)) (.seq (.fodT [3, 4] 0 w__law_product_1) (.seq (.ret (.var 2)) .skip)))
abbrev i__law_product : Fi := { name := "_law_product", N := ["_law_one", "_law_other", "_law_found", "_law_i", "_law_k", "_law_j", "_law_m"], np := 2, body := b__law_product }
/-- _law_line -/
def b__law_line : S := (.seq (.ret (.dis [[0, 0], [1, 0], [0, 1]] (.cons (.bin .sub (.bin .mod (.idx (.var 0) (.int 0)) (.int 11)) (.int 5)) (.cons (.bin .sub (.bin .mod (.idx (.var 0) (.int 1)) (.int 7)) (.int 3)) (.cons (.bin .sub (.bin .mod (.idx (.var 0) (.int 2)) (.int 5)) (.int 2)) .nil))))) .skip)
abbrev i__law_line : Fi := { name := "_law_line", N := ["_law_xs"], np := 1, body := b__law_line }
def w__law_conic_1 : S := (.seq (.ite (.tcmp .gt (.bin .mod (.bin .fdiv (.idx (.var 0) (.bin .add (.int 1) (.var 4))) (.int 16)) (.int 3)) (.int 0)) (.seq (.dputI 2 3 (.var 4) (.bin .sub (.bin .mod (.idx (.var 0) (.bin .add (.int 1) (.var 4))) (.bin .add (.bin .mul (.int 2) (.var 1)) (.int 1))) (.var 1))) .skip) .skip) .skip)
/-- _law_conic -/
def b__law_conic : S := (.seq (.asg 1 (.bin .add (.int 1) (.bin .mod (.idx (.var 0) (.int 0)) (.int 4)))) (.seq (.asg 2 (.dnew)) (.seq (.asgKs 3 [[0, 0], [1, 0], [0, 1], [2, 0], [1, 1], [0, 2]]) (.seq (.fo 4 (.ir1 (.int 6)) w__law_conic_1) (.seq (.ret (.var 2)) .skip)))))
abbrev i__law_conic : Fi := { name := "_law_conic", N := ["_law_xs", "_law_size", "_law_found", "_law_spots", "_law_k"], np := 1, body := b__law_conic }
/-- _law_board -/
def b__law_board : S := (.seq (.asg 1 (.call k__law_numbers (.cons (.var 0) (.cons (.int 12) .nil)))) (.seq (.asg 2 (.bin .mod (.idx (.var 1) (.int 0)) (.int 8))) (.seq (.ite (.tcmp .lt (.var 2) (.int 2)) (.seq (.ret (.call k__law_board_of (.cons (.call k__law_conic (.cons (.sl (.var 1) (.sop (.int 1)) (.nop)) .nil)) .nil))) .skip) .skip) (.seq (.ite (.tcmp .eq (.var 2) (.int 2)) (.seq (.ret (.call k__law_board_of (.cons (.dis [[0, 0], [1, 0], [2, 0]] (.cons (.bin .sub (.bin .mod (.idx (.var 1) (.int 1)) (.int 11)) (.int 5)) (.cons (.bin .sub (.bin .mod (.idx (.var 1) (.int 2)) (.int 7)) (.int 3)) (.cons (.bin .sub (.bin .mod (.idx (.var 1) (.int 3)) (.int 5)) (.int 2)) .nil)))) .nil))) .skip) .skip) (.seq (.ite (.tcmp .eq (.var 2) (.int 3)) (.seq (.ret (.call k__law_board_of (.cons (.call k__law_product (.cons (.call k__law_line (.cons (.sl (.var 1) (.sop (.int 1)) (.nop)) .nil)) (.cons (.call k__law_line (.cons (.sl (.var 1) (.sop (.int 4)) (.nop)) .nil)) .nil))) .nil))) .skip) .skip) (.seq (.ite (.tcmp .eq (.var 2) (.int 4)) (.seq (.ret (.call k__law_board_of (.cons (.call k__law_product (.cons (.call k__law_line (.cons (.sl (.var 1) (.sop (.int 1)) (.nop)) .nil)) (.cons (.call k__law_line (.cons (.lst (.cons (.idx (.var 1) (.int 1)) (.cons (.idx (.var 1) (.int 2)) (.cons (.idx (.var 1) (.int 3)) .nil)))) .nil)) .nil))) .nil))) .skip) .skip) (.seq (.ite (.tcmp .eq (.var 2) (.int 5)) (.seq (.ret (.call k__law_board_of (.cons (.call k__law_product (.cons (.dis [[0, 0], [1, 0]] (.cons (.bin .sub (.bin .mod (.idx (.var 1) (.int 1)) (.int 5)) (.int 2)) (.cons (.int 1) .nil))) (.cons (.call k__law_line (.cons (.sl (.var 1) (.sop (.int 4)) (.nop)) .nil)) .nil))) .nil))) .skip) .skip) (.seq (.ite (.tcmp .eq (.var 2) (.int 6)) (.seq (.ret (.call k__law_board_of (.cons (.dis [[0, 0], [2, 0], [0, 2]] (.cons (.bin .sub (.int 0) (.bin .mod (.idx (.var 1) (.int 1)) (.int 10))) (.cons (.bin .add (.int 1) (.bin .mod (.idx (.var 1) (.int 2)) (.int 2))) (.cons (.bin .add (.int 1) (.bin .mod (.idx (.var 1) (.int 3)) (.int 2))) .nil)))) .nil))) .skip) .skip) (.seq (.ret (.call k__law_board_of (.cons (.call k__law_line (.cons (.sl (.var 1) (.sop (.int 1)) (.nop)) .nil)) .nil))) .skip)))))))))
abbrev i__law_board : Fi := { name := "_law_board", N := ["_law_cell_here", "_law_xs", "_law_way"], np := 1, body := b__law_board }
/-- _law_letter -/
def b__law_letter : S := (.seq (.ite (.tcmp .eq (.var 1) (.int 0)) (.seq (.ret (.lst .nil)) .skip) .skip) (.seq (.ret (.lst (.cons (.idx (.lst (.cons (.var 0) (.cons (.bin .add (.bin .add (.var 0) (.str "^")) (.bi .str1 (.cons (.var 1) .nil))) .nil))) (.bi .int1 (.cons (.cmp .gt (.var 1) (.int 1)) .nil))) .nil))) .skip))
abbrev i__law_letter : Fi := { name := "_law_letter", N := ["_law_letter_here", "_law_power"], np := 2, body := b__law_letter }
def w__law_shown_2 : S := (.seq (.asg 4 (.bi .abs (.cons (.idx (.idx (.var 0) (.var 2)) (.var 3)) .nil))) (.seq (.asg 5 (.bin .add (.call k__law_letter (.cons (.str "x") (.cons (.var 3) .nil))) (.call k__law_letter (.cons (.str "y") (.cons (.var 2) .nil))))) (.seq (.ite (.tbop false (.tcmp .ne (.var 4) (.int 1)) (.tbone false (.tcmp .eq (.var 5) (.lst .nil)))) (.seq (.asg 5 (.bin .add (.lst (.cons (.bi .str1 (.cons (.var 4) .nil)) .nil)) (.var 5))) .skip) .skip) (.seq (.ite (.tcmp .lt (.idx (.idx (.var 0) (.var 2)) (.var 3)) (.int 0)) (.seq (.asg 1 (.bin .add (.bin .add (.var 1) (.idx (.lst (.cons (.str "-") (.cons (.str " - ") .nil))) (.bi .int1 (.cons (.cmp .ne (.var 1) (.str "")) .nil)))) (.join "*" (.var 5)))) .skip) .skip) (.seq (.ite (.tcmp .gt (.idx (.idx (.var 0) (.var 2)) (.var 3)) (.int 0)) (.seq (.asg 1 (.bin .add (.bin .add (.var 1) (.idx (.lst (.cons (.str "") (.cons (.str " + ") .nil))) (.bi .int1 (.cons (.cmp .ne (.var 1) (.str "")) .nil)))) (.join "*" (.var 5)))) .skip) .skip) .skip)))))
def w__law_shown_1 : S := (.seq (.fo 3 (.ir3 (.bin .sub (.bi .len (.cons (.idx (.var 0) (.var 2)) .nil)) (.int 1)) (.neg (.int 1)) (-1)) w__law_shown_2) .skip)
/-- _law_shown -/
def b__law_shown : S := (.seq (.asg 1 (.str "")) (.seq (.fo 2 (.ir3 (.bin .sub (.bi .len (.cons (.var 0) .nil)) (.int 1)) (.neg (.int 1)) (-1)) w__law_shown_1) (.seq (.ret (.idx (.lst (.cons (.var 1) (.cons (.str "0") .nil))) (.bi .int1 (.cons (.cmp .eq (.var 1) (.str "")) .nil)))) .skip)))
abbrev i__law_shown : Fi := { name := "_law_shown", N := ["_law_board_here", "_law_found", "_law_k", "_law_i", "_law_size", "_law_words"], np := 1, body := b__law_shown }
def w__law_any_1 : S := (.seq (.asgK 4 (.cons (.bin .mod (.idx (.var 0) (.bin .add (.int 2) (.bin .mul (.int 3) (.var 3)))) (.int 9)) (.cons (.bin .mod (.bin .fdiv (.idx (.var 0) (.bin .add (.int 2) (.bin .mul (.int 3) (.var 3)))) (.int 9)) (.idx (.lst (.cons (.int 1) (.cons (.int 9) (.cons (.int 3) .nil)))) (.bin .mod (.idx (.var 0) (.int 2)) (.int 3)))) .nil))) (.seq (.asg 5 (.bin .add (.bin .mul (.idx (.var 0) (.bin .add (.int 3) (.bin .mul (.int 3) (.var 3)))) (.bin .pow (.int 10) (.int 6))) (.idx (.var 0) (.bin .add (.int 4) (.bin .mul (.int 3) (.var 3)))))) (.seq (.dputV 2 4 (.bin .sub (.bin .mod (.var 5) (.bin .add (.bin .mul (.int 2) (.var 1)) (.int 1))) (.var 1))) .skip)))
/-- _law_any -/
def b__law_any : S := (.seq (.asg 1 (.idx (.lst (.cons (.int 1) (.cons (.int 12) (.cons (.bin .pow (.int 10) (.int 6)) (.cons (.bin .sub (.bin .pow (.int 10) (.int 12)) (.int 1)) .nil))))) (.bin .mod (.idx (.var 0) (.int 0)) (.int 4)))) (.seq (.asg 2 (.dnew)) (.seq (.fo 3 (.ir1 (.bin .mod (.idx (.var 0) (.int 1)) (.int 8))) w__law_any_1) (.seq (.ret (.call k__law_board_of (.cons (.var 2) .nil))) .skip))))
abbrev i__law_any : Fi := { name := "_law_any", N := ["_law_xs", "_law_size", "_law_found", "_law_k", "_law_spot", "_law_x"], np := 1, body := b__law_any }
def w_law_1 : S := (.seq (.asg 2 (.call k__law_numbers (.cons (.var 1) (.cons (.int 40) .nil)))) (.seq (.asg 3 (.call k__law_board (.cons (.var 1) .nil))) (.seq (.ite (.tcmp .eq (.bin .mod (.idx (.var 2) (.int 39)) (.int 2)) (.int 1)) (.seq (.asg 3 (.call k__law_any (.cons (.sl (.var 2) (.sop (.int 12)) (.sop (.int 38))) .nil))) .skip) .skip) (.seq (.asg 4 (.call k_show_term (.cons (.var 3) .nil))) (.seq (.ite (.tbop false (.tnot (.tst (.isi (.var 4) .str))) (.tbop false (.tcmp .ne (.var 4) (.call k__law_shown (.cons (.var 3) .nil))) (.tbone false (.tcmp .ne (.call k_read_term (.cons (.var 4) .nil)) (.var 3))))) (.seq (.ret (.bl false)) .skip) .skip) .skip)))))
/-- law -/
def b_law : S := (.seq (.fo 1 (.itv (.bin .add (.lst (.cons (.call k__law_cell (.cons (.var 0) (.cons (.int 0) .nil))) .nil)) (.sl (.var 0) (.sop (.int 1)) (.sop (.int 15))))) w_law_1) (.seq (.ret (.bl true)) .skip))
abbrev i_law : Fi := { name := "law", N := ["_law_script", "_law_cell_here", "_law_xs", "_law_board_here", "_law_text"], np := 1, body := b_law }
abbrev fis : List Fi := [i_trimmed, i_part_at, i_row_plus, i_row_minus, i_row_times, i_cut_off, i_row_at, i_board_plus, i_board_minus, i_board_times, i_run_from, i_mark_at, i_marks_of, i_check_open, i_mark_of, i_is_number, i_atom_at, i_power_of, i_factor_at, i_product_at, i_sum_at, i_read_term, i_letter_text, i_product_text, i_products_of, i_show_term, i__law_cell, i__law_numbers, i__law_trim, i__law_board_of, i__law_product, i__law_line, i__law_conic, i__law_board, i__law_letter, i__law_shown, i__law_any, i_law]
def pr : Pr := { fs := fis, gl := [("SMALL", .str "abcdefghijklmnopqrstuvwxyz"), ("FIGURES", .str "0123456789"), ("WORDS", .tuple [.str "not", .str "and", .str "or", .str "some", .str "all", .str "x", .str "y"]), ("SIGNS", .str "+-*^()[]<=>"), ("MOST_SIGNS", .int (1000)), ("MOST_OPEN", .int (20)), ("MOST_MINUSES", .int (20)), ("MOST_FIGURES", .int (12)), ("ONE", .tuple [.tuple [.int (1)]])], ex := ["StackError", "NoText"], ct := [], hx := false, on := false }
@[simp] theorem sh_trimmed : pr.sh k_trimmed = false := rfl
theorem st_trimmed (n : Nat) (x0 : D) : runF pr (n + 1) k_trimmed [x0] = finF (exS (tbl pr n) b_trimmed [some (.sh x0), none]) := runF_eq pr n k_trimmed i_trimmed _ rfl rfl
@[simp] theorem sh_part_at : pr.sh k_part_at = false := rfl
theorem st_part_at (n : Nat) (x0 x1 : D) : runF pr (n + 1) k_part_at [x0, x1] = finF (exS (tbl pr n) b_part_at [some (.sh x0), some (.sh x1)]) := runF_eq pr n k_part_at i_part_at _ rfl rfl
@[simp] theorem sh_row_plus : pr.sh k_row_plus = false := rfl
theorem st_row_plus (n : Nat) (x0 x1 : D) : runF pr (n + 1) k_row_plus [x0, x1] = finF (exS (tbl pr n) b_row_plus [some (.sh x0), some (.sh x1), none]) := runF_eq pr n k_row_plus i_row_plus _ rfl rfl
@[simp] theorem sh_row_minus : pr.sh k_row_minus = false := rfl
theorem st_row_minus (n : Nat) (x0 x1 : D) : runF pr (n + 1) k_row_minus [x0, x1] = finF (exS (tbl pr n) b_row_minus [some (.sh x0), some (.sh x1), none]) := runF_eq pr n k_row_minus i_row_minus _ rfl rfl
@[simp] theorem sh_row_times : pr.sh k_row_times = false := rfl
theorem st_row_times (n : Nat) (x0 x1 : D) : runF pr (n + 1) k_row_times [x0, x1] = finF (exS (tbl pr n) b_row_times [some (.sh x0), some (.sh x1), none, none, none]) := runF_eq pr n k_row_times i_row_times _ rfl rfl
@[simp] theorem sh_cut_off : pr.sh k_cut_off = false := rfl
theorem st_cut_off (n : Nat) (x0 : D) : runF pr (n + 1) k_cut_off [x0] = finF (exS (tbl pr n) b_cut_off [some (.sh x0), none]) := runF_eq pr n k_cut_off i_cut_off _ rfl rfl
@[simp] theorem sh_row_at : pr.sh k_row_at = false := rfl
theorem st_row_at (n : Nat) (x0 x1 : D) : runF pr (n + 1) k_row_at [x0, x1] = finF (exS (tbl pr n) b_row_at [some (.sh x0), some (.sh x1)]) := runF_eq pr n k_row_at i_row_at _ rfl rfl
@[simp] theorem sh_board_plus : pr.sh k_board_plus = false := rfl
theorem st_board_plus (n : Nat) (x0 x1 : D) : runF pr (n + 1) k_board_plus [x0, x1] = finF (exS (tbl pr n) b_board_plus [some (.sh x0), some (.sh x1), none]) := runF_eq pr n k_board_plus i_board_plus _ rfl rfl
@[simp] theorem sh_board_minus : pr.sh k_board_minus = false := rfl
theorem st_board_minus (n : Nat) (x0 x1 : D) : runF pr (n + 1) k_board_minus [x0, x1] = finF (exS (tbl pr n) b_board_minus [some (.sh x0), some (.sh x1), none]) := runF_eq pr n k_board_minus i_board_minus _ rfl rfl
@[simp] theorem sh_board_times : pr.sh k_board_times = false := rfl
theorem st_board_times (n : Nat) (x0 x1 : D) : runF pr (n + 1) k_board_times [x0, x1] = finF (exS (tbl pr n) b_board_times [some (.sh x0), some (.sh x1), none, none, none]) := runF_eq pr n k_board_times i_board_times _ rfl rfl
@[simp] theorem sh_run_from : pr.sh k_run_from = false := rfl
theorem st_run_from (n : Nat) (x0 x1 x2 : D) : runF pr (n + 1) k_run_from [x0, x1, x2] = finF (exS (tbl pr n) b_run_from [some (.sh x0), some (.sh x1), some (.sh x2), none]) := runF_eq pr n k_run_from i_run_from _ rfl rfl
@[simp] theorem sh_mark_at : pr.sh k_mark_at = false := rfl
theorem st_mark_at (n : Nat) (x0 x1 : D) : runF pr (n + 1) k_mark_at [x0, x1] = finF (exS (tbl pr n) b_mark_at [some (.sh x0), some (.sh x1), none]) := runF_eq pr n k_mark_at i_mark_at _ rfl rfl
@[simp] theorem sh_marks_of : pr.sh k_marks_of = false := rfl
theorem st_marks_of (n : Nat) (x0 : D) : runF pr (n + 1) k_marks_of [x0] = finF (exS (tbl pr n) b_marks_of [some (.sh x0), none, none, none]) := runF_eq pr n k_marks_of i_marks_of _ rfl rfl
@[simp] theorem sh_check_open : pr.sh k_check_open = false := rfl
theorem st_check_open (n : Nat) (x0 x1 : D) : runF pr (n + 1) k_check_open [x0, x1] = finF (exS (tbl pr n) b_check_open [some (.sh x0), some (.sh x1), none, none]) := runF_eq pr n k_check_open i_check_open _ rfl rfl
@[simp] theorem sh_mark_of : pr.sh k_mark_of = false := rfl
theorem st_mark_of (n : Nat) (x0 x1 : D) : runF pr (n + 1) k_mark_of [x0, x1] = finF (exS (tbl pr n) b_mark_of [some (.sh x0), some (.sh x1)]) := runF_eq pr n k_mark_of i_mark_of _ rfl rfl
@[simp] theorem sh_is_number : pr.sh k_is_number = false := rfl
theorem st_is_number (n : Nat) (x0 : D) : runF pr (n + 1) k_is_number [x0] = finF (exS (tbl pr n) b_is_number [some (.sh x0), none]) := runF_eq pr n k_is_number i_is_number _ rfl rfl
@[simp] theorem sh_atom_at : pr.sh k_atom_at = false := rfl
theorem st_atom_at (n : Nat) (x0 x1 : D) : runF pr (n + 1) k_atom_at [x0, x1] = finF (exS (tbl pr n) b_atom_at [some (.sh x0), some (.sh x1), none, none, none, none]) := runF_eq pr n k_atom_at i_atom_at _ rfl rfl
@[simp] theorem sh_power_of : pr.sh k_power_of = false := rfl
theorem st_power_of (n : Nat) (x0 x1 : D) : runF pr (n + 1) k_power_of [x0, x1] = finF (exS (tbl pr n) b_power_of [some (.sh x0), some (.sh x1), none, none]) := runF_eq pr n k_power_of i_power_of _ rfl rfl
@[simp] theorem sh_factor_at : pr.sh k_factor_at = false := rfl
theorem st_factor_at (n : Nat) (x0 x1 : D) : runF pr (n + 1) k_factor_at [x0, x1] = finF (exS (tbl pr n) b_factor_at [some (.sh x0), some (.sh x1), none, none, none, none]) := runF_eq pr n k_factor_at i_factor_at _ rfl rfl
@[simp] theorem sh_product_at : pr.sh k_product_at = false := rfl
theorem st_product_at (n : Nat) (x0 x1 : D) : runF pr (n + 1) k_product_at [x0, x1] = finF (exS (tbl pr n) b_product_at [some (.sh x0), some (.sh x1), none, none, none]) := runF_eq pr n k_product_at i_product_at _ rfl rfl
@[simp] theorem sh_sum_at : pr.sh k_sum_at = false := rfl
theorem st_sum_at (n : Nat) (x0 x1 : D) : runF pr (n + 1) k_sum_at [x0, x1] = finF (exS (tbl pr n) b_sum_at [some (.sh x0), some (.sh x1), none, none, none, none]) := runF_eq pr n k_sum_at i_sum_at _ rfl rfl
@[simp] theorem sh_read_term : pr.sh k_read_term = false := rfl
theorem st_read_term (n : Nat) (x0 : D) : runF pr (n + 1) k_read_term [x0] = finF (exS (tbl pr n) b_read_term [some (.sh x0), none, none, none]) := runF_eq pr n k_read_term i_read_term _ rfl rfl
@[simp] theorem sh_letter_text : pr.sh k_letter_text = false := rfl
theorem st_letter_text (n : Nat) (x0 x1 : D) : runF pr (n + 1) k_letter_text [x0, x1] = finF (exS (tbl pr n) b_letter_text [some (.sh x0), some (.sh x1)]) := runF_eq pr n k_letter_text i_letter_text _ rfl rfl
@[simp] theorem sh_product_text : pr.sh k_product_text = false := rfl
theorem st_product_text (n : Nat) (x0 x1 x2 : D) : runF pr (n + 1) k_product_text [x0, x1, x2] = finF (exS (tbl pr n) b_product_text [some (.sh x0), some (.sh x1), some (.sh x2), none]) := runF_eq pr n k_product_text i_product_text _ rfl rfl
@[simp] theorem sh_products_of : pr.sh k_products_of = false := rfl
theorem st_products_of (n : Nat) (x0 : D) : runF pr (n + 1) k_products_of [x0] = finF (exS (tbl pr n) b_products_of [some (.sh x0), none, none, none]) := runF_eq pr n k_products_of i_products_of _ rfl rfl
@[simp] theorem sh_show_term : pr.sh k_show_term = false := rfl
theorem st_show_term (n : Nat) (x0 : D) : runF pr (n + 1) k_show_term [x0] = finF (exS (tbl pr n) b_show_term [some (.sh x0), none, none, none, none, none, none]) := runF_eq pr n k_show_term i_show_term _ rfl rfl
@[simp] theorem sh__law_cell : pr.sh k__law_cell = false := rfl
theorem st__law_cell (n : Nat) (x0 x1 : D) : runF pr (n + 1) k__law_cell [x0, x1] = finF (exS (tbl pr n) b__law_cell [some (.sh x0), some (.sh x1), none, none]) := runF_eq pr n k__law_cell i__law_cell _ rfl rfl
@[simp] theorem sh__law_numbers : pr.sh k__law_numbers = false := rfl
theorem st__law_numbers (n : Nat) (x0 x1 : D) : runF pr (n + 1) k__law_numbers [x0, x1] = finF (exS (tbl pr n) b__law_numbers [some (.sh x0), some (.sh x1), none, none, none, none]) := runF_eq pr n k__law_numbers i__law_numbers _ rfl rfl
@[simp] theorem sh__law_trim : pr.sh k__law_trim = false := rfl
theorem st__law_trim (n : Nat) (x0 : D) : runF pr (n + 1) k__law_trim [x0] = finF (exS (tbl pr n) b__law_trim [some (.sh x0), none]) := runF_eq pr n k__law_trim i__law_trim _ rfl rfl
@[simp] theorem sh__law_board_of : pr.sh k__law_board_of = false := rfl
theorem st__law_board_of (n : Nat) (x0 : D) : runF pr (n + 1) k__law_board_of [x0] = finF (exS (tbl pr n) b__law_board_of [some (.sh x0), none, none, none]) := runF_eq pr n k__law_board_of i__law_board_of _ rfl rfl
@[simp] theorem sh__law_product : pr.sh k__law_product = false := rfl
theorem st__law_product (n : Nat) (x0 x1 : D) : runF pr (n + 1) k__law_product [x0, x1] = finF (exS (tbl pr n) b__law_product [some (.sh x0), some (.sh x1), none, none, none, none, none]) := runF_eq pr n k__law_product i__law_product _ rfl rfl
@[simp] theorem sh__law_line : pr.sh k__law_line = false := rfl
theorem st__law_line (n : Nat) (x0 : D) : runF pr (n + 1) k__law_line [x0] = finF (exS (tbl pr n) b__law_line [some (.sh x0)]) := runF_eq pr n k__law_line i__law_line _ rfl rfl
@[simp] theorem sh__law_conic : pr.sh k__law_conic = false := rfl
theorem st__law_conic (n : Nat) (x0 : D) : runF pr (n + 1) k__law_conic [x0] = finF (exS (tbl pr n) b__law_conic [some (.sh x0), none, none, none, none]) := runF_eq pr n k__law_conic i__law_conic _ rfl rfl
@[simp] theorem sh__law_board : pr.sh k__law_board = false := rfl
theorem st__law_board (n : Nat) (x0 : D) : runF pr (n + 1) k__law_board [x0] = finF (exS (tbl pr n) b__law_board [some (.sh x0), none, none]) := runF_eq pr n k__law_board i__law_board _ rfl rfl
@[simp] theorem sh__law_letter : pr.sh k__law_letter = false := rfl
theorem st__law_letter (n : Nat) (x0 x1 : D) : runF pr (n + 1) k__law_letter [x0, x1] = finF (exS (tbl pr n) b__law_letter [some (.sh x0), some (.sh x1)]) := runF_eq pr n k__law_letter i__law_letter _ rfl rfl
@[simp] theorem sh__law_shown : pr.sh k__law_shown = false := rfl
theorem st__law_shown (n : Nat) (x0 : D) : runF pr (n + 1) k__law_shown [x0] = finF (exS (tbl pr n) b__law_shown [some (.sh x0), none, none, none, none, none]) := runF_eq pr n k__law_shown i__law_shown _ rfl rfl
@[simp] theorem sh__law_any : pr.sh k__law_any = false := rfl
theorem st__law_any (n : Nat) (x0 : D) : runF pr (n + 1) k__law_any [x0] = finF (exS (tbl pr n) b__law_any [some (.sh x0), none, none, none, none, none]) := runF_eq pr n k__law_any i__law_any _ rfl rfl
@[simp] theorem sh_law : pr.sh k_law = false := rfl
theorem st_law (n : Nat) (x0 : D) : runF pr (n + 1) k_law [x0] = finF (exS (tbl pr n) b_law [some (.sh x0), none, none, none, none]) := runF_eq pr n k_law i_law _ rfl rfl
end Lw
namespace Lw
open PySem PySem.Spec PyProof.Rows L2 PD
/-! ### rows of ints, ends cut -/
def tlen (ns : List Int) : Nat → Nat
  | 0 => 0
  | k + 1 => if ns[k]?.getD 0 = 0 then tlen ns k else k + 1
def trim (ns : List Int) : List Int := ns.take (tlen ns ns.length)
theorem tlen_le (ns : List Int) : ∀ k, tlen ns k ≤ k
  | 0 => Nat.le_refl _
  | k + 1 => by
    unfold tlen
    split
    · have := tlen_le ns k; omega
    · exact Nat.le_refl _
theorem trim_len (ns : List Int) : (trim ns).length ≤ ns.length := by
  unfold trim
  rw [List.length_take]
  omega
theorem trim_mem {ns : List Int} {c : Int} (h : c ∈ trim ns) : c ∈ ns := List.mem_of_mem_take h
/-- no nought at the end -/
def isRow (ns : List Int) : Prop := tlen ns ns.length = ns.length
theorem tlen_idem (ns : List Int) : ∀ k, tlen ns (tlen ns k) = tlen ns k
  | 0 => rfl
  | k + 1 => by
    by_cases h : ns[k]?.getD 0 = 0
    · rw [tlen, if_pos h]; exact tlen_idem ns k
    · have e : tlen ns (k + 1) = k + 1 := by rw [tlen, if_neg h]
      rw [e, e]
theorem tlen_take (ns : List Int) {m : Nat} : ∀ k, k ≤ m → tlen (ns.take m) k = tlen ns k
  | 0, _ => rfl
  | k + 1, h => by
    have e : (ns.take m)[k]? = ns[k]? := by rw [List.getElem?_take, if_pos (by omega)]
    rw [tlen, tlen, e, tlen_take ns k (by omega)]
theorem isRow_trim (ns : List Int) : isRow (trim ns) := by
  unfold isRow trim
  have h := tlen_le ns ns.length
  rw [List.length_take, Nat.min_eq_left h, tlen_take ns _ (Nat.le_refl _)]
  exact tlen_idem ns _
theorem trim_row {ns : List Int} (h : isRow ns) : trim ns = ns := by
  unfold trim
  rw [h]
  exact List.take_length
theorem isRow_nil : isRow [] := rfl
theorem isRow_of {ns : List Int} (h : ns[ns.length - 1]?.getD 0 ≠ 0) : isRow ns := by
  unfold isRow
  cases e : ns.length with
  | zero => rfl
  | succ k =>
    rw [e, Nat.add_sub_cancel] at h
    rw [tlen, if_neg h]
theorem isRow_last {ns : List Int} (h : isRow ns) (h0 : ns ≠ []) : ns[ns.length - 1]?.getD 0 ≠ 0 := by
  intro z
  unfold isRow at h
  cases e : ns.length with
  | zero => exact h0 (List.eq_nil_of_length_eq_zero e)
  | succ k =>
    rw [e] at z h
    rw [Nat.add_sub_cancel] at z
    rw [tlen, if_pos z] at h
    have := tlen_le ns k
    omega

/-! ### products -/
/-- all numbers of a row below B in size -/
def bd (B : Nat) (f : List Int) : Prop := ∀ c ∈ f, c.natAbs ≤ B
theorem bd_get {B : Nat} {f : List Int} (h : bd B f) (k : Nat) : (f[k]?.getD 0).natAbs ≤ B := getD_mem (P := fun c => c.natAbs ≤ B) h (Nat.zero_le _)
theorem bd_mono {A B : Nat} {f : List Int} (h : bd A f) (hb : A ≤ B) : bd B f := fun c hc => Nat.le_trans (h c hc) hb
theorem bd_trim {B : Nat} {f : List Int} (h : bd B f) : bd B (trim f) := fun c hc => h c (trim_mem hc)
def mulStep (f g : List Int) (i : Nat) (acc : List Int) (j : Nat) : List Int := acc.set (i + j) (acc[i + j]?.getD 0 + f[i]?.getD 0 * g[j]?.getD 0)
def mulRow (f g : List Int) (acc : List Int) (i : Nat) : List Int := (List.range g.length).foldl (mulStep f g i) acc
def mulR (f g : List Int) : List Int := (List.range f.length).foldl (mulRow f g) (List.replicate (f.length + g.length) 0)
theorem foldl_inv {α β : Type} {P : β → Prop} {s : β → α → β} (xs : List α) (h : ∀ b x, x ∈ xs → P b → P (s b x)) : ∀ b, P b → P (xs.foldl s b) := by
  induction xs with
  | nil => exact fun b p => p
  | cons x xs ih => exact fun b p => ih (fun b y hy => h b y (List.mem_cons_of_mem _ hy)) _ (h b x List.mem_cons_self p)
theorem mulStep_len (f g acc : List Int) (i j : Nat) : (mulStep f g i acc j).length = acc.length := by simp [mulStep]
theorem mulRow_len (f g acc : List Int) (i : Nat) : (mulRow f g acc i).length = acc.length :=
  foldl_inv (P := fun (b : List Int) => b.length = acc.length) _ (fun b x _ h => by rw [mulStep_len]; exact h) acc rfl
theorem mulR_len (f g : List Int) : (mulR f g).length = f.length + g.length := by
  unfold mulR
  exact foldl_inv (P := fun (b : List Int) => b.length = f.length + g.length) _ (fun b x _ h => by rw [mulRow_len]; exact h) _ (by simp)
theorem foldl_cnt {α β : Type} {P : Nat → β → Prop} {s : β → α → β} (xs : List α) (h : ∀ k b x, P k b → P (k + 1) (s b x)) : ∀ k b, P k b → P (k + xs.length) (xs.foldl s b) := by
  induction xs with
  | nil => exact fun k b p => p
  | cons x xs ih =>
    intro k b p
    have := ih (k + 1) _ (h k b x p)
    rw [show k + (x :: xs).length = k + 1 + xs.length by simp; omega]
    exact this
theorem mulR_bd {A B : Nat} {f g : List Int} (hf : bd A f) (hg : bd B g) : bd (f.length * (g.length * (A * B))) (mulR f g) := by
  have st : ∀ i k acc j, bd (k * (A * B)) acc → bd ((k + 1) * (A * B)) (mulStep f g i acc j) := fun i k acc j h c hc => by
    unfold mulStep at hc
    have e : k * (A * B) ≤ (k + 1) * (A * B) := Nat.mul_le_mul_right _ (Nat.le_succ k)
    rcases List.mem_or_eq_of_mem_set hc with q | q
    · exact Nat.le_trans (h c q) e
    · have h1 := bd_get h (i + j)
      have h2 : (f[i]?.getD 0 * g[j]?.getD 0).natAbs ≤ A * B := by
        rw [Int.natAbs_mul]
        exact Nat.mul_le_mul (bd_get hf i) (bd_get hg j)
      rw [q]
      have h3 := Int.natAbs_add_le (acc[i + j]?.getD 0) (f[i]?.getD 0 * g[j]?.getD 0)
      rw [Nat.succ_mul]
      omega
  have row : ∀ k acc i, bd (k * (g.length * (A * B))) acc → bd ((k + 1) * (g.length * (A * B))) (mulRow f g acc i) := fun k acc i h => by
    have := foldl_cnt (P := fun m b => bd (m * (A * B)) b) (s := mulStep f g i) (List.range g.length) (fun m b x p => st i m b x p) (k * g.length) acc (by rw [Nat.mul_assoc]; exact h)
    rw [List.length_range] at this
    unfold mulRow
    rw [← Nat.mul_assoc, Nat.succ_mul]
    exact this
  have := foldl_cnt (P := fun m b => bd (m * (g.length * (A * B))) b) (s := mulRow f g) (List.range f.length) (fun m b x p => row m b x p) 0 (List.replicate (f.length + g.length) 0) (fun c hc => by
    rw [(List.mem_replicate.mp hc).2]
    exact Nat.zero_le _)
  rw [List.length_range, Nat.zero_add] at this
  exact this

/-! ### values of rows -/
def pv (f : List Int) (q : Rat) : Rat := f.foldr (fun (c : Int) v => (c : Rat) + q * v) 0
theorem pv_nil (q : Rat) : pv [] q = 0 := rfl
theorem pv_cons (c : Int) (f : List Int) (q : Rat) : pv (c :: f) q = (c : Rat) + q * pv f q := rfl
theorem pv_ht (f : List Int) (q : Rat) : pv f q = ((f[0]?.getD 0 : Int) : Rat) + q * pv f.tail q := by
  cases f with
  | nil =>
    show (0 : Rat) = ((0 : Int) : Rat) + q * 0
    rw [Rat.mul_zero, Rat.add_zero]
    rfl
  | cons c f => rfl
theorem tail_get (f : List Int) (k : Nat) : f.tail[k]?.getD 0 = f[k + 1]?.getD 0 := by
  cases f <;> simp
theorem pv_lin' (q : Rat) : ∀ (n : Nat) (h f g : List Int), h.length ≤ n → f.length ≤ n → g.length ≤ n → (∀ k : Nat, h[k]?.getD 0 = f[k]?.getD 0 + g[k]?.getD 0) → pv h q = pv f q + pv g q := by
  intro n
  induction n with
  | zero =>
    intro h f g e1 e2 e3 _
    rw [List.eq_nil_of_length_eq_zero (Nat.le_zero.mp e1), List.eq_nil_of_length_eq_zero (Nat.le_zero.mp e2), List.eq_nil_of_length_eq_zero (Nat.le_zero.mp e3), pv_nil, Rat.add_zero]
  | succ n ih =>
    intro h f g e1 e2 e3 e
    rw [pv_ht h, pv_ht f, pv_ht g, ih h.tail f.tail g.tail (by rw [List.length_tail]; omega) (by rw [List.length_tail]; omega) (by rw [List.length_tail]; omega) (fun k => by rw [tail_get, tail_get, tail_get, e]), e 0, Rat.intCast_add]
    grind
theorem pv_lin (q : Rat) {h f g : List Int} (e : ∀ k : Nat, h[k]?.getD 0 = f[k]?.getD 0 + g[k]?.getD 0) : pv h q = pv f q + pv g q :=
  pv_lin' q (h.length + f.length + g.length) h f g (by omega) (by omega) (by omega) e
theorem pv_ext (q : Rat) {h f : List Int} (e : ∀ k : Nat, h[k]?.getD 0 = f[k]?.getD 0) : pv h q = pv f q := by
  have := pv_lin q (h := h) (f := f) (g := []) (fun k => by rw [e]; simp)
  rw [this, pv_nil, Rat.add_zero]
theorem tlen_get (f : List Int) (j : Nat) : ∀ n, tlen f n ≤ j → j < n → f[j]?.getD 0 = 0
  | 0, _, h => by omega
  | n + 1, h1, h2 => by
    unfold tlen at h1
    split at h1
    · rename_i z
      by_cases e : j = n
      · subst e; exact z
      · exact tlen_get f j n h1 (by omega)
    · omega
theorem trim_get (f : List Int) (k : Nat) : (trim f)[k]?.getD 0 = f[k]?.getD 0 := by
  unfold trim
  rw [List.getElem?_take]
  split
  · rfl
  · rename_i h
    by_cases hk : k < f.length
    · rw [tlen_get f k _ (by omega) hk]
      rfl
    · rw [List.getElem?_eq_none (by omega)]
theorem pv_trim (f : List Int) (q : Rat) : pv (trim f) q = pv f q := pv_ext q (trim_get f)
theorem map_range_get (u : Nat → Int) (m k : Nat) : ((List.range m).map u)[k]?.getD 0 = if k < m then u k else 0 := by
  by_cases h : k < m
  · rw [if_pos h]
    simp [h]
  · rw [if_neg h, List.getElem?_eq_none (by simpa using h)]
    rfl
theorem pv_set (q : Rat) (d : Int) : ∀ (f : List Int) (k : Nat), k < f.length → pv (f.set k (f[k]?.getD 0 + d)) q = pv f q + (d : Rat) * q ^ k
  | [], k, h => by simp at h
  | c :: f, 0, _ => by
    show ((c + d : Int) : Rat) + q * pv f q = (c : Rat) + q * pv f q + (d : Rat) * q ^ 0
    rw [Rat.intCast_add, Rat.pow_zero, Rat.mul_one]
    grind
  | c :: f, k + 1, h => by
    have ih := pv_set q d f k (by simpa using h)
    show (c : Rat) + q * pv (f.set k (f[k]?.getD 0 + d)) q = (c : Rat) + q * pv f q + (d : Rat) * q ^ (k + 1)
    rw [ih, Rat.pow_succ]
    grind
theorem pv_rep0 (q : Rat) (n : Nat) : pv (List.replicate n 0) q = 0 := by
  have := pv_ext q (h := List.replicate n 0) (f := []) (fun k => by
    by_cases h : k < n
    · simp [h]
    · rw [List.getElem?_eq_none (by simpa using h)]
      rfl)
  rw [this, pv_nil]
/-- what the first m numbers of a row come to -/
def pvTo (f : List Int) (q : Rat) (m : Nat) : Rat := pv (f.take m) q
theorem pvTo_succ (f : List Int) (q : Rat) (m : Nat) (h : m < f.length) : pvTo f q (m + 1) = pvTo f q m + ((f[m]?.getD 0 : Int) : Rat) * q ^ m := by
  unfold pvTo
  have e : ∀ k : Nat, (f.take (m + 1))[k]?.getD 0 = (f.take m)[k]?.getD 0 + (if k = m then f[m]?.getD 0 else 0) := fun k => by
    rw [List.getElem?_take, List.getElem?_take]
    by_cases h1 : k < m
    · rw [if_pos (by omega), if_pos h1, if_neg (by omega), Int.add_zero]
    · by_cases h2 : k = m
      · subst h2
        rw [if_pos (by omega), if_neg h1, if_pos rfl]
        simp
      · rw [if_neg (by omega), if_neg h1, if_neg h2]
        rfl
  have e2 : ∀ k : Nat, (if k = m then f[m]?.getD 0 else 0) = ((List.replicate (m + 1) (0 : Int)).set m ((List.replicate (m + 1) (0 : Int))[m]?.getD 0 + f[m]?.getD 0))[k]?.getD 0 := fun k => by
    rw [List.getElem?_set]
    by_cases h2 : k = m
    · subst h2
      simp
    · rw [if_neg h2, if_neg (by omega)]
      by_cases h3 : k < m + 1
      · simp [h3]
      · rw [List.getElem?_eq_none (by simpa using h3)]
        rfl
  have key := pv_lin q (h := f.take (m + 1)) (f := f.take m) (g := (List.replicate (m + 1) (0 : Int)).set m ((List.replicate (m + 1) (0 : Int))[m]?.getD 0 + f[m]?.getD 0)) (fun k : Nat => by rw [e k, ← e2 k])
  rw [key, pv_set q _ _ _ (by simp), pv_rep0, Rat.zero_add]
theorem pvTo_all (f : List Int) (q : Rat) : pvTo f q f.length = pv f q := by
  unfold pvTo
  rw [List.take_length]
theorem pvTo_0 (f : List Int) (q : Rat) : pvTo f q 0 = 0 := rfl
theorem foldl_range {β : Type} {P : Nat → β → Prop} {s : β → Nat → β} (m : Nat) (h : ∀ k b, k < m → P k b → P (k + 1) (s b k)) (b : β) (h0 : P 0 b) : P m ((List.range m).foldl s b) := by
  induction m with
  | zero => exact h0
  | succ m ih =>
    rw [List.range_succ, List.foldl_append]
    exact h m _ (by omega) (ih fun k b hk => h k b (by omega))
theorem pv_mulRow (f g acc : List Int) (q : Rat) (i : Nat) (hl : i + g.length ≤ acc.length) : pv (mulRow f g acc i) q = pv acc q + ((f[i]?.getD 0 : Int) : Rat) * q ^ i * pv g q := by
  have := foldl_range (P := fun m b => b.length = acc.length ∧ pv b q = pv acc q + ((f[i]?.getD 0 : Int) : Rat) * q ^ i * pvTo g q m) (s := mulStep f g i) g.length (fun k b hk ⟨h1, h2⟩ => by
    refine ⟨by rw [mulStep_len, h1], ?_⟩
    unfold mulStep
    rw [pv_set q _ b (i + k) (by omega), h2, pvTo_succ g q k hk, Rat.intCast_mul]
    have : q ^ (i + k) = q ^ i * q ^ k := by grind
    rw [this]
    grind) acc ⟨rfl, by rw [pvTo_0, Rat.mul_zero, Rat.add_zero]⟩
  unfold mulRow
  rw [this.2, pvTo_all]
theorem pv_mulR (f g : List Int) (q : Rat) : pv (mulR f g) q = pv f q * pv g q := by
  have := foldl_range (P := fun m b => b.length = f.length + g.length ∧ pv b q = pvTo f q m * pv g q) (s := mulRow f g) f.length (fun k b hk ⟨h1, h2⟩ => by
    refine ⟨by rw [mulRow_len, h1], ?_⟩
    rw [pv_mulRow f g b q k (by omega), h2, pvTo_succ f q k hk, Rat.add_mul]) (List.replicate (f.length + g.length) 0) ⟨by simp, by rw [pv_rep0, pvTo_0, Rat.zero_mul]⟩
  unfold mulR
  rw [this.2, pvTo_all]

/-! ### values of rows at whole numbers -/
def vl (f : List Int) (x : Int) : Int := f.foldr (fun c v => c + x * v) 0
theorem vl_nil (x : Int) : vl [] x = 0 := rfl
theorem vl_cons (c : Int) (f : List Int) (x : Int) : vl (c :: f) x = c + x * vl f x := rfl
theorem vl_pv (f : List Int) (x : Int) : ((vl f x : Int) : Rat) = pv f (x : Rat) := by
  induction f with
  | nil => rfl
  | cons c f ih => rw [vl_cons, pv_cons, Rat.intCast_add, Rat.intCast_mul, ih]
theorem vl_eq {f : List Int} {x y : Int} (h : pv f (x : Rat) = (y : Rat)) : vl f x = y := by
  rw [← vl_pv] at h
  exact Rat.intCast_inj.mp h
theorem vl_ext (x : Int) {h f : List Int} (e : ∀ k : Nat, h[k]?.getD 0 = f[k]?.getD 0) : vl h x = vl f x := vl_eq (by rw [pv_ext _ e, vl_pv])
theorem vl_trim (f : List Int) (x : Int) : vl (trim f) x = vl f x := vl_ext x (trim_get f)
theorem vl_lin (x : Int) {h f g : List Int} (e : ∀ k : Nat, h[k]?.getD 0 = f[k]?.getD 0 + g[k]?.getD 0) : vl h x = vl f x + vl g x :=
  vl_eq (by rw [pv_lin _ e, Rat.intCast_add, vl_pv, vl_pv])
theorem vl_mulR (f g : List Int) (x : Int) : vl (mulR f g) x = vl f x * vl g x := vl_eq (by rw [pv_mulR, Rat.intCast_mul, vl_pv, vl_pv])
theorem vl_set (x d : Int) (f : List Int) (k : Nat) (hk : k < f.length) : vl (f.set k (f[k]?.getD 0 + d)) x = vl f x + d * x ^ k :=
  vl_eq (by rw [pv_set _ d f k hk, Rat.intCast_add, vl_pv, Rat.intCast_mul, Rat.intCast_pow])
theorem vl_scale (c x : Int) (f : List Int) : vl (f.map fun y => y * c) x = vl f x * c := by
  induction f with
  | nil => simp [vl_nil]
  | cons a f ih =>
    rw [List.map_cons, vl_cons, vl_cons, ih]
    grind
theorem vl_neg (x : Int) (f : List Int) : vl (f.map fun y => -y) x = - vl f x := by
  induction f with
  | nil => simp [vl_nil]
  | cons a f ih =>
    rw [List.map_cons, vl_cons, vl_cons, ih]
    grind
theorem vl_append (x : Int) (f g : List Int) : vl (f ++ g) x = vl f x + x ^ f.length * vl g x := by
  induction f with
  | nil => simp [vl_nil]
  | cons a f ih =>
    rw [List.cons_append, vl_cons, vl_cons, ih, List.length_cons]
    grind
theorem vl_zeros (x : Int) (n : Nat) : vl (List.replicate n 0) x = 0 := vl_eq (pv_rep0 _ n)
/-- a row without numbers but nought -/
theorem vl_all0 {f : List Int} (h : ∀ c ∈ f, c = 0) (x : Int) : vl f x = 0 := by
  induction f with
  | nil => rfl
  | cons a f ih => rw [vl_cons, h a List.mem_cons_self, ih fun c hc => h c (List.mem_cons_of_mem _ hc)]; simp
theorem vl_zero : ∀ {f : List Int} {N : Int}, (∀ x, N ≤ x → vl f x = 0) → ∀ c ∈ f, c = 0
  | [], _, _ => fun c hc => nomatch hc
  | a :: f, N, h => by
    have key : ∀ x, max N (a.natAbs + 1) ≤ x → a = 0 ∧ vl f x = 0 := fun x hx => by
      have e := h x (by omega)
      rw [vl_cons] at e
      have d : x ∣ a := ⟨- vl f x, by grind⟩
      have a0 : a = 0 := by
        by_cases z : a = 0
        · exact z
        · have := Int.natAbs_dvd_natAbs.mpr d
          have := Nat.le_of_dvd (by omega) this
          omega
      rw [a0, Int.zero_add] at e
      rcases Int.mul_eq_zero.mp e with q | q
      · omega
      · exact ⟨a0, q⟩
    intro c hc
    rcases List.mem_cons.mp hc with rfl | hc
    · exact (key _ (Int.le_refl _)).1
    · exact vl_zero (fun x hx => (key x hx).2) c hc
theorem row_zero {f : List Int} (hf : isRow f) (h : ∀ c ∈ f, c = 0) : f = [] := by
  by_cases z : f = []
  · exact z
  · exfalso
    have hp : 0 < f.length := List.length_pos_iff.mpr z
    refine isRow_last hf z ?_
    rw [List.getElem?_eq_getElem (by omega)]
    exact h _ (List.getElem_mem _)
theorem trim_zero {f : List Int} (h : ∀ c ∈ f, c = 0) : trim f = [] := row_zero (isRow_trim f) fun c hc => h c (trim_mem hc)
theorem getD_ext {f g : List Int} (hl : f.length = g.length) (h : ∀ k : Nat, f[k]?.getD 0 = g[k]?.getD 0) : f = g := by
  refine List.ext_getElem hl fun k h1 h2 => ?_
  have := h k
  rw [List.getElem?_eq_getElem h1, List.getElem?_eq_getElem h2] at this
  exact this
/-- rows are told by their values -/
theorem vl_inj {f g : List Int} (hf : isRow f) (hg : isRow g) {N : Int} (h : ∀ x, N ≤ x → vl f x = vl g x) : f = g := by
  let d := (List.range (max f.length g.length)).map fun k => f[k]?.getD 0 - g[k]?.getD 0
  have dk : ∀ k : Nat, f[k]?.getD 0 = d[k]?.getD 0 + g[k]?.getD 0 := fun k => by
    show _ = ((List.range (max f.length g.length)).map fun k => f[k]?.getD 0 - g[k]?.getD 0)[k]?.getD 0 + _
    rw [map_range_get]
    split
    · omega
    · rw [List.getElem?_eq_none (by omega), List.getElem?_eq_none (by omega)]
      rfl
  have z : ∀ c ∈ d, c = 0 := vl_zero (N := N) fun x hx => by
    have := vl_lin x dk
    rw [h x hx] at this
    omega
  have e : ∀ k : Nat, f[k]?.getD 0 = g[k]?.getD 0 := fun k => by
    rw [dk k]
    have : d[k]?.getD 0 = 0 := by
      by_cases hk : k < d.length
      · rw [List.getElem?_eq_getElem hk]
        exact z _ (List.getElem_mem _)
      · rw [List.getElem?_eq_none (by omega)]
        rfl
    omega
  have len : ∀ {f g : List Int}, isRow f → (∀ k : Nat, f[k]?.getD 0 = g[k]?.getD 0) → f.length ≤ g.length := fun {f g} hf e => by
    by_cases z : f = []
    · rw [z]; exact Nat.zero_le _
    · have hp : 0 < f.length := List.length_pos_iff.mpr z
      have l := isRow_last hf z
      rw [e] at l
      by_cases q : f.length - 1 < g.length
      · omega
      · rw [List.getElem?_eq_none (by omega)] at l
        exact absurd rfl l
  exact getD_ext (Nat.le_antisymm (len hf e) (len hg fun k => (e k).symm)) e
theorem trim_inj {f g : List Int} {N : Int} (h : ∀ x, N ≤ x → vl f x = vl g x) : trim f = trim g := vl_inj (isRow_trim f) (isRow_trim g) (N := N) fun x hx => by rw [vl_trim, vl_trim, h x hx]
/-! ### growth -/
theorem pow_pos' {x : Int} (hx : 1 ≤ x) (m : Nat) : 1 ≤ x ^ m := by
  induction m with
  | zero => rw [Int.pow_zero]; omega
  | succ m ih =>
    rw [Int.pow_succ]
    have := Int.mul_le_mul ih hx (by omega) (by omega)
    omega
theorem vl_le {B : Nat} {x : Int} (hx : 1 ≤ x) : ∀ {f : List Int} {m : Nat}, bd B f → f.length ≤ m + 1 → ((vl f x).natAbs : Int) ≤ (B : Int) * (m + 1) * x ^ m
  | [], m, _, _ => by
    rw [vl_nil]
    have := pow_pos' hx m
    have h1 : 0 ≤ (B : Int) * (m + 1) := Int.mul_nonneg (by omega) (by omega)
    have := Int.mul_nonneg h1 (show 0 ≤ x ^ m by omega)
    omega
  | [a], 0, hb, _ => by
    have := hb a List.mem_cons_self
    rw [vl_cons, vl_nil]
    simp
    omega
  | a :: b :: f, 0, _, hl => by simp at hl
  | a :: f, m + 1, hb, hl => by
    have ih := vl_le hx (f := f) (m := m) (fun c hc => hb c (List.mem_cons_of_mem _ hc)) (by simpa using hl)
    have ha := hb a List.mem_cons_self
    rw [vl_cons]
    have t := Int.natAbs_add_le a (x * vl f x)
    rw [Int.natAbs_mul] at t
    have xa : (x.natAbs : Int) = x := by omega
    have t2 : ((x.natAbs * (vl f x).natAbs : Nat) : Int) ≤ x * ((B : Int) * (m + 1) * x ^ m) := by
      rw [Int.natCast_mul, xa]
      exact Int.mul_le_mul_of_nonneg_left ih (by omega)
    have p := pow_pos' hx (m + 1)
    have t3 : (B : Int) ≤ B * x ^ (m + 1) := by
      have := Int.mul_le_mul_of_nonneg_left p (show (0 : Int) ≤ B by omega)
      omega
    have e : (B : Int) * (((m + 1 : Nat) : Int) + 1) * x ^ (m + 1) = B * x ^ (m + 1) + x * ((B : Int) * (m + 1) * x ^ m) := by
      rw [Int.pow_succ]
      grind
    rw [e]
    omega
theorem bd_ex (f : List Int) : ∃ B, bd B f := by
  induction f with
  | nil => exact ⟨0, fun c hc => nomatch hc⟩
  | cons a f ih =>
    obtain ⟨B, h⟩ := ih
    refine ⟨max B a.natAbs, fun c hc => ?_⟩
    rcases List.mem_cons.mp hc with rfl | hc
    · omega
    · have := h c hc
      omega
theorem dropLast_last {f : List Int} (h : f ≠ []) : f = f.dropLast ++ [f[f.length - 1]?.getD 0] := by
  have e := List.dropLast_concat_getLast h
  rw [List.getLast_eq_getElem] at e
  have hp : 0 < f.length := List.length_pos_iff.mpr h
  rw [List.getElem?_eq_getElem (by omega)]
  exact e.symm
/-- beyond some number the longer row is the greater one -/
theorem vl_grow {g v : List Int} (hg : isRow g) (hl : v.length < g.length) : ∃ N : Int, 1 ≤ N ∧ ∀ x, N ≤ x → (vl v x).natAbs < (vl g x).natAbs := by
  have hne : g ≠ [] := fun z => by rw [z] at hl; simp at hl
  have e := dropLast_last hne
  have hL := isRow_last hg hne
  generalize g[g.length - 1]?.getD 0 = L at e hL
  obtain ⟨n, hn⟩ : ∃ n, g.dropLast.length = n := ⟨_, rfl⟩
  have hn2 : n + 1 = g.length := by rw [← hn, List.length_dropLast]; omega
  obtain ⟨B1, b1⟩ := bd_ex g.dropLast
  obtain ⟨B2, b2⟩ := bd_ex v
  have hv : v.length ≤ n := by omega
  cases n with
  | zero =>
    refine ⟨1, by omega, fun x hx => ?_⟩
    have v0 : v = [] := List.eq_nil_of_length_eq_zero (by omega)
    have g0 : g.dropLast = [] := List.eq_nil_of_length_eq_zero hn
    rw [v0, e, g0, List.nil_append, vl_nil, vl_cons, vl_nil]
    simp
    omega
  | succ m =>
    refine ⟨(B1 : Int) * (m + 1) + B2 * (m + 1) + 1, ?_, fun x hx => ?_⟩
    · have h1 : 0 ≤ (B1 : Int) * (m + 1) := Int.mul_nonneg (by omega) (by omega)
      have h2 : 0 ≤ (B2 : Int) * (m + 1) := Int.mul_nonneg (by omega) (by omega)
      omega
    have h1 : 0 ≤ (B1 : Int) * (m + 1) := Int.mul_nonneg (by omega) (by omega)
    have h2 : 0 ≤ (B2 : Int) * (m + 1) := Int.mul_nonneg (by omega) (by omega)
    have hx1 : 1 ≤ x := by omega
    have l1 := vl_le hx1 (m := m) b1 (by omega)
    have l2 := vl_le hx1 (m := m) b2 (by omega)
    have p := pow_pos' hx1 m
    have ev1 : vl g x = vl g.dropLast x + x ^ (m + 1) * L := by
      have := vl_append x g.dropLast [L]
      rw [← e, hn, vl_cons, vl_nil] at this
      rw [this]
      simp
    have big : ((x ^ (m + 1) * L).natAbs : Int) ≥ x ^ m * x := by
      rw [Int.natAbs_mul, Int.natCast_mul, ← Int.pow_succ]
      show _ ≥ x ^ (m + 1)
      have q := pow_pos' hx1 (m + 1)
      have q2 : ((x ^ (m + 1)).natAbs : Int) = x ^ (m + 1) := by omega
      rw [q2]
      have q3 : (1 : Int) ≤ L.natAbs := by omega
      have := Int.mul_le_mul_of_nonneg_left q3 (show 0 ≤ x ^ (m + 1) by omega)
      rw [Int.mul_one] at this
      exact this
    have low : ((vl g x).natAbs : Int) ≥ x ^ m * x - (B1 : Int) * (m + 1) * x ^ m := by
      have := Int.natAbs_sub_le (vl g x) (vl g.dropLast x)
      rw [show vl g x - vl g.dropLast x = x ^ (m + 1) * L by omega] at this
      omega
    have fin : x ^ m * x - (B1 : Int) * (m + 1) * x ^ m ≥ (B2 : Int) * (m + 1) * x ^ m + x ^ m := by
      have := Int.mul_le_mul_of_nonneg_left hx (show 0 ≤ x ^ m by omega)
      grind
    omega
/-- the rest is one -/
theorem rem_zero {u : Int → Int} {g v : List Int} (hg : isRow g) (hl : v.length < g.length) (h : ∀ x, u x * vl g x = vl v x) : ∀ c ∈ v, c = 0 := by
  obtain ⟨N, h1, h2⟩ := vl_grow hg hl
  refine vl_zero (N := N) fun x hx => ?_
  have a := h2 x hx
  have e := h x
  by_cases z : u x = 0
  · rw [z, Int.zero_mul] at e
    exact e.symm
  · exfalso
    have := congrArg Int.natAbs e
    rw [Int.natAbs_mul] at this
    have k : 1 * (vl g x).natAbs ≤ (u x).natAbs * (vl g x).natAbs := Nat.mul_le_mul_right _ (by omega)
    omega

/-! ### division from the top -/
def topI (r : List Int) : Int := r[r.length - 1]?.getD 0
/-- m times g, s places up, taken off -/
def subTo (m : Int) (g : List Int) (s : Nat) (r : List Int) : Nat → List Int
  | 0 => r
  | k + 1 => (subTo m g s r k).set (s + k) ((subTo m g s r k)[s + k]?.getD 0 - m * g[k]?.getD 0)
theorem subTo_len (m : Int) (g : List Int) (s : Nat) (r : List Int) : ∀ k, (subTo m g s r k).length = r.length
  | 0 => rfl
  | k + 1 => by rw [subTo, List.length_set, subTo_len]
theorem vl_take_succ (g : List Int) (k : Nat) (hk : k < g.length) (x : Int) : vl (g.take (k + 1)) x = vl (g.take k) x + g[k]?.getD 0 * x ^ k := by
  have e : g.take (k + 1) = g.take k ++ [g[k]?.getD 0] := by
    rw [List.getElem?_eq_getElem hk]
    exact (List.take_append_getElem hk).symm
  rw [e, vl_append, vl_cons, vl_nil, List.length_take, Nat.min_eq_left (by omega)]
  grind
theorem subTo_vl (m : Int) (g : List Int) (s : Nat) (r : List Int) (x : Int) : ∀ k, k ≤ g.length → s + k ≤ r.length → vl (subTo m g s r k) x = vl r x - m * x ^ s * vl (g.take k) x
  | 0, _, _ => by
    rw [List.take_zero, vl_nil, subTo]
    simp
  | k + 1, h1, h2 => by
    rw [subTo, Int.sub_eq_add_neg, vl_set x _ _ _ (by rw [subTo_len]; omega), subTo_vl m g s r x k (by omega) (by omega), vl_take_succ g k (by omega), Int.pow_add]
    grind
/-- what stands at a place behind it -/
theorem subTo_get (m : Int) (g : List Int) (s : Nat) (r : List Int) : ∀ k, s + k ≤ r.length → ∀ j : Nat, (subTo m g s r k)[j]?.getD 0 = r[j]?.getD 0 - (if s ≤ j ∧ j < s + k then m * g[j - s]?.getD 0 else 0)
  | 0, _, j => by
    rw [if_neg (by omega), subTo]
    omega
  | k + 1, h2, j => by
    rw [subTo, List.getElem?_set, subTo_len]
    by_cases e : s + k = j
    · subst e
      rw [if_pos rfl, if_pos (by omega), Option.getD_some, subTo_get m g s r k (by omega), if_neg (by omega), if_pos (by omega), Nat.add_sub_cancel_left]
      omega
    · rw [if_neg e, subTo_get m g s r k (by omega)]
      by_cases q : s ≤ j ∧ j < s + k
      · rw [if_pos q, if_pos (by omega)]
      · rw [if_neg q, if_neg (by omega)]
def muchI (g r : List Int) : Int := if topI g < 0 then 0 - topI r else topI r
def absI (x : Int) : Int := (x.natAbs : Int)
def scaleI (L : Int) (r : List Int) : List Int := r.map fun y => y * L
@[simp] theorem scaleI_len (L : Int) (r : List Int) : (scaleI L r).length = r.length := by simp [scaleI]
theorem scaleI_get (L : Int) (r : List Int) (k : Nat) : (scaleI L r)[k]?.getD 0 = r[k]?.getD 0 * L := by
  unfold scaleI
  rw [List.getElem?_map]
  cases r[k]? <;> simp
def fullR (g r : List Int) : List Int := subTo (muchI g r) g (r.length - g.length) (scaleI (absI (topI g)) r) g.length
def stepR (g r : List Int) : List Int := (fullR g r).dropLast
def stepQ (g r q : List Int) : List Int := (scaleI (absI (topI g)) q).set (r.length - g.length) ((scaleI (absI (topI g)) q)[r.length - g.length]?.getD 0 + muchI g r)
theorem fullR_len (g r : List Int) : (fullR g r).length = r.length := by unfold fullR; rw [subTo_len, scaleI_len]
theorem stepR_len (g r : List Int) : (stepR g r).length = r.length - 1 := by unfold stepR; rw [List.length_dropLast, fullR_len]
theorem stepQ_len (g r q : List Int) : (stepQ g r q).length = q.length := by unfold stepQ; rw [List.length_set, scaleI_len]
theorem much_top (g r : List Int) : muchI g r * topI g = topI r * absI (topI g) := by
  unfold muchI absI
  split
  · rw [show ((topI g).natAbs : Int) = - topI g by omega]
    grind
  · rw [show ((topI g).natAbs : Int) = topI g by omega]
theorem fullR_top (g r : List Int) (h1 : g ≠ []) (h2 : g.length ≤ r.length) : topI (fullR g r) = 0 := by
  have hp : 0 < g.length := List.length_pos_iff.mpr h1
  have e := much_top g r
  unfold topI at *
  rw [fullR_len]
  unfold fullR
  rw [subTo_get _ _ _ _ _ (by rw [scaleI_len]; omega), if_pos (by omega), scaleI_get, show r.length - 1 - (r.length - g.length) = g.length - 1 by omega]
  unfold topI
  omega
theorem vl_dropLast {f : List Int} (h : topI f = 0) (x : Int) : vl f.dropLast x = vl f x := by
  by_cases z : f = []
  · rw [z]; rfl
  · have e := dropLast_last z
    have := vl_append x f.dropLast [f[f.length - 1]?.getD 0]
    rw [← e] at this
    unfold topI at h
    rw [this, h, vl_cons, vl_nil]
    simp
theorem stepR_vl (g r : List Int) (h1 : g ≠ []) (h2 : g.length ≤ r.length) (x : Int) : vl (stepR g r) x = vl r x * absI (topI g) - muchI g r * x ^ (r.length - g.length) * vl g x := by
  unfold stepR
  rw [vl_dropLast (fullR_top g r h1 h2)]
  unfold fullR
  rw [subTo_vl _ _ _ _ _ _ (Nat.le_refl _) (by rw [scaleI_len]; omega), List.take_length]
  unfold scaleI
  rw [vl_scale]
theorem stepQ_vl (g r q : List Int) (h : r.length - g.length < q.length) (x : Int) : vl (stepQ g r q) x = vl q x * absI (topI g) + muchI g r * x ^ (r.length - g.length) := by
  unfold stepQ
  rw [vl_set x _ _ _ (by rw [scaleI_len]; exact h)]
  unfold scaleI
  rw [vl_scale]
/-- so many steps -/
def divN (g : List Int) : Nat → List Int → List Int → List Int × List Int
  | 0, r, q => (r, q)
  | n + 1, r, q => divN g n (stepR g r) (stepQ g r q)
theorem divN_vl (g : List Int) (h1 : g ≠ []) (x : Int) : ∀ n (r q : List Int), r.length + 1 = g.length + n → n ≤ q.length → (divN g n r q).1.length + 1 = g.length ∧ (divN g n r q).2.length = q.length ∧
    vl (divN g n r q).2 x * vl g x + vl (divN g n r q).1 x = (vl q x * vl g x + vl r x) * absI (topI g) ^ n
  | 0, r, q, h, hq => ⟨show r.length + 1 = g.length by omega, rfl, by rw [divN]; simp⟩
  | n + 1, r, q, h, hq => by
    have hp : 0 < g.length := List.length_pos_iff.mpr h1
    have a := stepR_vl g r h1 (by omega) x
    have b := stepQ_vl g r q (by omega) x
    obtain ⟨k1, k2, k3⟩ := divN_vl g h1 x n (stepR g r) (stepQ g r q) (by rw [stepR_len]; omega) (by rw [stepQ_len]; omega)
    rw [divN]
    refine ⟨k1, by rw [k2, stepQ_len], ?_⟩
    rw [k3, a, b, Int.pow_succ]
    grind
/-- short rows are left -/
theorem divN_lt (g r q : List Int) : divN g 0 r q = (r, q) := rfl
theorem bd_dropLast {B : Nat} {f : List Int} (h : bd B f) : bd B f.dropLast := fun c hc => h c (List.dropLast_subset f hc)
theorem bd_scale {B L : Nat} {f : List Int} {l : Int} (h : bd B f) (hl : l.natAbs ≤ L) : bd (B * L) (scaleI l f) := fun c hc => by
  unfold scaleI at hc
  obtain ⟨y, hy, rfl⟩ := List.mem_map.mp hc
  rw [Int.natAbs_mul]
  exact Nat.mul_le_mul (h y hy) hl
theorem bd_of_get {B : Nat} {f : List Int} (h : ∀ k : Nat, (f[k]?.getD 0).natAbs ≤ B) : bd B f := fun c hc => by
  obtain ⟨k, hk, e⟩ := List.mem_iff_getElem.mp hc
  have := h k
  rw [List.getElem?_eq_getElem hk, Option.getD_some, e] at this
  exact this
theorem much_le {B : Nat} {g r : List Int} (h : bd B r) : (muchI g r).natAbs ≤ B := by
  have := bd_get h (r.length - 1)
  unfold muchI topI
  split <;> omega
theorem subTo_bd {B M G : Nat} {m : Int} {g r : List Int} {s : Nat} (hr : bd B r) (hm : m.natAbs ≤ M) (hg : bd G g) {k : Nat} (hk : s + k ≤ r.length) : bd (B + M * G) (subTo m g s r k) := bd_of_get fun j => by
  rw [subTo_get m g s r k hk]
  have a := bd_get hr j
  have b := bd_get hg (j - s)
  split
  · have := Int.natAbs_sub_le (r[j]?.getD 0) (m * g[j - s]?.getD 0)
    rw [Int.natAbs_mul] at this
    have := Nat.mul_le_mul hm b
    omega
  · have := Nat.zero_le (M * G)
    simp
    omega
theorem stepR_bd {B G : Nat} {g r : List Int} (hr : bd B r) (hg : bd G g) (h2 : g.length ≤ r.length) : bd (B * G * 2) (stepR g r) := by
  refine bd_dropLast (bd_mono (subTo_bd (bd_scale hr (L := G) (by have := bd_get hg (g.length - 1); unfold absI topI; omega)) (much_le hr) hg (by rw [scaleI_len]; omega)) ?_)
  omega
theorem stepQ_bd {B C G : Nat} {g r q : List Int} (hr : bd B r) (hq : bd C q) (hg : bd G g) : bd (C * G + B) (stepQ g r q) := bd_of_get fun j => by
  unfold stepQ
  have ha : (absI (topI g)).natAbs ≤ G := by have := bd_get hg (g.length - 1); unfold absI topI; omega
  have hs := bd_scale hq ha
  have hm := much_le (g := g) hr
  rw [List.getElem?_set]
  split
  · split
    · rw [Option.getD_some]
      have := bd_get hs (r.length - g.length)
      have := Int.natAbs_add_le ((scaleI (absI (topI g)) q)[r.length - g.length]?.getD 0) (muchI g r)
      omega
    · simp
  · have := bd_get hs j
    omega

/-! ### put low -/
/-- the greatest common part of a row -/
def rowG (f : List Int) : Nat := f.foldl (fun p c => Nat.gcd p c.natAbs) 0
theorem rowG_dvd (f : List Int) : ∀ p : Nat, (f.foldl (fun p c => Nat.gcd p c.natAbs) p ∣ p) ∧ ∀ c ∈ f, f.foldl (fun p c => Nat.gcd p c.natAbs) p ∣ c.natAbs := by
  induction f with
  | nil => exact fun p => ⟨Nat.dvd_refl _, fun c hc => nomatch hc⟩
  | cons x f ih =>
    intro p
    obtain ⟨h1, h2⟩ := ih (Nat.gcd p x.natAbs)
    refine ⟨Nat.dvd_trans h1 (Nat.gcd_dvd_left _ _), fun c hc => ?_⟩
    rcases List.mem_cons.mp hc with rfl | hc
    · exact Nat.dvd_trans h1 (Nat.gcd_dvd_right _ _)
    · exact h2 c hc
theorem rowG_le {f : List Int} {c : Int} (hc : c ∈ f) (h0 : c ≠ 0) : rowG f ≤ c.natAbs := Nat.le_of_dvd (by omega) ((rowG_dvd f 0).2 c hc)
theorem rowG_pos {f : List Int} {c : Int} (hc : c ∈ f) (h0 : c ≠ 0) : 0 < rowG f := by
  refine Nat.pos_of_ne_zero fun z => ?_
  have h := (rowG_dvd f 0).2 c hc
  change rowG f ∣ c.natAbs at h
  rw [z] at h
  have := Nat.eq_zero_of_zero_dvd h
  omega
theorem rowG_zero {f : List Int} (h : ∀ c ∈ f, c = 0) : rowG f = 0 := by
  unfold rowG
  refine foldl_inv (P := fun p => p = 0) f (fun b x hx hb => ?_) 0 rfl
  rw [hb, h x hx]
  rfl
theorem rowG_bd {B : Nat} {f : List Int} (h : bd B f) : rowG f ≤ B := by
  by_cases hz : ∀ c ∈ f, c = 0
  · rw [rowG_zero hz]; exact Nat.zero_le _
  · have : ∃ c ∈ f, c ≠ 0 := Classical.byContradiction fun q => hz fun c hc => Classical.byContradiction fun z => q ⟨c, hc, z⟩
    obtain ⟨c, hc, h0⟩ := this
    exact Nat.le_trans (rowG_le hc h0) (h c hc)
/-- put low -/
def lowR (f : List Int) : List Int := if rowG f = 0 then [] else f.map fun c => c.fdiv (rowG f)
theorem lowR_len (f : List Int) : (lowR f).length ≤ f.length := by
  unfold lowR
  split <;> simp
theorem lowR_bd {B : Nat} {f : List Int} (h : bd B f) : bd B (lowR f) := by
  unfold lowR
  split
  · intro c hc; cases hc
  · intro c hc
    obtain ⟨x, hx, rfl⟩ := List.mem_map.mp hc
    exact Nat.le_trans (natAbs_fdiv_le _ _) (h x hx)
theorem row_mem {f : List Int} (h : isRow f) (h0 : f ≠ []) : ∃ c ∈ f, c ≠ 0 := by
  have hl := isRow_last h h0
  have hp : 0 < f.length := List.length_pos_iff.mpr h0
  refine ⟨_, ?_, hl⟩
  rw [List.getElem?_eq_getElem (by omega)]
  exact List.getElem_mem _
theorem rowG_row {f : List Int} (h : isRow f) (h0 : f ≠ []) : 0 < rowG f := by
  obtain ⟨c, hc, hz⟩ := row_mem h h0
  exact rowG_pos hc hz
/-- a row is so many times itself put low -/
theorem low_times {f : List Int} (h : isRow f) : f = scaleI (rowG f : Int) (lowR f) := by
  by_cases h0 : f = []
  · subst h0; rfl
  · have g := rowG_row h h0
    rw [lowR, if_neg (by omega)]
    unfold scaleI
    rw [List.map_map]
    conv => lhs; rw [← List.map_id f]
    refine List.map_congr_left fun c hc => ?_
    have d : (rowG f : Int) ∣ c := Int.ofNat_dvd_left.mpr ((rowG_dvd f 0).2 c hc)
    show c = c.fdiv (rowG f) * (rowG f : Int)
    exact (Int.fdiv_mul_cancel d).symm
theorem isRow_scale {c : Int} {f : List Int} (hc : c ≠ 0) (h : isRow f) : isRow (scaleI c f) := by
  by_cases h0 : f = []
  · subst h0; rfl
  · refine isRow_of ?_
    rw [scaleI_len, scaleI_get]
    exact Int.mul_ne_zero (isRow_last h h0) hc
theorem scale_row {c : Int} {f : List Int} (h : isRow (scaleI c f)) : isRow f := by
  by_cases h0 : f = []
  · subst h0; rfl
  · refine isRow_of fun z => ?_
    have h1 : scaleI c f ≠ [] := fun q => h0 (by have := congrArg List.length q; rw [scaleI_len] at this; exact List.eq_nil_of_length_eq_zero this)
    have := isRow_last h h1
    rw [scaleI_len, scaleI_get, z, Int.zero_mul] at this
    exact this rfl
theorem isRow_low {f : List Int} (h : isRow f) : isRow (lowR f) := scale_row (c := (rowG f : Int)) (by rw [← low_times h]; exact h)
theorem low_nil {f : List Int} (h : isRow f) : lowR f = [] ↔ f = [] := by
  constructor
  · intro e
    rw [low_times h, e]
    rfl
  · intro e
    rw [e]
    rfl
theorem rowG_scale (c : Nat) (f : List Int) : ∀ p, (scaleI (c : Int) f).foldl (fun p c => Nat.gcd p c.natAbs) (p * c) = f.foldl (fun p c => Nat.gcd p c.natAbs) p * c := by
  induction f with
  | nil => exact fun p => rfl
  | cons a f ih =>
    intro p
    show (scaleI (c : Int) f).foldl _ (Nat.gcd (p * c) (a * c).natAbs) = f.foldl _ (Nat.gcd p a.natAbs) * c
    rw [Int.natAbs_mul, Int.natAbs_natCast, Nat.gcd_mul_right, ih]
theorem lowR_scale {c : Nat} (hc : 0 < c) (f : List Int) : lowR (scaleI (c : Int) f) = lowR f := by
  have e : rowG (scaleI (c : Int) f) = rowG f * c := by
    have := rowG_scale c f 0
    rw [Nat.zero_mul] at this
    exact this
  unfold lowR
  rw [e]
  by_cases h : rowG f = 0
  · rw [h, Nat.zero_mul, if_pos rfl, if_pos rfl]
  · have : rowG f * c ≠ 0 := Nat.mul_ne_zero h (by omega)
    rw [if_neg this, if_neg h]
    unfold scaleI
    rw [List.map_map]
    refine List.map_congr_left fun x hx => ?_
    show (x * (c : Int)).fdiv ((rowG f * c : Nat) : Int) = x.fdiv (rowG f)
    rw [Int.natCast_mul, Int.fdiv_eq_ediv_of_nonneg _ (by rw [← Int.natCast_mul]; omega), Int.fdiv_eq_ediv_of_nonneg _ (by omega), Int.mul_ediv_mul_of_pos_left _ _ (by omega)]
theorem vl_scaleI (c x : Int) (f : List Int) : vl (scaleI c f) x = vl f x * c := vl_scale c x f
/-- rows alike but for numbers above nought have one low row -/
theorem low_alike {f g : List Int} (hf : isRow f) (hg : isRow g) {c d : Nat} (hc : 0 < c) (hd : 0 < d) {N : Int} (h : ∀ x, N ≤ x → vl f x * c = vl g x * d) : lowR f = lowR g := by
  have e : scaleI (c : Int) f = scaleI (d : Int) g := vl_inj (isRow_scale (by omega) hf) (isRow_scale (by omega) hg) (N := N) fun x hx => by rw [vl_scaleI, vl_scaleI]; exact h x hx
  rw [← lowR_scale hc f, e, lowR_scale hd g]
theorem low_low {f : List Int} (h : isRow f) : lowR (lowR f) = lowR f := by
  by_cases h0 : f = []
  · subst h0; rfl
  · have g := rowG_row h h0
    exact (low_alike (isRow_low h) h g Nat.one_pos (N := 0) fun x _ => by
      have := vl_scaleI (rowG f : Int) x (lowR f)
      rw [← low_times h] at this
      rw [this]
      simp)
def negR (f : List Int) : List Int := f.map fun x => -x
/-- made plain -/
def plainR (f : List Int) : List Int := if 0 < (lowR f).length ∧ (lowR f)[(lowR f).length - 1]?.getD 0 < 0 then negR (lowR f) else lowR f
theorem atI_last' {ns : List Int} (h : ns ≠ []) : atI (zs ns) (-1) = some (.int (ns[ns.length - 1]?.getD 0)) := by
  have hl : 0 < ns.length := List.length_pos_iff.mpr h
  unfold atI ixN
  rw [if_neg (by omega), if_pos (by rw [zs_length]; omega), zs_length]
  have e : (-1 + (ns.length : Int)).toNat = ns.length - 1 := by omega
  rw [e]
  exact zs_get (by omega)
def nOw : Option Sl → Prop
  | some (.ow _) => False
  | some (.od _) => False
  | some (.st _) => False
  | _ => True
theorem free_of {η : PD.Env} {i : Nat} {u : Option Sl} (h : η[i]? = some u) (hu : nOw u) : freeS η i = true := by
  unfold freeS
  rw [h]
  cases u with
  | none => rfl
  | some s =>
    cases s with
    | sh d => rfl
    | ow ds => exact hu.elim
    | od l => exact hu.elim
    | kk k => rfl
    | st xs => exact hu.elim
    | fr d => rfl

/-! ### boards: rows of rows; their values -/
def bv (B : List (List Int)) (x y : Int) : Int := vl (B.map fun r => vl r x) y
theorem bmap_get (B : List (List Int)) (x : Int) (k : Nat) : (B.map fun r => vl r x)[k]?.getD 0 = vl (B[k]?.getD []) x := by
  rw [List.getElem?_map]
  cases B[k]? <;> rfl
theorem bv_nil (x y : Int) : bv [] x y = 0 := rfl
theorem bv_lin (x y : Int) {H F G : List (List Int)} (e : ∀ k : Nat, vl (H[k]?.getD []) x = vl (F[k]?.getD []) x + vl (G[k]?.getD []) x) : bv H x y = bv F x y + bv G x y :=
  vl_lin y fun k => by rw [bmap_get, bmap_get, bmap_get, e k]
theorem bv_ext (x y : Int) {H F : List (List Int)} (e : ∀ k : Nat, vl (H[k]?.getD []) x = vl (F[k]?.getD []) x) : bv H x y = bv F x y :=
  vl_ext y fun k => by rw [bmap_get, bmap_get, e k]
theorem bv_set (x y : Int) (B : List (List Int)) (r : List Int) (k : Nat) (hk : k < B.length) : bv (B.set k r) x y = bv B x y + (vl r x - vl (B[k]?.getD []) x) * y ^ k := by
  have h := vl_set y (vl r x - vl (B[k]?.getD []) x) (B.map fun r => vl r x) k (by rw [List.length_map]; exact hk)
  rw [bmap_get, show vl (B[k]?.getD []) x + (vl r x - vl (B[k]?.getD []) x) = vl r x by omega] at h
  rw [bv, List.map_set]
  exact h
/-- no empty row at the end -/
def tlB (B : List (List Int)) : Nat → Nat
  | 0 => 0
  | k + 1 => if B[k]?.getD [] = [] then tlB B k else k + 1
def trimB (B : List (List Int)) : List (List Int) := B.take (tlB B B.length)
theorem tlB_le (B : List (List Int)) : ∀ k, tlB B k ≤ k
  | 0 => Nat.le_refl _
  | k + 1 => by
    unfold tlB
    split
    · have := tlB_le B k; omega
    · exact Nat.le_refl _
theorem tlB_get (B : List (List Int)) (j : Nat) : ∀ n, tlB B n ≤ j → j < n → B[j]?.getD [] = []
  | 0, _, h => by omega
  | n + 1, h1, h2 => by
    unfold tlB at h1
    split at h1
    · rename_i e
      by_cases hj : j = n
      · rw [hj]; exact e
      · exact tlB_get B j n h1 (by omega)
    · omega
theorem trimB_get (B : List (List Int)) (k : Nat) : (trimB B)[k]?.getD [] = B[k]?.getD [] := by
  unfold trimB
  rw [List.getElem?_take]
  split
  · rfl
  · rename_i h
    by_cases hk : k < B.length
    · exact (tlB_get B k _ (by omega) hk).symm
    · rw [List.getElem?_eq_none (by omega)]
theorem bv_trimB (B : List (List Int)) (x y : Int) : bv (trimB B) x y = bv B x y := bv_ext x y fun k => by rw [trimB_get]
theorem tlB_idem (B : List (List Int)) : ∀ k, tlB B (tlB B k) = tlB B k
  | 0 => rfl
  | k + 1 => by
    by_cases h : B[k]?.getD [] = []
    · rw [tlB, if_pos h]; exact tlB_idem B k
    · have e : tlB B (k + 1) = k + 1 := by rw [tlB, if_neg h]
      rw [e, e]
/-- a board: rows, none empty at the end -/
def isBd (B : List (List Int)) : Prop := (∀ r ∈ B, isRow r) ∧ (B = [] ∨ B[B.length - 1]?.getD [] ≠ [])
theorem isBd_nil : isBd [] := ⟨fun _ h => (List.not_mem_nil h).elim, .inl rfl⟩
theorem isBd_trim {B : List (List Int)} (h : ∀ r ∈ B, isRow r) : isBd (trimB B) := by
  refine ⟨fun r hr => h r (List.mem_of_mem_take hr), ?_⟩
  have hle := tlB_le B B.length
  have hlen : (trimB B).length = tlB B B.length := by
    unfold trimB
    rw [List.length_take]
    omega
  by_cases h0 : tlB B B.length = 0
  · left
    exact List.eq_nil_of_length_eq_zero (by omega)
  · right
    rw [hlen, trimB_get]
    intro z
    have := tlB_idem B B.length
    obtain ⟨m, hm⟩ : ∃ m, tlB B B.length = m + 1 := ⟨tlB B B.length - 1, by omega⟩
    rw [hm] at this z
    rw [Nat.add_sub_cancel] at z
    rw [tlB, if_pos z] at this
    have := tlB_le B m
    omega
theorem isRow_getD {B : List (List Int)} (h : ∀ r ∈ B, isRow r) (k : Nat) : isRow (B[k]?.getD []) := by
  cases e : B[k]? with
  | none => exact isRow_nil
  | some r => exact h r (List.mem_of_getElem? e)
theorem bv_rows {B C : List (List Int)} (hB : ∀ r ∈ B, isRow r) (hC : ∀ r ∈ C, isRow r) (h : ∀ x y, bv B x y = bv C x y) (k : Nat) : B[k]?.getD [] = C[k]?.getD [] := by
  refine vl_inj (isRow_getD hB k) (isRow_getD hC k) (N := 0) fun x _ => ?_
  have e := trim_inj (f := B.map fun r => vl r x) (g := C.map fun r => vl r x) (N := 0) fun y _ => h x y
  rw [← bmap_get, ← bmap_get, ← trim_get, e, trim_get]
theorem bv_inj {B C : List (List Int)} (hB : isBd B) (hC : isBd C) (h : ∀ x y, bv B x y = bv C x y) : B = C := by
  have rows := bv_rows hB.1 hC.1 h
  have key : ∀ {B C : List (List Int)}, isBd C → (∀ k : Nat, B[k]?.getD [] = C[k]?.getD []) → C.length ≤ B.length := by
    intro B C hC rows
    refine Classical.byContradiction fun hl => ?_
    rcases hC.2 with z | z
    · subst z
      simp at hl
    · rw [← rows, List.getElem?_eq_none (by omega)] at z
      exact z rfl
  have hl : B.length = C.length := Nat.le_antisymm (key hB fun k => (rows k).symm) (key hC rows)
  refine List.ext_getElem hl fun k h1 h2 => ?_
  have := rows k
  rw [List.getElem?_eq_getElem h1, List.getElem?_eq_getElem h2] at this
  exact this

/-! ### dicts of numbers by pairs of powers -/
abbrev Mp := List ((Nat × Nat) × Int)
def keysM (m : Mp) : List (Nat × Nat) := m.map (·.1)
def key2 (k : Nat × Nat) : List Int := [(k.1 : Int), (k.2 : Int)]
def dl (m : Mp) : Dl := m.map fun p => (key2 p.1, p.2)
def lookM (m : Mp) (k : Nat × Nat) : Int := ((m.find? fun p => decide (p.1 = k)).map (·.2)).getD 0
def putM (m : Mp) (k : Nat × Nat) (v : Int) : Mp := if (m.any fun p => decide (p.1 = k)) = true then m.map (fun p => if p.1 = k then (p.1, v) else p) else m ++ [(k, v)]
def dv (m : Mp) (x y : Int) : Int := m.foldr (fun p s => p.2 * x ^ p.1.1 * y ^ p.1.2 + s) 0
theorem dv_nil (x y : Int) : dv [] x y = 0 := rfl
theorem dv_cons (p : (Nat × Nat) × Int) (m : Mp) (x y : Int) : dv (p :: m) x y = p.2 * x ^ p.1.1 * y ^ p.1.2 + dv m x y := rfl
theorem key2_inj {k k' : Nat × Nat} : key2 k = key2 k' ↔ k = k' := by
  refine ⟨fun h => ?_, fun h => by rw [h]⟩
  obtain ⟨a, b⟩ := k
  obtain ⟨c, d⟩ := k'
  unfold key2 at h
  injection h with h1 h2
  injection h2 with h2 _
  have h1 : (a : Int) = c := h1
  have h2 : (b : Int) = d := h2
  have e1 : a = c := by omega
  have e2 : b = d := by omega
  rw [e1, e2]
@[simp] theorem dl_len (m : Mp) : (dl m).length = m.length := by simp [dl]
theorem dl_nil : dl [] = [] := rfl
theorem dec_key (k k' : Nat × Nat) : decide (key2 k = key2 k') = decide (k = k') := by
  by_cases h : k = k'
  · rw [decide_eq_true h, decide_eq_true (key2_inj.mpr h)]
  · rw [decide_eq_false h, decide_eq_false (fun z => h (key2_inj.mp z))]
theorem lookL_dl (m : Mp) (k : Nat × Nat) : lookL (dl m) (key2 k) = (m.find? fun p => decide (p.1 = k)).map (·.2) := by
  induction m with
  | nil => rfl
  | cons p m ih =>
    have e : dl (p :: m) = (key2 p.1, p.2) :: dl m := rfl
    rw [e, lookL, List.find?_cons, List.find?_cons]
    show (match decide (key2 p.1 = key2 k) with | true => some (key2 p.1, p.2) | false => _).map _ = _
    rw [dec_key]
    by_cases h : p.1 = k
    · rw [decide_eq_true h]
      rfl
    · rw [decide_eq_false h]
      exact ih
theorem lookL_get (m : Mp) (k : Nat × Nat) : (lookL (dl m) (key2 k)).getD 0 = lookM m k := by rw [lookL_dl]; rfl
theorem putL_dl (m : Mp) (k : Nat × Nat) (v : Int) : putL (dl m) (key2 k) v = dl (putM m k v) := by
  unfold putL putM
  have e : ((dl m).any fun p => decide (p.1 = key2 k)) = m.any fun p => decide (p.1 = k) := by
    unfold dl
    rw [List.any_map]
    congr 1
    funext p
    exact dec_key p.1 k
  rw [e]
  split
  · unfold dl
    rw [List.map_map, List.map_map]
    refine List.map_congr_left fun p _ => ?_
    show (if key2 p.1 = key2 k then (key2 p.1, v) else (key2 p.1, p.2)) = (key2 ((if p.1 = k then (p.1, v) else p) : (Nat × Nat) × Int).1, ((if p.1 = k then (p.1, v) else p) : (Nat × Nat) × Int).2)
    by_cases h : p.1 = k
    · rw [if_pos h, if_pos (key2_inj.mpr h)]
    · rw [if_neg h, if_neg (fun z => h (key2_inj.mp z))]
  · unfold dl
    rw [List.map_append]
    rfl
theorem lookM_cons (p : (Nat × Nat) × Int) (m : Mp) (k : Nat × Nat) : lookM (p :: m) k = if p.1 = k then p.2 else lookM m k := by
  unfold lookM
  rw [List.find?_cons]
  by_cases h : p.1 = k
  · rw [decide_eq_true h, if_pos h]
    rfl
  · rw [decide_eq_false h, if_neg h]
theorem lookM_none {m : Mp} {k : Nat × Nat} (h : k ∉ keysM m) : lookM m k = 0 := by
  induction m with
  | nil => rfl
  | cons p m ih =>
    have h1 : p.1 ≠ k := fun z => h (by rw [← z]; exact List.mem_cons_self)
    rw [lookM_cons, if_neg h1]
    exact ih fun z => h (List.mem_cons_of_mem _ z)
theorem any_keys (m : Mp) (k : Nat × Nat) : (m.any fun p => decide (p.1 = k)) = true ↔ k ∈ keysM m := by
  unfold keysM
  rw [List.any_eq_true, List.mem_map]
  constructor
  · rintro ⟨p, h1, h2⟩
    exact ⟨p, h1, of_decide_eq_true h2⟩
  · rintro ⟨p, h1, h2⟩
    exact ⟨p, h1, decide_eq_true h2⟩
theorem map_same {m : Mp} {k : Nat × Nat} (h : k ∉ keysM m) (v : Int) : m.map (fun p => if p.1 = k then (p.1, v) else p) = m := by
  induction m with
  | nil => rfl
  | cons p m ih =>
    have h1 : p.1 ≠ k := fun z => h (by rw [← z]; exact List.mem_cons_self)
    rw [List.map_cons, if_neg h1, ih fun z => h (List.mem_cons_of_mem _ z)]
theorem putM_eq {p : (Nat × Nat) × Int} {m : Mp} (h : p.1 ∉ keysM m) (v : Int) : putM (p :: m) p.1 v = (p.1, v) :: m := by
  unfold putM
  rw [if_pos ((any_keys _ _).mpr List.mem_cons_self), List.map_cons, if_pos rfl, map_same h]
theorem putM_ne {p : (Nat × Nat) × Int} {m : Mp} {k : Nat × Nat} (h : p.1 ≠ k) (v : Int) : putM (p :: m) k v = p :: putM m k v := by
  unfold putM
  rw [List.any_cons, decide_eq_false h, Bool.false_or]
  split
  · rw [List.map_cons, if_neg h]
  · rfl
theorem putM_keys (m : Mp) (k : Nat × Nat) (v : Int) : keysM (putM m k v) = if k ∈ keysM m then keysM m else keysM m ++ [k] := by
  unfold putM
  by_cases h : k ∈ keysM m
  · rw [if_pos ((any_keys m k).mpr h), if_pos h]
    unfold keysM
    rw [List.map_map]
    refine List.map_congr_left fun p _ => ?_
    show ((if p.1 = k then (p.1, v) else p) : (Nat × Nat) × Int).1 = p.1
    split <;> rfl
  · rw [if_neg (fun z => h ((any_keys m k).mp z)), if_neg h]
    unfold keysM
    rw [List.map_append]
    rfl
theorem putM_nodup {m : Mp} (h : (keysM m).Nodup) (k : Nat × Nat) (v : Int) : (keysM (putM m k v)).Nodup := by
  rw [putM_keys]
  split
  · exact h
  · rename_i hn
    rw [List.nodup_append]
    refine ⟨h, by simp, fun a ha b hb => ?_⟩
    rw [List.mem_singleton.mp hb]
    exact fun z => hn (z ▸ ha)
theorem putM_len (m : Mp) (k : Nat × Nat) (v : Int) : (putM m k v).length ≤ m.length + 1 := by
  have := putL_len (dl m) (key2 k) v
  rw [putL_dl, dl_len, dl_len] at this
  exact this
theorem putM_mem {m : Mp} {k : Nat × Nat} {v : Int} {p : (Nat × Nat) × Int} (h : p ∈ putM m k v) : (p.1 = k ∧ p.2 = v) ∨ p ∈ m := by
  unfold putM at h
  split at h
  · obtain ⟨q, h1, h2⟩ := List.mem_map.mp h
    split at h2
    · rename_i e
      subst h2
      exact .inl ⟨e, rfl⟩
    · subst h2
      exact .inr h1
  · rcases List.mem_append.mp h with h | h
    · exact .inr h
    · rw [List.mem_singleton.mp h]
      exact .inl ⟨rfl, rfl⟩
theorem dv_put {m : Mp} (h : (keysM m).Nodup) (k : Nat × Nat) (v x y : Int) : dv (putM m k v) x y = dv m x y + (v - lookM m k) * x ^ k.1 * y ^ k.2 := by
  induction m with
  | nil =>
    show v * x ^ k.1 * y ^ k.2 + 0 = 0 + (v - 0) * x ^ k.1 * y ^ k.2
    rw [Int.sub_zero, Int.add_zero, Int.zero_add]
  | cons p m ih =>
    have hc : p.1 ∉ keysM m ∧ (keysM m).Nodup := List.nodup_cons.mp h
    by_cases e : p.1 = k
    · subst e
      rw [putM_eq hc.1, dv_cons, dv_cons, lookM_cons, if_pos rfl]
      show v * x ^ p.1.1 * y ^ p.1.2 + dv m x y = _
      rw [Int.sub_mul, Int.sub_mul]
      omega
    · rw [putM_ne e, dv_cons, dv_cons, lookM_cons, if_neg e, ih hc.2]
      omega
theorem look_mem {m : Mp} (h : (keysM m).Nodup) {p : (Nat × Nat) × Int} (hp : p ∈ m) : lookL (dl m) (key2 p.1) = some p.2 := by
  rw [lookL_dl]
  induction m with
  | nil => cases hp
  | cons q m ih =>
    have hc : q.1 ∉ keysM m ∧ (keysM m).Nodup := List.nodup_cons.mp h
    rw [List.find?_cons]
    rcases List.mem_cons.mp hp with e | hp
    · subst e
      rw [decide_eq_true rfl]
      rfl
    · have ne : q.1 ≠ p.1 := fun z => hc.1 (by rw [z]; exact List.mem_map.mpr ⟨p, hp, rfl⟩)
      rw [decide_eq_false ne]
      exact ih hc.2 hp
/-- what the laws' dicts are like: keys unlike and small, numbers of few bits -/
def DOk (N b : Nat) (m : Mp) : Prop := (keysM m).Nodup ∧ (∀ p ∈ m, p.1.1 < N ∧ p.1.2 < N ∧ p.2.natAbs ≤ 2 ^ b)
theorem DOk.nil {N b : Nat} : DOk N b [] := ⟨List.nodup_nil, fun _ h => (List.not_mem_nil h).elim⟩
theorem DOk.put {N b : Nat} {m : Mp} (h : DOk N b m) {k : Nat × Nat} {v : Int} (h1 : k.1 < N) (h2 : k.2 < N) (h3 : v.natAbs ≤ 2 ^ b) : DOk N b (putM m k v) :=
  ⟨putM_nodup h.1 k v, fun p hp => by
    rcases putM_mem hp with ⟨e1, e2⟩ | hp
    · rw [e1, e2]
      exact ⟨h1, h2, h3⟩
    · exact h.2 p hp⟩
theorem DOk.mono {N b N' b' : Nat} {m : Mp} (h : DOk N b m) (hN : N ≤ N') (hb : b ≤ b') : DOk N' b' m :=
  ⟨h.1, fun p hp => by
    obtain ⟨h1, h2, h3⟩ := h.2 p hp
    exact ⟨by omega, by omega, Nat.le_trans h3 (Nat.pow_le_pow_right (by decide) hb)⟩⟩
theorem look_bd {m : Mp} {c : Nat} (h : ∀ p ∈ m, p.2.natAbs ≤ c) (k : Nat × Nat) : (lookM m k).natAbs ≤ c := by
  induction m with
  | nil => exact Nat.zero_le _
  | cons p m ih =>
    rw [lookM_cons]
    split
    · exact h p List.mem_cons_self
    · exact ih fun q hq => h q (List.mem_cons_of_mem _ hq)
/-! the board of a dict -/
def gridR (m : Mp) (k : Nat) : List Int := (List.range 9).map fun i => lookM m (i, k)
def gridB (m : Mp) : List (List Int) := (List.range 9).map fun k => gridR m k
def boM (m : Mp) : List (List Int) := trimB ((List.range 9).map fun k => trim (gridR m k))
theorem mapRange_get {α : Type} (u : Nat → α) (d : α) (n k : Nat) : ((List.range n).map u)[k]?.getD d = if k < n then u k else d := by
  rw [List.getElem?_map]
  by_cases h : k < n
  · rw [List.getElem?_range h, if_pos h]
    rfl
  · rw [List.getElem?_eq_none (by rw [List.length_range]; omega), if_neg h]
    rfl
theorem isBd_boM (m : Mp) : isBd (boM m) := isBd_trim fun r hr => by
  obtain ⟨k, _, rfl⟩ := List.mem_map.mp hr
  exact isRow_trim _
theorem bv_grid {m : Mp} (h : (keysM m).Nodup) (hk : ∀ p ∈ m, p.1.1 < 9 ∧ p.1.2 < 9) (x y : Int) : bv (gridB m) x y = dv m x y := by
  induction m with
  | nil =>
    rw [dv_nil, ← bv_nil x y]
    refine bv_ext x y fun k => ?_
    rw [gridB, mapRange_get]
    split
    · refine vl_all0 (fun c hc => ?_) x
      obtain ⟨i, _, rfl⟩ := List.mem_map.mp hc
      rfl
    · rfl
  | cons p m ih =>
    have hc : p.1 ∉ keysM m ∧ (keysM m).Nodup := List.nodup_cons.mp h
    obtain ⟨hi, hk'⟩ := hk p List.mem_cons_self
    have ih := ih hc.2 fun q hq => hk q (List.mem_cons_of_mem _ hq)
    have e1 : bv (gridB (p :: m)) x y = bv ((gridB m).set p.1.2 (gridR (p :: m) p.1.2)) x y := by
      refine bv_ext x y fun k => ?_
      rw [List.getElem?_set]
      by_cases e : p.1.2 = k
      · subst e
        rw [if_pos rfl, if_pos (by simp [gridB]; omega), gridB, mapRange_get, if_pos hk']
        rfl
      · rw [if_neg e, gridB, gridB, mapRange_get, mapRange_get]
        split
        · congr 1
          refine List.map_congr_left fun i _ => ?_
          rw [lookM_cons, if_neg (fun z => e (by rw [z]))]
        · rfl
    have e2 : (gridB m)[p.1.2]?.getD [] = gridR m p.1.2 := by rw [gridB, mapRange_get, if_pos hk']
    have e3 : vl (gridR (p :: m) p.1.2) x = vl (gridR m p.1.2) x + p.2 * x ^ p.1.1 := by
      rw [← vl_set x p.2 (gridR m p.1.2) p.1.1 (by simp [gridR]; omega)]
      refine vl_ext x fun i => ?_
      rw [List.getElem?_set]
      by_cases e : p.1.1 = i
      · subst e
        rw [if_pos rfl, if_pos (by simp [gridR]; omega), gridR, gridR, mapRange_get, mapRange_get, if_pos hi, if_pos hi, lookM_cons, if_pos rfl, lookM_none hc.1]
        simp
      · rw [if_neg e, gridR, gridR, mapRange_get, mapRange_get]
        split
        · rw [lookM_cons, if_neg (fun z => e (by rw [z]))]
        · rfl
    rw [e1, bv_set x y _ _ _ (by simp [gridB]; omega), e2, e3, ih, dv_cons]
    have e4 : vl (gridR m p.1.2) x + p.2 * x ^ p.1.1 - vl (gridR m p.1.2) x = p.2 * x ^ p.1.1 := by omega
    rw [e4]
    omega
theorem bv_boM {N b : Nat} {m : Mp} (h : DOk N b m) (hN : N ≤ 9) (x y : Int) : bv (boM m) x y = dv m x y := by
  rw [← bv_grid h.1 (fun p hp => by
    obtain ⟨h1, h2, _⟩ := h.2 p hp
    omega) x y, boM, bv_trimB]
  refine bv_ext x y fun k => ?_
  rw [gridB, mapRange_get, mapRange_get]
  split
  · exact vl_trim _ x
  · rfl

def addR (f g : List Int) : List Int := (List.range (max f.length g.length)).map fun k => f[k]?.getD 0 + g[k]?.getD 0
def subR (f g : List Int) : List Int := (List.range (max f.length g.length)).map fun k => f[k]?.getD 0 - g[k]?.getD 0

/-! ### lists of rows -/
def rws (l : List (List Int)) : List D := l.map fun r => PyData.tuple (zs r)
@[simp] theorem rws_len (l : List (List Int)) : (rws l).length = l.length := by simp [rws]
theorem rws_snoc (l : List (List Int)) (r : List Int) : rws l ++ [PyData.tuple (zs r)] = rws (l ++ [r]) := by simp [rws]
@[simp] theorem lfAll_rws (l : List (List Int)) : lfAll (rws l) = true := by
  induction l with
  | nil => rfl
  | cons r l ih =>
    show (lf (.tuple (zs r)) && lfAll (rws l)) = true
    rw [ih]
    simp
theorem canLay_rws (l : List (List Int)) : PyData.canLayAll0 (rws l) = true := by
  induction l with
  | nil => rfl
  | cons r l ih =>
    show (PyData.canLay0 (.tuple (zs r)) && PyData.canLayAll0 (rws l)) = true
    rw [ih, PyData.canLay0, canLay_zs]
    rfl
theorem depth_rws (l : List (List Int)) : PyData.depthAll (rws l) ≤ 1 := by
  induction l with
  | nil => exact Nat.zero_le _
  | cons r l ih =>
    show max (PyData.depth (.tuple (zs r))) (PyData.depthAll (rws l)) ≤ 1
    rw [PyData.depth, depth_zs]
    omega
theorem shaped_rl (l : List (List Int)) : SeqAt.shaped (.list (rws l)) = true := by
  unfold SeqAt.shaped
  rw [PyData.canLay0, canLay_rws, PyData.depth]
  have := depth_rws l
  simp
  omega
theorem shaped_rt (l : List (List Int)) : SeqAt.shaped (.tuple (rws l)) = true := by
  unfold SeqAt.shaped
  rw [PyData.canLay0, canLay_rws, PyData.depth]
  have := depth_rws l
  simp
  omega
theorem eqvAll_rws : ∀ a b : List (List Int), PyData.eqvAll (rws a) (rws b) = decide (a = b)
  | [], [] => by simp [rws, PyData.eqvAll]
  | [], _ :: _ => by simp [rws, PyData.eqvAll]
  | _ :: _, [] => by simp [rws, PyData.eqvAll]
  | x :: a, y :: b => by
    show (PyData.eqv (.tuple (zs x)) (.tuple (zs y)) && PyData.eqvAll (rws a) (rws b)) = _
    rw [eqvAll_rws a b, PyData.eqv, eqvAll_zs]
    by_cases h : x = y
    · subst h; simp
    · simp [h]
theorem eqD_rl (a b : List (List Int)) : eqD (.list (rws a)) (.list (rws b)) = .ok (decide (a = b)) := by
  have : eqD (.list (rws a)) (.list (rws b)) = if SeqAt.shaped (.list (rws a)) = true ∧ SeqAt.shaped (.list (rws b)) = true then .ok (PyData.eqv (.list (rws a)) (.list (rws b))) else .st := rfl
  rw [this, if_pos ⟨shaped_rl a, shaped_rl b⟩, PyData.eqv, eqvAll_rws]
theorem eqD_rt (a b : List (List Int)) : eqD (.tuple (rws a)) (.tuple (rws b)) = .ok (decide (a = b)) := by
  have : eqD (.tuple (rws a)) (.tuple (rws b)) = if SeqAt.shaped (.tuple (rws a)) = true ∧ SeqAt.shaped (.tuple (rws b)) = true then .ok (PyData.eqv (.tuple (rws a)) (.tuple (rws b))) else .st := rfl
  rw [this, if_pos ⟨shaped_rt a, shaped_rt b⟩, PyData.eqv, eqvAll_rws]

/-! ### the program's boards -/
@[simp] theorem rws_nil : rws [] = [] := rfl
theorem rws_take (B : List (List Int)) (k : Nat) : (rws B).take k = rws (B.take k) := by simp [rws]
theorem rws_set (B : List (List Int)) (k : Nat) (r : List Int) : (rws B).set k (.tuple (zs r)) = rws (B.set k r) := by simp [rws, List.map_set]
theorem atI_rws {B : List (List Int)} {k : Nat} (h : k < B.length) : atI (rws B) (k : Int) = some (.tuple (zs (B[k]?.getD []))) := by
  unfold atI
  rw [rws_len, ixN_nat h]
  show (rws B)[k]? = _
  rw [rws, List.getElem?_map, List.getElem?_eq_getElem h]
  rfl
theorem eqD_t0 (r : List Int) : eqD (.tuple (zs r)) (.tuple []) = .ok (decide (r = [])) := by
  have h := eqD_tz r []
  rw [zs_nil] at h
  exact h
def bdB (b : Nat) (B : List (List Int)) : Prop := ∀ r ∈ B, bd (2 ^ b) r
theorem bdB.get {b : Nat} {B : List (List Int)} (h : bdB b B) (k : Nat) : bd (2 ^ b) (B[k]?.getD []) := by
  cases e : B[k]? with
  | none => exact fun _ z => (List.not_mem_nil z).elim
  | some r => exact h r (List.mem_of_getElem? e)

/-! ### sums, differences, products of boards -/
def addB (B C : List (List Int)) : List (List Int) := (List.range (max B.length C.length)).map fun k => trim (addR (B[k]?.getD []) (C[k]?.getD []))
def subB (B C : List (List Int)) : List (List Int) := (List.range (max B.length C.length)).map fun k => trim (subR (B[k]?.getD []) (C[k]?.getD []))
theorem addR_vl (f g : List Int) (x : Int) : vl (addR f g) x = vl f x + vl g x := vl_lin x fun k => by
  rw [addR, mapRange_get]
  split
  · rfl
  · rw [List.getElem?_eq_none (show f.length ≤ k by omega), List.getElem?_eq_none (show g.length ≤ k by omega)]
    rfl
theorem subR_vl (f g : List Int) (x : Int) : vl (subR f g) x = vl f x - vl g x := by
  have h : vl f x = vl (subR f g) x + vl g x := vl_lin x fun k => by
    rw [subR, mapRange_get]
    split
    · omega
    · rw [List.getElem?_eq_none (show f.length ≤ k by omega), List.getElem?_eq_none (show g.length ≤ k by omega)]
      rfl
  omega
theorem bv_addB (B C : List (List Int)) (x y : Int) : bv (addB B C) x y = bv B x y + bv C x y := bv_lin x y fun k => by
  rw [addB, mapRange_get]
  split
  · rw [vl_trim, addR_vl]
  · rw [List.getElem?_eq_none (show B.length ≤ k by omega), List.getElem?_eq_none (show C.length ≤ k by omega)]
    rfl
theorem bv_subB (B C : List (List Int)) (x y : Int) : bv (subB B C) x y = bv B x y - bv C x y := by
  have h : bv B x y = bv (subB B C) x y + bv C x y := bv_lin x y fun k => by
    rw [subB, mapRange_get]
    split
    · rw [vl_trim, subR_vl]
      omega
    · rw [List.getElem?_eq_none (show B.length ≤ k by omega), List.getElem?_eq_none (show C.length ≤ k by omega)]
      rfl
  omega
theorem rows_addB (B C : List (List Int)) : ∀ r ∈ addB B C, isRow r := fun r hr => by
  obtain ⟨k, _, rfl⟩ := List.mem_map.mp hr
  exact isRow_trim _
theorem rows_subB (B C : List (List Int)) : ∀ r ∈ subB B C, isRow r := fun r hr => by
  obtain ⟨k, _, rfl⟩ := List.mem_map.mp hr
  exact isRow_trim _
def btStep (B C : List (List Int)) (j : Nat) (acc : List (List Int)) (k : Nat) : List (List Int) := acc.set (j + k) (trim (addR (acc[j + k]?.getD []) (trim (mulR (B[j]?.getD []) (C[k]?.getD [])))))
def btRow (B C : List (List Int)) (acc : List (List Int)) (j : Nat) : List (List Int) := (List.range C.length).foldl (btStep B C j) acc
def btR (B C : List (List Int)) : List (List Int) := (List.range B.length).foldl (btRow B C) (List.replicate (B.length + C.length) [])
theorem btStep_len (B C acc : List (List Int)) (j k : Nat) : (btStep B C j acc k).length = acc.length := by simp [btStep]
theorem btRow_len (B C acc : List (List Int)) (j : Nat) : (btRow B C acc j).length = acc.length :=
  foldl_inv (P := fun (a : List (List Int)) => a.length = acc.length) _ (fun b x _ h => by rw [btStep_len]; exact h) acc rfl
theorem btR_len (B C : List (List Int)) : (btR B C).length = B.length + C.length :=
  foldl_inv (P := fun (a : List (List Int)) => a.length = B.length + C.length) _ (fun b x _ h => by rw [btRow_len]; exact h) _ (by simp)
/-- rows and short ones -/
def RowsL (L : Nat) (B : List (List Int)) : Prop := ∀ r ∈ B, isRow r ∧ r.length ≤ L
theorem RowsL.get {L : Nat} {B : List (List Int)} (h : RowsL L B) (k : Nat) : isRow (B[k]?.getD []) ∧ (B[k]?.getD []).length ≤ L := by
  cases e : B[k]? with
  | none => exact ⟨isRow_nil, Nat.zero_le _⟩
  | some r => exact h r (List.mem_of_getElem? e)
theorem addR_len (f g : List Int) : (addR f g).length = max f.length g.length := by simp [addR]
theorem btStep_rows {L : Nat} {B C acc : List (List Int)} (hB : RowsL L B) (hC : RowsL L C) (h : RowsL (2 * L) acc) (j k : Nat) : RowsL (2 * L) (btStep B C j acc k) := fun r hr => by
  unfold btStep at hr
  rcases List.mem_or_eq_of_mem_set hr with hr | hr
  · exact h r hr
  · subst hr
    refine ⟨isRow_trim _, ?_⟩
    have h1 := trim_len (addR (acc[j + k]?.getD []) (trim (mulR (B[j]?.getD []) (C[k]?.getD []))))
    have h2 := trim_len (mulR (B[j]?.getD []) (C[k]?.getD []))
    rw [addR_len] at h1
    rw [mulR_len] at h2
    have := (h.get (j + k)).2
    have := (hB.get j).2
    have := (hC.get k).2
    omega
theorem btRow_rows {L : Nat} {B C acc : List (List Int)} (hB : RowsL L B) (hC : RowsL L C) (h : RowsL (2 * L) acc) (j : Nat) : RowsL (2 * L) (btRow B C acc j) :=
  foldl_inv (P := RowsL (2 * L)) _ (fun b x _ h => btStep_rows hB hC h j x) acc h
theorem rep_rows (L m : Nat) : RowsL L (List.replicate m []) := fun r hr => by
  rw [(List.mem_replicate.mp hr).2]
  exact ⟨isRow_nil, Nat.zero_le _⟩
theorem btR_rows {L : Nat} {B C : List (List Int)} (hB : RowsL L B) (hC : RowsL L C) : RowsL (2 * L) (btR B C) :=
  foldl_inv (P := RowsL (2 * L)) _ (fun b x _ h => btRow_rows hB hC h x) _ (rep_rows _ _)
theorem vl_take (f : List Int) (y : Int) (m : Nat) (h : m < f.length) : vl (f.take (m + 1)) y = vl (f.take m) y + f[m]?.getD 0 * y ^ m := by
  rw [List.take_add_one, vl_append, List.getElem?_eq_getElem h, List.length_take, Nat.min_eq_left (by omega)]
  show vl (f.take m) y + y ^ m * (f[m] + y * 0) = vl (f.take m) y + f[m] * y ^ m
  rw [Int.mul_zero, Int.add_zero, Int.mul_comm]
theorem bv_btStep (B C acc : List (List Int)) (x y : Int) (j k : Nat) (h : j + k < acc.length) : bv (btStep B C j acc k) x y = bv acc x y + vl (B[j]?.getD []) x * vl (C[k]?.getD []) x * y ^ (j + k) := by
  rw [btStep, bv_set x y _ _ _ h, vl_trim, addR_vl, vl_trim, vl_mulR]
  congr 2
  omega
theorem bv_btRow (B C acc : List (List Int)) (x y : Int) (j : Nat) (h : j + C.length ≤ acc.length) : bv (btRow B C acc j) x y = bv acc x y + vl (B[j]?.getD []) x * y ^ j * bv C x y := by
  have := foldl_range (P := fun m (a : List (List Int)) => a.length = acc.length ∧ bv a x y = bv acc x y + vl (B[j]?.getD []) x * y ^ j * vl ((C.map fun r => vl r x).take m) y) (s := btStep B C j) C.length
    (fun m a hm ⟨hl, ha⟩ => ⟨by rw [btStep_len]; exact hl, by
      rw [bv_btStep B C a x y j m (by omega), ha, vl_take _ _ _ (by rw [List.length_map]; exact hm), bmap_get, Int.mul_add, Int.pow_add]
      have e : vl (B[j]?.getD []) x * vl (C[m]?.getD []) x * (y ^ j * y ^ m) = vl (B[j]?.getD []) x * y ^ j * (vl (C[m]?.getD []) x * y ^ m) := by
        rw [Int.mul_assoc, Int.mul_assoc, Int.mul_left_comm (vl (C[m]?.getD []) x)]
      rw [e]
      omega⟩) acc ⟨rfl, by
      show bv acc x y = bv acc x y + _ * vl [] y
      rw [vl_nil, Int.mul_zero, Int.add_zero]⟩
  have e := this.2
  have el : ((C.map fun r => vl r x).take C.length) = C.map fun r => vl r x := by
    have : C.length = (C.map fun r => vl r x).length := by rw [List.length_map]
    rw [this, List.take_length]
  rw [el] at e
  exact e
theorem bv_rep (m : Nat) (x y : Int) : bv (List.replicate m []) x y = 0 := by
  rw [← bv_nil x y]
  refine bv_ext x y fun k => ?_
  rw [List.getElem?_replicate]
  split <;> rfl
theorem bv_btR (B C : List (List Int)) (x y : Int) : bv (btR B C) x y = bv B x y * bv C x y := by
  have := foldl_range (P := fun m (a : List (List Int)) => a.length = B.length + C.length ∧ bv a x y = vl ((B.map fun r => vl r x).take m) y * bv C x y) (s := btRow B C) B.length
    (fun m a hm ⟨hl, ha⟩ => ⟨by rw [btRow_len]; exact hl, by
      rw [bv_btRow B C a x y m (by omega), ha, vl_take _ _ _ (by rw [List.length_map]; exact hm), bmap_get, Int.add_mul]⟩) (List.replicate (B.length + C.length) []) ⟨by simp, by
      rw [bv_rep]
      show 0 = vl [] y * _
      rw [vl_nil, Int.zero_mul]⟩
  have e := this.2
  have el : ((B.map fun r => vl r x).take B.length) = B.map fun r => vl r x := by
    have : B.length = (B.map fun r => vl r x).length := by rw [List.length_map]
    rw [this, List.take_length]
  rw [el] at e
  exact e

theorem r_trimmed (n : Nat) (ns : List Int) : runF pr (n + 1) k_trimmed [.list (zs ns)] = .ok (.tuple (zs (trim ns))) := by
  rw [st_trimmed]
  have loop : ∀ k, k ≤ ns.length → whS (evt (tbl pr n) c_trimmed_1) (exS (tbl pr n) w_trimmed_1) [some (.sh (.list (zs ns))), some (.sh (.int k))] = .nx [some (.sh (.list (zs ns))), some (.sh (.int (tlen ns k)))] := by
    intro k
    induction k with
    | zero => exact fun _ => wh_end (by simp [c_trimmed_1])
    | succ k ih =>
      intro hk
      have e : ((k + 1 : Nat) : Int) - 1 = k := by omega
      have e2 : (0 : Int) < ((k + 1 : Nat) : Int) := by omega
      by_cases h0 : ns[k]?.getD 0 = 0
      · rw [tlen, if_pos h0, ← ih (by omega)]
        exact wh_step (by simp [c_trimmed_1, -Int.natCast_add, e, e2, atI_zs (show k < ns.length by omega), h0]) (by simp [w_trimmed_1, -Int.natCast_add, e])
      · rw [tlen, if_neg h0]
        exact wh_end (by simp [c_trimmed_1, -Int.natCast_add, e, e2, atI_zs (show k < ns.length by omega), h0])
  simp [b_trimmed, loop _ (Nat.le_refl _), cutD_take, trim]

theorem r_part_at (n : Nat) (f : List Int) (k : Nat) : runF pr (n + 1) k_part_at [.tuple (zs f), .int k] = .ok (.int (f[k]?.getD 0)) := by
  rw [st_part_at]
  by_cases h : k < f.length
  · have h' : (k : Int) < f.length := by omega
    simp [b_part_at, h, atI_zs h]
  · have h' : ¬ (k : Int) < f.length := by omega
    simp [b_part_at, h, List.getElem?_eq_none (show f.length ≤ k by omega)]
theorem r_row_plus (n : Nat) (f g : List Int) (hf : f.length ≤ 1000) (hg : g.length ≤ 1000) : runF pr (n + 2) k_row_plus [.tuple (zs f), .tuple (zs g)] = .ok (.tuple (zs (trim (addR f g)))) := by
  rw [st_row_plus]
  have hm : max f.length g.length ≤ 1000 := by omega
  have hb : big = 16777216 := rfl
  have c := ev_comp_map (T := tbl pr (n + 1)) (η := [some (.sh (.tuple (zs f))), some (.sh (.tuple (zs g))), none]) (v := 2) (it := .ir1 (.bi .max2 (.cons (.bi .len (.cons (.var 0) .nil)) (.cons (.bi .len (.cons (.var 1) .nil)) .nil)))) (e := .bin .add (.call k_part_at (.cons (.var 0) (.cons (.var 2) .nil))) (.call k_part_at (.cons (.var 1) (.cons (.var 2) .nil))))
    (w := .r 0 (max f.length g.length)) (List.range (max f.length g.length)) (fun k => .int (k : Int)) (fun k => .int (f[k]?.getD 0 + g[k]?.getD 0)) rfl (by simp [max_nat, small_nat (show max f.length g.length ≤ big by omega)]) (rngD_zero _) (by simp; omega)
    (fun k _ => by simp [r_part_at])
  have e : (List.range (max f.length g.length)).map (fun k => PyData.int (f[k]?.getD 0 + g[k]?.getD 0)) = zs (addR f g) := by simp [addR, zs]
  rw [e] at c
  simp [b_row_plus, c, r_trimmed]

theorem r_row_minus (n : Nat) (f g : List Int) (hf : f.length ≤ 1000) (hg : g.length ≤ 1000) : runF pr (n + 2) k_row_minus [.tuple (zs f), .tuple (zs g)] = .ok (.tuple (zs (trim (subR f g)))) := by
  rw [st_row_minus]
  have hm : max f.length g.length ≤ 1000 := by omega
  have hb : big = 16777216 := rfl
  have c := ev_comp_map (T := tbl pr (n + 1)) (η := [some (.sh (.tuple (zs f))), some (.sh (.tuple (zs g))), none]) (v := 2) (it := .ir1 (.bi .max2 (.cons (.bi .len (.cons (.var 0) .nil)) (.cons (.bi .len (.cons (.var 1) .nil)) .nil)))) (e := .bin .sub (.call k_part_at (.cons (.var 0) (.cons (.var 2) .nil))) (.call k_part_at (.cons (.var 1) (.cons (.var 2) .nil))))
    (w := .r 0 (max f.length g.length)) (List.range (max f.length g.length)) (fun k => .int (k : Int)) (fun k => .int (f[k]?.getD 0 - g[k]?.getD 0)) rfl (by simp [max_nat, small_nat (show max f.length g.length ≤ big by omega)]) (rngD_zero _) (by simp; omega)
    (fun k _ => by simp [r_part_at])
  have e : (List.range (max f.length g.length)).map (fun k => PyData.int (f[k]?.getD 0 - g[k]?.getD 0)) = zs (subR f g) := by simp [subR, zs]
  rw [e] at c
  simp [b_row_minus, c, r_trimmed]

theorem mulOk_bd {A B a b : Nat} {x y : Int} (hx : x.natAbs ≤ A) (hy : y.natAbs ≤ B) (hA : A < 2 ^ a) (hB : B < 2 ^ b) (h : a + b ≤ 133999990) : MuOk x y :=
  mulOk_of (Nat.lt_of_le_of_lt hx hA) (Nat.lt_of_le_of_lt hy hB) h
theorem r_row_times (n : Nat) (f g : List Int) (hf : f.length ≤ 1000) (hg : g.length ≤ 1000) {A B a b : Nat} (bf : bd A f) (bg : bd B g) (hA : A < 2 ^ a) (hB : B < 2 ^ b) (hab : a + b ≤ 133999990) :
    runF pr (n + 2) k_row_times [.tuple (zs f), .tuple (zs g)] = .ok (.tuple (zs (trim (mulR f g)))) := by
  rw [st_row_times]
  have hb : big = 16777216 := rfl
  have inner : ∀ (i : Nat) (hi : i < f.length) (acc : List Int) (u : Option Sl), acc.length = f.length + g.length →
      ∃ u', loopF (foB (tbl pr (n + 1)) 4 w_row_times_2) (rngD 0 g.length) [some (.sh (.tuple (zs f))), some (.sh (.tuple (zs g))), some (.ow (zs acc)), some (.sh (.int i)), u]
        = .nx [some (.sh (.tuple (zs f))), some (.sh (.tuple (zs g))), some (.ow (zs (mulRow f g acc i))), some (.sh (.int i)), u'] := by
    intro i hi acc u hl
    rw [rngD_zero]
    obtain ⟨η', h1, u', h2, _⟩ := loop_rel (α := Nat) (f := foB (tbl pr (n + 1)) 4 w_row_times_2) (g := fun (k : Nat) => PyData.int (k : Int)) (stp := mulStep f g i)
      (R := fun acc η => ∃ u, η = [some (.sh (.tuple (zs f))), some (.sh (.tuple (zs g))), some (.ow (zs acc)), some (.sh (.int i)), u] ∧ acc.length = f.length + g.length) (List.range g.length)
      (fun acc j η hj hR => by
        obtain ⟨u, rfl, hl⟩ := hR
        have hj := List.mem_range.mp hj
        have e1 : (i : Int) + (j : Int) = ((i + j : Nat) : Int) := by omega
        refine ⟨_, ?_, some (.sh (.int j)), rfl, by rw [mulStep_len]; exact hl⟩
        simp [foB, w_row_times_2, e1, -Int.natCast_add, atI_zs (show i + j < acc.length by omega), atI_zs hi, atI_zs hj, mulOk_bd (bd_get bf i) (bd_get bg j) hA hB hab, ixN_nat (show i + j < acc.length by omega), mulStep]) acc _ ⟨u, rfl, hl⟩
    exact ⟨u', by rw [h1, h2]; rfl⟩
  have outer : ∀ (u v : Option Sl), ∃ u' v', loopF (foB (tbl pr (n + 1)) 3 w_row_times_1) (rngD 0 f.length) [some (.sh (.tuple (zs f))), some (.sh (.tuple (zs g))), some (.ow (zs (List.replicate (f.length + g.length) 0))), u, v]
        = .nx [some (.sh (.tuple (zs f))), some (.sh (.tuple (zs g))), some (.ow (zs (mulR f g))), u', v'] := by
    intro u v
    rw [rngD_zero]
    obtain ⟨η', h1, u', v', h2, _⟩ := loop_rel (α := Nat) (f := foB (tbl pr (n + 1)) 3 w_row_times_1) (g := fun (k : Nat) => PyData.int (k : Int)) (stp := mulRow f g)
      (R := fun acc η => ∃ u v, η = [some (.sh (.tuple (zs f))), some (.sh (.tuple (zs g))), some (.ow (zs acc)), u, v] ∧ acc.length = f.length + g.length) (List.range f.length)
      (fun acc i η hi hR => by
        obtain ⟨u, v, rfl, hl⟩ := hR
        have hi := List.mem_range.mp hi
        obtain ⟨v', h⟩ := inner i hi acc v hl
        refine ⟨_, ?_, some (.sh (.int i)), v', rfl, by rw [mulRow_len]; exact hl⟩
        rw [foB]
        simp [w_row_times_1, small_nat (show g.length ≤ big by omega), h]) (List.replicate (f.length + g.length) 0) _ ⟨u, v, rfl, by simp⟩
    exact ⟨u', v', by rw [h1, h2]; rfl⟩
  obtain ⟨u', v', h⟩ := outer none none
  have e2 : (f.length : Int) + (g.length : Int) = ((f.length + g.length : Nat) : Int) := by omega
  have e3 : repL [PyData.int 0] ((f.length + g.length : Nat) : Int) = .ok (.nw (zs (List.replicate (f.length + g.length) 0))) := by
    rw [repL_one (by omega), zs_rep]
  simp [b_row_times, e2, -Int.natCast_add, zs_cons, zs_nil, e3, small_nat (show f.length ≤ big by omega), h, r_trimmed]

theorem r_cut_off (n : Nat) (B : List (List Int)) : runF pr (n + 1) k_cut_off [.list (rws B)] = .ok (.tuple (rws (trimB B))) := by
  rw [st_cut_off]
  have loop : ∀ k, k ≤ B.length → whS (evt (tbl pr n) c_cut_off_1) (exS (tbl pr n) w_cut_off_1) [some (.sh (.list (rws B))), some (.sh (.int k))] = .nx [some (.sh (.list (rws B))), some (.sh (.int (tlB B k)))] := by
    intro k
    induction k with
    | zero => exact fun _ => wh_end (by simp [c_cut_off_1])
    | succ k ih =>
      intro hk
      have e : ((k + 1 : Nat) : Int) - 1 = k := by omega
      have e2 : (0 : Int) < ((k + 1 : Nat) : Int) := by omega
      by_cases h0 : B[k]?.getD [] = []
      · rw [tlB, if_pos h0, ← ih (by omega)]
        exact wh_step (by simp [c_cut_off_1, -Int.natCast_add, e, e2, atI_rws (show k < B.length by omega), eqD_t0, h0]) (by simp [w_cut_off_1, -Int.natCast_add, e])
      · rw [tlB, if_neg h0]
        exact wh_end (by simp [c_cut_off_1, -Int.natCast_add, e, e2, atI_rws (show k < B.length by omega), eqD_t0, h0])
  simp [b_cut_off, loop _ (Nat.le_refl _), cutD_take, trimB, rws_take]
theorem r_row_at (n : Nat) (B : List (List Int)) (k : Nat) : runF pr (n + 1) k_row_at [.tuple (rws B), .int k] = .ok (.tuple (zs (B[k]?.getD []))) := by
  rw [st_row_at]
  by_cases h : k < B.length
  · have h' : (k : Int) < B.length := by omega
    simp [b_row_at, h, atI_rws h]
  · have h' : ¬ (k : Int) < B.length := by omega
    simp [b_row_at, h, List.getElem?_eq_none (show B.length ≤ k by omega), zs_nil]
theorem r_board_plus (n : Nat) (B C : List (List Int)) (hB : RowsL 100 B) (hC : RowsL 100 C) (lB : B.length ≤ 1000) (lC : C.length ≤ 1000) : runF pr (n + 3) k_board_plus [.tuple (rws B), .tuple (rws C)] = .ok (.tuple (rws (trimB (addB B C)))) := by
  rw [st_board_plus]
  have hm : max B.length C.length ≤ 1000 := by omega
  have hb : big = 16777216 := rfl
  have c := ev_comp_map (T := tbl pr (n + 2)) (η := [some (.sh (.tuple (rws B))), some (.sh (.tuple (rws C))), none]) (v := 2) (it := .ir1 (.bi .max2 (.cons (.bi .len (.cons (.var 0) .nil)) (.cons (.bi .len (.cons (.var 1) .nil)) .nil)))) (e := .call k_row_plus (.cons (.call k_row_at (.cons (.var 0) (.cons (.var 2) .nil))) (.cons (.call k_row_at (.cons (.var 1) (.cons (.var 2) .nil))) .nil)))
    (w := .r 0 (max B.length C.length)) (List.range (max B.length C.length)) (fun k => .int (k : Int)) (fun k => .tuple (zs (trim (addR (B[k]?.getD []) (C[k]?.getD []))))) rfl (by simp [max_nat, small_nat (show max B.length C.length ≤ big by omega)]) (rngD_zero _) (by simp; omega)
    (fun k _ => by
      have p := r_row_plus n (B[k]?.getD []) (C[k]?.getD []) (Nat.le_trans (hB.get k).2 (by omega)) (Nat.le_trans (hC.get k).2 (by omega))
      simp [r_row_at, p])
  have e : (List.range (max B.length C.length)).map (fun k => PyData.tuple (zs (trim (addR (B[k]?.getD []) (C[k]?.getD []))))) = rws (addB B C) := by simp [addB, rws]
  rw [e] at c
  simp [b_board_plus, c, r_cut_off]
/-- numbers of few bits -/
theorem r_board_times (n : Nat) (B C : List (List Int)) (hB : RowsL 100 B) (hC : RowsL 100 C) (lB : B.length ≤ 500) (lC : C.length ≤ 500) (bB : bdB 1000 B) (bC : bdB 1000 C) :
    runF pr (n + 3) k_board_times [.tuple (rws B), .tuple (rws C)] = .ok (.tuple (rws (trimB (btR B C)))) := by
  rw [st_board_times]
  have hb : big = 16777216 := rfl
  have e2 : (B.length : Int) + (C.length : Int) = ((B.length + C.length : Nat) : Int) := by omega
  have c := ev_comp_map (T := tbl pr (n + 2)) (η := [some (.sh (.tuple (rws B))), some (.sh (.tuple (rws C))), none, none, none]) (v := 4) (it := .ir1 (.bin .add (.bi .len (.cons (.var 0) .nil)) (.bi .len (.cons (.var 1) .nil)))) (e := .tup .nil)
    (w := .r 0 (B.length + C.length)) (List.range (B.length + C.length)) (fun k => .int (k : Int)) (fun _ => .tuple []) rfl (by simp [e2, -Int.natCast_add, small_nat (show B.length + C.length ≤ big by omega)]) (rngD_zero _) (by simp; omega)
    (fun k _ => by simp)
  have ec : (List.range (B.length + C.length)).map (fun _ => PyData.tuple []) = rws (List.replicate (B.length + C.length) []) := by
    rw [rws, List.map_replicate, List.map_const', List.length_range, zs_nil]
  rw [ec] at c
  have inner : ∀ (j : Nat) (hj : j < B.length) (acc : List (List Int)) (u : Option Sl), acc.length = B.length + C.length → RowsL 200 acc →
      ∃ u', loopF (foB (tbl pr (n + 2)) 4 w_board_times_2) (rngD 0 C.length) [some (.sh (.tuple (rws B))), some (.sh (.tuple (rws C))), some (.ow (rws acc)), some (.sh (.int j)), u]
        = .nx [some (.sh (.tuple (rws B))), some (.sh (.tuple (rws C))), some (.ow (rws (btRow B C acc j))), some (.sh (.int j)), u'] := by
    intro j hj acc u hl hr
    rw [rngD_zero]
    obtain ⟨η', h1, u', h2, _⟩ := loop_rel (α := Nat) (f := foB (tbl pr (n + 2)) 4 w_board_times_2) (g := fun (k : Nat) => PyData.int (k : Int)) (stp := btStep B C j)
      (R := fun acc η => ∃ u, η = [some (.sh (.tuple (rws B))), some (.sh (.tuple (rws C))), some (.ow (rws acc)), some (.sh (.int j)), u] ∧ acc.length = B.length + C.length ∧ RowsL 200 acc) (List.range C.length)
      (fun acc k η hk hR => by
        obtain ⟨u, rfl, hl, hr⟩ := hR
        have hk := List.mem_range.mp hk
        have e1 : (j : Int) + (k : Int) = ((j + k : Nat) : Int) := by omega
        have t := r_row_times n (B[j]?.getD []) (C[k]?.getD []) (Nat.le_trans (hB.get j).2 (by omega)) (Nat.le_trans (hC.get k).2 (by omega)) (bB.get j) (bC.get k) (Nat.pow_lt_pow_right (by decide) (show 1000 < 1001 by omega)) (Nat.pow_lt_pow_right (by decide) (show 1000 < 1001 by omega)) (by omega)
        have l1 := trim_len (mulR (B[j]?.getD []) (C[k]?.getD []))
        rw [mulR_len] at l1
        have l2 := (hB.get j).2
        have l3 := (hC.get k).2
        have p := r_row_plus n (acc[j + k]?.getD []) (trim (mulR (B[j]?.getD []) (C[k]?.getD []))) (Nat.le_trans (hr.get (j + k)).2 (by omega)) (by omega)
        refine ⟨_, ?_, some (.sh (.int k)), rfl, by rw [btStep_len]; exact hl, btStep_rows (L := 100) hB hC hr j k⟩
        simp [foB, w_board_times_2, e1, -Int.natCast_add, atI_rws (show j + k < acc.length by omega), atI_rws hj, atI_rws hk, t, p, ixN_nat (show j + k < acc.length by omega), btStep, rws_set]) acc _ ⟨u, rfl, hl, hr⟩
    exact ⟨u', by rw [h1, h2]; rfl⟩
  obtain ⟨u', v', h⟩ : ∃ u' v', loopF (foB (tbl pr (n + 2)) 3 w_board_times_1) (rngD 0 B.length) [some (.sh (.tuple (rws B))), some (.sh (.tuple (rws C))), some (.ow (rws (List.replicate (B.length + C.length) []))), none, none]
      = .nx [some (.sh (.tuple (rws B))), some (.sh (.tuple (rws C))), some (.ow (rws (btR B C))), u', v'] := by
    rw [rngD_zero]
    obtain ⟨η', h1, u', v', h2, _⟩ := loop_rel (α := Nat) (f := foB (tbl pr (n + 2)) 3 w_board_times_1) (g := fun (k : Nat) => PyData.int (k : Int)) (stp := btRow B C)
      (R := fun acc η => ∃ u v, η = [some (.sh (.tuple (rws B))), some (.sh (.tuple (rws C))), some (.ow (rws acc)), u, v] ∧ acc.length = B.length + C.length ∧ RowsL 200 acc) (List.range B.length)
      (fun acc j η hj hR => by
        obtain ⟨u, v, rfl, hl, hr⟩ := hR
        have hj := List.mem_range.mp hj
        obtain ⟨v', h⟩ := inner j hj acc v hl hr
        refine ⟨_, ?_, some (.sh (.int j)), v', rfl, by rw [btRow_len]; exact hl, btRow_rows (L := 100) hB hC hr j⟩
        rw [foB]
        simp [w_board_times_1, small_nat (show C.length ≤ big by omega), h]) (List.replicate (B.length + C.length) []) _ ⟨none, none, rfl, by simp, rep_rows _ _⟩
    exact ⟨u', v', by rw [h1, h2]; rfl⟩
  simp [b_board_times, c, small_nat (show B.length ≤ big by omega), h, r_cut_off]

theorem r_board_minus (n : Nat) (B C : List (List Int)) (hB : RowsL 100 B) (hC : RowsL 100 C) (lB : B.length ≤ 1000) (lC : C.length ≤ 1000) : runF pr (n + 3) k_board_minus [.tuple (rws B), .tuple (rws C)] = .ok (.tuple (rws (trimB (subB B C)))) := by
  rw [st_board_minus]
  have hm : max B.length C.length ≤ 1000 := by omega
  have hb : big = 16777216 := rfl
  have c := ev_comp_map (T := tbl pr (n + 2)) (η := [some (.sh (.tuple (rws B))), some (.sh (.tuple (rws C))), none]) (v := 2) (it := .ir1 (.bi .max2 (.cons (.bi .len (.cons (.var 0) .nil)) (.cons (.bi .len (.cons (.var 1) .nil)) .nil)))) (e := .call k_row_minus (.cons (.call k_row_at (.cons (.var 0) (.cons (.var 2) .nil))) (.cons (.call k_row_at (.cons (.var 1) (.cons (.var 2) .nil))) .nil)))
    (w := .r 0 (max B.length C.length)) (List.range (max B.length C.length)) (fun k => .int (k : Int)) (fun k => .tuple (zs (trim (subR (B[k]?.getD []) (C[k]?.getD []))))) rfl (by simp [max_nat, small_nat (show max B.length C.length ≤ big by omega)]) (rngD_zero _) (by simp; omega)
    (fun k _ => by
      have p := r_row_minus n (B[k]?.getD []) (C[k]?.getD []) (Nat.le_trans (hB.get k).2 (by omega)) (Nat.le_trans (hC.get k).2 (by omega))
      simp [r_row_at, p])
  have e : (List.range (max B.length C.length)).map (fun k => PyData.tuple (zs (trim (subR (B[k]?.getD []) (C[k]?.getD []))))) = rws (subB B C) := by simp [subB, rws]
  rw [e] at c
  simp [b_board_minus, c, r_cut_off]

theorem eqD_00 : eqD (.list []) (.list []) = .ok true := by
  have h := eqD_lz [] []
  rw [zs_nil] at h
  rw [h]
  rfl
theorem r__law_trim (n : Nat) (d : D) (ns : List Int) (hd : d.seq = some (zs ns)) : runF pr (n + 1) k__law_trim [d] = .ok (.tuple (zs (trim ns))) := by
  rw [st__law_trim]
  have loop : ∀ k, k ≤ ns.length → whS (evt (tbl pr n) c__law_trim_1) (exS (tbl pr n) w__law_trim_1) [some (.sh d), some (.ow (zs (ns.take k)))] = .nx [some (.sh d), some (.ow (zs (ns.take (tlen ns k))))] := by
    intro k
    induction k with
    | zero => exact fun _ => wh_end (by simp [c__law_trim_1, zs_nil, eqD_00])
    | succ k ih =>
      intro hk
      have e0 : (ns.take (k + 1)).length = k + 1 := by simp; omega
      have e : ((ns.take (k + 1)).length : Int) - 1 = (k : Int) := by rw [e0]; omega
      have a := atI_zs (ns := ns.take (k + 1)) (k := k) (by omega)
      have e3 : (ns.take (k + 1))[k]? = ns[k]? := by rw [List.getElem?_take, if_pos (by omega)]
      rw [e3] at a
      have ne : ns.take (k + 1) ≠ [] := fun z => by rw [z] at e0; simp at e0
      have c : evt (tbl pr n) c__law_trim_1 [some (.sh d), some (.ow (zs (ns.take (k + 1))))] = .ok (decide (ns[k]?.getD 0 = 0)) := by
        simp only [c__law_trim_1, evt_tbop, evt_tbone, evt_tcmp, ev_var, ev_lst, evs_nil, ev_idx, ev_bin, ev_bi, evs_cons, ev_int, slotV_s, slotV_0o, upB_br, Res.bind_ok, shAll_nil, oOk_some, Res.map_ok, ne_v, d_br, d_nw, eqD_l0, decide_eq_false ne, Bool.not_false, if_true, len_b, zs_length, sub_i, e, idx_b, a, eq_v, d_cl, eqD_i]
      by_cases h0 : ns[k]?.getD 0 = 0
      · rw [tlen, if_pos h0, ← ih (by omega)]
        have dl : (ns.take (k + 1)).dropLast = ns.take k := by
          rw [List.dropLast_eq_take, e0, List.take_take]
          congr 1
          omega
        have gl : (zs (ns.take (k + 1)))[(ns.take (k + 1)).length - 1]? = some (.int (ns[k]?.getD 0)) := by
          rw [e0, Nat.add_sub_cancel, zs_get (by omega), e3]
        refine wh_step (by rw [c, h0]; rfl) ?_
        simp only [w__law_trim_1, exS_seq, exS_pop, owOf_s, owOf_0, Fl.on_some, zs_length, gl, zs_dropLast, dl, List.set_cons_succ, List.set_cons_zero, Fl.seq_nx, exS_skip]
      · rw [tlen, if_neg h0]
        exact wh_end (by rw [c, decide_eq_false h0])
  have l := loop ns.length (Nat.le_refl _)
  rw [List.take_length] at l
  have e1 : biV .list1 [.cl d] = .ok (.nw (zs ns)) := by
    show (oOk (Val.d (.cl d)).seq).map Val.nw = _
    rw [d_cl, hd]
    rfl
  simp [b__law_trim, e1, l, trim]
theorem r__law_trim_l (n : Nat) (ns : List Int) : runF pr (n + 1) k__law_trim [.list (zs ns)] = .ok (.tuple (zs (trim ns))) := r__law_trim n _ ns rfl

/-! ### the laws' own helpers -/
theorem r__law_cell (n : Nat) (ns : List Int) : ∃ c, runF pr (n + 1) k__law_cell [.list (zs ns), .int 0] = .ok (.int c) := by
  rw [st__law_cell]
  by_cases h : 0 < ns.length
  · have h' : (0 : Int) < ns.length := by omega
    have a := atI_zs (ns := ns) (k := 0) h
    rw [show ((0 : Nat) : Int) = 0 from rfl] at a
    exact ⟨_, by simp [b__law_cell, h, a]; rfl⟩
  · have e : ns = [] := List.eq_nil_of_length_eq_zero (by omega)
    subst e
    have m1 : MuOk 0 0 := mulOk_of (a := 8) (b := 8) (by omega) (by omega) (by omega)
    have m2 : MuOk 7 0 := mulOk_of (a := 8) (b := 8) (by omega) (by omega) (by omega)
    have m3 : MuOk 48271 11 := mulOk_of (a := 32) (b := 8) (by omega) (by omega) (by omega)
    have ec : cutD (zs []) none (some 3) = [] := cutD_take (zs []) 3
    exact ⟨_, by simp [b__law_cell, m1, m2, m3, ec, loopF]; rfl⟩
theorem idx2 (a b : Int) (t : Bool) : atI [PyData.int a, PyData.int b] (if t = true then 1 else 0) = some (.int (if t = true then b else a)) := by
  cases t <;> rfl
theorem r__law_numbers (n : Nat) (c : Int) (m : Nat) (hm : m ≤ 1000) : ∃ xs : List Int, runF pr (n + 1) k__law_numbers [.int c, .int (m : Int)] = .ok (.list (zs xs)) ∧ xs.length = m ∧ ∀ x ∈ xs, 0 ≤ x ∧ x < 2000000000 := by
  rw [st__law_numbers]
  have hb : big = 16777216 := rfl
  have loop : ∀ (dg st : Int) (u : Option Sl), 0 ≤ st → st < 1999999973 → ∃ η', loopF (foB (tbl pr n) 5 w__law_numbers_1) (rngD 0 m) [some (.sh (.int c)), some (.sh (.int m)), some (.ow []), some (.sh (.int st)), some (.sh (.int dg)), u] = .nx η' ∧
      ∃ xs a b d, η' = [some (.sh (.int c)), some (.sh (.int m)), some (.ow (zs xs)), a, b, d] ∧ xs.length = m ∧ ∀ x ∈ xs, 0 ≤ x ∧ x < 2000000000 := by
    intro dg st u h0 h1
    obtain ⟨η', e, xs, a, b, d, e2, hl, hx, _⟩ := loop_rng (f := foB (tbl pr n) 5 w__law_numbers_1) (lo := 0) (n := m)
      (R := fun k η => ∃ (xs : List Int) (st dg : Int) (d : Option Sl), η = [some (.sh (.int c)), some (.sh (.int m)), some (.ow (zs xs)), some (.sh (.int st)), some (.sh (.int dg)), d] ∧ xs.length = k ∧ (∀ x ∈ xs, 0 ≤ x ∧ x < 2000000000) ∧ 0 ≤ st ∧ st < 1999999973)
      (fun k η hk hR => by
        obtain ⟨xs, st, dg, d, rfl, hl, hx, h0, h1⟩ := hR
        have f0 := fmod_lo st (j := 65521) (by omega)
        have f1 := fmod_hi st (j := 65521) (by omega)
        have m1 : MuOk st (st.fmod 65521 + 40487) := mulOk_of (a := 32) (b := 20) (by omega) (by omega) (by omega)
        have m2 : MuOk 7 (k : Int) := mulOk_of (a := 8) (b := 20) (by omega) (by omega) (by omega)
        have dk : DivOk dg 1000000 := divOk_small (by omega) (by omega)
        have s1 : Sm (xs.length + 1) := show _ ≤ big by omega
        generalize hst : (st * (st.fmod 65521 + 40487) + 7 * (k : Int) + 5).fmod 1999999973 = st2
        have g0 : 0 ≤ st2 := by rw [← hst]; exact fmod_lo _ (by omega)
        have g1 : st2 < 1999999973 := by rw [← hst]; exact fmod_hi _ (by omega)
        generalize hz : (if decide (0 < dg) = true then dg.fmod 1000000 else st2) = z
        have z0 : 0 ≤ z ∧ z < 2000000000 := by
          rw [← hz]
          have q0 := fmod_lo dg (j := 1000000) (by omega)
          have q1 := fmod_hi dg (j := 1000000) (by omega)
          split <;> omega
        refine ⟨_, ?_, xs ++ [z], st2, dg.fdiv 1000000, some (.sh (.int k)), rfl, by simp [hl], fun x hx' => ?_, g0, g1⟩
        · simp only [foB, w__law_numbers_1, exS_seq, exS_asg, exS_app, exS_skip, ev_bin, ev_var, ev_int, ev_idx, ev_lst, ev_bi, ev_cmp, evs_cons, evs_nil, slotV_s, slotV_0, upB_cl, Res.bind_ok, mod_i, mul_i, add_i, asgV_cl, List.length_cons, List.length_nil, Fl.on_some, Fl.of_ok, Fl.seq_nx, List.set_cons_succ, List.set_cons_zero, Nat.reduceAdd, Nat.reduceLT, if_true, Int.zero_add,
            if_neg (show ¬ (65521 : Int) = 0 by omega), if_neg (show ¬ (1999999973 : Int) = 0 by omega), if_neg (show ¬ (1000000 : Int) = 0 by omega), if_pos m1, if_pos m2, hst, owOf_s, owOf_0, shAll_cl, shAll_nil, Option.map_some, oOk_some, Res.map_ok, gt_i, int_b, idx_n, idx2, hz, sh_cl, zs_length, if_pos s1, zs_snoc, fdiv_i, if_pos dk]
        · rcases List.mem_append.mp hx' with q | q
          · exact hx x q
          · rw [List.mem_singleton.mp q]; exact z0) _ ⟨[], st, dg, u, rfl, rfl, by simp, h0, h1⟩
    exact ⟨η', e, xs, _, _, _, e2, hl, hx⟩
  have f0 := fmod_lo c (j := 1999999973) (by omega)
  have f1 := fmod_hi c (j := 1999999973) (by omega)
  have m1 : MuOk (c.fmod 1999999973 + 31) 765432101 := mulOk_of (a := 32) (b := 32) (by omega) (by omega) (by omega)
  have p1 : PowOk 10 18 := ⟨by omega, by omega, by omega⟩
  generalize hst : ((c.fmod 1999999973 + 31) * 765432101).fmod 1999999973 = st
  have g0 : 0 ≤ st := by rw [← hst]; exact fmod_lo _ (by omega)
  have g1 : st < 1999999973 := by rw [← hst]; exact fmod_hi _ (by omega)
  by_cases hc : c < 0 ∨ (1000000000000000000 : Int) ≤ c
  · obtain ⟨η', e, xs, a, b, d, e2, hl, hx⟩ := loop (c.natAbs : Int) st none g0 g1
    refine ⟨xs, ?_, hl, hx⟩
    subst e2
    by_cases h0 : c < 0
    · simp [b__law_numbers, m1, hst, h0, small_nat (show m ≤ big by omega), e]
    · have h1 : (1000000000000000000 : Int) ≤ c := by omega
      simp [b__law_numbers, m1, hst, h0, p1, h1, small_nat (show m ≤ big by omega), e]
  · obtain ⟨η', e, xs, a, b, d, e2, hl, hx⟩ := loop 0 st none g0 g1
    refine ⟨xs, ?_, hl, hx⟩
    subst e2
    have h0 : ¬ c < 0 := fun z => hc (.inl z)
    have h1 : ¬ (1000000000000000000 : Int) ≤ c := fun z => hc (.inr z)
    simp [b__law_numbers, m1, hst, h0, p1, h1, small_nat (show m ≤ big by omega), e]

/-! ### the laws' dicts and boards -/
theorem key2_def (i k : Nat) : ([(i : Int), (k : Int)] : List Int) = key2 (i, k) := rfl
theorem eqD_rl0 (B : List (List Int)) : eqD (.list (rws B)) (.list []) = .ok (decide (B = [])) := by
  have h := eqD_rl B []
  rw [rws_nil] at h
  exact h
theorem rws_dropLast (B : List (List Int)) : (rws B).dropLast = rws B.dropLast := by simp [rws, List.map_dropLast]
theorem rws_get' {B : List (List Int)} {k : Nat} (h : k < B.length) : (rws B)[k]? = some (.tuple (zs (B[k]?.getD []))) := by
  rw [rws, List.getElem?_map, List.getElem?_eq_getElem h]
  rfl
theorem r__law_board_of (n : Nat) (m : Mp) : runF pr (n + 2) k__law_board_of [dD (dl m)] = .ok (.tuple (rws (boM m))) := by
  rw [st__law_board_of]
  have hb : big = 16777216 := rfl
  have s9 : small 9 := ⟨by omega, by omega⟩
  have comp : ∀ (k : Nat) (u : Option Sl), ev (tbl pr (n + 1)) (.comp 3 (.ir1 (.int 9)) (.nop) (.dget (.var 0) (.tup (.cons (.var 3) (.cons (.var 2) .nil))) (.int 0))) [some (.sh (dD (dl m))), u, some (.sh (.int k)), none] = .ok (.nw (zs (gridR m k))) := by
    intro k u
    rw [ev_comp_map (w := .r 0 9) (List.range 9) (fun i : Nat => PyData.int i) (fun i => .int (lookM m (i, k))) rfl (by simp [s9]) rfl (by simp [hb]) (fun i _ => by
      have e := lookL_get m (i, k)
      rw [← key2_def] at e
      simp [e])]
    rw [gridR, zs, List.map_map]
    rfl
  obtain ⟨η', h1, u', h2⟩ := loop_rng (f := foB (tbl pr (n + 1)) 2 w__law_board_of_2) (lo := 0) (n := 9)
    (R := fun k η => ∃ u, η = [some (.sh (dD (dl m))), some (.ow (rws ((List.range k).map fun k => trim (gridR m k)))), u, none])
    (fun k η hk hR => by
      obtain ⟨u, rfl⟩ := hR
      have t := r__law_trim_l n (gridR m k)
      have sm : Sm (k + 1) := show _ ≤ big by omega
      have e : rws ((List.range k).map fun k => trim (gridR m k)) ++ [.tuple (zs (trim (gridR m k)))] = rws ((List.range (k + 1)).map fun k => trim (gridR m k)) := by
        rw [rws_snoc, List.range_succ, List.map_append]
        rfl
      refine ⟨_, ?_, some (.sh (.int k)), rfl⟩
      rw [← e]
      simp [foB, w__law_board_of_2, comp, t, sm]) [some (.sh (dD (dl m))), some (.ow []), none, none] ⟨none, rfl⟩
  subst h2
  generalize hB : ((List.range 9).map fun k => trim (gridR m k)) = B at h1
  have hbo : boM m = trimB B := by rw [boM, hB]
  have loop : ∀ k, k ≤ B.length → whS (evt (tbl pr (n + 1)) c__law_board_of_1) (exS (tbl pr (n + 1)) w__law_board_of_1) [some (.sh (dD (dl m))), some (.ow (rws (B.take k))), u', none] = .nx [some (.sh (dD (dl m))), some (.ow (rws (B.take (tlB B k)))), u', none] := by
    intro k
    induction k with
    | zero => exact fun _ => wh_end (by simp [c__law_board_of_1, rws_nil, eqD_00])
    | succ k ih =>
      intro hk
      have e0 : (B.take (k + 1)).length = k + 1 := by simp; omega
      have e : ((B.take (k + 1)).length : Int) - 1 = (k : Int) := by rw [e0]; omega
      have a := atI_rws (B := B.take (k + 1)) (k := k) (by omega)
      have e3 : (B.take (k + 1))[k]? = B[k]? := by rw [List.getElem?_take, if_pos (by omega)]
      rw [e3] at a
      have ne : B.take (k + 1) ≠ [] := fun z => by rw [z] at e0; simp at e0
      have c : evt (tbl pr (n + 1)) c__law_board_of_1 [some (.sh (dD (dl m))), some (.ow (rws (B.take (k + 1)))), u', none] = .ok (decide (B[k]?.getD [] = [])) := by
        simp only [c__law_board_of_1, evt_tbop, evt_tbone, evt_tcmp, ev_var, ev_lst, ev_tup, evs_nil, ev_idx, ev_bin, ev_bi, evs_cons, ev_int, slotV_s, slotV_0o, upB_br, Res.bind_ok, shAll_nil, oOk_some, Res.map_ok, ne_v, d_br, d_nw, eqD_rl0, decide_eq_false ne, Bool.not_false, if_true, len_b, rws_len, sub_i, e, idx_b, a, eq_v, d_cl, eqD_t0]
      by_cases h0 : B[k]?.getD [] = []
      · rw [tlB, if_pos h0, ← ih (by omega)]
        have dl' : (B.take (k + 1)).dropLast = B.take k := by
          rw [List.dropLast_eq_take, e0, List.take_take]
          congr 1
          omega
        have gl : (rws (B.take (k + 1)))[(B.take (k + 1)).length - 1]? = some (.tuple (zs (B[k]?.getD []))) := by
          rw [e0, Nat.add_sub_cancel, rws_get' (by omega), e3]
        refine wh_step (by rw [c, h0]; rfl) ?_
        simp only [w__law_board_of_1, exS_seq, exS_pop, owOf_s, owOf_0, Fl.on_some, rws_len, gl, rws_dropLast, dl', List.set_cons_succ, List.set_cons_zero, Fl.seq_nx, exS_skip]
      · rw [tlB, if_neg h0]
        exact wh_end (by rw [c, decide_eq_false h0])
  have l := loop B.length (Nat.le_refl _)
  rw [List.take_length] at l
  rw [hbo]
  simp [b__law_board_of, s9, h1, l, trimB]
def BOk (N b : Nat) (B : List (List Int)) : Prop := isBd B ∧ B.length ≤ N ∧ (∀ r ∈ B, r.length ≤ N) ∧ bdB b B

/-! ### walks of dicts -/
theorem dkeys_dl (m : Mp) : dkeys (dl m) = m.map fun p => PyData.tuple [.int p.1.1, .int p.1.2] := by
  unfold dkeys dl
  rw [List.map_map]
  rfl
theorem r__law_product (n : Nat) {N b : Nat} {m1 m2 : Mp} (h1 : DOk N b m1) (h2 : DOk N b m2) (hN : N ≤ 20) (hb : b ≤ 60) (l1 : m1.length ≤ 400) (l2 : m2.length ≤ 400) :
    ∃ m, runF pr (n + 1) k__law_product [dD (dl m1), dD (dl m2)] = .ok (dD (dl m)) ∧ (keysM m).Nodup ∧ (∀ p ∈ m, p.1.1 < 2 * N - 1 ∧ p.1.2 < 2 * N - 1) ∧ (∀ x y, dv m x y = dv m1 x y * dv m2 x y) ∧ m.length ≤ 160000 ∧ ∀ p ∈ m, p.2.natAbs ≤ m1.length * m2.length * 2 ^ (2 * b) := by
  rw [st__law_product]
  have hbig : big = 16777216 := rfl
  have inner : ∀ (p : (Nat × Nat) × Int), p ∈ m1 → ∀ (t : Mp), (∀ q ∈ t, q ∈ m2) → ∀ (m : Mp) (c : Nat) (u v : Option Sl), (keysM m).Nodup → (∀ q ∈ m, q.1.1 < 2 * N - 1 ∧ q.1.2 < 2 * N - 1) → m.length + t.length ≤ 160000 → (∀ q ∈ m, q.2.natAbs ≤ c * 2 ^ (2 * b)) →
      ∃ m' u' v', loopF (foTB (tbl pr n) [5, 6] w__law_product_2) (dkeys (dl t)) [some (.sh (dD (dl m1))), some (.sh (dD (dl m2))), some (.od (dl m)), some (.sh (.int p.1.1)), some (.sh (.int p.1.2)), u, v]
        = .nx [some (.sh (dD (dl m1))), some (.sh (dD (dl m2))), some (.od (dl m')), some (.sh (.int p.1.1)), some (.sh (.int p.1.2)), u', v'] ∧ (keysM m').Nodup ∧ (∀ q ∈ m', q.1.1 < 2 * N - 1 ∧ q.1.2 < 2 * N - 1) ∧ m'.length ≤ m.length + t.length ∧ (∀ q ∈ m', q.2.natAbs ≤ (c + t.length) * 2 ^ (2 * b)) ∧
          ∀ x y, dv m' x y = dv m x y + p.2 * x ^ p.1.1 * y ^ p.1.2 * dv t x y := by
    intro p hp t
    induction t with
    | nil => exact fun _ m c u v g1 g2 _ g4 => ⟨m, u, v, rfl, g1, g2, by simp, g4, fun x y => by rw [dv_nil, Int.mul_zero, Int.add_zero]⟩
    | cons q t ih =>
      intro ht m c u v g1 g2 g3 g4
      have hq := ht q List.mem_cons_self
      rw [List.length_cons] at g3
      obtain ⟨p1, p2, p3⟩ := h1.2 p hp
      obtain ⟨q1, q2, q3⟩ := h2.2 q hq
      have la := look_mem h1.1 hp
      have lb := look_mem h2.1 hq
      rw [key2] at la lb
      have mu : MuOk p.2 q.2 := mulOk_of (a := 61) (b := 61) (Nat.lt_of_le_of_lt p3 (Nat.pow_lt_pow_right (by decide) (by omega))) (Nat.lt_of_le_of_lt q3 (Nat.pow_lt_pow_right (by decide) (by omega))) (by omega)
      have e1 : (p.1.1 : Int) + (q.1.1 : Int) = ((p.1.1 + q.1.1 : Nat) : Int) := by omega
      have e2 : (p.1.2 : Int) + (q.1.2 : Int) = ((p.1.2 + q.1.2 : Nat) : Int) := by omega
      have lg := lookL_get m (p.1.1 + q.1.1, p.1.2 + q.1.2)
      rw [← key2_def] at lg
      have pl := putL_dl m (p.1.1 + q.1.1, p.1.2 + q.1.2) (lookM m (p.1.1 + q.1.1, p.1.2 + q.1.2) + p.2 * q.2)
      rw [← key2_def] at pl
      have sm : Sm (m.length + 1) := show _ ≤ big by omega
      have go : foTB (tbl pr n) [5, 6] w__law_product_2 (.tuple [.int q.1.1, .int q.1.2]) [some (.sh (dD (dl m1))), some (.sh (dD (dl m2))), some (.od (dl m)), some (.sh (.int p.1.1)), some (.sh (.int p.1.2)), u, v]
          = .nx [some (.sh (dD (dl m1))), some (.sh (dD (dl m2))), some (.od (dl (putM m (p.1.1 + q.1.1, p.1.2 + q.1.2) (lookM m (p.1.1 + q.1.1, p.1.2 + q.1.2) + p.2 * q.2)))), some (.sh (.int p.1.1)), some (.sh (.int p.1.2)), some (.sh (.int q.1.1)), some (.sh (.int q.1.2))] := by
        rw [← pl]
        simp [foTB, w__law_product_2, la, lb, mu, e1, e2, -Int.natCast_add, lg, sm]
      have pq : (p.2 * q.2).natAbs ≤ 2 ^ (2 * b) := by
        rw [Int.natAbs_mul, Nat.two_mul, Nat.pow_add]
        exact Nat.mul_le_mul p3 q3
      have lk := look_bd g4 (p.1.1 + q.1.1, p.1.2 + q.1.2)
      have sc : (c + 1) * 2 ^ (2 * b) = c * 2 ^ (2 * b) + 2 ^ (2 * b) := Nat.succ_mul _ _
      obtain ⟨m', u', v', l, r1, r2, r3, r5, r4⟩ := ih (fun q hq => ht q (List.mem_cons_of_mem _ hq)) (putM m (p.1.1 + q.1.1, p.1.2 + q.1.2) (lookM m (p.1.1 + q.1.1, p.1.2 + q.1.2) + p.2 * q.2)) (c + 1) (some (.sh (.int q.1.1))) (some (.sh (.int q.1.2))) (putM_nodup g1 _ _)
        (fun r hr => by
          rcases putM_mem hr with ⟨z, _⟩ | hr
          · rw [z]
            dsimp only
            omega
          · exact g2 r hr) (by
          have := putM_len m (p.1.1 + q.1.1, p.1.2 + q.1.2) (lookM m (p.1.1 + q.1.1, p.1.2 + q.1.2) + p.2 * q.2)
          omega) (fun r hr => by
          rcases putM_mem hr with ⟨_, z⟩ | hr
          · rw [z]
            omega
          · have := g4 r hr
            omega)
      have pn := putM_len m (p.1.1 + q.1.1, p.1.2 + q.1.2) (lookM m (p.1.1 + q.1.1, p.1.2 + q.1.2) + p.2 * q.2)
      refine ⟨m', u', v', ?_, r1, r2, by rw [List.length_cons]; omega, by rw [List.length_cons, show c + (t.length + 1) = c + 1 + t.length by omega]; exact r5, fun x y => ?_⟩
      · rw [dkeys_dl, List.map_cons, loopF, go]
        rw [dkeys_dl] at l
        exact l
      · rw [r4, dv_put g1, dv_cons]
        dsimp only
        rw [show lookM m (p.1.1 + q.1.1, p.1.2 + q.1.2) + p.2 * q.2 - lookM m (p.1.1 + q.1.1, p.1.2 + q.1.2) = p.2 * q.2 by omega, Int.pow_add, Int.pow_add, Int.mul_add]
        have e : p.2 * q.2 * (x ^ p.1.1 * x ^ q.1.1) * (y ^ p.1.2 * y ^ q.1.2) = p.2 * x ^ p.1.1 * y ^ p.1.2 * (q.2 * x ^ q.1.1 * y ^ q.1.2) := by grind
        rw [e]
        omega
  have outer : ∀ (t : Mp), (∀ q ∈ t, q ∈ m1) → ∀ (m : Mp) (c : Nat) (a₁ b₁ u v : Option Sl), (keysM m).Nodup → (∀ q ∈ m, q.1.1 < 2 * N - 1 ∧ q.1.2 < 2 * N - 1) → m.length + t.length * m2.length ≤ 160000 → (∀ q ∈ m, q.2.natAbs ≤ c * 2 ^ (2 * b)) →
      ∃ m' a' b' u' v', loopF (foTB (tbl pr n) [3, 4] w__law_product_1) (dkeys (dl t)) [some (.sh (dD (dl m1))), some (.sh (dD (dl m2))), some (.od (dl m)), a₁, b₁, u, v]
        = .nx [some (.sh (dD (dl m1))), some (.sh (dD (dl m2))), some (.od (dl m')), a', b', u', v'] ∧ (keysM m').Nodup ∧ (∀ q ∈ m', q.1.1 < 2 * N - 1 ∧ q.1.2 < 2 * N - 1) ∧ m'.length ≤ m.length + t.length * m2.length ∧ (∀ q ∈ m', q.2.natAbs ≤ (c + t.length * m2.length) * 2 ^ (2 * b)) ∧
          ∀ x y, dv m' x y = dv m x y + dv t x y * dv m2 x y := by
    intro t
    induction t with
    | nil => exact fun _ m c a₁ b₁ u v g1 g2 _ g4 => ⟨m, a₁, b₁, u, v, rfl, g1, g2, by simp, by simpa using g4, fun x y => by rw [dv_nil, Int.zero_mul, Int.add_zero]⟩
    | cons p t ih =>
      intro ht m c a₁ b₁ u v g1 g2 g3 g4
      have hp := ht p List.mem_cons_self
      rw [List.length_cons, Nat.succ_mul] at g3
      obtain ⟨m', u', v', l, r1, r2, r3, r5, r4⟩ := inner p hp m2 (fun q hq => hq) m c u v g1 g2 (by omega) g4
      obtain ⟨m3, a3, b3, u3, v3, l3, s1, s2, s3, s5, s4⟩ := ih (fun q hq => ht q (List.mem_cons_of_mem _ hq)) m' (c + m2.length) (some (.sh (.int p.1.1))) (some (.sh (.int p.1.2))) u' v' r1 r2 (by omega) r5
      have go : foTB (tbl pr n) [3, 4] w__law_product_1 (.tuple [.int p.1.1, .int p.1.2]) [some (.sh (dD (dl m1))), some (.sh (dD (dl m2))), some (.od (dl m)), a₁, b₁, u, v]
          = .nx [some (.sh (dD (dl m1))), some (.sh (dD (dl m2))), some (.od (dl m')), some (.sh (.int p.1.1)), some (.sh (.int p.1.2)), u', v'] := by
        have dr : dropS [some (.sh (dD (dl m1))), some (.sh (dD (dl m2))), some (.od (dl m)), some (.sh (.int p.1.1)), some (.sh (.int p.1.2)), u, v] 1 = [some (.sh (dD (dl m1))), some (.sh (dD (dl m2))), some (.od (dl m)), some (.sh (.int p.1.1)), some (.sh (.int p.1.2)), u, v] := rfl
        rw [foTB]
        simp [w__law_product_1, dr, l]
      refine ⟨m3, a3, b3, u3, v3, ?_, s1, s2, by rw [List.length_cons, Nat.succ_mul]; omega, by rw [List.length_cons, Nat.succ_mul, show c + (t.length * m2.length + m2.length) = c + m2.length + t.length * m2.length by omega]; exact s5, fun x y => ?_⟩
      · rw [dkeys_dl, List.map_cons, loopF, go]
        rw [dkeys_dl] at l3
        exact l3
      · rw [s4, r4, dv_cons, Int.add_mul]
        omega
  obtain ⟨m, a', b', u', v', l, r1, r2, r3, r5, r4⟩ := outer m1 (fun q hq => hq) [] 0 none none none none List.nodup_nil (fun q hq => (List.not_mem_nil hq).elim) (by
    have := Nat.mul_le_mul l1 l2
    simp
    omega) (fun q hq => (List.not_mem_nil hq).elim)
  refine ⟨m, ?_, r1, r2, fun x y => by rw [r4, dv_nil, Int.zero_add], by
    have := Nat.mul_le_mul l1 l2
    simp at r3
    omega, by simpa using r5⟩
  have dr : dropS [some (.sh (dD (dl m1))), some (.sh (dD (dl m2))), some (.od (dl [])), none, none, none, none] 0 = [some (.sh (dD (dl m1))), some (.sh (dD (dl m2))), some (.od (dl [])), none, none, none, none] := rfl
  rw [dl_nil] at l dr
  simp [b__law_product, dr, l]

/-! ### boards drawn -/
theorem tlB_small {B : List (List Int)} {N : Nat} (h : ∀ k : Nat, N ≤ k → B[k]?.getD [] = []) : ∀ n, tlB B n ≤ N
  | 0 => Nat.zero_le _
  | k + 1 => by
    unfold tlB
    split
    · exact tlB_small h k
    · rename_i e
      exact Classical.byContradiction fun z => e (h k (by omega))
theorem tlen_small {f : List Int} {N : Nat} (h : ∀ k : Nat, N ≤ k → f[k]?.getD 0 = 0) : ∀ n, tlen f n ≤ N
  | 0 => Nat.zero_le _
  | k + 1 => by
    unfold tlen
    split
    · exact tlen_small h k
    · rename_i e
      exact Classical.byContradiction fun z => e (h k (by omega))
theorem DOk.out {N b : Nat} {m : Mp} (h : DOk N b m) {i k : Nat} (hik : N ≤ i ∨ N ≤ k) : lookM m (i, k) = 0 := lookM_none fun z => by
  obtain ⟨p, hp, e⟩ := List.mem_map.mp z
  obtain ⟨h1, h2, _⟩ := h.2 p hp
  rw [e] at h1 h2
  dsimp only at h1 h2
  omega
theorem BOk_boM {N b : Nat} {m : Mp} (h : DOk N b m) : BOk N b (boM m) := by
  have lb := look_bd (fun p hp => (h.2 p hp).2.2)
  refine ⟨isBd_boM m, ?_, fun r hr => ?_, fun r hr c hc => ?_⟩
  · unfold boM trimB
    rw [List.length_take]
    refine Nat.le_trans (Nat.min_le_left _ _) (tlB_small (fun k hk => ?_) _)
    rw [mapRange_get]
    split
    · refine trim_zero fun c hc => ?_
      obtain ⟨i, _, rfl⟩ := List.mem_map.mp hc
      exact h.out (.inr hk)
    · rfl
  · obtain ⟨k, _, rfl⟩ := List.mem_map.mp (List.mem_of_mem_take hr)
    unfold trim
    rw [List.length_take]
    refine Nat.le_trans (Nat.min_le_left _ _) (tlen_small (fun i hi => ?_) _)
    rw [gridR, mapRange_get]
    split
    · exact h.out (.inl hi)
    · rfl
  · obtain ⟨k, _, rfl⟩ := List.mem_map.mp (List.mem_of_mem_take hr)
    obtain ⟨i, _, rfl⟩ := List.mem_map.mp (trim_mem hc)
    exact lb _
theorem BOk.mono {N b N' b' : Nat} {B : List (List Int)} (h : BOk N b B) (hN : N ≤ N') (hb : b ≤ b') : BOk N' b' B :=
  ⟨h.1, Nat.le_trans h.2.1 hN, fun r hr => Nat.le_trans (h.2.2.1 r hr) hN, fun r hr => bd_mono (h.2.2.2 r hr) (Nat.pow_le_pow_right (by decide) hb)⟩
theorem put00 (m : Mp) (v : Int) : putL (dl m) [0, 0] v = dl (putM m (0, 0) v) := putL_dl m (0, 0) v
theorem put10 (m : Mp) (v : Int) : putL (dl m) [1, 0] v = dl (putM m (1, 0) v) := putL_dl m (1, 0) v
theorem put01 (m : Mp) (v : Int) : putL (dl m) [0, 1] v = dl (putM m (0, 1) v) := putL_dl m (0, 1) v
theorem put20 (m : Mp) (v : Int) : putL (dl m) [2, 0] v = dl (putM m (2, 0) v) := putL_dl m (2, 0) v
theorem put02 (m : Mp) (v : Int) : putL (dl m) [0, 2] v = dl (putM m (0, 2) v) := putL_dl m (0, 2) v
theorem dis3 (k1 k2 k3 : Nat × Nat) (a b c : Int) : disL [] [key2 k1, key2 k2, key2 k3] [a, b, c] = some (dl (putM (putM (putM [] k1 a) k2 b) k3 c)) := by
  rw [disL_cons, disL_cons, disL_cons, disL_nil, ← dl_nil, putL_dl, putL_dl, putL_dl]
theorem dis2 (k1 k2 : Nat × Nat) (a b : Int) : disL [] [key2 k1, key2 k2] [a, b] = some (dl (putM (putM [] k1 a) k2 b)) := by
  rw [disL_cons, disL_cons, disL_nil, ← dl_nil, putL_dl, putL_dl]
theorem DOk3 {N : Nat} {k1 k2 k3 : Nat × Nat} {a b c : Int} (h1 : k1.1 < N ∧ k1.2 < N) (h2 : k2.1 < N ∧ k2.2 < N) (h3 : k3.1 < N ∧ k3.2 < N) (ha : a.natAbs ≤ 2 ^ 4) (hb : b.natAbs ≤ 2 ^ 4) (hc : c.natAbs ≤ 2 ^ 4) :
    DOk N 4 (putM (putM (putM [] k1 a) k2 b) k3 c) := ((DOk.nil.put h1.1 h1.2 ha).put h2.1 h2.2 hb).put h3.1 h3.2 hc
theorem len3 (k1 k2 k3 : Nat × Nat) (a b c : Int) : (putM (putM (putM [] k1 a) k2 b) k3 c).length ≤ 3 := by
  have h1 := putM_len [] k1 a
  have h2 := putM_len (putM [] k1 a) k2 b
  have h3 := putM_len (putM (putM [] k1 a) k2 b) k3 c
  simp at h1
  omega
theorem r__law_line (n : Nat) (xs : List Int) (hl : 3 ≤ xs.length) : ∃ m, runF pr (n + 1) k__law_line [.list (zs xs)] = .ok (dD (dl m)) ∧ DOk 2 4 m ∧ m.length ≤ 3 := by
  rw [st__law_line]
  have a0 : atI (zs xs) 0 = some (.int (xs[0]?.getD 0)) := atI_zs (k := 0) (by omega)
  have a1 : atI (zs xs) 1 = some (.int (xs[1]?.getD 0)) := atI_zs (k := 1) (by omega)
  have a2 : atI (zs xs) 2 = some (.int (xs[2]?.getD 0)) := atI_zs (k := 2) (by omega)
  generalize xs[0]?.getD 0 = x0 at a0
  generalize xs[1]?.getD 0 = x1 at a1
  generalize xs[2]?.getD 0 = x2 at a2
  have f0 := fmod_lo x0 (j := 11) (by omega)
  have f1 := fmod_hi x0 (j := 11) (by omega)
  have f2 := fmod_lo x1 (j := 7) (by omega)
  have f3 := fmod_hi x1 (j := 7) (by omega)
  have f4 := fmod_lo x2 (j := 5) (by omega)
  have f5 := fmod_hi x2 (j := 5) (by omega)
  have d := dis3 (0, 0) (1, 0) (0, 1) (x0.fmod 11 - 5) (x1.fmod 7 - 3) (x2.fmod 5 - 2)
  have d : disL [] [[0, 0], [1, 0], [0, 1]] [x0.fmod 11 - 5, x1.fmod 7 - 3, x2.fmod 5 - 2] = _ := d
  refine ⟨_, ?_, DOk3 (k1 := (0, 0)) (k2 := (1, 0)) (k3 := (0, 1)) (a := x0.fmod 11 - 5) (b := x1.fmod 7 - 3) (c := x2.fmod 5 - 2) (by decide) (by decide) (by decide) (by omega) (by omega) (by omega), len3 _ _ _ _ _ _⟩
  simp [b__law_line, a0, a1, a2, d, -disL_cons]
theorem spots_at {k : Nat} (hk : k < 6) : ∃ q : Nat × Nat, atI [[(0 : Int), 0], [1, 0], [0, 1], [2, 0], [1, 1], [0, 2]] (k : Int) = some (key2 q) ∧ q.1 < 3 ∧ q.2 < 3 := by
  have h : k = 0 ∨ k = 1 ∨ k = 2 ∨ k = 3 ∨ k = 4 ∨ k = 5 := by omega
  rcases h with rfl | rfl | rfl | rfl | rfl | rfl
  · exact ⟨(0, 0), rfl, by decide, by decide⟩
  · exact ⟨(1, 0), rfl, by decide, by decide⟩
  · exact ⟨(0, 1), rfl, by decide, by decide⟩
  · exact ⟨(2, 0), rfl, by decide, by decide⟩
  · exact ⟨(1, 1), rfl, by decide, by decide⟩
  · exact ⟨(0, 2), rfl, by decide, by decide⟩
theorem r__law_conic (n : Nat) (xs : List Int) (hl : 7 ≤ xs.length) : ∃ m, runF pr (n + 1) k__law_conic [.list (zs xs)] = .ok (dD (dl m)) ∧ DOk 3 4 m := by
  rw [st__law_conic]
  have hb : big = 16777216 := rfl
  have a0 : atI (zs xs) 0 = some (.int (xs[0]?.getD 0)) := atI_zs (k := 0) (by omega)
  generalize xs[0]?.getD 0 = x0 at a0
  have f0 := fmod_lo x0 (j := 4) (by omega)
  have f1 := fmod_hi x0 (j := 4) (by omega)
  generalize hsz : 1 + x0.fmod 4 = sz
  have m1 : MuOk 2 sz := mulOk_of (a := 8) (b := 8) (by omega) (by omega) (by omega)
  have s6 : small 6 := ⟨by omega, by omega⟩
  obtain ⟨η', h1, m, u, e, g1, g2⟩ := loop_rng (f := foB (tbl pr n) 4 w__law_conic_1) (lo := 0) (n := 6)
    (R := fun k η => ∃ m u, η = [some (.sh (.list (zs xs))), some (.sh (.int sz)), some (.od (dl m)), some (.kk (.lk [[0, 0], [1, 0], [0, 1], [2, 0], [1, 1], [0, 2]])), u] ∧ DOk 3 4 m ∧ m.length ≤ k)
    (fun k η hk hR => by
      obtain ⟨m, u, rfl, g1, g2⟩ := hR
      have a1 := atI_zs (ns := xs) (k := 1 + k) (by omega)
      have ek : (1 : Int) + (k : Int) = ((1 + k : Nat) : Int) := by omega
      generalize xs[1 + k]?.getD 0 = x at a1
      obtain ⟨q, aq, q1, q2⟩ := spots_at hk
      have t0 := fmod_lo x (j := 2 * sz + 1) (by omega)
      have t1 := fmod_hi x (j := 2 * sz + 1) (by omega)
      have nz : ¬ 2 * sz + 1 = 0 := by omega
      have sm : Sm (m.length + 1) := show _ ≤ big by omega
      have d16 : DivOk x 16 := divOk_small (by omega) (by omega)
      by_cases h : 0 < (x.fdiv 16).fmod 3
      · refine ⟨_, ?_, putM m q (x.fmod (2 * sz + 1) - sz), some (.sh (.int k)), rfl, g1.put q1 q2 (by omega), ?_⟩
        · rw [← putL_dl]
          simp [foB, w__law_conic_1, ek, -Int.natCast_add, a1, d16, h, m1, nz, aq, sm]
        · have := putM_len m q (x.fmod (2 * sz + 1) - sz)
          omega
      · refine ⟨_, ?_, m, some (.sh (.int k)), rfl, g1, by omega⟩
        simp [foB, w__law_conic_1, ek, -Int.natCast_add, a1, d16, h]) [some (.sh (.list (zs xs))), some (.sh (.int sz)), some (.od (dl [])), some (.kk (.lk [[0, 0], [1, 0], [0, 1], [2, 0], [1, 1], [0, 2]])), none] ⟨[], none, rfl, DOk.nil, Nat.le_refl _⟩
  subst e
  rw [dl_nil] at h1
  exact ⟨m, by simp [b__law_conic, a0, hsz, s6, h1], g1⟩

theorem cut_from (xs : List Int) (k : Nat) : cutD (zs xs) (some (k : Int)) none = zs (xs.drop k) := by
  rw [cutD_drop, zs_drop]
theorem r__law_board (n : Nat) (c : Int) : ∃ B, runF pr (n + 3) k__law_board [.int c] = .ok (.tuple (rws B)) ∧ BOk 5 20 B := by
  rw [st__law_board]
  obtain ⟨xs, hn, hl, hx⟩ := r__law_numbers (n + 1) c 12 (by omega)
  rw [show ((12 : Nat) : Int) = 12 from rfl] at hn
  have a0 : atI (zs xs) 0 = some (.int (xs[0]?.getD 0)) := atI_zs (k := 0) (by omega)
  have a1 : atI (zs xs) 1 = some (.int (xs[1]?.getD 0)) := atI_zs (k := 1) (by omega)
  have a2 : atI (zs xs) 2 = some (.int (xs[2]?.getD 0)) := atI_zs (k := 2) (by omega)
  have a3 : atI (zs xs) 3 = some (.int (xs[3]?.getD 0)) := atI_zs (k := 3) (by omega)
  have c1 := cut_from xs 1
  have c4 := cut_from xs 4
  rw [show ((1 : Nat) : Int) = 1 from rfl] at c1
  rw [show ((4 : Nat) : Int) = 4 from rfl] at c4
  obtain ⟨mc, ec, dc⟩ := r__law_conic (n + 1) (xs.drop 1) (by rw [List.length_drop]; omega)
  obtain ⟨m1, e1, d1, l1⟩ := r__law_line (n + 1) (xs.drop 1) (by rw [List.length_drop]; omega)
  obtain ⟨m4, e4, d4, l4⟩ := r__law_line (n + 1) (xs.drop 4) (by rw [List.length_drop]; omega)
  generalize xs.drop 1 = t1 at c1 ec e1
  generalize xs.drop 4 = t4 at c4 e4
  generalize xs[0]?.getD 0 = x0 at a0
  generalize xs[1]?.getD 0 = x1 at a1
  generalize xs[2]?.getD 0 = x2 at a2
  generalize xs[3]?.getD 0 = x3 at a3
  obtain ⟨m3, e3, d3, l3⟩ := r__law_line (n + 1) [x1, x2, x3] (by simp)
  have e3 : runF pr (n + 1 + 1) k__law_line [.list [.int x1, .int x2, .int x3]] = _ := e3
  have f0 := fmod_lo x0 (j := 8) (by omega)
  have f1 := fmod_hi x0 (j := 8) (by omega)
  have g0 := fmod_lo x1 (j := 11) (by omega)
  have g1 := fmod_hi x1 (j := 11) (by omega)
  have g2 := fmod_lo x2 (j := 7) (by omega)
  have g3 := fmod_hi x2 (j := 7) (by omega)
  have g4 := fmod_lo x3 (j := 5) (by omega)
  have g5 := fmod_hi x3 (j := 5) (by omega)
  have g6 := fmod_lo x1 (j := 10) (by omega)
  have g7 := fmod_hi x1 (j := 10) (by omega)
  have g8 := fmod_lo x2 (j := 2) (by omega)
  have g9 := fmod_hi x2 (j := 2) (by omega)
  have ga := fmod_lo x3 (j := 2) (by omega)
  have gb := fmod_hi x3 (j := 2) (by omega)
  have gc := fmod_lo x1 (j := 5) (by omega)
  have gd := fmod_hi x1 (j := 5) (by omega)
  have prod : ∀ (p q : Mp), DOk 2 4 p → DOk 2 4 q → p.length ≤ 3 → q.length ≤ 3 → ∃ B, ∃ m, runF pr (n + 2) k__law_product [dD (dl p), dD (dl q)] = .ok (dD (dl m)) ∧ runF pr (n + 2) k__law_board_of [dD (dl m)] = .ok (.tuple (rws B)) ∧ BOk 5 20 B := by
    intro p q hp hq lp lq
    obtain ⟨m, e, r1, r2, _, _, r3⟩ := r__law_product (n + 1) hp hq (by omega) (by omega) (by omega) (by omega)
    refine ⟨boM m, m, e, r__law_board_of n m, (BOk_boM (N := 3) (b := 20) ⟨r1, fun z hz => ⟨(r2 z hz).1, (r2 z hz).2, ?_⟩⟩).mono (by omega) (Nat.le_refl _)⟩
    have h1 := r3 z hz
    have h2 : p.length * q.length ≤ 3 * 3 := Nat.mul_le_mul lp lq
    have h3 : p.length * q.length * 2 ^ (2 * 4) ≤ 3 * 3 * 2 ^ (2 * 4) := Nat.mul_le_mul_right _ h2
    omega
  have ways : x0.fmod 8 < 2 ∨ x0.fmod 8 = 2 ∨ x0.fmod 8 = 3 ∨ x0.fmod 8 = 4 ∨ x0.fmod 8 = 5 ∨ x0.fmod 8 = 6 ∨ x0.fmod 8 = 7 := by omega
  rcases ways with w | w | w | w | w | w | w
  · exact ⟨boM mc, by simp [b__law_board, hn, a0, w, c1, ec, r__law_board_of], (BOk_boM dc).mono (by omega) (by omega)⟩
  · have d := dis3 (0, 0) (1, 0) (2, 0) (x1.fmod 11 - 5) (x2.fmod 7 - 3) (x3.fmod 5 - 2)
    have d : disL [] [[0, 0], [1, 0], [2, 0]] [x1.fmod 11 - 5, x2.fmod 7 - 3, x3.fmod 5 - 2] = _ := d
    exact ⟨_, by simp [b__law_board, hn, a0, w, a1, a2, a3, d, -disL_cons, r__law_board_of]; rfl, (BOk_boM (DOk3 (N := 3) (k1 := (0, 0)) (k2 := (1, 0)) (k3 := (2, 0)) (by decide) (by decide) (by decide) (by omega) (by omega) (by omega))).mono (by omega) (by omega)⟩
  · obtain ⟨B, m, q1, q2, q3⟩ := prod m1 m4 d1 d4 l1 l4
    exact ⟨B, by simp [b__law_board, hn, a0, w, c1, c4, e1, e4, q1, q2], q3⟩
  · obtain ⟨B, m, q1, q2, q3⟩ := prod m1 m3 d1 d3 l1 l3
    exact ⟨B, by simp [b__law_board, hn, a0, w, c1, a1, a2, a3, e1, e3, q1, q2], q3⟩
  · have d := dis2 (0, 0) (1, 0) (x1.fmod 5 - 2) 1
    have d : disL [] [[0, 0], [1, 0]] [x1.fmod 5 - 2, 1] = _ := d
    have l2 := putM_len [] (0, 0) (x1.fmod 5 - 2)
    have l3' := putM_len (putM [] (0, 0) (x1.fmod 5 - 2)) (1, 0) 1
    simp at l2
    obtain ⟨B, m, q1, q2, q3⟩ := prod (putM (putM [] (0, 0) (x1.fmod 5 - 2)) (1, 0) 1) m4 ((DOk.nil.put (by decide) (by decide) (by omega)).put (by decide) (by decide) (by decide)) d4 (by omega) l4
    exact ⟨B, by simp [b__law_board, hn, a0, w, c4, a1, e4, d, -disL_cons, q1, q2], q3⟩
  · have d := dis3 (0, 0) (2, 0) (0, 2) (0 - x1.fmod 10) (1 + x2.fmod 2) (1 + x3.fmod 2)
    have d : disL [] [[0, 0], [2, 0], [0, 2]] [0 - x1.fmod 10, 1 + x2.fmod 2, 1 + x3.fmod 2] = _ := d
    rw [Int.zero_sub] at d
    exact ⟨_, by simp [b__law_board, hn, a0, w, a1, a2, a3, d, -disL_cons, r__law_board_of]; rfl, (BOk_boM (DOk3 (N := 3) (k1 := (0, 0)) (k2 := (2, 0)) (k3 := (0, 2)) (by decide) (by decide) (by decide) (by omega) (by omega) (by omega))).mono (by omega) (by omega)⟩
  · exact ⟨boM m1, by simp [b__law_board, hn, a0, w, c1, e1, r__law_board_of], (BOk_boM d1).mono (by omega) (by omega)⟩

/-! ### texts by their signs; lexing -/
abbrev tx (l : List Nat) : Str := ⟨l.toArray⟩
theorem tx_len (l : List Nat) : (tx l).length = l.length := by simp [Str.length]
theorem tx_tl (l : List Nat) : (tx l).cps.toList = l := rfl
theorem tx_inj {a b : List Nat} : tx a = tx b ↔ a = b := ⟨fun h => congrArg (fun x : Str => x.cps.toList) h, fun h => by rw [h]⟩
theorem tx_cat (a b : List Nat) : tx a ++ tx b = tx (a ++ b) := by
  have h : (tx a ++ tx b).cps.toList = a ++ b := by
    show ((tx a).cps ++ (tx b).cps).toList = _
    simp
  exact (congrArg (fun l : List Nat => tx l) h)
theorem one_tx (c : Nat) : (⟨#[c]⟩ : Str) = tx [c] := rfl
theorem cut_tx (T : List Nat) (i j : Nat) : cutS (tx T) (some (i : Int)) (some (j : Int)) = tx ((T.drop i).take (j - i)) := by
  unfold cutS
  rw [HT.sIx_nat, HT.sIx_nat]
  have e : (tx T).length = T.length := tx_len T
  rw [e]
  show tx ((T.drop (min i T.length)).take (min j T.length - min i T.length)) = _
  rw [tx_inj]
  by_cases h : i ≤ T.length
  · rw [Nat.min_eq_left h, List.take_eq_take_iff]
    simp only [List.length_drop]
    omega
  · rw [Nat.min_eq_right (show T.length ≤ i by omega), List.drop_of_length_le (Nat.le_refl _), List.drop_of_length_le (show T.length ≤ i by omega)]
    simp
def isFig (c : Nat) : Prop := 48 ≤ c ∧ c ≤ 57
def isRun (c : Nat) : Prop := (48 ≤ c ∧ c ≤ 57) ∨ (97 ≤ c ∧ c ≤ 122)
instance (c : Nat) : Decidable (isRun c) := inferInstanceAs (Decidable (_ ∨ _))
instance (c : Nat) : Decidable (isFig c) := inferInstanceAs (Decidable (_ ∧ _))
abbrev figS : Str := "0123456789"
abbrev smS : Str := "abcdefghijklmnopqrstuvwxyz"
theorem fig_tl : figS.cps.toList = (List.range 10).map (48 + ·) := by decide +kernel
theorem mem_fig (c : Nat) : c ∈ figS.cps.toList ↔ isFig c := by
  rw [fig_tl, List.mem_map]
  constructor
  · rintro ⟨k, hk, rfl⟩
    rw [List.mem_range] at hk
    exact ⟨by omega, by omega⟩
  · rintro ⟨h1, h2⟩
    exact ⟨c - 48, List.mem_range.mpr (by omega), by omega⟩
theorem run_tl : (smS ++ figS).cps.toList = (List.range 26).map (97 + ·) ++ (List.range 10).map (48 + ·) := by decide +kernel
theorem run_tl' : (figS ++ smS).cps.toList = (List.range 10).map (48 + ·) ++ (List.range 26).map (97 + ·) := by decide +kernel
theorem mem_run (c : Nat) : c ∈ (figS ++ smS).cps.toList ↔ isRun c := by
  rw [run_tl', List.mem_append, List.mem_map, List.mem_map]
  constructor
  · rintro (⟨k, hk, rfl⟩ | ⟨k, hk, rfl⟩)
    · rw [List.mem_range] at hk
      exact .inl ⟨by omega, by omega⟩
    · rw [List.mem_range] at hk
      exact .inr ⟨by omega, by omega⟩
  · rintro (⟨h1, h2⟩ | ⟨h1, h2⟩)
    · exact .inl ⟨c - 48, List.mem_range.mpr (by omega), by omega⟩
    · exact .inr ⟨c - 97, List.mem_range.mpr (by omega), by omega⟩
theorem sm_k {n : Nat} (h : n ≤ 10000) : Sm n := Nat.le_trans h (by decide)
theorem len_tx {l : List Nat} (h : l.length ≤ 10000) : biV .len [.cl (.str (tx l))] = .ok (.cl (.int (l.length : Int))) := by
  have e : biV .len [.cl (.str (tx l))] = if Sm (tx l).length then .ok (.cl (.int ((tx l).length : Int))) else .st := rfl
  rw [e, tx_len, if_pos (sm_k h)]
theorem idx_tx {l : List Nat} (h : l.length ≤ 10000) {k : Nat} {c : Nat} (e : l[k]? = some c) : idxV (.cl (.str (tx l))) (.cl (.int (k : Int))) = .ok (.cl (.str (tx [c]))) := by
  rw [idx_s, tx_len, if_pos (sm_k h), tx_tl, atI_nat e]
  rfl
theorem sl_tx {l : List Nat} (h : l.length ≤ 10000) (i j : Nat) : slV (.cl (.str (tx l))) (some (i : Int)) (some (j : Int)) = .ok (.cl (.str (tx ((l.drop i).take (j - i))))) := by
  rw [sl_s, tx_len, if_pos (sm_k h), cut_tx]
theorem sign_tx (c : Nat) (z : Str) : signD (.str (tx [c])) z = .ok (decide (c ∈ z.cps.toList)) := rfl
theorem r_run_from (n : Nat) {z : Str} (hz : ∀ c, c ∈ z.cps ↔ isRun c) {T : List Nat} (hT : T.length ≤ 10000) {i j : Nat} (hij : i ≤ j) (hj : j ≤ T.length) (h1 : ∀ k, i ≤ k → k < j → ∃ c, T[k]? = some c ∧ isRun c) (h2 : ∀ c, T[j]? = some c → ¬ isRun c) :
    runF pr (n + 1) k_run_from [.str (tx T), .int (i : Int), .str z] = .ok (.str (tx ((T.drop i).take (j - i)))) := by
  rw [st_run_from]
  have loop : ∀ (m k : Nat), i ≤ k → k + m = j → whS (evt (tbl pr n) c_run_from_1) (exS (tbl pr n) w_run_from_1) [some (.sh (.str (tx T))), some (.sh (.int (i : Int))), some (.sh (.str z)), some (.sh (.int (k : Int)))]
      = .nx [some (.sh (.str (tx T))), some (.sh (.int (i : Int))), some (.sh (.str z)), some (.sh (.int (j : Int)))] := by
    intro m
    induction m with
    | zero =>
      intro k _ e
      have e : k = j := e
      subst e
      refine wh_end ?_
      cases ec : T[k]? with
      | none =>
        have h : ¬ ((k : Int) < (T.length : Int)) := by
          have := List.getElem?_eq_none_iff.mp ec
          omega
        simp [c_run_from_1, len_tx hT, h]
      | some c =>
        have h : ((k : Int) < (T.length : Int)) := by
          have := (List.getElem?_eq_some_iff.mp ec).1
          omega
        have hc := h2 c ec
        have hm : ¬ c ∈ z.cps := fun q => hc ((hz c).mp q)
        simp [c_run_from_1, len_tx hT, h, -idx_s, idx_tx hT ec, -sign_1, sign_tx, hm]
    | succ m ih =>
      intro k hk e
      obtain ⟨c, ec, hc⟩ := h1 k hk (by omega)
      have h : ((k : Int) < (T.length : Int)) := by omega
      have hm : c ∈ z.cps := (hz c).mpr hc
      have ih' := ih (k + 1) (by omega) (by omega)
      rw [show ((k + 1 : Nat) : Int) = (k : Int) + 1 by omega] at ih'
      rw [wh_step (η' := [some (.sh (.str (tx T))), some (.sh (.int (i : Int))), some (.sh (.str z)), some (.sh (.int ((k : Int) + 1)))])]
      · exact ih'
      · simp [c_run_from_1, len_tx hT, h, -idx_s, idx_tx hT ec, -sign_1, sign_tx, hm]
      · simp [w_run_from_1]
  have e0 := loop (j - i) i (Nat.le_refl _) (by omega)
  simp [b_run_from, e0, -sl_s, sl_tx hT]

theorem lit0 : ("0" : Str) = tx [48] := by decide +kernel
theorem litsp : (" " : Str) = tx [32] := by decide +kernel
theorem lite : ("" : Str) = tx [] := by decide +kernel
theorem eq_tx (a b : List Nat) : eqD (.str (tx a)) (.str (tx b)) = .ok (decide (a = b)) := by
  show Res.ok (decide (tx a = tx b)) = _
  congr 1
  rw [decide_eq_decide]
  exact tx_inj
theorem shp {l : List Nat} (h : ∀ c ∈ l, c < 1114112) : SeqAt.shaped (.str (tx l)) = true := by
  unfold SeqAt.shaped
  have : PyData.canLay0 (.str (tx l)) = true := by
    rw [PyData.canLay0]
    show (tx l).cps.all (· < 0x110000) = true
    rw [Array.all_eq_true']
    intro c hc
    exact decide_eq_true (h c (by simpa using hc))
  rw [this]
  rfl
def isNum : List Nat → Bool
  | [] => false
  | c :: r => decide (r.length + 1 ≤ 12) && !(decide (c = 48) && decide (r ≠ [])) && (c :: r).all fun c => decide (isFig c)
theorem sign_fig (c : Nat) : memD (.str (tx [c])) (.str figS) = .ok (decide (isFig c)) := by
  show Res.ok (decide (c ∈ figS.cps.toList)) = _
  congr 1
  rw [decide_eq_decide]
  exact mem_fig c
theorem r_is_number (n : Nat) {l : List Nat} (hl : l.length ≤ 10000) : runF pr (n + 1) k_is_number [.str (tx l)] = .ok (.bool (isNum l)) := by
  rw [st_is_number]
  have hi : evi (tbl pr n) (.its (.var 0)) [some (.sh (.str (tx l))), none] = .ok (.txt (tx l)) := by simp
  have hg : (tbl pr n).gl 1 = some (.str figS) := rfl
  have c1 := ev_comp_map (T := tbl pr n) (η := [some (.sh (.str (tx l))), none]) (v := 1) (it := .its (.var 0)) (e := .cmp .inC (.var 1) (.glob 1)) l (fun c => .str (tx [c])) (fun c => .bool (decide (isFig c))) rfl hi rfl (Nat.le_trans hl (by decide)) (fun c _ => by
    have h := sign_fig c
    generalize figS = z at h hg
    simp [hg, h, -memD_s])
  have g7 : (tbl pr n).gl 7 = some (.int 12) := rfl
  have q : biV .all1 [.nw (l.map fun c => .bool (decide (isFig c)))] = .ok (.cl (.bool (l.all fun c => decide (isFig c)))) := by
    rw [all1_n, List.all_map]
    rfl
  cases l with
  | nil => simp [b_is_number, len_tx (l := []) (by simp), g7, isNum]
  | cons c r =>
    have i0 := idx_tx hl (k := 0) (c := c) rfl
    have i0 : idxV (.cl (.str (tx (c :: r)))) (.cl (.int 0)) = .ok (.cl (.str (tx [c]))) := i0
    have e0 : eqD (.str (tx [c])) (.str "0") = .ok (decide (c = 48)) := by rw [lit0, eq_tx]; simp
    have e1 : eqD (.str (tx (c :: r))) (.str "0") = .ok (decide (c = 48 ∧ r = [])) := by rw [lit0, eq_tx]; simp
    have le := len_tx hl
    have l1 : (1 : Int) ≤ (((c :: r).length : Nat) : Int) := by simp; omega
    have l1' : (1 : Int) ≤ (r.length : Int) + 1 := by omega
    rw [List.map_cons, List.all_cons] at q
    by_cases h12 : r.length + 1 ≤ 12
    · have h12' : (r.length : Int) + 1 ≤ 12 := by omega
      by_cases h48 : c = 48
      · subst h48
        by_cases hr : r = []
        · subst hr
          have q1 : biV .all1 [.nw [.bool true]] = .ok (.cl (.bool true)) := rfl
          simp [b_is_number, le, g7, h12', l1', -idx_s, i0, e0, e1, c1, q1, isNum, h12, isFig]
        · simp [b_is_number, le, g7, h12', l1', -idx_s, i0, e0, e1, c1, q, isNum, h12, hr]
      · simp [b_is_number, le, g7, h12', l1', -idx_s, i0, e0, e1, c1, q, isNum, h12, h48]
    · have h12' : ¬ (r.length : Int) + 1 ≤ 12 := by omega
      simp [b_is_number, le, g7, h12', l1', isNum, h12]
theorem isNum_fig {l : List Nat} (h : isNum l = true) : l ≠ [] ∧ ∀ c ∈ l, isFig c := by
  cases l with
  | nil => cases h
  | cons c r =>
    rw [isNum, Bool.and_eq_true, List.all_eq_true] at h
    exact ⟨List.cons_ne_nil _ _, fun d hd => of_decide_eq_true (h.2 d hd)⟩
def isSg (c : Nat) : Prop := c = 43 ∨ c = 45 ∨ c = 42 ∨ c = 94
/-- words of texts -/
def isWd (w : List Nat) : Prop := isNum w = true ∨ w = [120] ∨ w = [121]
theorem wd_run {w : List Nat} (h : isWd w) : w ≠ [] ∧ (∀ c ∈ w, isRun c) ∧ w.length ≤ 12 := by
  rcases h with h | rfl | rfl
  · obtain ⟨h1, h2⟩ := isNum_fig h
    refine ⟨h1, fun c hc => .inl (h2 c hc), ?_⟩
    cases w with
    | nil => simp
    | cons c r =>
      rw [isNum, Bool.and_eq_true, Bool.and_eq_true] at h
      exact of_decide_eq_true h.1.1
  · exact ⟨by simp, fun c hc => by rw [List.mem_singleton.mp hc]; decide, by simp⟩
  · exact ⟨by simp, fun c hc => by rw [List.mem_singleton.mp hc]; decide, by simp⟩
theorem mem_words {c : Nat} (h : c = 120 ∨ c = 121) : memD (.str (tx [c])) (.tuple [.str "not", .str "and", .str "or", .str "some", .str "all", .str "x", .str "y"]) = .ok true := by
  have e : memD (.str (tx [c])) (.tuple [.str "not", .str "and", .str "or", .str "some", .str "all", .str "x", .str "y"]) = if SeqAt.shaped (.str (tx [c])) = true ∧ SeqAt.shaped (.tuple [.str "not", .str "and", .str "or", .str "some", .str "all", .str "x", .str "y"]) = true then .ok ([PyData.str "not", .str "and", .str "or", .str "some", .str "all", .str "x", .str "y"].any fun z => PyData.eqv z (.str (tx [c]))) else .st := rfl
  rw [e, if_pos ⟨shp (fun d hd => by rw [List.mem_singleton.mp hd]; omega), by decide +kernel⟩]
  rcases h with rfl | rfl <;> congr 1
theorem r_word (n : Nat) {T : List Nat} (hT : T.length ≤ 10000) {i j : Nat} (hij : i ≤ j) (hj : j ≤ T.length) (hw : isWd ((T.drop i).take (j - i))) (h1 : ∀ k, i ≤ k → k < j → ∃ c, T[k]? = some c ∧ isRun c) (h2 : ∀ c, T[j]? = some c → ¬ isRun c) :
    runF pr (n + 2) k_mark_at [.str (tx T), .int (i : Int)] = .ok (.str (tx ((T.drop i).take (j - i)))) := by
  rw [st_mark_at]
  have g0 : (tbl pr (n + 1)).gl 0 = some (.str smS) := rfl
  have g1 : (tbl pr (n + 1)).gl 1 = some (.str figS) := rfl
  have g2 : (tbl pr (n + 1)).gl 2 = some (.tuple [.str "not", .str "and", .str "or", .str "some", .str "all", .str "x", .str "y"]) := rfl
  have ad : binV .add (.cl (.str figS)) (.cl (.str smS)) = .ok (.cl (.str (figS ++ smS))) := if_pos (show figS.length + smS.length ≤ 16777216 by decide +kernel)
  have rf := r_run_from n (z := figS ++ smS) (fun c => by rw [← Array.mem_toList_iff]; exact mem_run c) hT hij hj h1 h2
  have rn := r_is_number n (l := (T.drop i).take (j - i)) (by have := (wd_run hw).2.2; omega)
  obtain ⟨w1, _, _⟩ := wd_run hw
  generalize (T.drop i).take (j - i) = w at *
  have ee : eqD (.str (tx w)) (.str "") = .ok false := by rw [lite, eq_tx, decide_eq_false w1]
  generalize figS = z1 at *
  generalize smS = z2 at *
  generalize z1 ++ z2 = z3 at *
  cases hn : isNum w with
  | true =>
    rw [hn] at rn
    simp [b_mark_at, g0, g1, ad, rf, ee, rn]
  | false =>
    rw [hn] at rn
    have hx : ∃ c, w = [c] ∧ (c = 120 ∨ c = 121) := by
      rcases hw with h | rfl | rfl
      · rw [hn] at h; cases h
      · exact ⟨120, rfl, .inl rfl⟩
      · exact ⟨121, rfl, .inr rfl⟩
    obtain ⟨c, rfl, hc⟩ := hx
    have mw := mem_words hc
    simp [b_mark_at, g0, g1, g2, ad, rf, ee, rn, mw]
theorem sg_not {c : Nat} (h : isSg c) : ¬ isRun c ∧ c < 1114112 := by
  rcases h with rfl | rfl | rfl | rfl <;> exact ⟨by decide, by decide⟩
theorem two_no {l : List Nat} (h : ∀ c ∈ l, c < 1114112) (h2 : l.head? ≠ some 60 ∧ l.head? ≠ some 62 ∧ l.head? ≠ some 33) : memD (.str (tx l)) (.tuple [.str "<=", .str ">=", .str "!="]) = .ok false := by
  have e : memD (.str (tx l)) (.tuple [.str "<=", .str ">=", .str "!="]) = if SeqAt.shaped (.str (tx l)) = true ∧ SeqAt.shaped (.tuple [.str "<=", .str ">=", .str "!="]) = true then .ok ([PyData.str "<=", .str ">=", .str "!="].any fun z => PyData.eqv z (.str (tx l))) else .st := rfl
  rw [e, if_pos ⟨shp h, by decide +kernel⟩]
  have q : ∀ (a : Str) (x y : Nat), a = tx [x, y] → l.head? ≠ some x → PyData.eqv (.str a) (.str (tx l)) = false := fun a x y ea hx => by
    rw [PyData.eqv, ea]
    refine beq_eq_false_iff_ne.mpr fun z => hx ?_
    rw [← tx_inj.mp z]
    rfl
  have q1 := q "<=" 60 61 (by decide +kernel) h2.1
  have q2 := q ">=" 62 61 (by decide +kernel) h2.2.1
  have q3 := q "!=" 33 61 (by decide +kernel) h2.2.2
  show Res.ok ((PyData.eqv (.str "<=") (.str (tx l))) || ((PyData.eqv (.str ">=") (.str (tx l))) || ((PyData.eqv (.str "!=") (.str (tx l))) || false))) = _
  rw [q1, q2, q3]
  rfl
abbrev sgS : Str := "+-*^()[]<=>"
theorem sign_sg {c : Nat} (h : isSg c) : memD (.str (tx [c])) (.str sgS) = .ok true := by
  have e : memD (.str (tx [c])) (.str sgS) = .ok (decide (c ∈ sgS.cps.toList)) := rfl
  rw [e]
  rcases h with rfl | rfl | rfl | rfl <;> congr 1
theorem r_sign (n : Nat) {T : List Nat} (hT : T.length ≤ 10000) (hA : ∀ c ∈ T, c < 1114112) {i c : Nat} (hc : T[i]? = some c) (hs : isSg c) :
    runF pr (n + 2) k_mark_at [.str (tx T), .int (i : Int)] = .ok (.str (tx [c])) := by
  rw [st_mark_at]
  have hi : i < T.length := (List.getElem?_eq_some_iff.mp hc).1
  have g0 : (tbl pr (n + 1)).gl 0 = some (.str smS) := rfl
  have g1 : (tbl pr (n + 1)).gl 1 = some (.str figS) := rfl
  have g3 : (tbl pr (n + 1)).gl 3 = some (.str sgS) := rfl
  have ad : binV .add (.cl (.str figS)) (.cl (.str smS)) = .ok (.cl (.str (figS ++ smS))) := if_pos (show figS.length + smS.length ≤ 16777216 by decide +kernel)
  have rf := r_run_from n (z := figS ++ smS) (fun c => by rw [← Array.mem_toList_iff]; exact mem_run c) hT (Nat.le_refl i) (by omega) (fun k h1 h2 => by omega) (fun d hd => by rw [hc] at hd; cases hd; exact (sg_not hs).1)
  rw [Nat.sub_self, List.take_zero] at rf
  have ee : eqD (.str (tx [])) (.str "") = .ok true := by rw [lite, eq_tx]; rfl
  have sl := sl_tx hT i (i + 2)
  have ei : ((i + 2 : Nat) : Int) = (i : Int) + 2 := by omega
  rw [ei] at sl
  have hd : ((T.drop i).take (i + 2 - i)).head? = some c := by
    rw [show i + 2 - i = 2 by omega, List.drop_eq_getElem_cons hi]
    have := List.getElem?_eq_getElem hi
    rw [hc] at this
    cases this
    rfl
  have tn := two_no (l := (T.drop i).take (i + 2 - i)) (fun d hd => hA d (List.mem_of_mem_drop (List.mem_of_mem_take hd))) (by rw [hd]; rcases hs with rfl | rfl | rfl | rfl <;> simp)
  have ix := idx_tx hT hc
  have ms := sign_sg hs
  generalize (T.drop i).take (i + 2 - i) = w at *
  generalize figS = z1 at *
  generalize smS = z2 at *
  generalize z1 ++ z2 = z3 at *
  generalize sgS = z4 at *
  simp [b_mark_at, g0, g1, g3, ad, rf, ee, -sl_s, sl, tn, -idx_s, ix, -memD_s, ms]

theorem atI_m1 (ds : List D) (d : D) : atI (ds ++ [d]) (-1) = some d := by
  unfold atI ixN
  rw [if_neg (by omega), if_pos (by simp; omega)]
  have e : (-1 + ((ds ++ [d]).length : Int)).toNat = ds.length := by simp; omega
  rw [e]
  simp
def okTok (p : List Nat) : Prop := p = [32] ∨ (∃ c, p = [c] ∧ isSg c) ∨ isWd p
def okPs : List (List Nat) → Prop
  | [] => True
  | p :: ps => okTok p ∧ (isWd p → ∀ c, ps.flatten.head? = some c → ¬ isRun c) ∧ okPs ps
def mkP (ps : List (List Nat)) : List (List Nat) := ps.filter fun p => decide (p ≠ [32])
def mD (ms : List (List Nat)) : List D := ms.map fun w => .str (tx w)
theorem mD_snoc (ms : List (List Nat)) (w : List Nat) : mD ms ++ [.str (tx w)] = mD (ms ++ [w]) := by simp [mD]
theorem mD_len (ms : List (List Nat)) : (mD ms).length = ms.length := by simp [mD]
theorem lf_mD (ms : List (List Nat)) : lfAll (mD ms) = true := by
  induction ms with
  | nil => rfl
  | cons w ms ih =>
    show (lf (.str (tx w)) && lfAll (mD ms)) = true
    rw [ih]
    rfl
theorem r_marks_loop (n : Nat) {T : List Nat} (hT : T.length ≤ 10000) (hA : ∀ c ∈ T, c < 1114112) : ∀ (ps : List (List Nat)) (pre : List Nat) (found : List (List Nat)), T = pre ++ ps.flatten → okPs ps → found.length + ps.length ≤ 5000 →
    whS (evt (tbl pr (n + 2)) c_marks_of_2) (exS (tbl pr (n + 2)) w_marks_of_2) [some (.sh (.str (tx T))), some (.ow (mD found)), some (.sh (.int (pre.length : Int))), none]
      = .nx [some (.sh (.str (tx T))), some (.ow (mD (found ++ mkP ps))), some (.sh (.int (T.length : Int))), none] := by
  intro ps
  induction ps with
  | nil =>
    intro pre found eT _ _
    have eT : T = pre := by simpa using eT
    subst eT
    have e : mkP [] = [] := rfl
    rw [e, List.append_nil]
    refine wh_end ?_
    simp [c_marks_of_2, len_tx hT]
  | cons p ps ih =>
    intro pre found eT ok hl
    obtain ⟨ok1, ok2, ok3⟩ := ok
    rw [List.length_cons] at hl
    have eT2 : T = (pre ++ p) ++ ps.flatten := by rw [eT]; simp
    have hne : p ≠ [] := by
      rcases ok1 with rfl | ⟨c, rfl, _⟩ | h
      · simp
      · simp
      · exact (wd_run h).1
    have hlt : (pre.length : Int) < (T.length : Int) := by
      rw [eT2]
      have := List.length_pos_iff.mpr hne
      simp
      omega
    obtain ⟨c, r, rfl⟩ : ∃ c r, p = c :: r := List.exists_cons_of_ne_nil hne
    have hc : T[pre.length]? = some c := by rw [eT]; simp
    have ix := idx_tx hT hc
    have step : ∀ w, (c :: r) = w → w ≠ [32] → c ≠ 32 → runF pr (n + 2) k_mark_at [.str (tx T), .int (pre.length : Int)] = .ok (.str (tx w)) → w.length ≤ 10000 →
        whS (evt (tbl pr (n + 2)) c_marks_of_2) (exS (tbl pr (n + 2)) w_marks_of_2) [some (.sh (.str (tx T))), some (.ow (mD found)), some (.sh (.int (pre.length : Int))), none]
      = .nx [some (.sh (.str (tx T))), some (.ow (mD (found ++ mkP ((c :: r) :: ps)))), some (.sh (.int (T.length : Int))), none] := by
      intro w ew hw32 hc32 rm lw
      have ee : eqD (.str (tx [c])) (.str " ") = .ok false := by rw [litsp, eq_tx, decide_eq_false (by simpa using hc32)]
      have sm : Sm (found.length + 1) := sm_k (by omega)
      have am := atI_m1 (mD found) (.str (tx w))
      rw [mD_snoc] at am
      have lw' := len_tx lw
      have em : found ++ mkP ((c :: r) :: ps) = (found ++ [w]) ++ mkP ps := by
        rw [ew, mkP, List.filter_cons, if_pos (by simpa using hw32)]
        simp [mkP]
      rw [em]
      have ihw := ih (pre ++ w) (found ++ [w]) (by rw [← ew]; exact eT2) ok3 (by simp; omega)
      rw [List.length_append] at ihw
      rw [show ((pre.length + w.length : Nat) : Int) = (pre.length : Int) + (w.length : Int) by omega] at ihw
      rw [wh_step (η' := [some (.sh (.str (tx T))), some (.ow (mD (found ++ [w]))), some (.sh (.int ((pre.length : Int) + (w.length : Int)))), none])]
      · exact ihw
      · simp [c_marks_of_2, len_tx hT, hlt]
      · simp [w_marks_of_2, -idx_s, ix, ee, rm, mD_len, sm, mD_snoc, am, lw']
    rcases ok1 with h | ⟨d, h, hs⟩ | h
    · have ec : c = 32 := by
        have := congrArg List.head? h
        simpa using this
      have er : r = [] := by
        have := congrArg List.tail h
        simpa using this
      subst ec er
      have ee : eqD (.str (tx [32])) (.str " ") = .ok true := by rw [litsp, eq_tx]; rfl
      have em : found ++ mkP ([32] :: ps) = found ++ mkP ps := by simp [mkP]
      rw [em]
      have ihw := ih (pre ++ [32]) found eT2 ok3 (by omega)
      rw [List.length_append, show ((pre.length + [32].length : Nat) : Int) = (pre.length : Int) + 1 by simp] at ihw
      rw [wh_step (η' := [some (.sh (.str (tx T))), some (.ow (mD found)), some (.sh (.int ((pre.length : Int) + 1))), none])]
      · exact ihw
      · simp [c_marks_of_2, len_tx hT, hlt]
      · simp [w_marks_of_2, -idx_s, ix, ee]
    · have ec : c = d := by
        have := congrArg List.head? h
        simpa using this
      have er : r = [] := by
        have := congrArg List.tail h
        simpa using this
      subst ec er
      have h32 : c ≠ 32 := by rcases hs with rfl | rfl | rfl | rfl <;> decide
      exact step [c] rfl (by simpa using h32) h32 (r_sign n hT hA hc hs) (by simp)
    · obtain ⟨h1, h2, h3⟩ := wd_run h
      have hrun := h2 c List.mem_cons_self
      have h32 : c ≠ 32 := fun z => by rw [z] at hrun; exact absurd hrun (by decide)
      have eq : (T.drop pre.length).take (pre.length + (c :: r).length - pre.length) = c :: r := by
        rw [eT, List.drop_left, Nat.add_sub_cancel_left, List.flatten_cons, List.take_left]
      have rw1 := r_word n hT (i := pre.length) (j := pre.length + (c :: r).length) (by omega) (by rw [eT]; simp) (by rw [eq]; exact h)
        (fun k k1 k2 => by
          have hk : k - pre.length < (c :: r).length := by omega
          refine ⟨(c :: r)[k - pre.length], ?_, h2 _ (List.getElem_mem hk)⟩
          rw [eT, List.flatten_cons, List.getElem?_append_right k1, List.getElem?_append_left hk, List.getElem?_eq_getElem hk])
        (fun d hd => by
          refine ok2 h d ?_
          rw [eT2, ← List.length_append, List.getElem?_append_right (Nat.le_refl _), Nat.sub_self] at hd
          rw [List.head?_eq_getElem?]
          exact hd)
      rw [eq] at rw1
      exact step (c :: r) rfl (fun z => h32 (by have := congrArg List.head? z; simpa using this)) h32 rw1 (by omega)

theorem tok_chars {p : List Nat} (h : okTok p) : ∀ c ∈ p, c = 32 ∨ isSg c ∨ isRun c := by
  rcases h with rfl | ⟨d, rfl, hs⟩ | h
  · intro c hc
    exact .inl (List.mem_singleton.mp hc)
  · intro c hc
    rw [List.mem_singleton.mp hc]
    exact .inr (.inl hs)
  · exact fun c hc => .inr (.inr ((wd_run h).2.1 c hc))
theorem ps_chars : ∀ {ps : List (List Nat)}, okPs ps → ∀ p ∈ ps, okTok p
  | [], _, p, h => (List.not_mem_nil h).elim
  | q :: ps, ok, p, h => by
    rcases List.mem_cons.mp h with rfl | h
    · exact ok.1
    · exact ps_chars ok.2.2 p h
theorem r_check_open (n : Nat) (ms : List (List Nat)) (a b : Nat) (h : ∀ w ∈ ms, w ≠ [a] ∧ w ≠ [b]) : runF pr (n + 1) k_check_open [.list (mD ms), .str (tx [a, b])] = .ok .none := by
  rw [st_check_open]
  have l2 : ([a, b] : List Nat).length ≤ 10000 := by simp
  have i0 := idx_tx l2 (k := 0) (c := a) rfl
  have i1 := idx_tx l2 (k := 1) (c := b) rfl
  have i0 : idxV (.cl (.str (tx [a, b]))) (.cl (.int 0)) = .ok (.cl (.str (tx [a]))) := i0
  have i1 : idxV (.cl (.str (tx [a, b]))) (.cl (.int 1)) = .ok (.cl (.str (tx [b]))) := i1
  have g5 : (tbl pr n).gl 5 = some (.int 20) := rfl
  obtain ⟨η', e, u, rfl⟩ := loop_inv (f := foB (tbl pr n) 3 w_check_open_1) (I := fun η => ∃ u, η = [some (.sh (.list (mD ms))), some (.sh (.str (tx [a, b]))), some (.sh (.int 0)), u]) (ds := mD ms)
    (fun d η hd hI => by
      obtain ⟨u, rfl⟩ := hI
      obtain ⟨w, hw, rfl⟩ := List.mem_map.mp hd
      obtain ⟨h1, h2⟩ := h w hw
      have e1 : eqD (.str (tx w)) (.str (tx [a])) = .ok false := by rw [eq_tx, decide_eq_false h1]
      have e2 : eqD (.str (tx w)) (.str (tx [b])) = .ok false := by rw [eq_tx, decide_eq_false h2]
      refine ⟨_, ?_, some (.sh (.str (tx w))), rfl⟩
      simp [foB, w_check_open_1, -idx_s, i0, i1, e1, e2, g5]) [some (.sh (.list (mD ms))), some (.sh (.str (tx [a, b]))), some (.sh (.int 0)), none] ⟨none, rfl⟩
  simp [b_check_open, e]
theorem r_marks_of (n : Nat) (ps : List (List Nat)) (ok : okPs ps) (hl : ps.flatten.length ≤ 5000) (hp : ps.length ≤ 5000) : runF pr (n + 3) k_marks_of [.str (tx ps.flatten)] = .ok (.list (mD (mkP ps))) := by
  rw [st_marks_of]
  have hA : ∀ c ∈ ps.flatten, c < 1114112 := fun c hc => by
    obtain ⟨p, h1, h2⟩ := List.mem_flatten.mp hc
    rcases tok_chars (ps_chars ok p h1) c h2 with rfl | h | h
    · decide
    · exact (sg_not h).2
    · rcases h with ⟨_, h⟩ | ⟨_, h⟩ <;> omega
  have lp := r_marks_loop n (T := ps.flatten) (by omega) hA ps [] [] (by simp) ok (by simpa using hp)
  have lp : whS (evt (tbl pr (n + 2)) c_marks_of_2) (exS (tbl pr (n + 2)) w_marks_of_2) [some (.sh (.str (tx ps.flatten))), some (.ow []), some (.sh (.int 0)), none]
      = .nx [some (.sh (.str (tx ps.flatten))), some (.ow (mD (mkP ps))), some (.sh (.int (ps.flatten.length : Int))), none] := lp
  have no : ∀ c, ¬ isSg c → ¬ isRun c → c ≠ 32 → ∀ w ∈ mkP ps, w ≠ [c] := fun c h1 h2 h3 w hw e => by
    have hm := (List.mem_filter.mp hw).1
    rcases tok_chars (ps_chars ok w hm) c (by rw [e]; exact List.mem_singleton.mpr rfl) with h | h | h
    · exact h3 h
    · exact h1 h
    · exact h2 h
  have c1 := r_check_open (n + 1) (mkP ps) 40 41 fun w hw => ⟨no 40 (by unfold isSg; omega) (by decide) (by decide) w hw, no 41 (by unfold isSg; omega) (by decide) (by decide) w hw⟩
  have c2 := r_check_open (n + 1) (mkP ps) 91 93 fun w hw => ⟨no 91 (by unfold isSg; omega) (by decide) (by decide) w hw, no 93 (by unfold isSg; omega) (by decide) (by decide) w hw⟩
  have b1 : ("()" : Str) = tx [40, 41] := by decide +kernel
  have b2 : ("[]" : Str) = tx [91, 93] := by decide +kernel
  rw [← b1] at c1
  rw [← b2] at c2
  simp [b_marks_of, lp, loopF, foB, w_marks_of_1, c1, c2, lf_mD]
theorem r_mark_of (n : Nat) (ms : List (List Nat)) (k : Nat) : runF pr (n + 1) k_mark_of [.list (mD ms), .int (k : Int)] = .ok (.str (tx (ms[k]?.getD []))) := by
  rw [st_mark_of]
  by_cases h : k < ms.length
  · have h' : (k : Int) < (ms.length : Int) := by omega
    have a : atI (mD ms) (k : Int) = some (.str (tx ms[k])) := atI_nat (by rw [mD, List.getElem?_map, List.getElem?_eq_getElem h]; rfl)
    simp [b_mark_of, mD_len, h', a, h]
  · have h' : ¬ (k : Int) < (ms.length : Int) := by omega
    have e : ms[k]?.getD [] = [] := by rw [List.getElem?_eq_none (by omega)]; rfl
    rw [e, ← lite]
    simp [b_mark_of, mD_len, h]

/-! ### boards of one product -/
abbrev Bd := List (List Int)
def mb (n : Int) (a u : Nat) : Bd := if n = 0 then [] else List.replicate u [] ++ [List.replicate a 0 ++ [n]]
theorem bv_mb (n : Int) (a u : Nat) (x y : Int) : bv (mb n a u) x y = n * x ^ a * y ^ u := by
  unfold mb
  split
  · rename_i h
    rw [h, bv_nil, Int.zero_mul, Int.zero_mul]
  · unfold bv
    rw [List.map_append, List.map_replicate, List.map_cons, List.map_nil, vl_append, vl_append, vl_nil, vl_zeros, vl_zeros, List.length_replicate, List.length_replicate]
    show 0 + y ^ u * ((0 + x ^ a * (n + x * 0)) + y * 0) = _
    rw [Int.mul_zero, Int.mul_zero, Int.add_zero, Int.add_zero, Int.zero_add, Int.zero_add]
    ac_rfl
theorem row_mb {n : Int} (h : n ≠ 0) (a : Nat) : isRow (List.replicate a 0 ++ [n]) := isRow_of (by simpa using h)
theorem rows_mb {n : Int} {a u : Nat} : ∀ r ∈ mb n a u, isRow r ∧ r.length ≤ a + 1 ∧ ∀ c ∈ r, c.natAbs ≤ n.natAbs := by
  intro r hr
  unfold mb at hr
  split at hr
  · cases hr
  · rename_i h
    rcases List.mem_append.mp hr with hr | hr
    · rw [(List.mem_replicate.mp hr).2]
      exact ⟨rfl, Nat.zero_le _, fun c hc => (List.not_mem_nil hc).elim⟩
    · rw [List.mem_singleton.mp hr]
      refine ⟨row_mb h a, by simp, fun c hc => ?_⟩
      rcases List.mem_append.mp hc with hc | hc
      · rw [(List.mem_replicate.mp hc).2]
        exact Nat.zero_le _
      · rw [List.mem_singleton.mp hc]
        exact Nat.le_refl _
theorem len_mb (n : Int) (a u : Nat) : (mb n a u).length ≤ u + 1 := by
  unfold mb
  split <;> simp
theorem isBd_mb (n : Int) (a u : Nat) : isBd (mb n a u) := by
  refine ⟨fun r hr => (rows_mb r hr).1, ?_⟩
  unfold mb
  split
  · exact .inl rfl
  · right
    simp
theorem RowsL_mb {n : Int} {a u : Nat} (ha : a ≤ 90) : RowsL 100 (mb n a u) := fun r hr => ⟨(rows_mb r hr).1, by have := (rows_mb r hr).2.1; omega⟩
theorem bdB_mb {n : Int} {a u : Nat} (hn : n.natAbs ≤ 2 ^ 1000) : bdB 1000 (mb n a u) := fun r hr c hc => Nat.le_trans ((rows_mb r hr).2.2 c hc) hn
theorem isBd_mul {L : Nat} {B C : List (List Int)} (hB : RowsL L B) (hC : RowsL L C) : isBd (trimB (btR B C)) := isBd_trim fun r hr => (btR_rows hB hC r hr).1
theorem isBd_sub (B C : List (List Int)) : isBd (trimB (subB B C)) := isBd_trim (rows_subB B C)
theorem isBd_add (B C : List (List Int)) : isBd (trimB (addB B C)) := isBd_trim (rows_addB B C)
theorem r_mb_times (m : Nat) {n p : Int} {a u b v : Nat} (ha : a ≤ 90) (hu : u ≤ 90) (hb : b ≤ 90) (hv : v ≤ 90) (hn : n.natAbs ≤ 2 ^ 1000) (hp : p.natAbs ≤ 2 ^ 1000) :
    runF pr (m + 3) k_board_times [.tuple (rws (mb n a u)), .tuple (rws (mb p b v))] = .ok (.tuple (rws (mb (n * p) (a + b) (u + v)))) := by
  rw [r_board_times m _ _ (RowsL_mb ha) (RowsL_mb hb) (by have := len_mb n a u; omega) (by have := len_mb p b v; omega) (bdB_mb hn) (bdB_mb hp)]
  have e : trimB (btR (mb n a u) (mb p b v)) = mb (n * p) (a + b) (u + v) := bv_inj (isBd_mul (RowsL_mb ha) (RowsL_mb hb)) (isBd_mb _ _ _) fun x y => by
    rw [bv_trimB, bv_btR, bv_mb, bv_mb, bv_mb, Int.pow_add, Int.pow_add]
    ac_rfl
  rw [e]
theorem r_mb_neg (m : Nat) {n : Int} {a u : Nat} (ha : a ≤ 90) (hu : u ≤ 90) : runF pr (m + 3) k_board_minus [.tuple [], .tuple (rws (mb n a u))] = .ok (.tuple (rws (mb (-n) a u))) := by
  have h := r_board_minus m [] (mb n a u) (fun r hr => (List.not_mem_nil hr).elim) (RowsL_mb ha) (by simp) (by have := len_mb n a u; omega)
  have e : trimB (subB [] (mb n a u)) = mb (-n) a u := bv_inj (isBd_sub _ _) (isBd_mb _ _ _) fun x y => by
    rw [bv_trimB, bv_subB, bv_mb, bv_mb, bv_nil, Int.zero_sub, Int.neg_mul, Int.neg_mul]
  rw [e] at h
  exact h
theorem two1000 : (1 : Int).natAbs ≤ 2 ^ 1000 := Nat.one_le_two_pow
theorem r_power (m : Nat) {a u : Nat} (ha : a ≤ 1) (hu : u ≤ 1) (k : Nat) (hk : k ≤ 9) : runF pr (m + 4) k_power_of [.tuple (rws (mb 1 a u)), .int (k : Int)] = .ok (.tuple (rws (mb 1 (k * a) (k * u)))) := by
  rw [st_power_of]
  have g8 : (tbl pr (m + 3)).gl 8 = some (.tuple (rws (mb 1 0 0))) := rfl
  have hk0 : small (k : Int) := ⟨by omega, by omega⟩
  obtain ⟨η', e, u', rfl⟩ := loop_rng (f := foB (tbl pr (m + 3)) 3 w_power_of_1) (lo := 0) (n := k)
    (R := fun j η => ∃ u', η = [some (.sh (.tuple (rws (mb 1 a u)))), some (.sh (.int (k : Int))), some (.sh (.tuple (rws (mb 1 (j * a) (j * u))))), u'])
    (fun j η hj hR => by
      obtain ⟨u', rfl⟩ := hR
      have h1 : j * a ≤ 9 := Nat.le_trans (Nat.mul_le_mul (show j ≤ 9 by omega) ha) (by omega)
      have h2 : j * u ≤ 9 := Nat.le_trans (Nat.mul_le_mul (show j ≤ 9 by omega) hu) (by omega)
      have t := r_mb_times m (n := 1) (p := 1) (a := j * a) (u := j * u) (b := a) (v := u) (by omega) (by omega) (by omega) (by omega) two1000 two1000
      rw [Int.mul_one, ← Nat.succ_mul, ← Nat.succ_mul] at t
      generalize mb 1 (j * a) (j * u) = X at *
      generalize mb 1 (j.succ * a) (j.succ * u) = Y at *
      generalize mb 1 a u = Z at *
      refine ⟨_, ?_, some (.sh (.int (0 + (j : Int)))), rfl⟩
      simp [foB, w_power_of_1, t]) [some (.sh (.tuple (rws (mb 1 a u)))), some (.sh (.int (k : Int))), some (.sh (.tuple (rws (mb 1 0 0)))), none] ⟨none, by rw [Nat.zero_mul, Nat.zero_mul]⟩
  generalize mb 1 (k * a) (k * u) = X at *
  generalize mb 1 a u = Z at *
  generalize mb 1 0 0 = W at *
  simp [b_power_of, g8, hk0, e, lfAll_rws]

/-! ### factors -/
theorem mark_at' (n : Nat) (ms : List (List Nat)) (k : Nat) {z : Int} {w : List Nat} (hz : z = (k : Int)) (hw : ms[k]?.getD [] = w) : runF pr (n + 1) k_mark_of [.list (mD ms), .int z] = .ok (.str (tx w)) := by
  rw [hz, r_mark_of, hw]
theorem drop_get {ms L : List (List Nat)} {i : Nat} (h : ms.drop i = L) (j : Nat) : ms[i + j]?.getD [] = L[j]?.getD [] := by
  rw [← h, List.getElem?_drop]
theorem numL_lead : ∀ n, 1 ≤ n → (TL.numL n).head? ≠ some 48 := by
  intro n
  induction n using Nat.strongRecOn with
  | _ n ih =>
    intro h
    by_cases h10 : n < 10
    · rw [TL.numL_lt h10]
      simp
      omega
    · rw [TL.numL_step (by omega)]
      have hd := ih (n / 10) (by omega) (by omega)
      have ne := TL.numL_ne (n / 10)
      cases e : TL.numL (n / 10) with
      | nil => exact absurd e ne
      | cons c r =>
        rw [e] at hd
        simpa using hd
theorem isNum_num {n : Nat} (h : n < 10 ^ 12) : isNum (TL.numL n) = true := by
  have hl := TL.numL_len (k := 12) (by decide) h
  have hd := TL.numL_digits n
  have hz : n = 0 ∨ 1 ≤ n := by omega
  have ne := TL.numL_ne n
  rcases hz with rfl | hz
  · rw [TL.numL_lt (by decide)]
    rfl
  · have hh := numL_lead n hz
    cases e : TL.numL n with
    | nil => exact absurd e ne
    | cons c r =>
      rw [e] at hl hd hh
      have hc : ¬ c = 48 := fun z => hh (by rw [z]; rfl)
      rw [isNum, Bool.and_eq_true, Bool.and_eq_true]
      refine ⟨⟨decide_eq_true (by simpa using hl), by rw [decide_eq_false hc]; rfl⟩, List.all_eq_true.mpr fun d hdm => decide_eq_true (hd d hdm)⟩
theorem tx_num (n : Nat) : Str.ofString (toString ((n : Nat) : Int)) = tx (TL.numL n) := by
  have h := TL.tl_num n
  have e : (Str.ofString (toString ((n : Nat) : Int))) = tx (TL.tl (Str.ofString (toString ((n : Nat) : Int)))) := (TL.mk_tl _).symm
  rw [e, h]
theorem int_num {n : Nat} (h : n < 10 ^ 12) : biV .int1 [.cl (.str (tx (TL.numL n)))] = .ok (.cl (.int (n : Int))) := by
  have hl := TL.numL_len (k := 12) (by decide) h
  have e : biV .int1 [.cl (.str (tx (TL.numL n)))] = if SiOk (tx (TL.numL n)) then (oOk (PySem.intText? (tx (TL.numL n)))).map fun n => .cl (.int n) else .st := rfl
  have i := TL.int_num (n := n) (by omega)
  rw [tx_num] at i
  have sk : SiOk (tx (TL.numL n)) := by
    show (tx (TL.numL n)).length ≤ 640
    rw [tx_len]
    omega
  rw [e, if_pos sk, i]
  rfl
theorem r_atom_num (m : Nat) (ms : List (List Nat)) (i : Nat) {n : Nat} (h : ms[i]?.getD [] = TL.numL n) (hn : n < 10 ^ 12) :
    runF pr (m + 2) k_atom_at [.list (mD ms), .int (i : Int)] = .ok (.tuple [.tuple (rws (mb (n : Int) 0 0)), .int ((i : Int) + 1)]) := by
  rw [st_atom_at]
  have e1 := mark_at' m ms i rfl h
  have e2 := r_is_number m (l := TL.numL n) (by have := TL.numL_len (k := 12) (by decide) hn; omega)
  rw [isNum_num hn] at e2
  have e3 := int_num hn
  generalize tx (TL.numL n) = w at *
  by_cases h0 : n = 0
  · subst h0
    have z : rws (mb ((0 : Nat) : Int) 0 0) = [] := rfl
    rw [z]
    have e3 : biV .int1 [.cl (.str w)] = .ok (.cl (.int 0)) := e3
    simp [b_atom_at, e1, e2, e3]
  · have z : rws (mb (n : Int) 0 0) = [.tuple [.int (n : Int)]] := by
      unfold mb
      rw [if_neg (by omega)]
      rfl
    rw [z]
    simp [b_atom_at, e1, e2, e3, h0]
def cl (l : Bool) : Nat := if l = true then 121 else 120
def la (l : Bool) : Nat := if l = true then 0 else 1
def lu (l : Bool) : Nat := if l = true then 1 else 0
theorem r_atom_let (m : Nat) (ms : List (List Nat)) (i : Nat) (l : Bool) (h : ms[i]?.getD [] = [cl l]) :
    runF pr (m + 2) k_atom_at [.list (mD ms), .int (i : Int)] = .ok (.tuple [.tuple (rws (mb 1 (la l) (lu l))), .int ((i : Int) + 1)]) := by
  rw [st_atom_at]
  have e1 := mark_at' m ms i rfl h
  have e2 := r_is_number m (l := [cl l]) (by simp)
  have lx : ("x" : Str) = tx [120] := by decide +kernel
  have ly : ("y" : Str) = tx [121] := by decide +kernel
  cases l with
  | false =>
    have n1 : isNum [cl false] = false := by decide
    have q1 : eqD (.str (tx [cl false])) (.str "x") = .ok true := by rw [lx, eq_tx]; rfl
    rw [n1] at e2
    have z : rws (mb 1 (la false) (lu false)) = [.tuple [.int 0, .int 1]] := rfl
    rw [z]
    generalize tx [cl false] = w at *
    simp [b_atom_at, e1, e2, q1]
  | true =>
    have n1 : isNum [cl true] = false := by decide
    have q1 : eqD (.str (tx [cl true])) (.str "x") = .ok false := by rw [lx, eq_tx]; rfl
    have q2 : eqD (.str (tx [cl true])) (.str "y") = .ok true := by rw [ly, eq_tx]; rfl
    rw [n1] at e2
    have z : rws (mb 1 (la true) (lu true)) = [.tuple [], .tuple [.int 1]] := rfl
    rw [z]
    generalize tx [cl true] = w at *
    simp [b_atom_at, e1, e2, q1, q2]
inductive Fa where
  | nm (n : Nat)
  | lt (l : Bool) (k : Nat)
def ftk : Fa → List (List Nat)
  | .nm n => [TL.numL n]
  | .lt l k => if k = 1 then [[cl l]] else [[cl l], [94], TL.numL k]
def okF : Fa → Prop
  | .nm n => n < 10 ^ 12
  | .lt _ k => 1 ≤ k ∧ k ≤ 9
def fc : Fa → Int
  | .nm n => n
  | .lt _ _ => 1
def fa : Fa → Nat
  | .nm _ => 0
  | .lt l k => k * la l
def fu : Fa → Nat
  | .nm _ => 0
  | .lt l k => k * lu l
def sgT (s : Bool) : List (List Nat) := if s = true then [[45]] else []
def sgN (s : Bool) (n : Int) : Int := if s = true then -n else n

theorem ftk_lt (l : Bool) (k : Nat) : ftk (.lt l k) = if k = 1 then [[cl l]] else [[cl l], [94], TL.numL k] := rfl
theorem ftk_head (f : Fa) (hf : okF f) : ∃ t r, ftk f = t :: r ∧ t ≠ [45] ∧ t ≠ [94] ∧ t ≠ [42] := by
  cases f with
  | nm n =>
    refine ⟨_, [], rfl, ?_⟩
    have hd := TL.numL_digits n
    refine ⟨fun z => ?_, fun z => ?_, fun z => ?_⟩ <;>
    · rw [z] at hd
      have := hd _ (List.mem_singleton.mpr rfl)
      omega
  | lt l k =>
    rw [ftk_lt]
    by_cases h : k = 1
    · rw [if_pos h]
      exact ⟨_, _, rfl, by cases l <;> decide, by cases l <;> decide, by cases l <;> decide⟩
    · rw [if_neg h]
      exact ⟨_, _, rfl, by cases l <;> decide, by cases l <;> decide, by cases l <;> decide⟩
theorem litm : ("-" : Str) = tx [45] := by decide +kernel
theorem lith : ("^" : Str) = tx [94] := by decide +kernel
theorem lits : ("*" : Str) = tx [42] := by decide +kernel
theorem eq_m (w : List Nat) : eqD (.str (tx w)) (.str "-") = .ok (decide (w = [45])) := by rw [litm, eq_tx]
theorem eq_h (w : List Nat) : eqD (.str (tx w)) (.str "^") = .ok (decide (w = [94])) := by rw [lith, eq_tx]
theorem eq_s (w : List Nat) : eqD (.str (tx w)) (.str "*") = .ok (decide (w = [42])) := by rw [lits, eq_tx]
/-- a factor, behind the minuses: i the place of its first mark, s the minuses -/
theorem r_factor (m : Nat) (ms : List (List Nat)) (i : Nat) (s : Bool) (f : Fa) (rest : List (List Nat)) (hf : okF f) (h : ms.drop i = sgT s ++ (ftk f ++ rest)) (hr : rest[0]?.getD [] ≠ [94]) :
    runF pr (m + 6) k_factor_at [.list (mD ms), .int (i : Int)] = .ok (.tuple [.tuple (rws (mb (sgN s (fc f)) (fa f) (fu f))), .int ((i + (sgT s ++ ftk f).length : Nat) : Int)]) := by
  obtain ⟨t, r, et, ht, _, _⟩ := ftk_head f hf
  obtain ⟨S, hS⟩ : ∃ S : Nat, S = if s = true then 1 else 0 := ⟨_, rfl⟩
  have hlen : (sgT s).length = S := by rw [hS]; cases s <;> rfl
  have mk : ∀ j, ms[i + S + j]?.getD [] = (ftk f ++ rest)[j]?.getD [] := fun j => by
    have := drop_get h (S + j)
    rw [← Nat.add_assoc] at this
    rw [this, List.getElem?_append_right (by omega), hlen, Nat.add_sub_cancel_left]
  have m0 : ms[i + S]?.getD [] = t := by
    have := mk 0
    rw [et] at this
    exact this
  have g6 : (tbl pr (m + 5)).gl 6 = some (.int 20) := rfl
  rw [st_factor_at]
  have lp : whS (evt (tbl pr (m + 5)) c_factor_at_1) (exS (tbl pr (m + 5)) w_factor_at_1) [some (.sh (.list (mD ms))), some (.sh (.int (i : Int))), some (.sh (.int 0)), none, none, none]
      = .nx [some (.sh (.list (mD ms))), some (.sh (.int (i : Int))), some (.sh (.int (S : Int))), none, none, none] := by
    have done : evt (tbl pr (m + 5)) c_factor_at_1 [some (.sh (.list (mD ms))), some (.sh (.int (i : Int))), some (.sh (.int (S : Int))), none, none, none] = .ok false := by
      have e1 := mark_at' (m + 4) ms (i + S) (z := (i : Int) + (S : Int)) (by omega) m0
      have e2 := eq_m t
      rw [decide_eq_false ht] at e2
      generalize tx t = w at *
      simp [c_factor_at_1, e1, e2]
    cases s with
    | false =>
      have e : S = 0 := hS
      subst e
      exact wh_end done
    | true =>
      have e : S = 1 := hS
      subst e
      have mm : ms[i]?.getD [] = [45] := by
        have := drop_get h 0
        exact this
      have e1 := mark_at' (m + 4) ms i (z := (i : Int)) rfl mm
      have e2 := eq_m [45]
      rw [wh_step (η' := [some (.sh (.list (mD ms))), some (.sh (.int (i : Int))), some (.sh (.int 1)), none, none, none])]
      · exact wh_end done
      · rw [decide_eq_true rfl] at e2
        generalize tx [45] = w at *
        simp [c_factor_at_1, e1, e2]
      · simp [w_factor_at_1]
  have hS1 : S ≤ 1 := by rw [hS]; cases s <;> decide
  have big20 : ¬ ((20 : Int) < (S : Int)) := by omega
  have hm : (S : Int).fmod 2 = if s = true then 1 else 0 := by rw [hS]; cases s <;> rfl
  have atom : ∀ (c : Int) (a u : Nat), runF pr (m + 5) k_atom_at [.list (mD ms), .int ((i + S : Nat) : Int)] = .ok (.tuple [.tuple (rws (mb c a u)), .int (((i + S : Nat) : Int) + 1)]) → a ≤ 9 → u ≤ 9 →
      ∀ nx, ms[i + S + 1]?.getD [] = nx → nx ≠ [94] → runF pr (m + 6) k_factor_at [.list (mD ms), .int (i : Int)] = .ok (.tuple [.tuple (rws (mb (sgN s c) a u)), .int ((i : Int) + (S : Int) + 1)]) := by
    intro c a u eA ha hu nx hx hnx
    have eN := mark_at' (m + 4) ms (i + S + 1) (z := (i : Int) + (S : Int) + 1) (by omega) hx
    have eH := eq_h nx
    rw [decide_eq_false hnx] at eH
    rw [Int.natCast_add] at eA
    have neg := r_mb_neg (m + 2) (n := c) (a := a) (u := u) (by omega) (by omega)
    rw [st_factor_at]
    generalize tx nx = w at *
    cases s with
    | false =>
      have hm : (S : Int).fmod 2 = 0 := hm
      show _ = Res.ok (PyData.tuple [.tuple (rws (mb c a u)), .int ((i : Int) + (S : Int) + 1)])
      generalize mb (-c) a u = Y at *
      generalize mb c a u = X at *
      simp [b_factor_at, lp, g6, big20, eA, eN, eH, hm, lfAll_rws]
    | true =>
      have hm : (S : Int).fmod 2 = 1 := hm
      show _ = Res.ok (PyData.tuple [.tuple (rws (mb (-c) a u)), .int ((i : Int) + (S : Int) + 1)])
      generalize mb (-c) a u = Y at *
      generalize mb c a u = X at *
      simp [b_factor_at, lp, g6, big20, eA, eN, eH, hm, neg, lfAll_rws]
  rw [← st_factor_at]
  cases f with
  | nm n =>
    have eE : ((i + (sgT s ++ ftk (.nm n)).length : Nat) : Int) = (i : Int) + (S : Int) + 1 := by
      rw [List.length_append, hlen]
      simp [ftk]
      omega
    rw [eE]
    have m1 := mk 1
    refine atom n 0 0 (r_atom_num (m + 3) ms (i + S) (by rw [m0]; exact ((List.cons.inj et).1).symm) hf) (by omega) (by omega) _ m1 ?_
    show (TL.numL n :: rest)[1]?.getD [] ≠ [94]
    rw [List.getElem?_cons_succ]
    exact hr
  | lt l k =>
    obtain ⟨hk1, hk9⟩ := hf
    rw [ftk_lt] at et mk
    have l1 : la l ≤ 1 := by cases l <;> decide
    have l2 : lu l ≤ 1 := by cases l <;> decide
    by_cases h1 : k = 1
    · subst h1
      have eE : ((i + (sgT s ++ ftk (.lt l 1)).length : Nat) : Int) = (i : Int) + (S : Int) + 1 := by
        rw [List.length_append, hlen, ftk_lt, if_pos rfl]
        simp
        omega
      rw [eE]
      rw [if_pos rfl] at et mk
      have m1 := mk 1
      have q := atom 1 (la l) (lu l) (r_atom_let (m + 3) ms (i + S) l (by rw [m0]; exact ((List.cons.inj et).1).symm)) (by omega) (by omega) _ m1 (by
        show ([cl l] :: rest)[1]?.getD [] ≠ [94]
        rw [List.getElem?_cons_succ]
        exact hr)
      show _ = Res.ok (PyData.tuple [.tuple (rws (mb (sgN s 1) (1 * la l) (1 * lu l))), _])
      rw [Nat.one_mul, Nat.one_mul]
      exact q
    · have eE : ((i + (sgT s ++ ftk (.lt l k)).length : Nat) : Int) = (i : Int) + (S : Int) + 1 + 2 := by
        rw [List.length_append, hlen, ftk_lt, if_neg h1]
        simp
        omega
      rw [eE]
      rw [if_neg h1] at et mk
      have m1 : ms[i + S + 1]?.getD [] = [94] := mk 1
      have m2 : ms[i + S + 2]?.getD [] = TL.numL k := mk 2
      have eA := r_atom_let (m + 3) ms (i + S) l (by rw [m0]; exact ((List.cons.inj et).1).symm)
      rw [Int.natCast_add] at eA
      have eN := mark_at' (m + 4) ms (i + S + 1) (z := (i : Int) + (S : Int) + 1) (by omega) m1
      have eH := eq_h [94]
      rw [decide_eq_true rfl] at eH
      have eP := mark_at' (m + 4) ms (i + S + 2) (z := (i : Int) + (S : Int) + 1 + 1) (by omega) m2
      have hn : k < 10 ^ 12 := by omega
      have e2 := r_is_number (m + 4) (l := TL.numL k) (by have := TL.numL_len (k := 12) (by decide) hn; omega)
      rw [isNum_num hn] at e2
      have e3 := int_num hn
      have e4 := len_tx (l := TL.numL k) (by have := TL.numL_len (k := 12) (by decide) hn; omega)
      rw [TL.numL_lt (show k < 10 by omega)] at e4
      rw [← TL.numL_lt (show k < 10 by omega)] at e4
      have pw := r_power (m + 1) l1 l2 k hk9
      have e5 : biV .len [.cl (.str (tx (TL.numL k)))] = .ok (.cl (.int 1)) := by
        rw [len_tx (by have := TL.numL_len (k := 12) (by decide) hn; omega), TL.numL_lt (show k < 10 by omega)]
        rfl
      have g1 : k * la l ≤ 9 := Nat.le_trans (Nat.mul_le_mul hk9 l1) (by omega)
      have g2 : k * lu l ≤ 9 := Nat.le_trans (Nat.mul_le_mul hk9 l2) (by omega)
      have neg := r_mb_neg (m + 2) (n := 1) (a := k * la l) (u := k * lu l) (by omega) (by omega)
      show _ = Res.ok (PyData.tuple [.tuple (rws (mb (sgN s 1) (k * la l) (k * lu l))), _])
      rw [st_factor_at]
      generalize tx (TL.numL k) = w at *
      generalize tx [94] = w2 at *
      cases s with
      | false =>
        have hm : (S : Int).fmod 2 = 0 := hm
        show _ = Res.ok (PyData.tuple [.tuple (rws (mb 1 (k * la l) (k * lu l))), _])
        generalize mb (-1) (k * la l) (k * lu l) = Y at *
        generalize mb 1 (k * la l) (k * lu l) = X at *
        generalize mb 1 (la l) (lu l) = Z at *
        simp [b_factor_at, lp, g6, big20, eA, eN, eH, eP, e2, e3, e5, pw, hm, lfAll_rws]
      | true =>
        have hm : (S : Int).fmod 2 = 1 := hm
        show _ = Res.ok (PyData.tuple [.tuple (rws (mb (-1) (k * la l) (k * lu l))), _])
        generalize mb (-1) (k * la l) (k * lu l) = Y at *
        generalize mb 1 (k * la l) (k * lu l) = X at *
        generalize mb 1 (la l) (lu l) = Z at *
        simp [b_factor_at, lp, g6, big20, eA, eN, eH, eP, e2, e3, e5, pw, hm, neg, lfAll_rws]

/-! ### products -/
def ftl (fs : List Fa) : List (List Nat) := fs.flatMap fun g => [42] :: ftk g
def ptk (f : Fa) (fs : List Fa) : List (List Nat) := ftk f ++ ftl fs
def sA (fs : List Fa) : Nat := (fs.map fa).sum
def sU (fs : List Fa) : Nat := (fs.map fu).sum
theorem ftl_cons (g : Fa) (fs : List Fa) : ftl (g :: fs) = [42] :: (ftk g ++ ftl fs) := by simp [ftl]
theorem sA_cons (g : Fa) (fs : List Fa) : sA (g :: fs) = fa g + sA fs := by simp [sA]
theorem sU_cons (g : Fa) (fs : List Fa) : sU (g :: fs) = fu g + sU fs := by simp [sU]
theorem fa_le {f : Fa} (h : okF f) : fa f ≤ 9 ∧ fu f ≤ 9 := by
  cases f with
  | nm n => exact ⟨by simp [fa], by simp [fu]⟩
  | lt l k =>
    obtain ⟨_, h9⟩ := h
    cases l
    · exact ⟨by simp [fa, la]; exact h9, by simp [fu, lu]⟩
    · exact ⟨by simp [fa, la], by simp [fu, lu]; exact h9⟩
theorem ftl_head (fs : List Fa) (rest : List (List Nat)) (hr : rest[0]?.getD [] ≠ [94]) : (ftl fs ++ rest)[0]?.getD [] ≠ [94] := by
  cases fs with
  | nil => exact hr
  | cons g fs => rw [ftl_cons]; show ([42] : List Nat) ≠ [94]; decide
theorem drop_more {ms A B : List (List Nat)} {i : Nat} (h : ms.drop i = A ++ B) : ms.drop (i + A.length) = B := by
  rw [← List.drop_drop, h, List.drop_left]
theorem r_product_loop (m : Nat) (ms : List (List Nat)) (at0 : D) (rest : List (List Nat)) (hr : rest[0]?.getD [] ≠ [94]) (hr2 : rest[0]?.getD [] ≠ [42]) (c : Int) (hc : c.natAbs ≤ 2 ^ 1000) : ∀ (fs : List Fa) (a u e : Nat) (x : Option Sl), (∀ g ∈ fs, okF g ∧ fc g = 1) → a + 9 * fs.length ≤ 90 → u + 9 * fs.length ≤ 90 → ms.drop e = ftl fs ++ rest →
    ∃ x', whS (evt (tbl pr (m + 6)) c_product_at_1) (exS (tbl pr (m + 6)) w_product_at_1) [some (.sh (.list (mD ms))), some (.sh at0), some (.sh (.tuple (rws (mb c a u)))), some (.sh (.int (e : Int))), x]
      = .nx [some (.sh (.list (mD ms))), some (.sh at0), some (.sh (.tuple (rws (mb c (a + sA fs) (u + sU fs))))), some (.sh (.int ((e + (ftl fs).length : Nat) : Int))), x'] := by
  intro fs
  induction fs with
  | nil =>
    intro a u e x _ _ _ h
    refine ⟨x, ?_⟩
    have m0 : ms[e]?.getD [] = rest[0]?.getD [] := drop_get h 0
    have e1 := mark_at' (m + 5) ms e (z := (e : Int)) rfl m0
    have e2 := eq_s (rest[0]?.getD [])
    rw [decide_eq_false hr2] at e2
    generalize tx (rest[0]?.getD []) = w at *
    show _ = Fl.nx [_, _, some (.sh (.tuple (rws (mb c a u)))), some (.sh (.int (e : Int))), _]
    generalize mb c a u = X at *
    exact wh_end (by simp [c_product_at_1, e1, e2])
  | cons g fs ih =>
    intro a u e x hfs ha hu h
    rw [List.length_cons] at ha hu
    obtain ⟨hg, hg1⟩ := hfs g List.mem_cons_self
    obtain ⟨b1, b2⟩ := fa_le hg
    rw [ftl_cons] at h
    have m0 : ms[e]?.getD [] = [42] := drop_get h 0
    have h1 : ms.drop (e + 1) = sgT false ++ (ftk g ++ (ftl fs ++ rest)) := by
      have h' : ms.drop e = [[42]] ++ (ftk g ++ (ftl fs ++ rest)) := by rw [h]; simp
      exact drop_more h'
    have rf := r_factor m ms (e + 1) false g (ftl fs ++ rest) hg h1 (ftl_head fs rest hr)
    have h2 : ms.drop (e + 1 + (ftk g).length) = ftl fs ++ rest := by
      have h' : ms.drop (e + 1) = ftk g ++ (ftl fs ++ rest) := h1
      exact drop_more h'
    obtain ⟨x', q⟩ := ih (a + fa g) (u + fu g) (e + 1 + (ftk g).length) (some (.sh (.tuple (rws (mb 1 (fa g) (fu g)))))) (fun z hz => hfs z (List.mem_cons_of_mem _ hz)) (by omega) (by omega) h2
    refine ⟨x', ?_⟩
    have rf : runF pr (m + 6) k_factor_at [.list (mD ms), .int ((e : Int) + 1)] = .ok (.tuple [.tuple (rws (mb 1 (fa g) (fu g))), .int ((e + 1 + (ftk g).length : Nat) : Int)]) := by
      rw [hg1] at rf
      exact rf
    have rt := r_mb_times (m + 3) (n := c) (p := 1) (a := a) (u := u) (b := fa g) (v := fu g) (by omega) (by omega) (by omega) (by omega) hc two1000
    rw [Int.mul_one] at rt
    rw [sA_cons, sU_cons, ← Nat.add_assoc, ← Nat.add_assoc]
    have el : e + (ftl (g :: fs)).length = e + 1 + (ftk g).length + (ftl fs).length := by
      rw [ftl_cons, List.length_cons, List.length_append]
      omega
    rw [el]
    have e1 := mark_at' (m + 5) ms e (z := (e : Int)) rfl m0
    have e2 := eq_s [42]
    rw [decide_eq_true rfl] at e2
    rw [wh_step (η' := [some (.sh (.list (mD ms))), some (.sh at0), some (.sh (.tuple (rws (mb c (a + fa g) (u + fu g))))), some (.sh (.int ((e + 1 + (ftk g).length : Nat) : Int))), some (.sh (.tuple (rws (mb 1 (fa g) (fu g)))))])]
    · exact q
    · generalize tx [42] = w at *
      generalize mb c a u = X at *
      simp [c_product_at_1, e1, e2]
    · generalize ((e + 1 + (ftk g).length : Nat) : Int) = E2 at *
      generalize mb c (a + fa g) (u + fu g) = Y at *
      generalize mb c a u = X at *
      generalize mb 1 (fa g) (fu g) = Z at *
      simp [w_product_at_1, rf, rt]
theorem sgN_abs (s : Bool) (n : Int) : (sgN s n).natAbs = n.natAbs := by
  cases s
  · rfl
  · exact Int.natAbs_neg n
theorem fc_abs {f : Fa} (h : okF f) : (fc f).natAbs ≤ 2 ^ 1000 := by
  have e : (10 : Nat) ^ 12 ≤ 2 ^ 1000 := Nat.le_trans (show (10 : Nat) ^ 12 ≤ 2 ^ 40 by decide) (Nat.pow_le_pow_right (by decide) (by decide))
  cases f with
  | nm n =>
    have h : n < 10 ^ 12 := h
    show ((n : Int)).natAbs ≤ _
    rw [Int.natAbs_natCast]
    omega
  | lt l k => exact two1000
theorem r_product (m : Nat) (ms : List (List Nat)) (i : Nat) (s : Bool) (f : Fa) (fs : List Fa) (rest : List (List Nat)) (hf : okF f) (hfs : ∀ g ∈ fs, okF g ∧ fc g = 1) (hl : fs.length ≤ 8) (h : ms.drop i = sgT s ++ (ptk f fs ++ rest)) (hr : rest[0]?.getD [] ≠ [94]) (hr2 : rest[0]?.getD [] ≠ [42]) :
    runF pr (m + 7) k_product_at [.list (mD ms), .int (i : Int)] = .ok (.tuple [.tuple (rws (mb (sgN s (fc f)) (fa f + sA fs) (fu f + sU fs))), .int ((i + (sgT s ++ ptk f fs).length : Nat) : Int)]) := by
  rw [st_product_at]
  obtain ⟨b1, b2⟩ := fa_le hf
  have h1 : ms.drop i = sgT s ++ (ftk f ++ (ftl fs ++ rest)) := by rw [h, ptk, List.append_assoc]
  have rf := r_factor m ms i s f (ftl fs ++ rest) hf h1 (ftl_head fs rest hr)
  have h2 : ms.drop (i + (sgT s ++ ftk f).length) = ftl fs ++ rest := drop_more (A := sgT s ++ ftk f) (by rw [h1, List.append_assoc])
  obtain ⟨x', lp⟩ := r_product_loop m ms (.int (i : Int)) rest hr hr2 (sgN s (fc f)) (by rw [sgN_abs]; exact fc_abs hf) fs (fa f) (fu f) (i + (sgT s ++ ftk f).length) none hfs (by omega) (by omega) h2
  have el : i + (sgT s ++ ptk f fs).length = i + (sgT s ++ ftk f).length + (ftl fs).length := by
    rw [ptk, ← List.append_assoc, List.length_append (as := sgT s ++ ftk f)]
    omega
  rw [el]
  generalize ((i + (sgT s ++ ftk f).length + (ftl fs).length : Nat) : Int) = E2 at *
  generalize ((i + (sgT s ++ ftk f).length : Nat) : Int) = E1 at *
  generalize mb (sgN s (fc f)) (fa f + sA fs) (fu f + sU fs) = Y at *
  generalize mb (sgN s (fc f)) (fa f) (fu f) = X at *
  simp [b_product_at, rf, lp, lfAll_rws]

/-! ### sums, terms -/
structure Tm where
  neg : Bool
  f : Fa
  fs : List Fa
def okTm (t : Tm) : Prop := okF t.f ∧ (∀ g ∈ t.fs, okF g ∧ fc g = 1) ∧ t.fs.length ≤ 8
def tmA (t : Tm) : Nat := fa t.f + sA t.fs
def tmU (t : Tm) : Nat := fu t.f + sU t.fs
def tmV (t : Tm) (x y : Int) : Int := sgN t.neg (fc t.f) * x ^ tmA t * y ^ tmU t
def smk (t : Tm) : List Nat := if t.neg = true then [45] else [43]
def ttl (ts : List Tm) : List (List Nat) := ts.flatMap fun t => smk t :: ptk t.f t.fs
theorem ttl_cons (t : Tm) (ts : List Tm) : ttl (t :: ts) = smk t :: (ptk t.f t.fs ++ ttl ts) := by simp [ttl]
theorem sA_le : ∀ {fs : List Fa}, (∀ g ∈ fs, okF g ∧ fc g = 1) → sA fs ≤ 9 * fs.length ∧ sU fs ≤ 9 * fs.length
  | [], _ => ⟨Nat.le_refl _, Nat.le_refl _⟩
  | g :: fs, h => by
    have h1 := fa_le (h g List.mem_cons_self).1
    have h2 := sA_le fun z hz => h z (List.mem_cons_of_mem _ hz)
    rw [sA_cons, sU_cons, List.length_cons]
    omega
theorem tm_le {t : Tm} (h : okTm t) : tmA t ≤ 81 ∧ tmU t ≤ 81 := by
  obtain ⟨h1, h2, h3⟩ := h
  have := fa_le h1
  have := sA_le h2
  unfold tmA tmU
  omega
theorem ttl_head (ts : List Tm) : (ttl ts)[0]?.getD [] ≠ [94] ∧ (ttl ts)[0]?.getD [] ≠ [42] := by
  cases ts with
  | nil => exact ⟨by simp [ttl], by simp [ttl]⟩
  | cons t ts =>
    rw [ttl_cons]
    show smk t ≠ [94] ∧ smk t ≠ [42]
    unfold smk
    split <;> exact ⟨by decide, by decide⟩
theorem mem_pm {w : List Nat} (h : ∀ c ∈ w, c < 1114112) : memD (.str (tx w)) (.tuple [.str "+", .str "-"]) = .ok (decide (w = [43]) || decide (w = [45])) := by
  have e : memD (.str (tx w)) (.tuple [.str "+", .str "-"]) = if SeqAt.shaped (.str (tx w)) = true ∧ SeqAt.shaped (.tuple [.str "+", .str "-"]) = true then .ok ([PyData.str "+", .str "-"].any fun z => PyData.eqv z (.str (tx w))) else .st := rfl
  rw [e, if_pos ⟨shp h, by decide +kernel⟩]
  have q : ∀ (a : Str) (x : Nat), a = tx [x] → PyData.eqv (.str a) (.str (tx w)) = decide (w = [x]) := fun a x ea => by
    rw [PyData.eqv, ea]
    by_cases h : w = [x]
    · rw [h]; simp
    · rw [decide_eq_false h]
      exact beq_eq_false_iff_ne.mpr fun z => h (tx_inj.mp z).symm
  show Res.ok ((PyData.eqv (.str "+") (.str (tx w))) || ((PyData.eqv (.str "-") (.str (tx w))) || false)) = _
  rw [q "+" 43 (by decide +kernel), q "-" 45 (by decide +kernel), Bool.or_false]
/-- boards of few rows, none long -/
def okB (X : Bd) : Prop := isBd X ∧ RowsL 100 X ∧ X.length ≤ 100
theorem okB_mb {n : Int} {a u : Nat} (ha : a ≤ 90) (hu : u ≤ 90) : okB (mb n a u) := ⟨isBd_mb n a u, RowsL_mb ha, by have := len_mb n a u; omega⟩
theorem trimB_sub {B : Bd} {r : List Int} (h : r ∈ trimB B) : r ∈ B := List.mem_of_mem_take h
theorem trimB_len (B : Bd) : (trimB B).length ≤ B.length := by rw [trimB, List.length_take]; omega
theorem trim_len' (r : List Int) : (trim r).length ≤ r.length := by rw [trim, List.length_take]; omega
theorem okB_add {X Y : Bd} (hX : okB X) (hY : okB Y) : okB (trimB (addB X Y)) := by
  refine ⟨isBd_add X Y, fun r hr => ?_, ?_⟩
  · have h := trimB_sub hr
    refine ⟨rows_addB X Y r h, ?_⟩
    obtain ⟨k, _, rfl⟩ := List.mem_map.mp h
    refine Nat.le_trans (trim_len' _) ?_
    rw [addR_len]
    have := (hX.2.1.get k).2
    have := (hY.2.1.get k).2
    omega
  · refine Nat.le_trans (trimB_len _) ?_
    simp only [addB, List.length_map, List.length_range]
    have := hX.2.2
    have := hY.2.2
    omega
theorem subR_len' (f g : List Int) : (subR f g).length = max f.length g.length := by simp [subR]
theorem okB_sub {X Y : Bd} (hX : okB X) (hY : okB Y) : okB (trimB (subB X Y)) := by
  refine ⟨isBd_sub X Y, fun r hr => ?_, ?_⟩
  · have h := trimB_sub hr
    refine ⟨rows_subB X Y r h, ?_⟩
    obtain ⟨k, _, rfl⟩ := List.mem_map.mp h
    refine Nat.le_trans (trim_len' _) ?_
    rw [subR_len']
    have := (hX.2.1.get k).2
    have := (hY.2.1.get k).2
    omega
  · refine Nat.le_trans (trimB_len _) ?_
    simp only [subB, List.length_map, List.length_range]
    have := hX.2.2
    have := hY.2.2
    omega
def sumV (ts : List Tm) (x y : Int) : Int := (ts.map fun t => tmV t x y).sum
theorem sumV_cons (t : Tm) (ts : List Tm) (x y : Int) : sumV (t :: ts) x y = tmV t x y + sumV ts x y := by simp [sumV]
theorem r_sum_loop (m : Nat) (ms : List (List Nat)) (at0 : D) : ∀ (ts : List Tm) (X : Bd) (e : Nat) (x4 x5 : Option Sl), (∀ t ∈ ts, okTm t) → okB X → ms.drop e = ttl ts →
    ∃ X' x4' x5', whS (evt (tbl pr (m + 7)) c_sum_at_1) (exS (tbl pr (m + 7)) w_sum_at_1) [some (.sh (.list (mD ms))), some (.sh at0), some (.sh (.tuple (rws X))), some (.sh (.int (e : Int))), x4, x5]
      = .nx [some (.sh (.list (mD ms))), some (.sh at0), some (.sh (.tuple (rws X'))), some (.sh (.int ((e + (ttl ts).length : Nat) : Int))), x4', x5'] ∧ okB X' ∧ ∀ x y, bv X' x y = bv X x y + sumV ts x y := by
  intro ts
  induction ts with
  | nil =>
    intro X e x4 x5 _ hX h
    refine ⟨X, x4, x5, ?_, hX, fun x y => by rw [sumV, List.map_nil, List.sum_nil, Int.add_zero]⟩
    have m0 : ms[e]?.getD [] = [] := drop_get h 0
    have e1 := mark_at' (m + 6) ms e (z := (e : Int)) rfl m0
    have e2 := mem_pm (w := []) (fun c hc => (List.not_mem_nil hc).elim)
    generalize tx [] = w at *
    exact wh_end (by simp [c_sum_at_1, e1, e2])
  | cons t ts ih =>
    intro X e x4 x5 hts hX h
    have ht := hts t List.mem_cons_self
    obtain ⟨t1, t2, t3⟩ := ht
    obtain ⟨b1, b2⟩ := tm_le (hts t List.mem_cons_self)
    rw [ttl_cons] at h
    have m0 : ms[e]?.getD [] = smk t := drop_get h 0
    have hlt : e < ms.length := by
      refine Classical.byContradiction fun z => ?_
      rw [List.drop_of_length_le (by omega)] at h
      cases h
    have ma : atI (mD ms) (e : Int) = some (.str (tx (smk t))) := atI_nat (by
      rw [mD, List.getElem?_map, List.getElem?_eq_getElem hlt]
      rw [List.getElem?_eq_getElem hlt] at m0
      rw [← m0]
      rfl)
    have h1 : ms.drop (e + 1) = sgT false ++ (ptk t.f t.fs ++ ttl ts) := by
      have h' : ms.drop e = [smk t] ++ (ptk t.f t.fs ++ ttl ts) := by rw [h]; simp
      exact drop_more h'
    have hh := ttl_head ts
    have rp := r_product m ms (e + 1) false t.f t.fs (ttl ts) t1 t2 t3 h1 hh.1 hh.2
    have h2 : ms.drop (e + 1 + (ptk t.f t.fs).length) = ttl ts := by
      have h' : ms.drop (e + 1) = ptk t.f t.fs ++ ttl ts := h1
      exact drop_more h'
    have rp : runF pr (m + 7) k_product_at [.list (mD ms), .int ((e : Int) + 1)] = .ok (.tuple [.tuple (rws (mb (fc t.f) (tmA t) (tmU t))), .int ((e + 1 + (ptk t.f t.fs).length : Nat) : Int)]) := rp
    have oM : okB (mb (fc t.f) (tmA t) (tmU t)) := okB_mb (by omega) (by omega)
    have el : e + (ttl (t :: ts)).length = e + 1 + (ptk t.f t.fs).length + (ttl ts).length := by
      rw [ttl_cons, List.length_cons, List.length_append]
      omega
    rw [el]
    have e1 := mark_at' (m + 6) ms e (z := (e : Int)) rfl m0
    have e2 := mem_pm (w := smk t) (fun c hc => by unfold smk at hc; split at hc <;> (rw [List.mem_singleton.mp hc]; decide))
    have e3 : eqD (.str (tx (smk t))) (.str "+") = .ok (!t.neg) := by
      rw [show ("+" : Str) = tx [43] by decide +kernel, eq_tx]
      unfold smk
      cases t.neg <;> rfl
    have e4 : (decide (smk t = [43]) || decide (smk t = [45])) = true := by
      unfold smk
      cases t.neg <;> rfl
    rw [e4] at e2
    have ra := r_board_plus (m + 4) X (mb (fc t.f) (tmA t) (tmU t)) hX.2.1 oM.2.1 (by have := hX.2.2; omega) (by have := oM.2.2; omega)
    have rs := r_board_minus (m + 4) X (mb (fc t.f) (tmA t) (tmU t)) hX.2.1 oM.2.1 (by have := hX.2.2; omega) (by have := oM.2.2; omega)
    obtain ⟨Y, hY, eY, vY⟩ : ∃ Y, okB Y ∧ (if (!t.neg) = true then trimB (addB X (mb (fc t.f) (tmA t) (tmU t))) else trimB (subB X (mb (fc t.f) (tmA t) (tmU t)))) = Y ∧ ∀ x y, bv Y x y = bv X x y + tmV t x y := by
      cases hn : t.neg with
      | false =>
        refine ⟨_, okB_add hX oM, rfl, fun x y => ?_⟩
        rw [bv_trimB, bv_addB, bv_mb, tmV, hn]
        rfl
      | true =>
        refine ⟨_, okB_sub hX oM, rfl, fun x y => ?_⟩
        rw [bv_trimB, bv_subB, bv_mb, tmV, hn]
        show _ - _ = _ + -(fc t.f) * _ * _
        rw [Int.neg_mul, Int.neg_mul]
        omega
    obtain ⟨X', x4', x5', q, oX, vX⟩ := ih Y (e + 1 + (ptk t.f t.fs).length) (some (.sh (.str (tx (smk t))))) (some (.sh (.tuple (rws (mb (fc t.f) (tmA t) (tmU t)))))) (fun z hz => hts z (List.mem_cons_of_mem _ hz)) hY h2
    refine ⟨X', x4', x5', ?_, oX, fun x y => by rw [vX, vY, sumV_cons]; omega⟩
    rw [wh_step (η' := [some (.sh (.list (mD ms))), some (.sh at0), some (.sh (.tuple (rws Y))), some (.sh (.int ((e + 1 + (ptk t.f t.fs).length : Nat) : Int))), some (.sh (.str (tx (smk t)))), some (.sh (.tuple (rws (mb (fc t.f) (tmA t) (tmU t)))))])]
    · exact q
    · generalize tx (smk t) = w at *
      simp [c_sum_at_1, e1, e2]
    · generalize ((e + 1 + (ptk t.f t.fs).length : Nat) : Int) = E2 at *
      generalize mb (fc t.f) (tmA t) (tmU t) = Z at *
      generalize tx (smk t) = w at *
      cases hn : t.neg with
      | false =>
        rw [hn] at e3 eY
        have eY : trimB (addB X Z) = Y := eY
        rw [eY] at ra
        simp [w_sum_at_1, ma, rp, e3, ra]
      | true =>
        rw [hn] at e3 eY
        have eY : trimB (subB X Z) = Y := eY
        rw [eY] at rs
        simp [w_sum_at_1, ma, rp, e3, rs]

theorem r_sum (m : Nat) (ms : List (List Nat)) (t : Tm) (ts : List Tm) (ht : okTm t) (hts : ∀ t ∈ ts, okTm t) (h : ms = sgT t.neg ++ (ptk t.f t.fs ++ ttl ts)) :
    ∃ X, runF pr (m + 8) k_sum_at [.list (mD ms), .int 0] = .ok (.tuple [.tuple (rws X), .int (ms.length : Int)]) ∧ okB X ∧ ∀ x y, bv X x y = tmV t x y + sumV ts x y := by
  rw [st_sum_at]
  obtain ⟨t1, t2, t3⟩ := ht
  obtain ⟨b1, b2⟩ := tm_le ⟨t1, t2, t3⟩
  have hh := ttl_head ts
  have rp := r_product m ms 0 t.neg t.f t.fs (ttl ts) t1 t2 t3 h hh.1 hh.2
  rw [Nat.zero_add] at rp
  have h2 : ms.drop (sgT t.neg ++ ptk t.f t.fs).length = ttl ts := by
    rw [h, ← List.append_assoc, List.drop_left]
  have oM : okB (mb (sgN t.neg (fc t.f)) (tmA t) (tmU t)) := okB_mb (by omega) (by omega)
  obtain ⟨X, x4, x5, q, oX, vX⟩ := r_sum_loop m ms (.int 0) ts _ _ none none hts oM h2
  have el : (sgT t.neg ++ ptk t.f t.fs).length + (ttl ts).length = ms.length := by
    have := congrArg List.length h
    rw [List.length_append, List.length_append] at this
    rw [List.length_append]
    omega
  rw [el] at q
  refine ⟨X, ?_, oX, fun x y => by rw [vX, bv_mb]; rfl⟩
  have rp : runF pr (m + 7) k_product_at [.list (mD ms), .int 0] = .ok (.tuple [.tuple (rws (mb (sgN t.neg (fc t.f)) (tmA t) (tmU t))), .int (((sgT t.neg ++ ptk t.f t.fs).length : Nat) : Int)]) := rp
  generalize (((sgT t.neg ++ ptk t.f t.fs).length : Nat) : Int) = E1 at *
  generalize mb (sgN t.neg (fc t.f)) (tmA t) (tmU t) = Z at *
  simp [b_sum_at, rp, q, lfAll_rws]
theorem r_read (m : Nat) (ps : List (List Nat)) (ok : okPs ps) (hl : ps.flatten.length ≤ 1000) (hp : ps.length ≤ 5000) (t : Tm) (ts : List Tm) (ht : okTm t) (hts : ∀ t ∈ ts, okTm t) (h : mkP ps = sgT t.neg ++ (ptk t.f t.fs ++ ttl ts)) :
    ∃ X, runF pr (m + 9) k_read_term [.str (tx ps.flatten)] = .ok (.tuple (rws X)) ∧ okB X ∧ ∀ x y, bv X x y = tmV t x y + sumV ts x y := by
  rw [st_read_term]
  have rm := r_marks_of (m + 5) ps ok (by omega) hp
  obtain ⟨X, rs, oX, vX⟩ := r_sum m (mkP ps) t ts ht hts h
  have g4 : (tbl pr (m + 8)).gl 4 = some (.int 1000) := rfl
  have le := len_tx (l := ps.flatten) (by omega)
  have h1 : ¬ ((1000 : Int) < (ps.flatten.length : Int)) := by omega
  refine ⟨X, ?_, oX, vX⟩
  generalize tx ps.flatten = w at *
  generalize ps.flatten = W at *
  generalize mkP ps = ms at *
  simp [b_read_term, isiD, g4, le, h1, rm, rs, mD_len, lfAll_rws]
/-! ### texts shown -/

theorem join_tx (ys : List (List Nat)) : Txt.join "*" (ys.map tx) = tx (TL.joinL [42] ys) := by
  have e : ("*" : Str) = tx [42] := lits
  rw [e]
  have h := TL.tl_join (tx [42]) (ys.map tx)
  have em : ∀ zs : List (List Nat), (zs.map tx).map TL.tl = zs := by
    intro zs
    induction zs with
    | nil => rfl
    | cons z zs ih =>
      rw [List.map_cons, List.map_cons, ih]
  rw [em] at h
  exact TL.ext_tl ((congrArg TL.tl (TL.join_eq (tx [42]) (ys.map tx))).trans h)
def ftx (f : Fa) : List Nat := (ftk f).flatten
def lfs (l : Bool) (p : Nat) : List Fa := if p = 0 then [] else [.lt l p]
def pfs (n : Int) (a u : Nat) : List Fa := if n.natAbs ≠ 1 ∨ lfs false a ++ lfs true u = [] then .nm n.natAbs :: (lfs false a ++ lfs true u) else lfs false a ++ lfs true u
theorem str_tx {k : Nat} (h : k < 10 ^ 12) : biV .str1 [.cl (.int (k : Int))] = .ok (.cl (.str (tx (TL.numL k)))) := by
  have e : biV .str1 [.cl (.int (k : Int))] = if StOk (k : Int) then .ok (.cl (.str (Str.ofString (toString (k : Int))))) else .st := rfl
  have sk : StOk (k : Int) := by
    show ((k : Int)).natAbs.log2 < 1920
    rw [Int.natAbs_natCast]
    exact PySem.Flt.log2_lt_of (by decide) (Nat.lt_of_lt_of_le h (Nat.le_trans (show (10 : Nat) ^ 12 ≤ 2 ^ 40 by decide) (Nat.pow_le_pow_right (by decide) (by decide))))
  rw [e, if_pos sk, tx_num]
theorem add_tx {a b : List Nat} (h : a.length + b.length ≤ 10000) : binV .add (.cl (.str (tx a))) (.cl (.str (tx b))) = .ok (.cl (.str (tx (a ++ b)))) := by
  have e : binV .add (.cl (.str (tx a))) (.cl (.str (tx b))) = if Sm ((tx a).length + (tx b).length) then .ok (.cl (.str (tx a ++ tx b))) else .st := rfl
  rw [e, tx_len, tx_len, if_pos (sm_k h), tx_cat]
theorem r_letter_text (m : Nat) (l : Bool) (p : Nat) (hp : p ≤ 9) : runF pr (m + 1) k_letter_text [.str (tx [cl l]), .int (p : Int)] = .ok (.list (mD ((lfs l p).map ftx))) := by
  rw [st_letter_text]
  by_cases h0 : p = 0
  · subst h0
    show _ = Res.ok (PyData.list [])
    simp [b_letter_text]
  · by_cases h1 : p = 1
    · subst h1
      have e : mD ((lfs l 1).map ftx) = [.str (tx [cl l])] := by cases l <;> rfl
      rw [e]
      generalize tx [cl l] = w
      simp [b_letter_text]
    · have e : mD ((lfs l p).map ftx) = [.str (tx ([cl l] ++ [94] ++ TL.numL p))] := by
        unfold lfs
        rw [if_neg h0]
        show [PyData.str (tx (ftk (.lt l p)).flatten)] = _
        rw [ftk_lt, if_neg h1]
        simp
      rw [e]
      have hn : p < 10 ^ 12 := by omega
      have h1' : ¬ ((p : Int) = 1) := by omega
      have hl := TL.numL_len (k := 12) (by decide) hn
      have s1 := str_tx hn
      have a1 := add_tx (a := [cl l]) (b := [94]) (by simp)
      have a2 := add_tx (a := [cl l] ++ [94]) (b := TL.numL p) (by simp; omega)
      rw [← lith] at a1
      generalize tx ([cl l] ++ [94] ++ TL.numL p) = w3 at *
      generalize tx ([cl l] ++ [94]) = w2 at *
      generalize tx (TL.numL p) = w1 at *
      generalize tx [cl l] = w at *
      simp [b_letter_text, h0, h1', a1, s1, a2]
theorem shaped_mD {ms : List (List Nat)} (h : ∀ w ∈ ms, ∀ c ∈ w, c < 1114112) : SeqAt.shaped (.list (mD ms)) = true := by
  have k1 : PyData.canLayAll0 (mD ms) = true ∧ PyData.depthAll (mD ms) = 0 := by
    induction ms with
    | nil => exact ⟨rfl, rfl⟩
    | cons w ms ih =>
      obtain ⟨i1, i2⟩ := ih fun z hz => h z (List.mem_cons_of_mem _ hz)
      have s := shp (h w List.mem_cons_self)
      unfold SeqAt.shaped at s
      rw [Bool.and_eq_true] at s
      refine ⟨?_, ?_⟩
      · show (PyData.canLay0 (.str (tx w)) && PyData.canLayAll0 (mD ms)) = true
        rw [s.1, i1]
        rfl
      · show max (PyData.depth (.str (tx w))) (PyData.depthAll (mD ms)) = 0
        rw [i2]
        rfl
  unfold SeqAt.shaped
  rw [PyData.canLay0, PyData.depth, k1.1, k1.2]
  rfl
theorem eq_mD0 {ms : List (List Nat)} (h : ∀ w ∈ ms, ∀ c ∈ w, c < 1114112) : eqD (.list (mD ms)) (.list []) = .ok (decide (ms = [])) := by
  have e : eqD (.list (mD ms)) (.list []) = if SeqAt.shaped (.list (mD ms)) = true ∧ SeqAt.shaped (.list []) = true then .ok (PyData.eqv (.list (mD ms)) (.list [])) else .st := rfl
  rw [e, if_pos ⟨shaped_mD h, by decide +kernel⟩]
  cases ms with
  | nil => rfl
  | cons w ms => rfl
theorem ftx_le {f : Fa} (h : okF f) : (ftx f).length ≤ 14 ∧ ∀ c ∈ ftx f, c < 1114112 := by
  cases f with
  | nm n =>
    have h : n < 10 ^ 12 := h
    have e : ftx (.nm n) = TL.numL n := by simp [ftx, ftk]
    rw [e]
    have := TL.numL_len (k := 12) (by decide) h
    refine ⟨by omega, fun c hc => ?_⟩
    have := TL.numL_digits n c hc
    omega
  | lt l k =>
    obtain ⟨_, h9⟩ := h
    have hc : cl l = 120 ∨ cl l = 121 := by cases l <;> decide
    unfold ftx
    rw [ftk_lt]
    by_cases h1 : k = 1
    · rw [if_pos h1]
      refine ⟨by simp, fun c hc' => ?_⟩
      have : c = cl l := by simpa using hc'
      omega
    · rw [if_neg h1, TL.numL_lt (show k < 10 by omega)]
      refine ⟨by simp, fun c hc' => ?_⟩
      have : c = cl l ∨ c = 94 ∨ c = 48 + k := by simpa using hc'
      omega
theorem lfs_ok (l : Bool) {p : Nat} (hp : p ≤ 9) : (∀ f ∈ lfs l p, okF f ∧ fc f = 1) ∧ (lfs l p).length ≤ 1 := by
  unfold lfs
  split
  · exact ⟨fun f hf => (List.not_mem_nil hf).elim, by simp⟩
  · refine ⟨fun f hf => ?_, by simp⟩
    rw [List.mem_singleton.mp hf]
    exact ⟨⟨by omega, hp⟩, rfl⟩
def ptx (fs : List Fa) : List Nat := TL.joinL [42] (fs.map ftx)
theorem strsOf_mD : ∀ ms : List (List Nat), strsOf (mD ms) = some (ms.map tx)
  | [] => rfl
  | w :: ms => by
    show strsOf (.str (tx w) :: mD ms) = _
    rw [strsOf, strsOf_mD ms]
    rfl
theorem join_ok {ms : List (List Nat)} (hl : ms.length ≤ 10) (h : ∀ w ∈ ms, w.length ≤ 14) : JnOk "*" (ms.map tx) := by
  have e : ("*" : Str).length = 1 := by decide +kernel
  have key : ∀ zs : List (List Nat), (∀ w ∈ zs, w.length ≤ 14) → (((zs.map tx).map (·.length)).sum) ≤ 14 * zs.length := by
    intro zs
    induction zs with
    | nil => intro _; simp
    | cons z zs ih =>
      intro hz
      have h1 := hz z List.mem_cons_self
      have h2 := ih fun w hw => hz w (List.mem_cons_of_mem _ hw)
      rw [List.map_cons, List.map_cons, List.sum_cons, List.length_cons, tx_len]
      omega
  have k := key ms h
  show ((ms.map tx).map (·.length)).sum + (ms.map tx).length * ("*" : Str).length ≤ 16777216
  rw [e, List.length_map]
  omega
theorem join_v {ms : List (List Nat)} (hl : ms.length ≤ 10) (h : ∀ w ∈ ms, w.length ≤ 14) (x : Val) (hx : x.d.seq = some (mD ms)) : joinV "*" x = .ok (.cl (.str (tx (TL.joinL [42] ms)))) := by
  unfold joinV
  rw [hx]
  show (oOk (strsOf (mD ms))).bind _ = _
  rw [strsOf_mD]
  show (if JnOk "*" (ms.map tx) then Res.ok (Val.cl (.str (Txt.join "*" (ms.map tx)))) else .st) = _
  rw [if_pos (join_ok hl h), join_tx]
theorem r_product_text (m : Nat) (n a u : Nat) (hn : n < 10 ^ 12) (ha : a ≤ 9) (hu : u ≤ 9) : runF pr (m + 2) k_product_text [.int (n : Int), .int (a : Int), .int (u : Int)] = .ok (.str (tx (ptx (pfs n a u)))) := by
  rw [st_product_text]
  have lx : ("x" : Str) = tx [cl false] := by decide +kernel
  have ly : ("y" : Str) = tx [cl true] := by decide +kernel
  have e1 := r_letter_text m false a ha
  have e2 := r_letter_text m true u hu
  rw [← lx] at e1
  rw [← ly] at e2
  obtain ⟨o1, l1⟩ := lfs_ok false ha
  obtain ⟨o2, l2⟩ := lfs_ok true hu
  have o : ∀ f ∈ lfs false a ++ lfs true u, okF f ∧ fc f = 1 := fun f hf => by
    rcases List.mem_append.mp hf with hf | hf
    · exact o1 f hf
    · exact o2 f hf
  have cat : catL (mD ((lfs false a).map ftx)) (mD ((lfs true u).map ftx)) = .ok (.nw (mD ((lfs false a ++ lfs true u).map ftx))) := by
    rw [catL_ok (by rw [mD_len, mD_len, List.length_map, List.length_map]; show _ ≤ 16777216; omega)]
    simp [mD]
  have q := eq_mD0 (ms := (lfs false a ++ lfs true u).map ftx) (fun w hw => by
    obtain ⟨f, hf, rfl⟩ := List.mem_map.mp hw
    exact (ftx_le (o f hf).1).2)
  have qe : decide ((lfs false a ++ lfs true u).map ftx = []) = decide (lfs false a ++ lfs true u = []) := by
    rw [decide_eq_decide, List.map_eq_nil_iff]
  rw [qe] at q
  have le : (lfs false a ++ lfs true u).length ≤ 2 := by rw [List.length_append]; omega
  have s1 := str_tx hn
  have w14 : ∀ w ∈ (lfs false a ++ lfs true u).map ftx, w.length ≤ 14 := fun w hw => by
    obtain ⟨f, hf, rfl⟩ := List.mem_map.mp hw
    exact (ftx_le (o f hf).1).1
  have ep : pfs n a u = if n ≠ 1 ∨ lfs false a ++ lfs true u = [] then .nm n :: (lfs false a ++ lfs true u) else lfs false a ++ lfs true u := rfl
  by_cases c : n ≠ 1 ∨ lfs false a ++ lfs true u = []
  · rw [ep, if_pos c]
    have en : ftx (.nm n) = TL.numL n := by simp [ftx, ftk]
    have hl := TL.numL_len (k := 12) (by decide) hn
    have cat2 : catL [.str (tx (TL.numL n))] (mD ((lfs false a ++ lfs true u).map ftx)) = .ok (.nw (mD ((Fa.nm n :: (lfs false a ++ lfs true u)).map ftx))) := by
      rw [catL_ok (by rw [mD_len, List.length_map]; show 1 + _ ≤ 16777216; omega)]
      rw [List.map_cons, en]
      rfl
    have jv := fun x hx => join_v (ms := (Fa.nm n :: (lfs false a ++ lfs true u)).map ftx) (by rw [List.length_map, List.length_cons]; omega) (fun w hw => by
      rw [List.map_cons, en] at hw
      rcases List.mem_cons.mp hw with rfl | hw
      · omega
      · exact w14 w hw) x hx
    unfold ptx
    generalize mD ((Fa.nm n :: (lfs false a ++ lfs true u)).map ftx) = M2 at *
    generalize TL.joinL [42] ((Fa.nm n :: (lfs false a ++ lfs true u)).map ftx) = J at *
    generalize mD ((lfs false a ++ lfs true u).map ftx) = M1 at *
    generalize mD ((lfs false a).map ftx) = A1 at *
    generalize mD ((lfs true u).map ftx) = A2 at *
    generalize tx (TL.numL n) = w at *
    have j2 := jv (.br 3 M2) rfl
    generalize tx J = w2 at *
    by_cases c1 : n = 1
    · have c2 : lfs false a ++ lfs true u = [] := c.resolve_left fun z => z c1
      rw [decide_eq_true c2] at q
      subst c1
      have s1 : biV .str1 [.cl (.int 1)] = .ok (.cl (.str w)) := s1
      simp [b_product_text, e1, e2, cat, q, s1, cat2, j2]
    · have c1' : ¬ ((n : Int) = 1) := by omega
      simp [b_product_text, e1, e2, cat, c1', s1, cat2, j2]
  · rw [ep, if_neg c]
    have c1 : n = 1 := Classical.byContradiction fun z => c (.inl z)
    have c2 : ¬ lfs false a ++ lfs true u = [] := fun z => c (.inr z)
    rw [decide_eq_false c2] at q
    have jv := join_v (ms := (lfs false a ++ lfs true u).map ftx) (by rw [List.length_map]; omega) w14
    unfold ptx
    generalize TL.joinL [42] ((lfs false a ++ lfs true u).map ftx) = J at *
    generalize mD ((lfs false a ++ lfs true u).map ftx) = M1 at *
    generalize mD ((lfs false a).map ftx) = A1 at *
    generalize mD ((lfs true u).map ftx) = A2 at *
    have j2 := jv (.br 3 M1) rfl
    generalize tx J = w2 at *
    subst c1
    simp [b_product_text, e1, e2, cat, q, j2]

/-! ### products of a board, told downward -/
abbrev Mo := Int × Nat × Nat
def moD (p : Mo) : D := .tuple [.int p.1, .int (p.2.1 : Int), .int (p.2.2 : Int)]
def rmon (r : List Int) (u : Nat) : Nat → List Mo
  | 0 => []
  | k + 1 => (if r[k]?.getD 0 = 0 then [] else [(r[k]?.getD 0, k, u)]) ++ rmon r u k
def bmon (B : Bd) : Nat → List Mo
  | 0 => []
  | k + 1 => rmon (B[k]?.getD []) k (B[k]?.getD []).length ++ bmon B k
def mons (B : Bd) : List Mo := bmon B B.length
/-- a loop downward over 0 .. n - 1, by what holds when k turns are left -/
theorem rg_down (n : Nat) (h : n ≤ 10000) : rgV ((n : Int) - 1) (-1) (-1) = .ok (.c ((n : Int) - 1) (-1) n) := by
  have r := RgC.neg (i := (n : Int) - 1) (j := -1) (by omega) (by omega) (by omega) (by omega)
  have e : ((n : Int) - 1 - (-1)).toNat = n := by omega
  rw [e] at r
  exact rgV_of r
theorem loop_down {f : D → PD.Env → Fl} {R : Nat → PD.Env → Prop} (n : Nat) (h : ∀ k η, k < n → R (k + 1) η → ∃ η', f (.int (k : Int)) η = .nx η' ∧ R k η') : ∀ η, R n η → ∃ η', loopF f (rngC ((n : Int) - 1) (-1) n) η = .nx η' ∧ R 0 η' := by
  have e : rngC ((n : Int) - 1) (-1) n = (List.range n).map fun (k : Nat) => PyData.int ((n - 1 - k : Nat) : Int) := by
    unfold rngC
    refine List.map_congr_left fun k hk => ?_
    have := List.mem_range.mp hk
    congr 1
    omega
  rw [e]
  have key : ∀ m k η, k + m = n → R m η → ∃ η', loopF f ((List.range' k m).map fun (j : Nat) => PyData.int ((n - 1 - j : Nat) : Int)) η = .nx η' ∧ R 0 η' := by
    intro m
    induction m with
    | zero => exact fun k η _ r => ⟨η, rfl, r⟩
    | succ m ih =>
      intro k η e r
      have ek : n - 1 - k = m := by omega
      obtain ⟨η1, h1, r1⟩ := h m η (by omega) r
      rw [List.range'_succ, List.map_cons, loopF, ek, h1]
      exact ih (k + 1) η1 (by omega) r1
  intro η r
  have := key n 0 η (by omega) r
  rw [← List.range_eq_range'] at this
  exact this
theorem rmon_len (r : List Int) (u : Nat) : ∀ k, (rmon r u k).length ≤ k
  | 0 => Nat.le_refl _
  | k + 1 => by
    have := rmon_len r u k
    rw [rmon, List.length_append]
    split <;> simp <;> omega
theorem bmon_len {B : Bd} {L : Nat} (h : ∀ r ∈ B, r.length ≤ L) : ∀ k, (bmon B k).length ≤ L * k
  | 0 => Nat.zero_le _
  | k + 1 => by
    have h1 := bmon_len h k
    have h2 := rmon_len (B[k]?.getD []) k (B[k]?.getD []).length
    have h3 : (B[k]?.getD []).length ≤ L := by
      cases e : B[k]? with
      | none => exact Nat.zero_le _
      | some r => exact h r (List.mem_of_getElem? e)
    rw [bmon, List.length_append, Nat.mul_succ]
    omega
theorem r_products_of (m : Nat) (B : Bd) (hB : B.length ≤ 9) (hr : ∀ r ∈ B, r.length ≤ 9) : runF pr (m + 1) k_products_of [.tuple (rws B)] = .ok (.list ((mons B).map moD)) := by
  rw [st_products_of]
  have hm : (mons B).length ≤ 81 := Nat.le_trans (bmon_len hr B.length) (Nat.mul_le_mul (Nat.le_refl 9) hB)
  have rd := rg_down B.length (by omega)
  obtain ⟨η', e, P, u2, u3, rfl, hP⟩ := loop_down (f := foB (tbl pr m) 2 w_products_of_1) B.length (R := fun k η => ∃ P u2 u3, η = [some (.sh (.tuple (rws B))), some (.ow (P.map moD)), u2, u3] ∧ P ++ bmon B k = mons B)
    (fun k η hk hR => by
      obtain ⟨P, u2, u3, rfl, hP⟩ := hR
      have hrl : (B[k]?.getD []).length ≤ 9 := by
        rw [List.getElem?_eq_getElem hk]
        exact hr _ (List.getElem_mem hk)
      have ab := atI_rws (B := B) (k := k) hk
      obtain ⟨r, er⟩ : ∃ r, r = B[k]?.getD [] := ⟨_, rfl⟩
      rw [← er] at ab hrl
      have rd2 := rg_down r.length (by omega)
      obtain ⟨η1, e1, Q, v3, rfl, hQ⟩ := loop_down (f := foB (tbl pr m) 3 w_products_of_2) r.length (R := fun j η => ∃ Q v3, η = [some (.sh (.tuple (rws B))), some (.ow (Q.map moD)), some (.sh (.int (k : Int))), v3] ∧ Q ++ (rmon r k j ++ bmon B k) = mons B)
        (fun j η hj hR => by
          obtain ⟨Q, v3, rfl, hQ⟩ := hR
          have az := atI_zs (ns := r) (k := j) hj
          rw [rmon] at hQ
          have hl : Q.length ≤ 81 := by
            have := congrArg List.length hQ
            rw [List.length_append] at this
            omega
          have sm : Sm (Q.length + 1) := sm_k (by omega)
          by_cases h0 : r[j]?.getD 0 = 0
          · rw [if_pos h0] at hQ
            rw [h0] at az
            exact ⟨_, by simp [foB, w_products_of_2, ab, az]; rfl, Q, _, rfl, hQ⟩
          · rw [if_neg h0] at hQ
            have em : Q.map moD ++ [.tuple [.int (r[j]?.getD 0), .int (j : Int), .int (k : Int)]] = (Q ++ [(r[j]?.getD 0, j, k)]).map moD := by
              rw [List.map_append]
              rfl
            generalize r[j]?.getD 0 = c at *
            refine ⟨_, ?_, Q ++ [(c, j, k)], some (.sh (.int (j : Int))), rfl, by rw [← hQ]; simp⟩
            simp only [foB, w_products_of_2]
            simp [ab, az, h0, sm, em])
        [some (.sh (.tuple (rws B))), some (.ow (P.map moD)), some (.sh (.int (k : Int))), u3] ⟨P, u3, rfl, by rw [er]; exact hP⟩
      refine ⟨_, ?_, Q, some (.sh (.int (k : Int))), v3, rfl, by rw [← hQ]; rfl⟩
      simp [foB, w_products_of_1, ab, rd2, e1]) [some (.sh (.tuple (rws B))), some (.ow []), none, none] ⟨[], none, none, rfl, rfl⟩
  have hP : P = mons B := by rw [← hP]; simp [bmon]
  subst hP
  have lf0 : lfAll ((mons B).map moD) = true := by
    generalize mons B = Q
    induction Q with
    | nil => rfl
    | cons p Q ih =>
      show (lf (moD p) && lfAll (Q.map moD)) = true
      rw [ih]
      rfl
  simp [b_products_of, rd, e, lf0]

/-! ### the whole text -/
def okM (p : Mo) : Prop := p.1 ≠ 0 ∧ p.1.natAbs < 10 ^ 12 ∧ p.2.1 ≤ 9 ∧ p.2.2 ≤ 9
def sp (p : Mo) : List Nat := ptx (pfs p.1 p.2.1 p.2.2)
def sgR (p : Mo) : List Nat := if p.1 < 0 then [32, 45, 32] else [32, 43, 32]
def shR (ps : List Mo) : List Nat := ps.flatMap fun p => sgR p ++ sp p
def sgF (p : Mo) : List Nat := if p.1 < 0 then [45] else []
def shw : List Mo → List Nat
  | [] => [48]
  | p :: ps => (sgF p ++ sp p) ++ shR ps
theorem shR_cons (p : Mo) (ps : List Mo) : shR (p :: ps) = (sgR p ++ sp p) ++ shR ps := by simp [shR]
theorem pfs_abs (n : Int) (a u : Nat) : pfs ((n.natAbs : Nat) : Int) a u = pfs n a u := by
  unfold pfs
  rw [Int.natAbs_natCast]
theorem pfs_ok {p : Mo} (h : okM p) : (∀ f ∈ pfs p.1 p.2.1 p.2.2, okF f) ∧ (pfs p.1 p.2.1 p.2.2).length ≤ 3 := by
  obtain ⟨_, h1, h2, h3⟩ := h
  obtain ⟨o1, l1⟩ := lfs_ok false h2
  obtain ⟨o2, l2⟩ := lfs_ok true h3
  have o : ∀ f ∈ lfs false p.2.1 ++ lfs true p.2.2, okF f := fun f hf => by
    rcases List.mem_append.mp hf with hf | hf
    · exact (o1 f hf).1
    · exact (o2 f hf).1
  unfold pfs
  split
  · refine ⟨fun f hf => ?_, by simp; omega⟩
    rcases List.mem_cons.mp hf with rfl | hf
    · exact h1
    · exact o f hf
  · exact ⟨o, by simp; omega⟩
theorem joinL_len : ∀ ws : List (List Nat), (∀ w ∈ ws, w.length ≤ 14) → (TL.joinL [42] ws).length ≤ 15 * ws.length
  | [], _ => Nat.le_refl _
  | [p], h => by
    have := h p List.mem_cons_self
    show p.length ≤ 15 * 1
    omega
  | p :: q :: r, h => by
    have h1 := h p List.mem_cons_self
    have h2 := joinL_len (q :: r) fun w hw => h w (List.mem_cons_of_mem _ hw)
    show (p ++ ([42] ++ TL.joinL [42] (q :: r))).length ≤ _
    rw [List.length_append, List.length_append, List.length_cons (as := q :: r)]
    simp only [List.length_singleton]
    omega
theorem sp_len {p : Mo} (h : okM p) : (sp p).length ≤ 45 := by
  obtain ⟨o, l⟩ := pfs_ok h
  have := joinL_len ((pfs p.1 p.2.1 p.2.2).map ftx) (fun w hw => by
    obtain ⟨f, hf, rfl⟩ := List.mem_map.mp hw
    exact (ftx_le (o f hf)).1)
  rw [List.length_map] at this
  show (TL.joinL [42] _).length ≤ 45
  omega
theorem r_prod_abs (m : Nat) {p : Mo} (h : okM p) : runF pr (m + 2) k_product_text [.int ((p.1.natAbs : Nat) : Int), .int (p.2.1 : Int), .int (p.2.2 : Int)] = .ok (.str (tx (sp p))) := by
  have e := r_product_text m p.1.natAbs p.2.1 p.2.2 h.2.1 h.2.2.1 h.2.2.2
  rw [pfs_abs] at e
  exact e
theorem litP : (" + " : Str) = tx [32, 43, 32] := by decide +kernel
theorem litM : (" - " : Str) = tx [32, 45, 32] := by decide +kernel
theorem pm_at (p : Mo) : atI [PyData.str " + ", .str " - "] (if decide (p.1 < 0) = true then 1 else 0) = some (.str (tx (sgR p))) := by
  rw [litP, litM]
  unfold sgR
  by_cases h : p.1 < 0
  · rw [if_pos (decide_eq_true h), if_pos h]; rfl
  · rw [if_neg (by rw [decide_eq_false h]; decide), if_neg h]; rfl
theorem show_rest (m : Nat) (b l : D) : ∀ (ps : List Mo) (k : Nat) (t : List Nat) (u3 u4 u5 u6 : Option Sl), 1 ≤ k → (∀ p ∈ ps, okM p) → t.length + 48 * ps.length ≤ 9000 →
    ∃ v3 v4 v5 v6, loopF (foEB (tbl pr (m + 2)) 3 [4, 5, 6] w_show_term_1) (enumF k (ps.map moD)) [some (.sh b), some (.sh l), some (.sh (.str (tx t))), u3, u4, u5, u6]
      = .nx [some (.sh b), some (.sh l), some (.sh (.str (tx (t ++ shR ps)))), v3, v4, v5, v6]
  | [], k, t, u3, u4, u5, u6, _, _, _ => ⟨u3, u4, u5, u6, by rw [shR, List.flatMap_nil, List.append_nil]; rfl⟩
  | p :: ps, k, t, u3, u4, u5, u6, hk, h, hl => by
    have hp := h p List.mem_cons_self
    have hs := sp_len hp
    have hg : (sgR p).length = 3 := by unfold sgR; split <;> rfl
    rw [List.length_cons] at hl
    obtain ⟨v3, v4, v5, v6, e⟩ := show_rest m b l ps (k + 1) (t ++ (sgR p ++ sp p)) (some (.sh (.int (k : Int)))) (some (.sh (.int p.1))) (some (.sh (.int (p.2.1 : Int)))) (some (.sh (.int (p.2.2 : Int)))) (by omega) (fun z hz => h z (List.mem_cons_of_mem _ hz)) (by rw [List.length_append, List.length_append]; omega)
    refine ⟨v3, v4, v5, v6, ?_⟩
    have k0 : ¬ (k = 0) := by omega
    have k1 : 0 < k := by omega
    have a1 := add_tx (a := t) (b := sgR p) (by omega)
    have a2 := add_tx (a := t ++ sgR p) (b := sp p) (by rw [List.length_append]; omega)
    have e1 := r_prod_abs m hp
    have pa := pm_at p
    rw [List.map_cons, enumF, loopF, shR_cons, ← List.append_assoc]
    have step : foEB (tbl pr (m + 2)) 3 [4, 5, 6] w_show_term_1 (.tuple [.int (k : Int), moD p]) [some (.sh b), some (.sh l), some (.sh (.str (tx t))), u3, u4, u5, u6]
        = .nx [some (.sh b), some (.sh l), some (.sh (.str (tx (t ++ (sgR p ++ sp p))))), some (.sh (.int (k : Int))), some (.sh (.int p.1)), some (.sh (.int (p.2.1 : Int))), some (.sh (.int (p.2.2 : Int)))] := by
      rw [← List.append_assoc]
      obtain ⟨n, a, u⟩ := p
      generalize tx (t ++ sgR (n, a, u) ++ sp (n, a, u)) = w3 at *
      generalize tx (t ++ sgR (n, a, u)) = w2 at *
      generalize tx (sgR (n, a, u)) = w1 at *
      generalize tx (sp (n, a, u)) = w4 at *
      generalize tx t = w at *
      simp at pa
      have e1 : runF pr (m + 2) k_product_text [.int ((n.natAbs : Nat) : Int), .int (a : Int), .int (u : Int)] = .ok (.str w4) := e1
      simp [foEB, asgE, moD, w_show_term_1, k0, k1, pa, a1, a2, e1, lf]
    rw [step]
    exact e
theorem shaped_mo (ps : List Mo) : PyData.canLayAll0 (ps.map moD) = true ∧ PyData.depthAll (ps.map moD) ≤ 1 := by
  induction ps with
  | nil => exact ⟨rfl, Nat.zero_le _⟩
  | cons p ps ih =>
    obtain ⟨h1, h2⟩ := ih
    refine ⟨?_, ?_⟩
    · show (PyData.canLay0 (moD p) && PyData.canLayAll0 (ps.map moD)) = true
      rw [h1]
      rfl
    · show max (PyData.depth (moD p)) (PyData.depthAll (ps.map moD)) ≤ 1
      have : PyData.depth (moD p) = 1 := rfl
      omega
theorem eq_mo0 (ps : List Mo) : eqD (.list (ps.map moD)) (.list []) = .ok (decide (ps = [])) := by
  have e : eqD (.list (ps.map moD)) (.list []) = if SeqAt.shaped (.list (ps.map moD)) = true ∧ SeqAt.shaped (.list []) = true then .ok (PyData.eqv (.list (ps.map moD)) (.list [])) else .st := rfl
  have sh : SeqAt.shaped (.list (ps.map moD)) = true := by
    obtain ⟨h1, h2⟩ := shaped_mo ps
    unfold SeqAt.shaped
    rw [PyData.canLay0, PyData.depth, h1, Bool.true_and]
    exact decide_eq_true (by omega)
  rw [e, if_pos ⟨sh, by decide +kernel⟩]
  cases ps with
  | nil => rfl
  | cons p ps => rfl
theorem r_show (m : Nat) (B : Bd) (hB : B.length ≤ 9) (hr : ∀ r ∈ B, r.length ≤ 9) (hm : ∀ p ∈ mons B, okM p) : runF pr (m + 3) k_show_term [.tuple (rws B)] = .ok (.str (tx (shw (mons B)))) := by
  rw [st_show_term]
  have hl : (mons B).length ≤ 81 := Nat.le_trans (bmon_len hr B.length) (Nat.mul_le_mul (Nat.le_refl 9) hB)
  have e := r_products_of (m + 1) B hB hr
  generalize mons B = ps at *
  cases ps with
  | nil =>
    have e : runF pr (m + 2) k_products_of [.tuple (rws B)] = .ok (.list []) := e
    have q : eqD (.list []) (.list []) = .ok true := eqD_lz [] []
    show _ = Res.ok (PyData.str (tx [48]))
    rw [← lit0]
    simp [b_show_term, e, q]
  | cons p ps =>
    have hp := hm p List.mem_cons_self
    have hs := sp_len hp
    have hg : (sgF p).length ≤ 1 := by unfold sgF; split <;> simp
    rw [List.length_cons] at hl
    obtain ⟨v3, v4, v5, v6, e3⟩ := show_rest m (.tuple (rws B)) (.list ((p :: ps).map moD)) ps 1 (sgF p ++ sp p) (some (.sh (.int 0))) (some (.sh (.int p.1))) (some (.sh (.int (p.2.1 : Int)))) (some (.sh (.int (p.2.2 : Int)))) (by omega) (fun z hz => hm z (List.mem_cons_of_mem _ hz)) (by rw [List.length_append]; omega)
    have a2 := add_tx (a := sgF p) (b := sp p) (by omega)
    have e1 := r_prod_abs m hp
    have step : foEB (tbl pr (m + 2)) 3 [4, 5, 6] w_show_term_1 (.tuple [.int 0, moD p]) [some (.sh (.tuple (rws B))), some (.sh (.list ((p :: ps).map moD))), some (.sh (.str "")), none, none, none, none]
        = .nx [some (.sh (.tuple (rws B))), some (.sh (.list ((p :: ps).map moD))), some (.sh (.str (tx (sgF p ++ sp p)))), some (.sh (.int 0)), some (.sh (.int p.1)), some (.sh (.int (p.2.1 : Int))), some (.sh (.int (p.2.2 : Int)))] := by
      generalize PyData.list ((p :: ps).map moD) = l
      generalize PyData.tuple (rws B) = b
      obtain ⟨n, a, u⟩ := p
      have e1 : runF pr (m + 2) k_product_text [.int ((n.natAbs : Nat) : Int), .int (a : Int), .int (u : Int)] = .ok (.str (tx (sp (n, a, u)))) := e1
      by_cases hn : n < 0
      · have es : sgF (n, a, u) = [45] := if_pos hn
        rw [es] at a2 ⊢
        rw [← litm] at a2
        generalize tx ([45] ++ sp (n, a, u)) = w3 at *
        generalize tx (sp (n, a, u)) = w4 at *
        simp [foEB, asgE, moD, w_show_term_1, hn, a2, e1, lf]
      · have es : sgF (n, a, u) = [] := if_neg hn
        rw [es] at a2 ⊢
        rw [← lite] at a2
        generalize tx ([] ++ sp (n, a, u)) = w3 at *
        generalize tx (sp (n, a, u)) = w4 at *
        simp [foEB, asgE, moD, w_show_term_1, hn, a2, e1, lf]
    have lp : loopF (foEB (tbl pr (m + 2)) 3 [4, 5, 6] w_show_term_1) (enumF 0 ((p :: ps).map moD)) [some (.sh (.tuple (rws B))), some (.sh (.list ((p :: ps).map moD))), some (.sh (.str "")), none, none, none, none]
        = .nx [some (.sh (.tuple (rws B))), some (.sh (.list ((p :: ps).map moD))), some (.sh (.str (tx (shw (p :: ps))))), v3, v4, v5, v6] := by
      rw [List.map_cons, enumF, loopF]
      rw [List.map_cons] at step e3
      have step : foEB (tbl pr (m + 2)) 3 [4, 5, 6] w_show_term_1 (.tuple [.int ((0 : Nat) : Int), moD p]) _ = _ := step
      rw [step]
      exact e3
    have q := eq_mo0 (p :: ps)
    rw [decide_eq_false (by simp)] at q
    have pre : Wk.pre [some (.sh (.tuple (rws B))), some (.ow ((p :: ps).map moD)), some (.sh (.str "")), none, none, none, none] (.v (.br 1 ((p :: ps).map moD))) = [some (.sh (.tuple (rws B))), some (.sh (.list ((p :: ps).map moD))), some (.sh (.str "")), none, none, none, none] := rfl
    generalize (p :: ps).map moD = M at *
    generalize tx (shw (p :: ps)) = w at *
    simp [b_show_term, e, q, pre, lp]

/-! ### the law's own text -/
theorem r__law_letter (m : Nat) (l : Bool) (p : Nat) (hp : p ≤ 9) : runF pr (m + 1) k__law_letter [.str (tx [cl l]), .int (p : Int)] = .ok (.list (mD ((lfs l p).map ftx))) := by
  rw [st__law_letter]
  have hn : p < 10 ^ 12 := by omega
  have hl := TL.numL_len (k := 12) (by decide) hn
  have s1 := str_tx hn
  have a1 := add_tx (a := [cl l]) (b := [94]) (by simp)
  have a2 := add_tx (a := [cl l] ++ [94]) (b := TL.numL p) (by simp; omega)
  rw [← lith] at a1
  by_cases h0 : p = 0
  · subst h0
    show _ = Res.ok (PyData.list [])
    simp [b__law_letter]
  · by_cases h1 : p = 1
    · subst h1
      have e : mD ((lfs l 1).map ftx) = [.str (tx [cl l])] := by cases l <;> rfl
      rw [e]
      have s1 : biV .str1 [.cl (.int 1)] = .ok (.cl (.str (tx (TL.numL 1)))) := s1
      generalize tx ([cl l] ++ [94] ++ TL.numL 1) = w3 at *
      generalize tx ([cl l] ++ [94]) = w2 at *
      generalize tx (TL.numL 1) = w1 at *
      generalize tx [cl l] = w at *
      have at0 : atI [PyData.str w, .str w3] 0 = some (.str w) := atI_nat (j := 0) rfl
      simp [b__law_letter, a1, s1, a2, at0]
    · have e : mD ((lfs l p).map ftx) = [.str (tx ([cl l] ++ [94] ++ TL.numL p))] := by
        unfold lfs
        rw [if_neg h0]
        show [PyData.str (tx (ftk (.lt l p)).flatten)] = _
        rw [ftk_lt, if_neg h1]
        simp
      rw [e]
      have h2 : (1 : Int) < (p : Int) := by omega
      generalize tx ([cl l] ++ [94] ++ TL.numL p) = w3 at *
      generalize tx ([cl l] ++ [94]) = w2 at *
      generalize tx (TL.numL p) = w1 at *
      generalize tx [cl l] = w at *
      have at1 : atI [PyData.str w, .str w3] 1 = some (.str w3) := atI_nat (j := 1) rfl
      simp [b__law_letter, h0, h2, a1, s1, a2, at1]
def shx : List Mo → List Nat
  | [] => []
  | p :: ps => (sgF p ++ sp p) ++ shR ps
theorem shx_snoc (P : List Mo) (p : Mo) : shx (P ++ [p]) = shx P ++ ((if P = [] then sgF p else sgR p) ++ sp p) := by
  cases P with
  | nil => simp [shx, shR]
  | cons q P => simp [shx, shR]
theorem ftx_ne {f : Fa} (h : okF f) : ftx f ≠ [] := by
  obtain ⟨t, r, e, _⟩ := ftk_head f h
  cases f with
  | nm n =>
    have := TL.numL_ne n
    simpa [ftx, ftk] using this
  | lt l k =>
    unfold ftx
    rw [ftk_lt]
    split <;> simp
theorem sp_ne {p : Mo} (h : okM p) : sp p ≠ [] := by
  have hne : pfs p.1 p.2.1 p.2.2 ≠ [] := by
    unfold pfs
    split
    · simp
    · rename_i c
      exact fun z => c (.inr z)
  obtain ⟨o, _⟩ := pfs_ok h
  unfold sp ptx
  cases e : pfs p.1 p.2.1 p.2.2 with
  | nil => exact absurd e hne
  | cons f fs =>
    have hf := ftx_ne (o f (by rw [e]; exact List.mem_cons_self))
    cases fs with
    | nil => exact hf
    | cons g fs =>
      intro z
      have z : ftx f ++ ([42] ++ TL.joinL [42] (ftx g :: fs.map ftx)) = [] := z
      exact hf (List.append_eq_nil_iff.mp z).1
theorem shx_ne {P : List Mo} (h : ∀ p ∈ P, okM p) (hP : P ≠ []) : shx P ≠ [] := by
  cases P with
  | nil => exact absurd rfl hP
  | cons p P =>
    intro z
    have z : (sgF p ++ sp p) ++ shR P = [] := z
    exact sp_ne (h p List.mem_cons_self) (List.append_eq_nil_iff.mp (List.append_eq_nil_iff.mp z).1).2
theorem shx_len {P : List Mo} (h : ∀ p ∈ P, okM p) : (shx P).length ≤ 48 * P.length := by
  have key : ∀ ps : List Mo, (∀ p ∈ ps, okM p) → (shR ps).length ≤ 48 * ps.length := by
    intro ps
    induction ps with
    | nil => intro _; exact Nat.le_refl _
    | cons p ps ih =>
      intro h
      have h1 := ih fun z hz => h z (List.mem_cons_of_mem _ hz)
      have h2 := sp_len (h p List.mem_cons_self)
      have hg : (sgR p).length = 3 := by unfold sgR; split <;> rfl
      rw [shR_cons, List.length_append, List.length_append, List.length_cons]
      omega
  cases P with
  | nil => exact Nat.le_refl _
  | cons p P =>
    have h1 := key P fun z hz => h z (List.mem_cons_of_mem _ hz)
    have h2 := sp_len (h p List.mem_cons_self)
    have hg : (sgF p).length ≤ 1 := by unfold sgF; split <;> simp
    show ((sgF p ++ sp p) ++ shR P).length ≤ _
    rw [List.length_append, List.length_append, List.length_cons]
    omega
/-- one turn of the law's walk: the coefficient c at (a, u) -/
theorem shown_turn (m : Nat) (B : Bd) (P : List Mo) (k j : Nat) (c : Int) (u3 u4 u5 : Option Sl) (hP : ∀ p ∈ P, okM p) (hl : P.length ≤ 100) (hj : j ≤ 9) (hk : k ≤ 9) (hc : c.natAbs < 10 ^ 12)
    (hr : ∃ r, atI (rws B) (k : Int) = some (.tuple (zs r)) ∧ atI (zs r) (j : Int) = some (.int c)) :
    ∃ v4 v5, foB (tbl pr (m + 2)) 3 w__law_shown_2 (.int (j : Int)) [some (.sh (.tuple (rws B))), some (.sh (.str (tx (shx P)))), some (.sh (.int (k : Int))), u3, u4, u5]
      = .nx [some (.sh (.tuple (rws B))), some (.sh (.str (tx (shx (P ++ (if c = 0 then [] else [(c, j, k)])))))), some (.sh (.int (k : Int))), some (.sh (.int (j : Int))), v4, v5] := by
  obtain ⟨r, hr1, hr2⟩ := hr
  have lx : ("x" : Str) = tx [cl false] := by decide +kernel
  have ly : ("y" : Str) = tx [cl true] := by decide +kernel
  have e1 := r__law_letter (m + 1) false j hj
  have e2 := r__law_letter (m + 1) true k hk
  rw [← lx] at e1
  rw [← ly] at e2
  obtain ⟨o1, l1⟩ := lfs_ok false hj
  obtain ⟨o2, l2⟩ := lfs_ok true hk
  have o : ∀ f ∈ lfs false j ++ lfs true k, okF f ∧ fc f = 1 := fun f hf => by
    rcases List.mem_append.mp hf with hf | hf
    · exact o1 f hf
    · exact o2 f hf
  have cat : catL (mD ((lfs false j).map ftx)) (mD ((lfs true k).map ftx)) = .ok (.nw (mD ((lfs false j ++ lfs true k).map ftx))) := by
    rw [catL_ok (by rw [mD_len, mD_len, List.length_map, List.length_map]; show _ ≤ 16777216; omega)]
    simp [mD]
  have q := eq_mD0 (ms := (lfs false j ++ lfs true k).map ftx) (fun w hw => by
    obtain ⟨f, hf, rfl⟩ := List.mem_map.mp hw
    exact (ftx_le (o f hf).1).2)
  have qe : decide ((lfs false j ++ lfs true k).map ftx = []) = decide (lfs false j ++ lfs true k = []) := by
    rw [decide_eq_decide, List.map_eq_nil_iff]
  rw [qe] at q
  have le : (lfs false j ++ lfs true k).length ≤ 2 := by rw [List.length_append]; omega
  have s1 := str_tx hc
  have w14 : ∀ w ∈ (lfs false j ++ lfs true k).map ftx, w.length ≤ 14 := fun w hw => by
    obtain ⟨f, hf, rfl⟩ := List.mem_map.mp hw
    exact (ftx_le (o f hf).1).1
  have en : ftx (.nm c.natAbs) = TL.numL c.natAbs := by simp [ftx, ftk]
  have hnl := TL.numL_len (k := 12) (by decide) hc
  have cat2 : catL [.str (tx (TL.numL c.natAbs))] (mD ((lfs false j ++ lfs true k).map ftx)) = .ok (.nw (mD ((Fa.nm c.natAbs :: (lfs false j ++ lfs true k)).map ftx))) := by
    rw [catL_ok (by rw [mD_len, List.length_map]; show 1 + _ ≤ 16777216; omega)]
    rw [List.map_cons, en]
    rfl
  have ep : pfs c j k = if c.natAbs ≠ 1 ∨ lfs false j ++ lfs true k = [] then .nm c.natAbs :: (lfs false j ++ lfs true k) else lfs false j ++ lfs true k := rfl
  have op : (∀ w ∈ (pfs c j k).map ftx, w.length ≤ 14) ∧ ((pfs c j k).map ftx).length ≤ 10 := by
    rw [ep]
    split
    · refine ⟨fun w hw => ?_, by rw [List.length_map, List.length_cons]; omega⟩
      rw [List.map_cons, en] at hw
      rcases List.mem_cons.mp hw with rfl | hw
      · omega
      · exact w14 w hw
    · exact ⟨w14, by rw [List.length_map]; omega⟩
  have words : ∀ η0 : PD.Env, η0 = [some (.sh (.tuple (rws B))), some (.sh (.str (tx (shx P)))), some (.sh (.int (k : Int))), some (.sh (.int (j : Int))), u4, u5] →
      ∃ η1, η1 = [some (.sh (.tuple (rws B))), some (.sh (.str (tx (shx P)))), some (.sh (.int (k : Int))), some (.sh (.int (j : Int))), some (.sh (.int (c.natAbs : Int))), some (.ow (mD ((pfs c j k).map ftx)))] ∧
        ∀ z : PD.S, exS (tbl pr (m + 2)) (.seq (.asg 4 (.bi .abs (.cons (.idx (.idx (.var 0) (.var 2)) (.var 3)) .nil))) (.seq (.asg 5 (.bin .add (.call k__law_letter (.cons (.str "x") (.cons (.var 3) .nil))) (.call k__law_letter (.cons (.str "y") (.cons (.var 2) .nil))))) (.seq (.ite (.tbop false (.tcmp .ne (.var 4) (.int 1)) (.tbone false (.tcmp .eq (.var 5) (.lst .nil)))) (.seq (.asg 5 (.bin .add (.lst (.cons (.bi .str1 (.cons (.var 4) .nil)) .nil)) (.var 5))) .skip) .skip) z))) η0 = exS (tbl pr (m + 2)) z η1 := by
    rintro η0 rfl
    refine ⟨_, rfl, fun z => ?_⟩
    rw [ep]
    generalize mD ((lfs false j).map ftx) = A1 at *
    generalize mD ((lfs true k).map ftx) = A2 at *
    generalize tx (shx P) = w0 at *
    by_cases cc : c.natAbs ≠ 1 ∨ lfs false j ++ lfs true k = []
    · rw [if_pos cc]
      generalize mD ((Fa.nm c.natAbs :: (lfs false j ++ lfs true k)).map ftx) = M2 at *
      generalize mD ((lfs false j ++ lfs true k).map ftx) = M1 at *
      generalize tx (TL.numL c.natAbs) = w at *
      by_cases c1 : c.natAbs = 1
      · have c2 : lfs false j ++ lfs true k = [] := cc.resolve_left fun z => z c1
        rw [decide_eq_true c2] at q
        rw [c1] at s1 ⊢
        have s1 : biV .str1 [.cl (.int 1)] = .ok (.cl (.str w)) := s1
        simp [hr1, hr2, e1, e2, cat, q, c1, s1, cat2]
      · have c1' : ¬ ((c.natAbs : Int) = 1) := by omega
        simp [hr1, hr2, e1, e2, cat, c1', s1, cat2]
    · rw [if_neg cc]
      have c1 : c.natAbs = 1 := Classical.byContradiction fun z => cc (.inl z)
      have c2 : ¬ lfs false j ++ lfs true k = [] := fun z => cc (.inr z)
      rw [decide_eq_false c2] at q
      generalize mD ((lfs false j ++ lfs true k).map ftx) = M1 at *
      simp [hr1, hr2, e1, e2, cat, c1, q]
  obtain ⟨η1, rfl, wd⟩ := words _ rfl
  refine ⟨some (.sh (.int (c.natAbs : Int))), some (.ow (mD ((pfs c j k).map ftx))), ?_⟩
  have jv := join_v op.2 op.1 (.br 5 (mD ((pfs c j k).map ftx))) rfl
  have fo : foB (tbl pr (m + 2)) 3 w__law_shown_2 (.int (j : Int)) [some (.sh (.tuple (rws B))), some (.sh (.str (tx (shx P)))), some (.sh (.int (k : Int))), u3, u4, u5] = exS (tbl pr (m + 2)) w__law_shown_2 [some (.sh (.tuple (rws B))), some (.sh (.str (tx (shx P)))), some (.sh (.int (k : Int))), some (.sh (.int (j : Int))), u4, u5] := by
    simp [foB]
  rw [fo]
  unfold w__law_shown_2
  rw [wd]
  have esp : TL.joinL [42] ((pfs c j k).map ftx) = sp (c, j, k) := rfl
  rw [esp] at jv
  have xl := shx_len hP
  have hfs : eqD (.str (tx (shx P))) (.str "") = .ok (decide (P = [])) := by
    rw [lite, eq_tx]
    congr 1
    rw [decide_eq_decide]
    refine ⟨fun z => Classical.byContradiction fun h => shx_ne hP h z, fun z => by rw [z]; rfl⟩
  by_cases h0 : c = 0
  · subst h0
    rw [if_pos rfl, List.append_nil]
    generalize tx (shx P) = w at *
    generalize mD ((pfs 0 j k).map ftx) = M at *
    simp [hr1, hr2]
  · rw [if_neg h0, shx_snoc]
    have okp : okM (c, j, k) := ⟨h0, hc, hj, hk⟩
    have hs := sp_len okp
    obtain ⟨g, hg⟩ : ∃ g, g = if P = [] then sgF (c, j, k) else sgR (c, j, k) := ⟨_, rfl⟩
    rw [← hg]
    have hgl : g.length ≤ 3 := by
      rw [hg]
      split
      · unfold sgF; split <;> simp
      · unfold sgR; split <;> simp
    have a1 := add_tx (a := shx P) (b := g) (by omega)
    have a2 := add_tx (a := shx P ++ g) (b := sp (c, j, k)) (by rw [List.length_append]; omega)
    rw [← List.append_assoc]
    by_cases hc0 : c < 0
    · have hc1 : ¬ (0 < c) := by omega
      have pa : atI [PyData.str "-", .str " - "] (if P = [] then 0 else 1) = some (.str (tx g)) := by
        rw [hg]
        split
        · rw [show sgF (c, j, k) = [45] from if_pos hc0, litm]; rfl
        · rw [show sgR (c, j, k) = [32, 45, 32] from if_pos hc0, litM]; rfl
      generalize tx (shx P ++ g ++ sp (c, j, k)) = w3 at *
      generalize tx (shx P ++ g) = w2 at *
      generalize tx g = w1 at *
      generalize tx (sp (c, j, k)) = w4 at *
      generalize tx (shx P) = w at *
      generalize mD ((pfs c j k).map ftx) = M at *
      by_cases hPe : P = []
      · rw [decide_eq_true hPe] at hfs
        rw [if_pos hPe] at pa
        simp [-eqD_ss, hr1, hr2, hc0, hc1, hfs, pa, a1, a2, jv]
      · rw [decide_eq_false hPe] at hfs
        rw [if_neg hPe] at pa
        simp [-eqD_ss, hr1, hr2, hc0, hc1, hfs, pa, a1, a2, jv]
    · have hc1 : 0 < c := by omega
      have pa : atI [PyData.str "", .str " + "] (if P = [] then 0 else 1) = some (.str (tx g)) := by
        rw [hg]
        split
        · rw [show sgF (c, j, k) = [] from if_neg hc0, lite]; rfl
        · rw [show sgR (c, j, k) = [32, 43, 32] from if_neg hc0, litP]; rfl
      generalize tx (shx P ++ g ++ sp (c, j, k)) = w3 at *
      generalize tx (shx P ++ g) = w2 at *
      generalize tx g = w1 at *
      generalize tx (sp (c, j, k)) = w4 at *
      generalize tx (shx P) = w at *
      generalize mD ((pfs c j k).map ftx) = M at *
      by_cases hPe : P = []
      · rw [decide_eq_true hPe] at hfs
        rw [if_pos hPe] at pa
        simp [-eqD_ss, hr1, hr2, hc0, hc1, hfs, pa, a1, a2, jv]
      · rw [decide_eq_false hPe] at hfs
        rw [if_neg hPe] at pa
        simp [-eqD_ss, hr1, hr2, hc0, hc1, hfs, pa, a1, a2, jv]
theorem r__law_shown (m : Nat) (B : Bd) (hB : B.length ≤ 9) (hr : ∀ r ∈ B, r.length ≤ 9) (hc : ∀ r ∈ B, ∀ c ∈ r, c.natAbs < 10 ^ 12) (hm : ∀ p ∈ mons B, okM p) : runF pr (m + 3) k__law_shown [.tuple (rws B)] = .ok (.str (tx (shw (mons B)))) := by
  rw [st__law_shown]
  have hml : (mons B).length ≤ 81 := Nat.le_trans (bmon_len hr B.length) (Nat.mul_le_mul (Nat.le_refl 9) hB)
  have rd := rg_down B.length (by omega)
  obtain ⟨η', e, P, u2, u3, u4, u5, rfl, hP⟩ := loop_down (f := foB (tbl pr (m + 2)) 2 w__law_shown_1) B.length (R := fun k η => ∃ P u2 u3 u4 u5, η = [some (.sh (.tuple (rws B))), some (.sh (.str (tx (shx P)))), u2, u3, u4, u5] ∧ P ++ bmon B k = mons B)
    (fun k η hk hR => by
      obtain ⟨P, u2, u3, u4, u5, rfl, hP⟩ := hR
      have ab := atI_rws (B := B) (k := k) hk
      have hmem : B[k]?.getD [] ∈ B := by
        rw [List.getElem?_eq_getElem hk]
        exact List.getElem_mem hk
      have hrl := hr _ hmem
      have hrc := hc _ hmem
      obtain ⟨r, er⟩ : ∃ r, r = B[k]?.getD [] := ⟨_, rfl⟩
      rw [← er] at ab hrl hrc
      have rd2 := rg_down r.length (by omega)
      obtain ⟨η1, e1, Q, v3, v4, v5, rfl, hQ⟩ := loop_down (f := foB (tbl pr (m + 2)) 3 w__law_shown_2) r.length (R := fun j η => ∃ Q v3 v4 v5, η = [some (.sh (.tuple (rws B))), some (.sh (.str (tx (shx Q)))), some (.sh (.int (k : Int))), v3, v4, v5] ∧ Q ++ (rmon r k j ++ bmon B k) = mons B)
        (fun j η hj hR => by
          obtain ⟨Q, v3, v4, v5, rfl, hQ⟩ := hR
          have az := atI_zs (ns := r) (k := j) hj
          have hcj : (r[j]?.getD 0).natAbs < 10 ^ 12 := by
            rw [List.getElem?_eq_getElem hj]
            exact hrc _ (List.getElem_mem hj)
          have hQm : ∀ p ∈ Q, okM p := fun p hp => hm p (by rw [← hQ]; exact List.mem_append.mpr (.inl hp))
          have hQl : Q.length ≤ 81 := by
            have := congrArg List.length hQ
            rw [List.length_append] at this
            omega
          obtain ⟨w4, w5, st⟩ := shown_turn m B Q k j (r[j]?.getD 0) v3 v4 v5 hQm (by omega) (by omega) (by omega) hcj ⟨r, ab, az⟩
          refine ⟨_, st, _, _, _, _, rfl, ?_⟩
          rw [rmon] at hQ
          rw [← hQ]
          simp) [some (.sh (.tuple (rws B))), some (.sh (.str (tx (shx P)))), some (.sh (.int (k : Int))), u3, u4, u5] ⟨P, u3, u4, u5, rfl, by rw [er]; exact hP⟩
      refine ⟨_, ?_, Q, some (.sh (.int (k : Int))), v3, v4, v5, rfl, by rw [← hQ]; rfl⟩
      simp [foB, w__law_shown_1, ab, rd2, e1]) [some (.sh (.tuple (rws B))), some (.sh (.str (tx []))), none, none, none, none] ⟨[], none, none, none, none, rfl, rfl⟩
  have hP : P = mons B := by rw [← hP]; simp [bmon]
  subst hP
  rw [← lite] at e
  have hfs : eqD (.str (tx (shx (mons B)))) (.str "") = .ok (decide (mons B = [])) := by
    rw [lite, eq_tx]
    congr 1
    rw [decide_eq_decide]
    refine ⟨fun z => Classical.byContradiction fun h => shx_ne hm h z, fun z => by rw [z]; rfl⟩
  have pa : atI [PyData.str (tx (shx (mons B))), .str "0"] (if mons B = [] then 1 else 0) = some (.str (tx (shw (mons B)))) := by
    cases hb : mons B with
    | nil => rw [lit0]; rfl
    | cons p ps => rfl
  generalize tx (shw (mons B)) = w2 at *
  generalize tx (shx (mons B)) = w at *
  by_cases hPe : mons B = []
  · rw [decide_eq_true hPe] at hfs
    rw [if_pos hPe] at pa
    simp [-eqD_ss, b__law_shown, rd, e, hfs, pa]
  · rw [decide_eq_false hPe] at hfs
    rw [if_neg hPe] at pa
    simp [-eqD_ss, b__law_shown, rd, e, hfs, pa]

/-! ### what the products are worth -/
def mV (p : Mo) (x y : Int) : Int := p.1 * x ^ p.2.1 * y ^ p.2.2
def mS (ps : List Mo) (x y : Int) : Int := (ps.map fun p => mV p x y).sum
theorem mS_append (ps qs : List Mo) (x y : Int) : mS (ps ++ qs) x y = mS ps x y + mS qs x y := by simp [mS]
theorem mS_rmon (r : List Int) (u : Nat) (x y : Int) : ∀ k, k ≤ r.length → mS (rmon r u k) x y = vl (r.take k) x * y ^ u
  | 0, _ => by rw [List.take_zero, vl_nil, Int.zero_mul]; rfl
  | k + 1, h => by
    rw [rmon, mS_append, mS_rmon r u x y k (by omega), vl_take r x k (by omega), Int.add_mul]
    by_cases h0 : r[k]?.getD 0 = 0
    · rw [if_pos h0, h0, Int.zero_mul, Int.zero_mul]
      show 0 + _ = _
      omega
    · rw [if_neg h0]
      have e : mS [(r[k]?.getD 0, k, u)] x y = r[k]?.getD 0 * x ^ k * y ^ u := by
        show _ + 0 = _
        rw [Int.add_zero]
        rfl
      rw [e]
      omega
theorem mS_bmon (B : Bd) (x y : Int) : ∀ k, k ≤ B.length → mS (bmon B k) x y = vl ((B.map fun r => vl r x).take k) y
  | 0, _ => by rw [List.take_zero, vl_nil]; rfl
  | k + 1, h => by
    rw [bmon, mS_append, mS_bmon B x y k (by omega), vl_take (B.map fun r => vl r x) y k (by rw [List.length_map]; omega), bmap_get, mS_rmon _ _ _ _ _ (Nat.le_refl _), List.take_length]
    omega
theorem mS_mons (B : Bd) (x y : Int) : mS (mons B) x y = bv B x y := by
  rw [mons, mS_bmon B x y B.length (Nat.le_refl _)]
  have e : B.length = (B.map fun r => vl r x).length := (List.length_map ..).symm
  rw [e, List.take_length]
  rfl
/-! ### a product as a term -/
def tm (p : Mo) : Tm := match pfs p.1 p.2.1 p.2.2 with
  | [] => ⟨decide (p.1 < 0), .nm 0, []⟩
  | f :: fs => ⟨decide (p.1 < 0), f, fs⟩
theorem lfs_sum (l : Bool) (p : Nat) : sA (lfs l p) = p * la l ∧ sU (lfs l p) = p * lu l := by
  unfold lfs
  split
  · rename_i h
    rw [h, Nat.zero_mul, Nat.zero_mul]
    exact ⟨rfl, rfl⟩
  · exact ⟨by simp [sA, fa], by simp [sU, fu]⟩
theorem sA_append (a b : List Fa) : sA (a ++ b) = sA a + sA b := by simp [sA]
theorem sU_append (a b : List Fa) : sU (a ++ b) = sU a + sU b := by simp [sU]
theorem lfs_both (a u : Nat) : sA (lfs false a ++ lfs true u) = a ∧ sU (lfs false a ++ lfs true u) = u := by
  rw [sA_append, sU_append, (lfs_sum false a).1, (lfs_sum true u).1, (lfs_sum false a).2, (lfs_sum true u).2]
  simp [la, lu]
theorem sgN_nat (n : Int) : sgN (decide (n < 0)) (n.natAbs : Int) = n := by
  unfold sgN
  by_cases h : n < 0
  · rw [if_pos (decide_eq_true h)]; omega
  · rw [if_neg (by rw [decide_eq_false h]; decide)]; omega
theorem tm_of {p : Mo} (h : okM p) : ∃ f fs, pfs p.1 p.2.1 p.2.2 = f :: fs ∧ tm p = ⟨decide (p.1 < 0), f, fs⟩ ∧ okTm (tm p) ∧ sgN (decide (p.1 < 0)) (fc f) = p.1 ∧ fa f + sA fs = p.2.1 ∧ fu f + sU fs = p.2.2 := by
  obtain ⟨n, a, u⟩ := p
  obtain ⟨h0, h1, h2, h3⟩ := h
  have h0 : n ≠ 0 := h0
  have h1 : n.natAbs < 10 ^ 12 := h1
  have h2 : a ≤ 9 := h2
  have h3 : u ≤ 9 := h3
  obtain ⟨o1, l1⟩ := lfs_ok false h2
  obtain ⟨o2, l2⟩ := lfs_ok true h3
  have o : ∀ f ∈ lfs false a ++ lfs true u, okF f ∧ fc f = 1 := fun f hf => by
    rcases List.mem_append.mp hf with hf | hf
    · exact o1 f hf
    · exact o2 f hf
  have le : (lfs false a ++ lfs true u).length ≤ 2 := by rw [List.length_append]; omega
  obtain ⟨s1, s2⟩ := lfs_both a u
  have ep : pfs n a u = if n.natAbs ≠ 1 ∨ lfs false a ++ lfs true u = [] then .nm n.natAbs :: (lfs false a ++ lfs true u) else lfs false a ++ lfs true u := rfl
  by_cases c : n.natAbs ≠ 1 ∨ lfs false a ++ lfs true u = []
  · rw [if_pos c] at ep
    have et : tm (n, a, u) = ⟨decide (n < 0), .nm n.natAbs, lfs false a ++ lfs true u⟩ := by
      unfold tm
      show (match pfs n a u with | [] => _ | f :: fs => _) = _
      rw [ep]
    refine ⟨_, _, ep, et, by rw [et]; exact ⟨h1, o, by show (lfs false a ++ lfs true u).length ≤ 8; omega⟩, sgN_nat n, ?_, ?_⟩
    · show 0 + _ = a
      omega
    · show 0 + _ = u
      omega
  · rw [if_neg c] at ep
    have c1 : n.natAbs = 1 := Classical.byContradiction fun z => c (.inl z)
    have c2 : lfs false a ++ lfs true u ≠ [] := fun z => c (.inr z)
    cases e : lfs false a ++ lfs true u with
    | nil => exact absurd e c2
    | cons f fs =>
      rw [e] at ep o le s1 s2
      have et : tm (n, a, u) = ⟨decide (n < 0), f, fs⟩ := by
        unfold tm
        show (match pfs n a u with | [] => _ | f :: fs => _) = _
        rw [ep]
      have hf := o f List.mem_cons_self
      refine ⟨f, fs, ep, et, ?_, ?_, ?_, ?_⟩
      · rw [et]
        exact ⟨hf.1, fun g hg => o g (List.mem_cons_of_mem _ hg), by rw [List.length_cons] at le; show fs.length ≤ 8; omega⟩
      · rw [hf.2]
        have := sgN_nat n
        rw [c1] at this
        exact this
      · rw [sA_cons] at s1
        exact s1
      · rw [sU_cons] at s2
        exact s2
theorem tmV_tm {p : Mo} (h : okM p) (x y : Int) : tmV (tm p) x y = mV p x y := by
  obtain ⟨f, fs, _, e2, _, e4, e5, e6⟩ := tm_of h
  unfold tmV tmA tmU mV
  rw [e2]
  show sgN (decide (p.1 < 0)) (fc f) * x ^ (fa f + sA fs) * y ^ (fu f + sU fs) = _
  rw [e4, e5, e6]
theorem sumV_tm {x y : Int} : ∀ {ps : List Mo}, (∀ p ∈ ps, okM p) → sumV (ps.map tm) x y = mS ps x y
  | [], _ => rfl
  | p :: ps, h => by
    rw [List.map_cons, sumV_cons, tmV_tm (h p List.mem_cons_self), sumV_tm fun z hz => h z (List.mem_cons_of_mem _ hz)]
    simp [mS]

/-! ### the text's pieces -/
def mk1 (p : Mo) : List (List Nat) := [32] :: smk (tm p) :: [32] :: ptk (tm p).f (tm p).fs
def pcs : List Mo → List (List Nat)
  | [] => [[48]]
  | p :: ps => (sgT (tm p).neg ++ ptk (tm p).f (tm p).fs) ++ ps.flatMap mk1
theorem ptk_flat : ∀ (fs : List Fa) (f : Fa), (ptk f fs).flatten = TL.joinL [42] ((f :: fs).map ftx)
  | [], f => by
    show (ftk f ++ ftl []).flatten = ftx f
    simp [ftl, ftx]
  | g :: fs, f => by
    have ih := ptk_flat fs g
    show (ftk f ++ ftl (g :: fs)).flatten = ftx f ++ ([42] ++ TL.joinL [42] ((g :: fs).map ftx))
    rw [← ih, ftl_cons]
    simp [ptk, ftx]
theorem sp_flat {p : Mo} (h : okM p) : (ptk (tm p).f (tm p).fs).flatten = sp p := by
  obtain ⟨f, fs, e1, e2, _⟩ := tm_of h
  rw [e2]
  show (ptk f fs).flatten = TL.joinL [42] ((pfs p.1 p.2.1 p.2.2).map ftx)
  rw [ptk_flat, e1]
theorem tm_neg {p : Mo} (h : okM p) : (tm p).neg = decide (p.1 < 0) := by
  obtain ⟨f, fs, e1, e2, _⟩ := tm_of h
  rw [e2]
theorem mk1_flat {p : Mo} (h : okM p) : (mk1 p).flatten = sgR p ++ sp p := by
  unfold mk1
  rw [List.flatten_cons, List.flatten_cons, List.flatten_cons, sp_flat h]
  unfold smk sgR
  rw [tm_neg h]
  by_cases hn : p.1 < 0
  · rw [if_pos (decide_eq_true hn), if_pos hn]
    simp
  · rw [if_neg (by rw [decide_eq_false hn]; decide), if_neg hn]
    simp
theorem rest_flat : ∀ {ps : List Mo}, (∀ p ∈ ps, okM p) → (ps.flatMap mk1).flatten = shR ps
  | [], _ => rfl
  | p :: ps, h => by
    rw [List.flatMap_cons, List.flatten_append, mk1_flat (h p List.mem_cons_self), rest_flat fun z hz => h z (List.mem_cons_of_mem _ hz), shR_cons]
theorem pcs_flat {ps : List Mo} (h : ∀ p ∈ ps, okM p) : (pcs ps).flatten = shw ps := by
  cases ps with
  | nil => rfl
  | cons p ps =>
    have hp := h p List.mem_cons_self
    show ((sgT (tm p).neg ++ ptk (tm p).f (tm p).fs) ++ ps.flatMap mk1).flatten = (sgF p ++ sp p) ++ shR ps
    rw [List.flatten_append, List.flatten_append, sp_flat hp, rest_flat fun z hz => h z (List.mem_cons_of_mem _ hz), tm_neg hp]
    unfold sgT sgF
    by_cases hn : p.1 < 0
    · rw [if_pos (decide_eq_true hn), if_pos hn]
      rfl
    · rw [if_neg (by rw [decide_eq_false hn]; decide), if_neg hn]
      rfl
theorem ftk_no32 {f : Fa} (h : okF f) : ∀ w ∈ ftk f, w ≠ [32] := by
  have num : ∀ n, TL.numL n ≠ [32] := fun n z => by
    have hd := TL.numL_digits n
    rw [z] at hd
    have := hd 32 (List.mem_singleton.mpr rfl)
    omega
  cases f with
  | nm n =>
    intro w hw
    rw [List.mem_singleton.mp hw]
    exact num n
  | lt l k =>
    have hc : [cl l] ≠ [32] := by cases l <;> decide
    intro w hw
    rw [ftk_lt] at hw
    split at hw
    · rw [List.mem_singleton.mp hw]
      exact hc
    · simp only [List.mem_cons, List.not_mem_nil, or_false] at hw
      rcases hw with rfl | rfl | rfl
      · exact hc
      · decide
      · exact num k
theorem ptk_no32 {f : Fa} {fs : List Fa} (hf : okF f) (h : ∀ g ∈ fs, okF g ∧ fc g = 1) : ∀ w ∈ ptk f fs, w ≠ [32] := by
  intro w hw
  rcases List.mem_append.mp hw with hw | hw
  · exact ftk_no32 hf w hw
  · obtain ⟨g, hg, hw⟩ := List.mem_flatMap.mp hw
    rcases List.mem_cons.mp hw with rfl | hw
    · decide
    · exact ftk_no32 (h g hg).1 w hw
theorem mkP_append (a b : List (List Nat)) : mkP (a ++ b) = mkP a ++ mkP b := by simp [mkP]
theorem mkP_same {a : List (List Nat)} (h : ∀ w ∈ a, w ≠ [32]) : mkP a = a := List.filter_eq_self.mpr fun w hw => decide_eq_true (h w hw)
theorem mkP_mk1 {p : Mo} (h : okM p) : mkP (mk1 p) = smk (tm p) :: ptk (tm p).f (tm p).fs := by
  obtain ⟨f, fs, _, e2, ⟨o1, o2, o3⟩, _⟩ := tm_of h
  have n := ptk_no32 o1 o2
  have e : mk1 p = [[32]] ++ ([smk (tm p)] ++ ([[32]] ++ ptk (tm p).f (tm p).fs)) := rfl
  have hs : smk (tm p) ≠ [32] := by unfold smk; split <;> decide
  rw [e, mkP_append, mkP_append, mkP_append, mkP_same n, mkP_same (a := [smk (tm p)]) (fun w hw => by rw [List.mem_singleton.mp hw]; exact hs)]
  rfl
theorem mkP_rest : ∀ {ps : List Mo}, (∀ p ∈ ps, okM p) → mkP (ps.flatMap mk1) = ttl (ps.map tm)
  | [], _ => rfl
  | p :: ps, h => by
    rw [List.flatMap_cons, mkP_append, mkP_mk1 (h p List.mem_cons_self), mkP_rest fun z hz => h z (List.mem_cons_of_mem _ hz), List.map_cons, ttl_cons]
    rfl
theorem mkP_pcs {p : Mo} {ps : List Mo} (h : ∀ q ∈ p :: ps, okM q) : mkP (pcs (p :: ps)) = sgT (tm p).neg ++ (ptk (tm p).f (tm p).fs ++ ttl (ps.map tm)) := by
  obtain ⟨f, fs, _, e2, ⟨o1, o2, o3⟩, _⟩ := tm_of (h p List.mem_cons_self)
  have n := ptk_no32 o1 o2
  show mkP ((sgT (tm p).neg ++ ptk (tm p).f (tm p).fs) ++ ps.flatMap mk1) = _
  rw [mkP_append, mkP_append, mkP_same n, mkP_rest fun z hz => h z (List.mem_cons_of_mem _ hz), List.append_assoc, mkP_same (a := sgT (tm p).neg) (fun w hw => by
    unfold sgT at hw
    split at hw
    · rw [List.mem_singleton.mp hw]; decide
    · cases hw)]
/-- ahead of a text: nothing that goes on with a word -/
def stopH (R : List (List Nat)) : Prop := ∀ c, R.flatten.head? = some c → ¬ isRun c
theorem sg_wd {c : Nat} (h : isSg c) : ¬ isWd [c] := fun z => by
  obtain ⟨_, h2, _⟩ := wd_run z
  exact (sg_not h).1 (h2 c (List.mem_singleton.mpr rfl))
theorem stop_sg {c : Nat} {R : List (List Nat)} (h : isSg c) : stopH ([c] :: R) := fun d hd => by
  rw [List.flatten_cons] at hd
  have : c = d := by simpa using hd
  rw [← this]
  exact (sg_not h).1
theorem okPs_sg {c : Nat} {R : List (List Nat)} (h : isSg c) (hR : okPs R) : okPs ([c] :: R) := ⟨.inr (.inl ⟨c, rfl, h⟩), fun z => absurd z (sg_wd h), hR⟩
theorem okPs_wd {w : List Nat} {R : List (List Nat)} (h : isWd w) (hs : stopH R) (hR : okPs R) : okPs (w :: R) := ⟨.inr (.inr h), fun _ => hs, hR⟩
theorem okPs_bl {R : List (List Nat)} (hR : okPs R) : okPs ([32] :: R) ∧ stopH ([32] :: R) := by
  refine ⟨⟨.inl rfl, fun z => ?_, hR⟩, fun d hd => ?_⟩
  · obtain ⟨_, h2, _⟩ := wd_run z
    exact absurd (h2 32 (List.mem_singleton.mpr rfl)) (by decide)
  · rw [List.flatten_cons] at hd
    have : 32 = d := by simpa using hd
    rw [← this]
    decide
theorem okPs_ftk {f : Fa} {R : List (List Nat)} (hf : okF f) (hs : stopH R) (hR : okPs R) : okPs (ftk f ++ R) := by
  have wl : ∀ l, isWd [cl l] := fun l => by cases l; exact .inr (.inl rfl); exact .inr (.inr rfl)
  cases f with
  | nm n => exact okPs_wd (.inl (isNum_num hf)) hs hR
  | lt l k =>
    rw [ftk_lt]
    by_cases h1 : k = 1
    · rw [if_pos h1]
      exact okPs_wd (wl l) hs hR
    · rw [if_neg h1]
      have hk : k < 10 ^ 12 := by have := hf.2; omega
      have s94 : isSg 94 := .inr (.inr (.inr rfl))
      exact okPs_wd (wl l) (stop_sg s94) (okPs_sg s94 (okPs_wd (.inl (isNum_num hk)) hs hR))
theorem okPs_ftl {R : List (List Nat)} (hs : stopH R) (hR : okPs R) : ∀ {fs : List Fa}, (∀ g ∈ fs, okF g ∧ fc g = 1) → okPs (ftl fs ++ R) ∧ stopH (ftl fs ++ R)
  | [], _ => ⟨hR, hs⟩
  | g :: fs, h => by
    obtain ⟨i1, i2⟩ := okPs_ftl hs hR (fs := fs) fun z hz => h z (List.mem_cons_of_mem _ hz)
    have s42 : isSg 42 := .inr (.inr (.inl rfl))
    have e : ftl (g :: fs) ++ R = [42] :: (ftk g ++ (ftl fs ++ R)) := by rw [ftl_cons]; simp
    rw [e]
    exact ⟨okPs_sg s42 (okPs_ftk (h g List.mem_cons_self).1 i2 i1), stop_sg s42⟩
theorem okPs_ptk {f : Fa} {fs : List Fa} {R : List (List Nat)} (hf : okF f) (h : ∀ g ∈ fs, okF g ∧ fc g = 1) (hs : stopH R) (hR : okPs R) : okPs (ptk f fs ++ R) := by
  obtain ⟨i1, i2⟩ := okPs_ftl hs hR h
  rw [ptk, List.append_assoc]
  exact okPs_ftk hf i2 i1
theorem okPs_rest : ∀ {ps : List Mo}, (∀ p ∈ ps, okM p) → okPs (ps.flatMap mk1) ∧ stopH (ps.flatMap mk1)
  | [], _ => ⟨trivial, fun c hc => by cases hc⟩
  | p :: ps, h => by
    obtain ⟨i1, i2⟩ := okPs_rest (ps := ps) fun z hz => h z (List.mem_cons_of_mem _ hz)
    obtain ⟨f, fs, _, e2, ⟨o1, o2, o3⟩, _⟩ := tm_of (h p List.mem_cons_self)
    rw [List.flatMap_cons]
    have hsm : ∃ c, smk (tm p) = [c] ∧ isSg c := by
      unfold smk
      split
      · exact ⟨45, rfl, .inr (.inl rfl)⟩
      · exact ⟨43, rfl, .inl rfl⟩
    obtain ⟨c, ec, hc⟩ := hsm
    have e : mk1 p ++ ps.flatMap mk1 = [32] :: [c] :: [32] :: (ptk (tm p).f (tm p).fs ++ ps.flatMap mk1) := by
      unfold mk1
      rw [ec]
      simp
    rw [e]
    exact okPs_bl (okPs_sg hc (okPs_bl (okPs_ptk o1 o2 i2 i1)).1)
theorem okPs_pcs {ps : List Mo} (h : ∀ p ∈ ps, okM p) : okPs (pcs ps) := by
  cases ps with
  | nil => exact okPs_wd (.inl rfl) (fun c hc => by cases hc) trivial
  | cons p ps =>
    obtain ⟨i1, i2⟩ := okPs_rest (ps := ps) fun z hz => h z (List.mem_cons_of_mem _ hz)
    obtain ⟨f, fs, _, e2, ⟨o1, o2, o3⟩, _⟩ := tm_of (h p List.mem_cons_self)
    have q := okPs_ptk o1 o2 i2 i1
    show okPs ((sgT (tm p).neg ++ ptk (tm p).f (tm p).fs) ++ ps.flatMap mk1)
    rw [List.append_assoc]
    unfold sgT
    split
    · exact okPs_sg (.inr (.inl rfl)) q
    · exact q

/-! ### read again -/
theorem r_again (m : Nat) (B : Bd) (hB : isBd B) (hm : ∀ p ∈ mons B, okM p) (hl : (shw (mons B)).length ≤ 1000) (hn : (mons B).length ≤ 81) : runF pr (m + 9) k_read_term [.str (tx (shw (mons B)))] = .ok (.tuple (rws B)) := by
  have hv := fun x y => mS_mons B x y
  have ok := okPs_pcs hm
  have fl := pcs_flat hm
  rw [← fl] at hl ⊢
  have plen : (pcs (mons B)).length ≤ 5000 := by
    have key : ∀ ps : List (List Nat), okPs ps → ps.length ≤ ps.flatten.length := by
      intro ps
      induction ps with
      | nil => intro _; exact Nat.le_refl _
      | cons p ps ih =>
        intro o
        have h1 := ih o.2.2
        have h2 : p ≠ [] := by
          rcases o.1 with rfl | ⟨c, rfl, _⟩ | h
          · simp
          · simp
          · exact (wd_run h).1
        have := List.length_pos_iff.mpr h2
        rw [List.flatten_cons, List.length_append, List.length_cons]
        omega
    have := key _ ok
    omega
  have fin : ∀ (t : Tm) (ts : List Tm), okTm t → (∀ t ∈ ts, okTm t) → mkP (pcs (mons B)) = sgT t.neg ++ (ptk t.f t.fs ++ ttl ts) → (∀ x y, tmV t x y + sumV ts x y = mS (mons B) x y) → runF pr (m + 9) k_read_term [.str (tx (pcs (mons B)).flatten)] = .ok (.tuple (rws B)) := by
    intro t ts h1 h2 h3 h4
    obtain ⟨X, e, oX, vX⟩ := r_read m (pcs (mons B)) ok hl plen t ts h1 h2 h3
    have eX : X = B := bv_inj oX.1 hB fun x y => by rw [vX, h4, hv]
    rw [e, eX]
  cases hps : mons B with
  | nil =>
    rw [hps] at fin
    refine fin ⟨false, .nm 0, []⟩ [] ⟨by show (0 : Nat) < 10 ^ 12; decide, fun g hg => (List.not_mem_nil hg).elim, by simp⟩ (fun t ht => (List.not_mem_nil ht).elim) (by decide +kernel) (fun x y => ?_)
    show (0 : Int) * x ^ 0 * y ^ 0 + 0 = 0
    rw [Int.zero_mul, Int.zero_mul, Int.add_zero]
  | cons p ps =>
    rw [hps] at fin hm
    refine fin (tm p) (ps.map tm) ?_ ?_ (mkP_pcs hm) (fun x y => ?_)
    · obtain ⟨_, _, _, _, h, _⟩ := tm_of (hm p List.mem_cons_self)
      exact h
    · intro t ht
      obtain ⟨q, hq, rfl⟩ := List.mem_map.mp ht
      obtain ⟨_, _, _, _, h, _⟩ := tm_of (hm q (List.mem_cons_of_mem _ hq))
      exact h
    · rw [tmV_tm (hm p List.mem_cons_self), sumV_tm fun z hz => hm z (List.mem_cons_of_mem _ hz)]
      simp [mS]
/-! ### how long it is -/
theorem lfs_len (l : Bool) {p : Nat} (hp : p ≤ 9) : ((lfs l p).map ftx).length ≤ 1 ∧ ∀ w ∈ (lfs l p).map ftx, w.length ≤ 3 := by
  refine ⟨by rw [List.length_map]; exact (lfs_ok l hp).2, fun w hw => ?_⟩
  obtain ⟨f, hf, rfl⟩ := List.mem_map.mp hw
  unfold lfs at hf
  split at hf
  · cases hf
  · rw [List.mem_singleton.mp hf]
    unfold ftx
    rw [ftk_lt]
    split
    · simp
    · rw [TL.numL_lt (show p < 10 by omega)]
      simp
theorem joinL_sum : ∀ ws : List (List Nat), (TL.joinL [42] ws).length ≤ (ws.map fun w => w.length + 1).sum
  | [] => Nat.le_refl _
  | [p] => by
    show p.length ≤ p.length + 1 + 0
    omega
  | p :: q :: r => by
    have h2 := joinL_sum (q :: r)
    show (p ++ ([42] ++ TL.joinL [42] (q :: r))).length ≤ (p.length + 1) + ((q :: r).map fun w => w.length + 1).sum
    rw [List.length_append, List.length_append]
    simp only [List.length_singleton]
    omega
theorem sum3 : ∀ {ws : List (List Nat)}, (∀ w ∈ ws, w.length ≤ 3) → (ws.map fun w => w.length + 1).sum ≤ 4 * ws.length
  | [], _ => Nat.le_refl _
  | w :: ws, h => by
    have h1 := h w List.mem_cons_self
    have h2 := sum3 fun z hz => h z (List.mem_cons_of_mem _ hz)
    rw [List.map_cons, List.sum_cons, List.length_cons]
    omega
theorem sp_len2 {p : Mo} {d : Nat} (hd : 0 < d) (h : okM p) (hn : p.1.natAbs < 10 ^ d) : (sp p).length ≤ d + 9 := by
  obtain ⟨_, _, h2, h3⟩ := h
  obtain ⟨a1, a2⟩ := lfs_len false h2
  obtain ⟨b1, b2⟩ := lfs_len true h3
  have nl := TL.numL_len hd hn
  have en : ftx (.nm p.1.natAbs) = TL.numL p.1.natAbs := by simp [ftx, ftk]
  have both : ∀ w ∈ (lfs false p.2.1 ++ lfs true p.2.2).map ftx, w.length ≤ 3 := fun w hw => by
    rw [List.map_append] at hw
    rcases List.mem_append.mp hw with hw | hw
    · exact a2 w hw
    · exact b2 w hw
  have bl : ((lfs false p.2.1 ++ lfs true p.2.2).map ftx).length ≤ 2 := by rw [List.map_append, List.length_append]; omega
  have s3 := sum3 both
  refine Nat.le_trans (joinL_sum _) ?_
  unfold pfs
  split
  · rw [List.map_cons, List.map_cons, List.sum_cons, en]
    omega
  · omega
theorem shw_len {d : Nat} (hd : 0 < d) {ps : List Mo} (h : ∀ p ∈ ps, okM p ∧ p.1.natAbs < 10 ^ d) : (shw ps).length ≤ (d + 12) * ps.length + 1 := by
  have key : ∀ {ps : List Mo}, (∀ p ∈ ps, okM p ∧ p.1.natAbs < 10 ^ d) → (shR ps).length ≤ (d + 12) * ps.length := by
    intro ps
    induction ps with
    | nil => intro _; exact Nat.le_refl _
    | cons p ps ih =>
      intro h
      have h1 := ih fun z hz => h z (List.mem_cons_of_mem _ hz)
      obtain ⟨o, hn⟩ := h p List.mem_cons_self
      have h2 := sp_len2 hd o hn
      have hg : (sgR p).length = 3 := by unfold sgR; split <;> rfl
      rw [shR_cons, List.length_append, List.length_append, List.length_cons, Nat.mul_succ]
      omega
  cases ps with
  | nil => simp [shw]
  | cons p ps =>
    have h1 := key fun z hz => h z (List.mem_cons_of_mem _ hz)
    obtain ⟨o, hn⟩ := h p List.mem_cons_self
    have h2 := sp_len2 hd o hn
    have hg : (sgF p).length ≤ 1 := by unfold sgF; split <;> simp
    show ((sgF p ++ sp p) ++ shR ps).length ≤ _
    rw [List.length_append, List.length_append, List.length_cons, Nat.mul_succ]
    omega
/-! ### the products' bounds -/
theorem rmon_mem {r : List Int} {u : Nat} : ∀ {k : Nat} {p : Mo}, p ∈ rmon r u k → p.1 ≠ 0 ∧ p.2.1 < k ∧ p.2.2 = u ∧ p.1 = r[p.2.1]?.getD 0
  | 0, p, h => by cases h
  | k + 1, p, h => by
    rw [rmon] at h
    rcases List.mem_append.mp h with h | h
    · split at h
      · cases h
      · rename_i h0
        rw [List.mem_singleton.mp h]
        exact ⟨h0, Nat.lt_succ_self k, rfl, rfl⟩
    · obtain ⟨h1, h2, h3, h4⟩ := rmon_mem h
      exact ⟨h1, by omega, h3, h4⟩
theorem bmon_mem {B : Bd} : ∀ {k : Nat} {p : Mo}, p ∈ bmon B k → p.1 ≠ 0 ∧ p.2.2 < k ∧ p.2.1 < (B[p.2.2]?.getD []).length ∧ p.1 = (B[p.2.2]?.getD [])[p.2.1]?.getD 0
  | 0, p, h => by cases h
  | k + 1, p, h => by
    rw [bmon] at h
    rcases List.mem_append.mp h with h | h
    · obtain ⟨h1, h2, h3, h4⟩ := rmon_mem h
      rw [h3]
      exact ⟨h1, Nat.lt_succ_self k, h2, h4⟩
    · obtain ⟨h1, h2, h3, h4⟩ := bmon_mem h
      exact ⟨h1, by omega, h3, h4⟩
theorem mons_ok {B : Bd} (hB : B.length ≤ 9) (hr : ∀ r ∈ B, r.length ≤ 9) {N : Nat} (hN : N ≤ 10 ^ 12) (hc : ∀ r ∈ B, ∀ c ∈ r, c.natAbs < N) : ∀ p ∈ mons B, okM p ∧ p.1.natAbs < N := by
  intro p hp
  obtain ⟨h1, h2, h3, h4⟩ := bmon_mem hp
  have hm : B[p.2.2]?.getD [] ∈ B := by
    rw [List.getElem?_eq_getElem h2]
    exact List.getElem_mem h2
  have hcc : p.1.natAbs < N := by
    rw [h4, List.getElem?_eq_getElem h3]
    exact hc _ hm _ (List.getElem_mem h3)
  exact ⟨⟨h1, by omega, by have := hr _ hm; omega, by omega⟩, hcc⟩

/-! ### any boards -/
theorem nodup_len : ∀ {l m : List (Nat × Nat)}, l.Nodup → (∀ x ∈ l, x ∈ m) → l.length ≤ m.length
  | [], _, _, _ => Nat.zero_le _
  | x :: t, m, hn, h => by
    have hx := h x List.mem_cons_self
    obtain ⟨h1, h2⟩ := List.nodup_cons.mp hn
    have ih := nodup_len (m := m.erase x) h2 fun y hy => (List.mem_erase_of_ne (fun z => h1 (by rw [z] at hy; exact hy))).mpr (h y (List.mem_cons_of_mem _ hy))
    rw [List.length_erase_of_mem hx] at ih
    have := List.length_pos_of_mem hx
    rw [List.length_cons]
    omega
theorem rmon_nodup (r : List Int) (u : Nat) : ∀ k, ((rmon r u k).map (·.2)).Nodup
  | 0 => List.nodup_nil
  | k + 1 => by
    have ih := rmon_nodup r u k
    rw [rmon]
    split
    · exact ih
    · refine List.nodup_cons.mpr ⟨fun h => ?_, ih⟩
      obtain ⟨p, hp, e⟩ := List.mem_map.mp h
      have h2 := (rmon_mem hp).2.1
      rw [e] at h2
      exact Nat.lt_irrefl _ h2
theorem bmon_nodup (B : Bd) : ∀ k, ((bmon B k).map (·.2)).Nodup
  | 0 => List.nodup_nil
  | k + 1 => by
    rw [bmon, List.map_append, List.nodup_append]
    refine ⟨rmon_nodup _ _ _, bmon_nodup B k, fun x hx y hy e => ?_⟩
    obtain ⟨p, hp, rfl⟩ := List.mem_map.mp hx
    obtain ⟨q, hq, rfl⟩ := List.mem_map.mp hy
    have h1 := (rmon_mem hp).2.2.1
    have h2 := (bmon_mem hq).2.1
    rw [← e, h1] at h2
    exact Nat.lt_irrefl _ h2
theorem boM_get (m : Mp) (u a : Nat) : ((boM m)[u]?.getD [])[a]?.getD 0 = if u < 9 ∧ a < 9 then lookM m (a, u) else 0 := by
  unfold boM
  rw [trimB_get, mapRange_get]
  by_cases hu : u < 9
  · rw [if_pos hu, trim_get, gridR, mapRange_get]
    by_cases ha : a < 9
    · rw [if_pos ha, if_pos ⟨hu, ha⟩]
    · rw [if_neg ha, if_neg fun z => ha z.2]
  · rw [if_neg hu, if_neg fun z => hu z.1]
    rfl
theorem mons_boM (m : Mp) : (mons (boM m)).length ≤ m.length := by
  have h := nodup_len (l := (mons (boM m)).map (·.2)) (m := keysM m) (bmon_nodup _ _) fun x hx => by
    obtain ⟨p, hp, rfl⟩ := List.mem_map.mp hx
    obtain ⟨h1, _, _, h4⟩ := bmon_mem hp
    rw [boM_get] at h4
    refine Classical.byContradiction fun z => h1 ?_
    rw [h4]
    split
    · exact lookM_none z
    · rfl
  rw [List.length_map] at h
  have e : (keysM m).length = m.length := by simp [keysM]
  omega
theorem boM_coef {m : Mp} {N : Nat} (h : ∀ p ∈ m, p.2.natAbs ≤ N) : ∀ r ∈ boM m, ∀ c ∈ r, c.natAbs ≤ N := by
  intro r hr c hc
  obtain ⟨k, _, rfl⟩ := List.mem_map.mp (List.mem_of_mem_take hr)
  obtain ⟨i, _, rfl⟩ := List.mem_map.mp (trim_mem hc)
  exact look_bd h _
theorem idx30 {i : Int} (h0 : 0 ≤ i) (h1 : i < 4) : ∃ s : Int, atI [PyData.int 1, .int 12, .int 1000000, .int 999999999999] i = some (.int s) ∧ 1 ≤ s ∧ s ≤ 999999999999 := by
  have h : i = 0 ∨ i = 1 ∨ i = 2 ∨ i = 3 := by omega
  rcases h with rfl | rfl | rfl | rfl
  · exact ⟨1, rfl, by omega, by omega⟩
  · exact ⟨12, rfl, by omega, by omega⟩
  · exact ⟨1000000, rfl, by omega, by omega⟩
  · exact ⟨999999999999, rfl, by omega, by omega⟩
theorem idx193 {i : Int} (h0 : 0 ≤ i) (h1 : i < 3) : ∃ s : Int, atI [PyData.int 1, .int 9, .int 3] i = some (.int s) ∧ 1 ≤ s ∧ s ≤ 9 := by
  have h : i = 0 ∨ i = 1 ∨ i = 2 := by omega
  rcases h with rfl | rfl | rfl
  · exact ⟨1, rfl, by omega, by omega⟩
  · exact ⟨9, rfl, by omega, by omega⟩
  · exact ⟨3, rfl, by omega, by omega⟩
theorem r__law_any (n : Nat) (xs : List Int) (hl : 26 ≤ xs.length) (hx : ∀ x ∈ xs, 0 ≤ x ∧ x < 2000000000) : ∃ m, runF pr (n + 3) k__law_any [.list (zs xs)] = .ok (.tuple (rws (boM m))) ∧ DOk 9 40 m ∧ m.length ≤ 7 ∧ ∀ p ∈ m, p.2.natAbs ≤ 999999999999 := by
  rw [st__law_any]
  have hb : big = 16777216 := rfl
  have a0 : atI (zs xs) 0 = some (.int (xs[0]?.getD 0)) := atI_zs (k := 0) (by omega)
  have a1 : atI (zs xs) 1 = some (.int (xs[1]?.getD 0)) := atI_zs (k := 1) (by omega)
  have a2 : atI (zs xs) 2 = some (.int (xs[2]?.getD 0)) := atI_zs (k := 2) (by omega)
  generalize xs[0]?.getD 0 = x0 at a0
  generalize xs[1]?.getD 0 = x1 at a1
  generalize xs[2]?.getD 0 = x2 at a2
  obtain ⟨sz, as, s1, s2⟩ := idx30 (fmod_lo x0 (j := 4) (by omega)) (fmod_hi x0 (j := 4) (by omega))
  obtain ⟨t, ts, t1, t2⟩ := idx193 (fmod_lo x2 (j := 3) (by omega)) (fmod_hi x2 (j := 3) (by omega))
  have f0 := fmod_lo x1 (j := 8) (by omega)
  have f1 := fmod_hi x1 (j := 8) (by omega)
  obtain ⟨c, ec, hc⟩ : ∃ c : Nat, x1.fmod 8 = (c : Int) ∧ c ≤ 7 := ⟨(x1.fmod 8).toNat, by omega, by omega⟩
  have m1 : MuOk 2 sz := mulOk_of (a := 8) (b := 50) (by omega) (by omega) (by omega)
  have p6 : PowOk 10 6 := ⟨by omega, by omega, by omega⟩
  have p12 : PowOk 10 12 := ⟨by omega, by omega, by omega⟩
  obtain ⟨η', h1, m, u, v, w, e, g1, g2, g3⟩ := loop_rng (f := foB (tbl pr (n + 2)) 3 w__law_any_1) (lo := 0) (n := c)
    (R := fun k η => ∃ m u v w, η = [some (.sh (.list (zs xs))), some (.sh (.int sz)), some (.od (dl m)), u, v, w] ∧ DOk 9 40 m ∧ m.length ≤ k ∧ ∀ p ∈ m, p.2.natAbs ≤ 999999999999)
    (fun k η hk hR => by
      obtain ⟨m, u, v, w, rfl, g1, g2, g3⟩ := hR
      have mk : MuOk 3 (k : Int) := mulOk_of (a := 8) (b := 8) (by omega) (by omega) (by omega)
      have b1 := atI_zs (ns := xs) (k := 2 + 3 * k) (by omega)
      have b2 := atI_zs (ns := xs) (k := 3 + 3 * k) (by omega)
      have b3 := atI_zs (ns := xs) (k := 4 + 3 * k) (by omega)
      have e1 : (2 : Int) + 3 * (k : Int) = ((2 + 3 * k : Nat) : Int) := by omega
      have e2 : (3 : Int) + 3 * (k : Int) = ((3 + 3 * k : Nat) : Int) := by omega
      have e3 : (4 : Int) + 3 * (k : Int) = ((4 + 3 * k : Nat) : Int) := by omega
      have zb : 0 ≤ xs[3 + 3 * k]?.getD 0 ∧ xs[3 + 3 * k]?.getD 0 < 2000000000 := getD_mem (P := fun x => 0 ≤ x ∧ x < 2000000000) hx ⟨by omega, by omega⟩
      generalize xs[2 + 3 * k]?.getD 0 = y at b1
      generalize xs[3 + 3 * k]?.getD 0 = z at b2 zb
      generalize xs[4 + 3 * k]?.getD 0 = z2 at b3
      have y0 := fmod_lo y (j := 9) (by omega)
      have y1 := fmod_hi y (j := 9) (by omega)
      have y2 := fmod_lo (y.fdiv 9) (j := t) (by omega)
      have y3 := fmod_hi (y.fdiv 9) (j := t) (by omega)
      obtain ⟨i, ei, hi⟩ : ∃ i : Nat, y.fmod 9 = (i : Int) ∧ i < 9 := ⟨(y.fmod 9).toNat, by omega, by omega⟩
      obtain ⟨j, ej, hj⟩ : ∃ j : Nat, (y.fdiv 9).fmod t = (j : Int) ∧ j < 9 := ⟨((y.fdiv 9).fmod t).toNat, by omega, by omega⟩
      have mz : MuOk z 1000000 := mulOk_of (a := 40) (b := 30) (by omega) (by omega) (by omega)
      obtain ⟨q, hq⟩ : ∃ q, q = z * 1000000 + z2 := ⟨_, rfl⟩
      have q0 := fmod_lo q (j := 2 * sz + 1) (by omega)
      have q1 := fmod_hi q (j := 2 * sz + 1) (by omega)
      have nz : ¬ 2 * sz + 1 = 0 := by omega
      have tz : ¬ t = 0 := by omega
      have sm : Sm (m.length + 1) := show _ ≤ big by omega
      have d9 : DivOk y 9 := divOk_small (by omega) (by omega)
      have pl := putL_dl m (i, j) (q.fmod (2 * sz + 1) - sz)
      rw [← key2_def] at pl
      refine ⟨_, ?_, putM m (i, j) (q.fmod (2 * sz + 1) - sz), some (.sh (.int k)), some (.kk (.tk [(i : Int), (j : Int)])), some (.sh (.int q)), rfl, g1.put hi hj (by omega), ?_, fun p hp => ?_⟩
      · rw [← pl]
        simp [foB, w__law_any_1, mk, e1, e2, e3, -Int.natCast_add, a2, ts, b1, b2, b3, d9, ei, ej, m1, nz, tz, p6, mz, ← hq, sm]
      · have := putM_len m (i, j) (q.fmod (2 * sz + 1) - sz)
        omega
      · rcases putM_mem hp with h | h
        · rw [h.2]
          omega
        · exact g3 p h) [some (.sh (.list (zs xs))), some (.sh (.int sz)), some (.od (dl [])), none, none, none] ⟨[], none, none, none, rfl, DOk.nil, Nat.le_refl _, fun p hp => (List.not_mem_nil hp).elim⟩
  subst e
  rw [dl_nil] at h1
  have bo := r__law_board_of n m
  exact ⟨m, by simp [b__law_any, a0, p6, p12, as, a1, ec, small_nat (show c ≤ big by omega), h1, bo], g1, by omega, g3⟩

/-! ### the law -/
theorem r__law_board7 (n : Nat) (c : Int) : ∃ B, runF pr (n + 3) k__law_board [.int c] = .ok (.tuple (rws B)) ∧ BOk 5 20 B := r__law_board n c
structure Gd (B : Bd) : Prop where
  bd : isBd B
  l : B.length ≤ 9
  r : ∀ r ∈ B, r.length ≤ 9
  m : ∀ p ∈ mons B, okM p
  c : ∀ r ∈ B, ∀ c ∈ r, c.natAbs < 10 ^ 12
  s : (shw (mons B)).length ≤ 1000
theorem gd_board {B : Bd} (h : BOk 5 20 B) : Gd B := by
  obtain ⟨h1, h2, h3, h4⟩ := h
  have hc : ∀ r ∈ B, ∀ c ∈ r, c.natAbs < 10 ^ 7 := fun r hr c hc => Nat.lt_of_le_of_lt (h4 r hr c hc) (by decide)
  have hr : ∀ r ∈ B, r.length ≤ 9 := fun r hr => by have := h3 r hr; omega
  have ok := mons_ok (B := B) (by omega) hr (N := 10 ^ 7) (by decide) hc
  have ml : (mons B).length ≤ 25 := Nat.le_trans (bmon_len h3 B.length) (Nat.mul_le_mul (Nat.le_refl 5) h2)
  have sl := shw_len (d := 7) (by decide) ok
  exact ⟨h1, by omega, hr, fun p hp => (ok p hp).1, fun r hr c h => Nat.lt_trans (hc r hr c h) (by decide), by omega⟩
theorem gd_any {m : Mp} (d : DOk 9 40 m) (hl : m.length ≤ 7) (hv : ∀ p ∈ m, p.2.natAbs ≤ 999999999999) : Gd (boM m) := by
  obtain ⟨h1, h2, h3, _⟩ := BOk_boM d
  have hc : ∀ r ∈ boM m, ∀ c ∈ r, c.natAbs < 10 ^ 12 := fun r hr c hc => Nat.lt_of_le_of_lt (boM_coef hv r hr c hc) (by decide)
  have ok := mons_ok h2 h3 (Nat.le_refl (10 ^ 12)) hc
  have ml := mons_boM m
  have sl := shw_len (d := 12) (by decide) ok
  exact ⟨h1, h2, h3, fun p hp => (ok p hp).1, hc, by omega⟩
theorem gd_turn {B : Bd} (h : Gd B) (n : Nat) : runF pr (n + 9) k_show_term [.tuple (rws B)] = .ok (.str (tx (shw (mons B)))) ∧ runF pr (n + 9) k__law_shown [.tuple (rws B)] = .ok (.str (tx (shw (mons B)))) ∧ runF pr (n + 9) k_read_term [.str (tx (shw (mons B)))] = .ok (.tuple (rws B)) := by
  refine ⟨r_show (n + 6) B h.l h.r h.m, r__law_shown (n + 6) B h.l h.r h.c h.m, r_again n B h.bd h.m h.s ?_⟩
  exact Nat.le_trans (bmon_len h.r B.length) (Nat.mul_le_mul (Nat.le_refl 9) h.l)
theorem main (ns : List Int) (hl : ns.length ≤ 63) (_hb : ∀ z ∈ ns, Builtin.Int.intBits z ≤ 1048576) : runF pr 40 k_law [.list (zs ns)] = .ok (.bool true) := by
  have hb : big = 16777216 := rfl
  rw [st_law]
  obtain ⟨c0, e0⟩ := r__law_cell 38 ns
  have e0 : runF pr 39 k__law_cell [.list (zs ns), .int 0] = .ok (.int c0) := e0
  have cut : cutD (zs ns) (some 1) (some 15) = zs ((ns.drop 1).take 14) := by
    have := cutD_both (zs ns) 1 15
    rw [show ((1 : Nat) : Int) = 1 from rfl, show ((15 : Nat) : Int) = 15 from rfl] at this
    rw [this, zs_drop, zs_take]
  have turn : ∀ (c : Int) (η : PD.Env), (∃ u1 u2 u3 u4, η = [some (.sh (.list (zs ns))), u1, u2, u3, u4]) →
      ∃ η', foB (tbl pr 39) 1 w_law_1 (.int c) η = .nx η' ∧ ∃ u1 u2 u3 u4, η' = [some (.sh (.list (zs ns))), u1, u2, u3, u4] := by
    rintro c η ⟨u1, u2, u3, u4, rfl⟩
    obtain ⟨xs, en, hx, hr⟩ := r__law_numbers 38 c 40 (by omega)
    have en : runF pr 39 k__law_numbers [.int c, .int 40] = .ok (.list (zs xs)) := en
    have a39 : atI (zs xs) 39 = some (.int (xs[39]?.getD 0)) := atI_zs (k := 39) (by omega)
    generalize xs[39]?.getD 0 = x39 at a39
    obtain ⟨B0, eB, oB⟩ := r__law_board 36 c
    have cut2 : cutD (zs xs) (some 12) (some 38) = zs ((xs.drop 12).take 26) := by
      have := cutD_both (zs xs) 12 38
      rw [show ((12 : Nat) : Int) = 12 from rfl, show ((38 : Nat) : Int) = 38 from rfl] at this
      rw [this, zs_drop, zs_take]
    obtain ⟨m, em, d1, d2, d3⟩ := r__law_any 36 ((xs.drop 12).take 26) (by rw [List.length_take, List.length_drop]; omega) (fun x hx => hr x (List.mem_of_mem_drop (List.mem_of_mem_take hx)))
    have g0 := gd_board oB
    have g1 := gd_any d1 d2 d3
    have fin : ∀ B, Gd B → eqD (.tuple (rws B)) (.tuple (rws B)) = .ok true := fun B _ => by rw [eqD_rt]; simp
    by_cases h : x39.fmod 2 = 1
    · obtain ⟨t1, t2, t3⟩ := gd_turn g1 30
      have q := fin _ g1
      generalize rws (boM m) = W at *
      generalize tx (shw (mons (boM m))) = w at *
      generalize rws B0 = W0 at *
      refine ⟨[some (.sh (.list (zs ns))), some (.sh (.int c)), some (.ow (zs xs)), some (.sh (.tuple W)), some (.sh (.str w))], ?_, _, _, _, _, rfl⟩
      simp [foB, w_law_1, en, eB, a39, h, cut2, em, t1, t2, t3, q, isiD]
    · obtain ⟨t1, t2, t3⟩ := gd_turn g0 30
      have q := fin _ g0
      generalize rws B0 = W at *
      generalize tx (shw (mons B0)) = w at *
      refine ⟨[some (.sh (.list (zs ns))), some (.sh (.int c)), some (.ow (zs xs)), some (.sh (.tuple W)), some (.sh (.str w))], ?_, _, _, _, _, rfl⟩
      simp [foB, w_law_1, en, eB, a39, h, t1, t2, t3, q, isiD]
  have loop : ∀ (l : List Int) (η : PD.Env), (∃ u1 u2 u3 u4, η = [some (.sh (.list (zs ns))), u1, u2, u3, u4]) → ∃ η', loopF (foB (tbl pr 39) 1 w_law_1) (zs l) η = .nx η' ∧ ∃ u1 u2 u3 u4, η' = [some (.sh (.list (zs ns))), u1, u2, u3, u4] := by
    intro l
    induction l with
    | nil => exact fun η h => ⟨η, rfl, h⟩
    | cons x l ih =>
      intro η h
      obtain ⟨η1, e1, h1⟩ := turn x η h
      obtain ⟨η2, e2, h2⟩ := ih η1 h1
      exact ⟨η2, by show loopF _ (PyData.int x :: zs l) η = _; rw [loopF, e1]; exact e2, h2⟩
  obtain ⟨η', el, u1, u2, u3, u4, rfl⟩ := loop (c0 :: (ns.drop 1).take 14) [some (.sh (.list (zs ns))), none, none, none, none] ⟨_, _, _, _, rfl⟩
  have sm : ((ns.drop 1).take 14).length ≤ 14 := by
    rw [List.length_take]
    omega
  have cat : catL [PyData.int c0] (zs ((ns.drop 1).take 14)) = .ok (.nw (zs (c0 :: (ns.drop 1).take 14))) := by
    rw [catL_ok (ds := [PyData.int c0]) (es := zs ((ns.drop 1).take 14)) (by rw [zs_length]; show 1 + _ ≤ _; omega)]
    rfl
  generalize (ns.drop 1).take 14 = L at *
  simp [b_law, e0, cut, cat, el]

end Lw
/-! the table against the text, and the end -/
namespace Lw
open PySem PySem.Spec PyProof.Rows L2 PD
theorem ok_trimmed : defOk pr (topS 4) i_trimmed = true := by decide +kernel
theorem bi_trimmed : ∀ (kV doc pm : Value) (an : Option Addr) (cdv ct : Value) (us : List Value), us.length = (i_trimmed.N.take i_trimmed.np).length → bindArgs (PySem.W.fnOf "trimmed" "trimmed" (defArgs (topS 4)) (defBody (topS 4)) (defScope (topS 4)) .none kV doc pm an cdv ct) ⟨us, []⟩ = pure ((i_trimmed.N.take i_trimmed.np).zip us) :=
  fun _ _ _ _ _ _ us hl => match us, hl with | [_], _ => rfl
theorem ok_part_at : defOk pr (topS 5) i_part_at = true := by decide +kernel
theorem bi_part_at : ∀ (kV doc pm : Value) (an : Option Addr) (cdv ct : Value) (us : List Value), us.length = (i_part_at.N.take i_part_at.np).length → bindArgs (PySem.W.fnOf "part_at" "part_at" (defArgs (topS 5)) (defBody (topS 5)) (defScope (topS 5)) .none kV doc pm an cdv ct) ⟨us, []⟩ = pure ((i_part_at.N.take i_part_at.np).zip us) :=
  fun _ _ _ _ _ _ us hl => match us, hl with | [_, _], _ => rfl
theorem ok_row_plus : defOk pr (topS 6) i_row_plus = true := by decide +kernel
theorem bi_row_plus : ∀ (kV doc pm : Value) (an : Option Addr) (cdv ct : Value) (us : List Value), us.length = (i_row_plus.N.take i_row_plus.np).length → bindArgs (PySem.W.fnOf "row_plus" "row_plus" (defArgs (topS 6)) (defBody (topS 6)) (defScope (topS 6)) .none kV doc pm an cdv ct) ⟨us, []⟩ = pure ((i_row_plus.N.take i_row_plus.np).zip us) :=
  fun _ _ _ _ _ _ us hl => match us, hl with | [_, _], _ => rfl
theorem ok_row_minus : defOk pr (topS 7) i_row_minus = true := by decide +kernel
theorem bi_row_minus : ∀ (kV doc pm : Value) (an : Option Addr) (cdv ct : Value) (us : List Value), us.length = (i_row_minus.N.take i_row_minus.np).length → bindArgs (PySem.W.fnOf "row_minus" "row_minus" (defArgs (topS 7)) (defBody (topS 7)) (defScope (topS 7)) .none kV doc pm an cdv ct) ⟨us, []⟩ = pure ((i_row_minus.N.take i_row_minus.np).zip us) :=
  fun _ _ _ _ _ _ us hl => match us, hl with | [_, _], _ => rfl
theorem ok_row_times : defOk pr (topS 8) i_row_times = true := by decide +kernel
theorem bi_row_times : ∀ (kV doc pm : Value) (an : Option Addr) (cdv ct : Value) (us : List Value), us.length = (i_row_times.N.take i_row_times.np).length → bindArgs (PySem.W.fnOf "row_times" "row_times" (defArgs (topS 8)) (defBody (topS 8)) (defScope (topS 8)) .none kV doc pm an cdv ct) ⟨us, []⟩ = pure ((i_row_times.N.take i_row_times.np).zip us) :=
  fun _ _ _ _ _ _ us hl => match us, hl with | [_, _], _ => rfl
theorem ok_cut_off : defOk pr (topS 10) i_cut_off = true := by decide +kernel
theorem bi_cut_off : ∀ (kV doc pm : Value) (an : Option Addr) (cdv ct : Value) (us : List Value), us.length = (i_cut_off.N.take i_cut_off.np).length → bindArgs (PySem.W.fnOf "cut_off" "cut_off" (defArgs (topS 10)) (defBody (topS 10)) (defScope (topS 10)) .none kV doc pm an cdv ct) ⟨us, []⟩ = pure ((i_cut_off.N.take i_cut_off.np).zip us) :=
  fun _ _ _ _ _ _ us hl => match us, hl with | [_], _ => rfl
theorem ok_row_at : defOk pr (topS 11) i_row_at = true := by decide +kernel
theorem bi_row_at : ∀ (kV doc pm : Value) (an : Option Addr) (cdv ct : Value) (us : List Value), us.length = (i_row_at.N.take i_row_at.np).length → bindArgs (PySem.W.fnOf "row_at" "row_at" (defArgs (topS 11)) (defBody (topS 11)) (defScope (topS 11)) .none kV doc pm an cdv ct) ⟨us, []⟩ = pure ((i_row_at.N.take i_row_at.np).zip us) :=
  fun _ _ _ _ _ _ us hl => match us, hl with | [_, _], _ => rfl
theorem ok_board_plus : defOk pr (topS 12) i_board_plus = true := by decide +kernel
theorem bi_board_plus : ∀ (kV doc pm : Value) (an : Option Addr) (cdv ct : Value) (us : List Value), us.length = (i_board_plus.N.take i_board_plus.np).length → bindArgs (PySem.W.fnOf "board_plus" "board_plus" (defArgs (topS 12)) (defBody (topS 12)) (defScope (topS 12)) .none kV doc pm an cdv ct) ⟨us, []⟩ = pure ((i_board_plus.N.take i_board_plus.np).zip us) :=
  fun _ _ _ _ _ _ us hl => match us, hl with | [_, _], _ => rfl
theorem ok_board_minus : defOk pr (topS 13) i_board_minus = true := by decide +kernel
theorem bi_board_minus : ∀ (kV doc pm : Value) (an : Option Addr) (cdv ct : Value) (us : List Value), us.length = (i_board_minus.N.take i_board_minus.np).length → bindArgs (PySem.W.fnOf "board_minus" "board_minus" (defArgs (topS 13)) (defBody (topS 13)) (defScope (topS 13)) .none kV doc pm an cdv ct) ⟨us, []⟩ = pure ((i_board_minus.N.take i_board_minus.np).zip us) :=
  fun _ _ _ _ _ _ us hl => match us, hl with | [_, _], _ => rfl
theorem ok_board_times : defOk pr (topS 14) i_board_times = true := by decide +kernel
theorem bi_board_times : ∀ (kV doc pm : Value) (an : Option Addr) (cdv ct : Value) (us : List Value), us.length = (i_board_times.N.take i_board_times.np).length → bindArgs (PySem.W.fnOf "board_times" "board_times" (defArgs (topS 14)) (defBody (topS 14)) (defScope (topS 14)) .none kV doc pm an cdv ct) ⟨us, []⟩ = pure ((i_board_times.N.take i_board_times.np).zip us) :=
  fun _ _ _ _ _ _ us hl => match us, hl with | [_, _], _ => rfl
theorem ok_run_from : defOk pr (topS 25) i_run_from = true := by decide +kernel
theorem bi_run_from : ∀ (kV doc pm : Value) (an : Option Addr) (cdv ct : Value) (us : List Value), us.length = (i_run_from.N.take i_run_from.np).length → bindArgs (PySem.W.fnOf "run_from" "run_from" (defArgs (topS 25)) (defBody (topS 25)) (defScope (topS 25)) .none kV doc pm an cdv ct) ⟨us, []⟩ = pure ((i_run_from.N.take i_run_from.np).zip us) :=
  fun _ _ _ _ _ _ us hl => match us, hl with | [_, _, _], _ => rfl
theorem ok_mark_at : defOk pr (topS 26) i_mark_at = true := by decide +kernel
theorem bi_mark_at : ∀ (kV doc pm : Value) (an : Option Addr) (cdv ct : Value) (us : List Value), us.length = (i_mark_at.N.take i_mark_at.np).length → bindArgs (PySem.W.fnOf "mark_at" "mark_at" (defArgs (topS 26)) (defBody (topS 26)) (defScope (topS 26)) .none kV doc pm an cdv ct) ⟨us, []⟩ = pure ((i_mark_at.N.take i_mark_at.np).zip us) :=
  fun _ _ _ _ _ _ us hl => match us, hl with | [_, _], _ => rfl
theorem ok_marks_of : defOk pr (topS 27) i_marks_of = true := by decide +kernel
theorem bi_marks_of : ∀ (kV doc pm : Value) (an : Option Addr) (cdv ct : Value) (us : List Value), us.length = (i_marks_of.N.take i_marks_of.np).length → bindArgs (PySem.W.fnOf "marks_of" "marks_of" (defArgs (topS 27)) (defBody (topS 27)) (defScope (topS 27)) .none kV doc pm an cdv ct) ⟨us, []⟩ = pure ((i_marks_of.N.take i_marks_of.np).zip us) :=
  fun _ _ _ _ _ _ us hl => match us, hl with | [_], _ => rfl
theorem ok_check_open : defOk pr (topS 28) i_check_open = true := by decide +kernel
theorem bi_check_open : ∀ (kV doc pm : Value) (an : Option Addr) (cdv ct : Value) (us : List Value), us.length = (i_check_open.N.take i_check_open.np).length → bindArgs (PySem.W.fnOf "check_open" "check_open" (defArgs (topS 28)) (defBody (topS 28)) (defScope (topS 28)) .none kV doc pm an cdv ct) ⟨us, []⟩ = pure ((i_check_open.N.take i_check_open.np).zip us) :=
  fun _ _ _ _ _ _ us hl => match us, hl with | [_, _], _ => rfl
theorem ok_mark_of : defOk pr (topS 29) i_mark_of = true := by decide +kernel
theorem bi_mark_of : ∀ (kV doc pm : Value) (an : Option Addr) (cdv ct : Value) (us : List Value), us.length = (i_mark_of.N.take i_mark_of.np).length → bindArgs (PySem.W.fnOf "mark_of" "mark_of" (defArgs (topS 29)) (defBody (topS 29)) (defScope (topS 29)) .none kV doc pm an cdv ct) ⟨us, []⟩ = pure ((i_mark_of.N.take i_mark_of.np).zip us) :=
  fun _ _ _ _ _ _ us hl => match us, hl with | [_, _], _ => rfl
theorem ok_is_number : defOk pr (topS 30) i_is_number = true := by decide +kernel
theorem bi_is_number : ∀ (kV doc pm : Value) (an : Option Addr) (cdv ct : Value) (us : List Value), us.length = (i_is_number.N.take i_is_number.np).length → bindArgs (PySem.W.fnOf "is_number" "is_number" (defArgs (topS 30)) (defBody (topS 30)) (defScope (topS 30)) .none kV doc pm an cdv ct) ⟨us, []⟩ = pure ((i_is_number.N.take i_is_number.np).zip us) :=
  fun _ _ _ _ _ _ us hl => match us, hl with | [_], _ => rfl
theorem ok_atom_at : defOk pr (topS 31) i_atom_at = true := by decide +kernel
theorem bi_atom_at : ∀ (kV doc pm : Value) (an : Option Addr) (cdv ct : Value) (us : List Value), us.length = (i_atom_at.N.take i_atom_at.np).length → bindArgs (PySem.W.fnOf "atom_at" "atom_at" (defArgs (topS 31)) (defBody (topS 31)) (defScope (topS 31)) .none kV doc pm an cdv ct) ⟨us, []⟩ = pure ((i_atom_at.N.take i_atom_at.np).zip us) :=
  fun _ _ _ _ _ _ us hl => match us, hl with | [_, _], _ => rfl
theorem ok_power_of : defOk pr (topS 32) i_power_of = true := by decide +kernel
theorem bi_power_of : ∀ (kV doc pm : Value) (an : Option Addr) (cdv ct : Value) (us : List Value), us.length = (i_power_of.N.take i_power_of.np).length → bindArgs (PySem.W.fnOf "power_of" "power_of" (defArgs (topS 32)) (defBody (topS 32)) (defScope (topS 32)) .none kV doc pm an cdv ct) ⟨us, []⟩ = pure ((i_power_of.N.take i_power_of.np).zip us) :=
  fun _ _ _ _ _ _ us hl => match us, hl with | [_, _], _ => rfl
theorem ok_factor_at : defOk pr (topS 33) i_factor_at = true := by decide +kernel
theorem bi_factor_at : ∀ (kV doc pm : Value) (an : Option Addr) (cdv ct : Value) (us : List Value), us.length = (i_factor_at.N.take i_factor_at.np).length → bindArgs (PySem.W.fnOf "factor_at" "factor_at" (defArgs (topS 33)) (defBody (topS 33)) (defScope (topS 33)) .none kV doc pm an cdv ct) ⟨us, []⟩ = pure ((i_factor_at.N.take i_factor_at.np).zip us) :=
  fun _ _ _ _ _ _ us hl => match us, hl with | [_, _], _ => rfl
theorem ok_product_at : defOk pr (topS 34) i_product_at = true := by decide +kernel
theorem bi_product_at : ∀ (kV doc pm : Value) (an : Option Addr) (cdv ct : Value) (us : List Value), us.length = (i_product_at.N.take i_product_at.np).length → bindArgs (PySem.W.fnOf "product_at" "product_at" (defArgs (topS 34)) (defBody (topS 34)) (defScope (topS 34)) .none kV doc pm an cdv ct) ⟨us, []⟩ = pure ((i_product_at.N.take i_product_at.np).zip us) :=
  fun _ _ _ _ _ _ us hl => match us, hl with | [_, _], _ => rfl
theorem ok_sum_at : defOk pr (topS 35) i_sum_at = true := by decide +kernel
theorem bi_sum_at : ∀ (kV doc pm : Value) (an : Option Addr) (cdv ct : Value) (us : List Value), us.length = (i_sum_at.N.take i_sum_at.np).length → bindArgs (PySem.W.fnOf "sum_at" "sum_at" (defArgs (topS 35)) (defBody (topS 35)) (defScope (topS 35)) .none kV doc pm an cdv ct) ⟨us, []⟩ = pure ((i_sum_at.N.take i_sum_at.np).zip us) :=
  fun _ _ _ _ _ _ us hl => match us, hl with | [_, _], _ => rfl
theorem ok_read_term : defOk pr (topS 36) i_read_term = true := by decide +kernel
theorem bi_read_term : ∀ (kV doc pm : Value) (an : Option Addr) (cdv ct : Value) (us : List Value), us.length = (i_read_term.N.take i_read_term.np).length → bindArgs (PySem.W.fnOf "read_term" "read_term" (defArgs (topS 36)) (defBody (topS 36)) (defScope (topS 36)) .none kV doc pm an cdv ct) ⟨us, []⟩ = pure ((i_read_term.N.take i_read_term.np).zip us) :=
  fun _ _ _ _ _ _ us hl => match us, hl with | [_], _ => rfl
theorem ok_letter_text : defOk pr (topS 37) i_letter_text = true := by decide +kernel
theorem bi_letter_text : ∀ (kV doc pm : Value) (an : Option Addr) (cdv ct : Value) (us : List Value), us.length = (i_letter_text.N.take i_letter_text.np).length → bindArgs (PySem.W.fnOf "letter_text" "letter_text" (defArgs (topS 37)) (defBody (topS 37)) (defScope (topS 37)) .none kV doc pm an cdv ct) ⟨us, []⟩ = pure ((i_letter_text.N.take i_letter_text.np).zip us) :=
  fun _ _ _ _ _ _ us hl => match us, hl with | [_, _], _ => rfl
theorem ok_product_text : defOk pr (topS 38) i_product_text = true := by decide +kernel
theorem bi_product_text : ∀ (kV doc pm : Value) (an : Option Addr) (cdv ct : Value) (us : List Value), us.length = (i_product_text.N.take i_product_text.np).length → bindArgs (PySem.W.fnOf "product_text" "product_text" (defArgs (topS 38)) (defBody (topS 38)) (defScope (topS 38)) .none kV doc pm an cdv ct) ⟨us, []⟩ = pure ((i_product_text.N.take i_product_text.np).zip us) :=
  fun _ _ _ _ _ _ us hl => match us, hl with | [_, _, _], _ => rfl
theorem ok_products_of : defOk pr (topS 39) i_products_of = true := by decide +kernel
theorem bi_products_of : ∀ (kV doc pm : Value) (an : Option Addr) (cdv ct : Value) (us : List Value), us.length = (i_products_of.N.take i_products_of.np).length → bindArgs (PySem.W.fnOf "products_of" "products_of" (defArgs (topS 39)) (defBody (topS 39)) (defScope (topS 39)) .none kV doc pm an cdv ct) ⟨us, []⟩ = pure ((i_products_of.N.take i_products_of.np).zip us) :=
  fun _ _ _ _ _ _ us hl => match us, hl with | [_], _ => rfl
theorem ok_show_term : defOk pr (topS 40) i_show_term = true := by decide +kernel
theorem bi_show_term : ∀ (kV doc pm : Value) (an : Option Addr) (cdv ct : Value) (us : List Value), us.length = (i_show_term.N.take i_show_term.np).length → bindArgs (PySem.W.fnOf "show_term" "show_term" (defArgs (topS 40)) (defBody (topS 40)) (defScope (topS 40)) .none kV doc pm an cdv ct) ⟨us, []⟩ = pure ((i_show_term.N.take i_show_term.np).zip us) :=
  fun _ _ _ _ _ _ us hl => match us, hl with | [_], _ => rfl
theorem ok__law_cell : defOk pr (topS 42) i__law_cell = true := by decide +kernel
theorem bi__law_cell : ∀ (kV doc pm : Value) (an : Option Addr) (cdv ct : Value) (us : List Value), us.length = (i__law_cell.N.take i__law_cell.np).length → bindArgs (PySem.W.fnOf "_law_cell" "_law_cell" (defArgs (topS 42)) (defBody (topS 42)) (defScope (topS 42)) .none kV doc pm an cdv ct) ⟨us, []⟩ = pure ((i__law_cell.N.take i__law_cell.np).zip us) :=
  fun _ _ _ _ _ _ us hl => match us, hl with | [_, _], _ => rfl
theorem ok__law_numbers : defOk pr (topS 43) i__law_numbers = true := by decide +kernel
theorem bi__law_numbers : ∀ (kV doc pm : Value) (an : Option Addr) (cdv ct : Value) (us : List Value), us.length = (i__law_numbers.N.take i__law_numbers.np).length → bindArgs (PySem.W.fnOf "_law_numbers" "_law_numbers" (defArgs (topS 43)) (defBody (topS 43)) (defScope (topS 43)) .none kV doc pm an cdv ct) ⟨us, []⟩ = pure ((i__law_numbers.N.take i__law_numbers.np).zip us) :=
  fun _ _ _ _ _ _ us hl => match us, hl with | [_, _], _ => rfl
theorem ok__law_trim : defOk pr (topS 44) i__law_trim = true := by decide +kernel
theorem bi__law_trim : ∀ (kV doc pm : Value) (an : Option Addr) (cdv ct : Value) (us : List Value), us.length = (i__law_trim.N.take i__law_trim.np).length → bindArgs (PySem.W.fnOf "_law_trim" "_law_trim" (defArgs (topS 44)) (defBody (topS 44)) (defScope (topS 44)) .none kV doc pm an cdv ct) ⟨us, []⟩ = pure ((i__law_trim.N.take i__law_trim.np).zip us) :=
  fun _ _ _ _ _ _ us hl => match us, hl with | [_], _ => rfl
theorem ok__law_board_of : defOk pr (topS 45) i__law_board_of = true := by decide +kernel
theorem bi__law_board_of : ∀ (kV doc pm : Value) (an : Option Addr) (cdv ct : Value) (us : List Value), us.length = (i__law_board_of.N.take i__law_board_of.np).length → bindArgs (PySem.W.fnOf "_law_board_of" "_law_board_of" (defArgs (topS 45)) (defBody (topS 45)) (defScope (topS 45)) .none kV doc pm an cdv ct) ⟨us, []⟩ = pure ((i__law_board_of.N.take i__law_board_of.np).zip us) :=
  fun _ _ _ _ _ _ us hl => match us, hl with | [_], _ => rfl
theorem ok__law_product : defOk pr (topS 46) i__law_product = true := by decide +kernel
theorem bi__law_product : ∀ (kV doc pm : Value) (an : Option Addr) (cdv ct : Value) (us : List Value), us.length = (i__law_product.N.take i__law_product.np).length → bindArgs (PySem.W.fnOf "_law_product" "_law_product" (defArgs (topS 46)) (defBody (topS 46)) (defScope (topS 46)) .none kV doc pm an cdv ct) ⟨us, []⟩ = pure ((i__law_product.N.take i__law_product.np).zip us) :=
  fun _ _ _ _ _ _ us hl => match us, hl with | [_, _], _ => rfl
theorem ok__law_line : defOk pr (topS 47) i__law_line = true := by decide +kernel
theorem bi__law_line : ∀ (kV doc pm : Value) (an : Option Addr) (cdv ct : Value) (us : List Value), us.length = (i__law_line.N.take i__law_line.np).length → bindArgs (PySem.W.fnOf "_law_line" "_law_line" (defArgs (topS 47)) (defBody (topS 47)) (defScope (topS 47)) .none kV doc pm an cdv ct) ⟨us, []⟩ = pure ((i__law_line.N.take i__law_line.np).zip us) :=
  fun _ _ _ _ _ _ us hl => match us, hl with | [_], _ => rfl
theorem ok__law_conic : defOk pr (topS 48) i__law_conic = true := by decide +kernel
theorem bi__law_conic : ∀ (kV doc pm : Value) (an : Option Addr) (cdv ct : Value) (us : List Value), us.length = (i__law_conic.N.take i__law_conic.np).length → bindArgs (PySem.W.fnOf "_law_conic" "_law_conic" (defArgs (topS 48)) (defBody (topS 48)) (defScope (topS 48)) .none kV doc pm an cdv ct) ⟨us, []⟩ = pure ((i__law_conic.N.take i__law_conic.np).zip us) :=
  fun _ _ _ _ _ _ us hl => match us, hl with | [_], _ => rfl
theorem ok__law_board : defOk pr (topS 49) i__law_board = true := by decide +kernel
theorem bi__law_board : ∀ (kV doc pm : Value) (an : Option Addr) (cdv ct : Value) (us : List Value), us.length = (i__law_board.N.take i__law_board.np).length → bindArgs (PySem.W.fnOf "_law_board" "_law_board" (defArgs (topS 49)) (defBody (topS 49)) (defScope (topS 49)) .none kV doc pm an cdv ct) ⟨us, []⟩ = pure ((i__law_board.N.take i__law_board.np).zip us) :=
  fun _ _ _ _ _ _ us hl => match us, hl with | [_], _ => rfl
theorem ok__law_letter : defOk pr (topS 50) i__law_letter = true := by decide +kernel
theorem bi__law_letter : ∀ (kV doc pm : Value) (an : Option Addr) (cdv ct : Value) (us : List Value), us.length = (i__law_letter.N.take i__law_letter.np).length → bindArgs (PySem.W.fnOf "_law_letter" "_law_letter" (defArgs (topS 50)) (defBody (topS 50)) (defScope (topS 50)) .none kV doc pm an cdv ct) ⟨us, []⟩ = pure ((i__law_letter.N.take i__law_letter.np).zip us) :=
  fun _ _ _ _ _ _ us hl => match us, hl with | [_, _], _ => rfl
theorem ok__law_shown : defOk pr (topS 51) i__law_shown = true := by decide +kernel
theorem bi__law_shown : ∀ (kV doc pm : Value) (an : Option Addr) (cdv ct : Value) (us : List Value), us.length = (i__law_shown.N.take i__law_shown.np).length → bindArgs (PySem.W.fnOf "_law_shown" "_law_shown" (defArgs (topS 51)) (defBody (topS 51)) (defScope (topS 51)) .none kV doc pm an cdv ct) ⟨us, []⟩ = pure ((i__law_shown.N.take i__law_shown.np).zip us) :=
  fun _ _ _ _ _ _ us hl => match us, hl with | [_], _ => rfl
theorem ok__law_any : defOk pr (topS 52) i__law_any = true := by decide +kernel
theorem bi__law_any : ∀ (kV doc pm : Value) (an : Option Addr) (cdv ct : Value) (us : List Value), us.length = (i__law_any.N.take i__law_any.np).length → bindArgs (PySem.W.fnOf "_law_any" "_law_any" (defArgs (topS 52)) (defBody (topS 52)) (defScope (topS 52)) .none kV doc pm an cdv ct) ⟨us, []⟩ = pure ((i__law_any.N.take i__law_any.np).zip us) :=
  fun _ _ _ _ _ _ us hl => match us, hl with | [_], _ => rfl
theorem ok_law : defOk pr (topS 53) i_law = true := by decide +kernel
theorem bi_law : ∀ (kV doc pm : Value) (an : Option Addr) (cdv ct : Value) (us : List Value), us.length = (i_law.N.take i_law.np).length → bindArgs (PySem.W.fnOf "law" "law" (defArgs (topS 53)) (defBody (topS 53)) (defScope (topS 53)) .none kV doc pm an cdv ct) ⟨us, []⟩ = pure ((i_law.N.take i_law.np).zip us) :=
  fun _ _ _ _ _ _ us hl => match us, hl with | [_], _ => rfl
theorem at_law {K : Fg} {mg : Str → Option Value} {h : Heap} (X : K.In h) (G : h.Ns mainGlobals mg) {fa : Addr} (hmg : mg "law" = some (.ref fa)) {P : Program} {w : World} (htr : P.given.tree = none)
    {f0 : Addr} {od0 an0 : Option Addr} {sl0 : Array (Option Value)} {oc0 kV0 dc0 pm0 cd0 ct0 : Value}
    (a0 : PySem.W.nsIn K mainGlobals "trimmed" = some (some (.ref f0))) (l0 : K.lookup f0 = some ⟨oc0, od0, .func (PySem.W.fnOf "trimmed" "trimmed" (defArgs (topS 4)) (defBody (topS 4)) (defScope (topS 4)) .none kV0 dc0 pm0 an0 cd0 ct0), sl0⟩) (c0 : PySem.W.codeIn K cd0 "trimmed" = true) (k0 : PySem.W.keepIn K (.ref f0) = true)
    {f1 : Addr} {od1 an1 : Option Addr} {sl1 : Array (Option Value)} {oc1 kV1 dc1 pm1 cd1 ct1 : Value}
    (a1 : PySem.W.nsIn K mainGlobals "part_at" = some (some (.ref f1))) (l1 : K.lookup f1 = some ⟨oc1, od1, .func (PySem.W.fnOf "part_at" "part_at" (defArgs (topS 5)) (defBody (topS 5)) (defScope (topS 5)) .none kV1 dc1 pm1 an1 cd1 ct1), sl1⟩) (c1 : PySem.W.codeIn K cd1 "part_at" = true) (k1 : PySem.W.keepIn K (.ref f1) = true)
    {f2 : Addr} {od2 an2 : Option Addr} {sl2 : Array (Option Value)} {oc2 kV2 dc2 pm2 cd2 ct2 : Value}
    (a2 : PySem.W.nsIn K mainGlobals "row_plus" = some (some (.ref f2))) (l2 : K.lookup f2 = some ⟨oc2, od2, .func (PySem.W.fnOf "row_plus" "row_plus" (defArgs (topS 6)) (defBody (topS 6)) (defScope (topS 6)) .none kV2 dc2 pm2 an2 cd2 ct2), sl2⟩) (c2 : PySem.W.codeIn K cd2 "row_plus" = true) (k2 : PySem.W.keepIn K (.ref f2) = true)
    {f3 : Addr} {od3 an3 : Option Addr} {sl3 : Array (Option Value)} {oc3 kV3 dc3 pm3 cd3 ct3 : Value}
    (a3 : PySem.W.nsIn K mainGlobals "row_minus" = some (some (.ref f3))) (l3 : K.lookup f3 = some ⟨oc3, od3, .func (PySem.W.fnOf "row_minus" "row_minus" (defArgs (topS 7)) (defBody (topS 7)) (defScope (topS 7)) .none kV3 dc3 pm3 an3 cd3 ct3), sl3⟩) (c3 : PySem.W.codeIn K cd3 "row_minus" = true) (k3 : PySem.W.keepIn K (.ref f3) = true)
    {f4 : Addr} {od4 an4 : Option Addr} {sl4 : Array (Option Value)} {oc4 kV4 dc4 pm4 cd4 ct4 : Value}
    (a4 : PySem.W.nsIn K mainGlobals "row_times" = some (some (.ref f4))) (l4 : K.lookup f4 = some ⟨oc4, od4, .func (PySem.W.fnOf "row_times" "row_times" (defArgs (topS 8)) (defBody (topS 8)) (defScope (topS 8)) .none kV4 dc4 pm4 an4 cd4 ct4), sl4⟩) (c4 : PySem.W.codeIn K cd4 "row_times" = true) (k4 : PySem.W.keepIn K (.ref f4) = true)
    {f5 : Addr} {od5 an5 : Option Addr} {sl5 : Array (Option Value)} {oc5 kV5 dc5 pm5 cd5 ct5 : Value}
    (a5 : PySem.W.nsIn K mainGlobals "cut_off" = some (some (.ref f5))) (l5 : K.lookup f5 = some ⟨oc5, od5, .func (PySem.W.fnOf "cut_off" "cut_off" (defArgs (topS 10)) (defBody (topS 10)) (defScope (topS 10)) .none kV5 dc5 pm5 an5 cd5 ct5), sl5⟩) (c5 : PySem.W.codeIn K cd5 "cut_off" = true) (k5 : PySem.W.keepIn K (.ref f5) = true)
    {f6 : Addr} {od6 an6 : Option Addr} {sl6 : Array (Option Value)} {oc6 kV6 dc6 pm6 cd6 ct6 : Value}
    (a6 : PySem.W.nsIn K mainGlobals "row_at" = some (some (.ref f6))) (l6 : K.lookup f6 = some ⟨oc6, od6, .func (PySem.W.fnOf "row_at" "row_at" (defArgs (topS 11)) (defBody (topS 11)) (defScope (topS 11)) .none kV6 dc6 pm6 an6 cd6 ct6), sl6⟩) (c6 : PySem.W.codeIn K cd6 "row_at" = true) (k6 : PySem.W.keepIn K (.ref f6) = true)
    {f7 : Addr} {od7 an7 : Option Addr} {sl7 : Array (Option Value)} {oc7 kV7 dc7 pm7 cd7 ct7 : Value}
    (a7 : PySem.W.nsIn K mainGlobals "board_plus" = some (some (.ref f7))) (l7 : K.lookup f7 = some ⟨oc7, od7, .func (PySem.W.fnOf "board_plus" "board_plus" (defArgs (topS 12)) (defBody (topS 12)) (defScope (topS 12)) .none kV7 dc7 pm7 an7 cd7 ct7), sl7⟩) (c7 : PySem.W.codeIn K cd7 "board_plus" = true) (k7 : PySem.W.keepIn K (.ref f7) = true)
    {f8 : Addr} {od8 an8 : Option Addr} {sl8 : Array (Option Value)} {oc8 kV8 dc8 pm8 cd8 ct8 : Value}
    (a8 : PySem.W.nsIn K mainGlobals "board_minus" = some (some (.ref f8))) (l8 : K.lookup f8 = some ⟨oc8, od8, .func (PySem.W.fnOf "board_minus" "board_minus" (defArgs (topS 13)) (defBody (topS 13)) (defScope (topS 13)) .none kV8 dc8 pm8 an8 cd8 ct8), sl8⟩) (c8 : PySem.W.codeIn K cd8 "board_minus" = true) (k8 : PySem.W.keepIn K (.ref f8) = true)
    {f9 : Addr} {od9 an9 : Option Addr} {sl9 : Array (Option Value)} {oc9 kV9 dc9 pm9 cd9 ct9 : Value}
    (a9 : PySem.W.nsIn K mainGlobals "board_times" = some (some (.ref f9))) (l9 : K.lookup f9 = some ⟨oc9, od9, .func (PySem.W.fnOf "board_times" "board_times" (defArgs (topS 14)) (defBody (topS 14)) (defScope (topS 14)) .none kV9 dc9 pm9 an9 cd9 ct9), sl9⟩) (c9 : PySem.W.codeIn K cd9 "board_times" = true) (k9 : PySem.W.keepIn K (.ref f9) = true)
    {f10 : Addr} {od10 an10 : Option Addr} {sl10 : Array (Option Value)} {oc10 kV10 dc10 pm10 cd10 ct10 : Value}
    (a10 : PySem.W.nsIn K mainGlobals "run_from" = some (some (.ref f10))) (l10 : K.lookup f10 = some ⟨oc10, od10, .func (PySem.W.fnOf "run_from" "run_from" (defArgs (topS 25)) (defBody (topS 25)) (defScope (topS 25)) .none kV10 dc10 pm10 an10 cd10 ct10), sl10⟩) (c10 : PySem.W.codeIn K cd10 "run_from" = true) (k10 : PySem.W.keepIn K (.ref f10) = true)
    {f11 : Addr} {od11 an11 : Option Addr} {sl11 : Array (Option Value)} {oc11 kV11 dc11 pm11 cd11 ct11 : Value}
    (a11 : PySem.W.nsIn K mainGlobals "mark_at" = some (some (.ref f11))) (l11 : K.lookup f11 = some ⟨oc11, od11, .func (PySem.W.fnOf "mark_at" "mark_at" (defArgs (topS 26)) (defBody (topS 26)) (defScope (topS 26)) .none kV11 dc11 pm11 an11 cd11 ct11), sl11⟩) (c11 : PySem.W.codeIn K cd11 "mark_at" = true) (k11 : PySem.W.keepIn K (.ref f11) = true)
    {f12 : Addr} {od12 an12 : Option Addr} {sl12 : Array (Option Value)} {oc12 kV12 dc12 pm12 cd12 ct12 : Value}
    (a12 : PySem.W.nsIn K mainGlobals "marks_of" = some (some (.ref f12))) (l12 : K.lookup f12 = some ⟨oc12, od12, .func (PySem.W.fnOf "marks_of" "marks_of" (defArgs (topS 27)) (defBody (topS 27)) (defScope (topS 27)) .none kV12 dc12 pm12 an12 cd12 ct12), sl12⟩) (c12 : PySem.W.codeIn K cd12 "marks_of" = true) (k12 : PySem.W.keepIn K (.ref f12) = true)
    {f13 : Addr} {od13 an13 : Option Addr} {sl13 : Array (Option Value)} {oc13 kV13 dc13 pm13 cd13 ct13 : Value}
    (a13 : PySem.W.nsIn K mainGlobals "check_open" = some (some (.ref f13))) (l13 : K.lookup f13 = some ⟨oc13, od13, .func (PySem.W.fnOf "check_open" "check_open" (defArgs (topS 28)) (defBody (topS 28)) (defScope (topS 28)) .none kV13 dc13 pm13 an13 cd13 ct13), sl13⟩) (c13 : PySem.W.codeIn K cd13 "check_open" = true) (k13 : PySem.W.keepIn K (.ref f13) = true)
    {f14 : Addr} {od14 an14 : Option Addr} {sl14 : Array (Option Value)} {oc14 kV14 dc14 pm14 cd14 ct14 : Value}
    (a14 : PySem.W.nsIn K mainGlobals "mark_of" = some (some (.ref f14))) (l14 : K.lookup f14 = some ⟨oc14, od14, .func (PySem.W.fnOf "mark_of" "mark_of" (defArgs (topS 29)) (defBody (topS 29)) (defScope (topS 29)) .none kV14 dc14 pm14 an14 cd14 ct14), sl14⟩) (c14 : PySem.W.codeIn K cd14 "mark_of" = true) (k14 : PySem.W.keepIn K (.ref f14) = true)
    {f15 : Addr} {od15 an15 : Option Addr} {sl15 : Array (Option Value)} {oc15 kV15 dc15 pm15 cd15 ct15 : Value}
    (a15 : PySem.W.nsIn K mainGlobals "is_number" = some (some (.ref f15))) (l15 : K.lookup f15 = some ⟨oc15, od15, .func (PySem.W.fnOf "is_number" "is_number" (defArgs (topS 30)) (defBody (topS 30)) (defScope (topS 30)) .none kV15 dc15 pm15 an15 cd15 ct15), sl15⟩) (c15 : PySem.W.codeIn K cd15 "is_number" = true) (k15 : PySem.W.keepIn K (.ref f15) = true)
    {f16 : Addr} {od16 an16 : Option Addr} {sl16 : Array (Option Value)} {oc16 kV16 dc16 pm16 cd16 ct16 : Value}
    (a16 : PySem.W.nsIn K mainGlobals "atom_at" = some (some (.ref f16))) (l16 : K.lookup f16 = some ⟨oc16, od16, .func (PySem.W.fnOf "atom_at" "atom_at" (defArgs (topS 31)) (defBody (topS 31)) (defScope (topS 31)) .none kV16 dc16 pm16 an16 cd16 ct16), sl16⟩) (c16 : PySem.W.codeIn K cd16 "atom_at" = true) (k16 : PySem.W.keepIn K (.ref f16) = true)
    {f17 : Addr} {od17 an17 : Option Addr} {sl17 : Array (Option Value)} {oc17 kV17 dc17 pm17 cd17 ct17 : Value}
    (a17 : PySem.W.nsIn K mainGlobals "power_of" = some (some (.ref f17))) (l17 : K.lookup f17 = some ⟨oc17, od17, .func (PySem.W.fnOf "power_of" "power_of" (defArgs (topS 32)) (defBody (topS 32)) (defScope (topS 32)) .none kV17 dc17 pm17 an17 cd17 ct17), sl17⟩) (c17 : PySem.W.codeIn K cd17 "power_of" = true) (k17 : PySem.W.keepIn K (.ref f17) = true)
    {f18 : Addr} {od18 an18 : Option Addr} {sl18 : Array (Option Value)} {oc18 kV18 dc18 pm18 cd18 ct18 : Value}
    (a18 : PySem.W.nsIn K mainGlobals "factor_at" = some (some (.ref f18))) (l18 : K.lookup f18 = some ⟨oc18, od18, .func (PySem.W.fnOf "factor_at" "factor_at" (defArgs (topS 33)) (defBody (topS 33)) (defScope (topS 33)) .none kV18 dc18 pm18 an18 cd18 ct18), sl18⟩) (c18 : PySem.W.codeIn K cd18 "factor_at" = true) (k18 : PySem.W.keepIn K (.ref f18) = true)
    {f19 : Addr} {od19 an19 : Option Addr} {sl19 : Array (Option Value)} {oc19 kV19 dc19 pm19 cd19 ct19 : Value}
    (a19 : PySem.W.nsIn K mainGlobals "product_at" = some (some (.ref f19))) (l19 : K.lookup f19 = some ⟨oc19, od19, .func (PySem.W.fnOf "product_at" "product_at" (defArgs (topS 34)) (defBody (topS 34)) (defScope (topS 34)) .none kV19 dc19 pm19 an19 cd19 ct19), sl19⟩) (c19 : PySem.W.codeIn K cd19 "product_at" = true) (k19 : PySem.W.keepIn K (.ref f19) = true)
    {f20 : Addr} {od20 an20 : Option Addr} {sl20 : Array (Option Value)} {oc20 kV20 dc20 pm20 cd20 ct20 : Value}
    (a20 : PySem.W.nsIn K mainGlobals "sum_at" = some (some (.ref f20))) (l20 : K.lookup f20 = some ⟨oc20, od20, .func (PySem.W.fnOf "sum_at" "sum_at" (defArgs (topS 35)) (defBody (topS 35)) (defScope (topS 35)) .none kV20 dc20 pm20 an20 cd20 ct20), sl20⟩) (c20 : PySem.W.codeIn K cd20 "sum_at" = true) (k20 : PySem.W.keepIn K (.ref f20) = true)
    {f21 : Addr} {od21 an21 : Option Addr} {sl21 : Array (Option Value)} {oc21 kV21 dc21 pm21 cd21 ct21 : Value}
    (a21 : PySem.W.nsIn K mainGlobals "read_term" = some (some (.ref f21))) (l21 : K.lookup f21 = some ⟨oc21, od21, .func (PySem.W.fnOf "read_term" "read_term" (defArgs (topS 36)) (defBody (topS 36)) (defScope (topS 36)) .none kV21 dc21 pm21 an21 cd21 ct21), sl21⟩) (c21 : PySem.W.codeIn K cd21 "read_term" = true) (k21 : PySem.W.keepIn K (.ref f21) = true)
    {f22 : Addr} {od22 an22 : Option Addr} {sl22 : Array (Option Value)} {oc22 kV22 dc22 pm22 cd22 ct22 : Value}
    (a22 : PySem.W.nsIn K mainGlobals "letter_text" = some (some (.ref f22))) (l22 : K.lookup f22 = some ⟨oc22, od22, .func (PySem.W.fnOf "letter_text" "letter_text" (defArgs (topS 37)) (defBody (topS 37)) (defScope (topS 37)) .none kV22 dc22 pm22 an22 cd22 ct22), sl22⟩) (c22 : PySem.W.codeIn K cd22 "letter_text" = true) (k22 : PySem.W.keepIn K (.ref f22) = true)
    {f23 : Addr} {od23 an23 : Option Addr} {sl23 : Array (Option Value)} {oc23 kV23 dc23 pm23 cd23 ct23 : Value}
    (a23 : PySem.W.nsIn K mainGlobals "product_text" = some (some (.ref f23))) (l23 : K.lookup f23 = some ⟨oc23, od23, .func (PySem.W.fnOf "product_text" "product_text" (defArgs (topS 38)) (defBody (topS 38)) (defScope (topS 38)) .none kV23 dc23 pm23 an23 cd23 ct23), sl23⟩) (c23 : PySem.W.codeIn K cd23 "product_text" = true) (k23 : PySem.W.keepIn K (.ref f23) = true)
    {f24 : Addr} {od24 an24 : Option Addr} {sl24 : Array (Option Value)} {oc24 kV24 dc24 pm24 cd24 ct24 : Value}
    (a24 : PySem.W.nsIn K mainGlobals "products_of" = some (some (.ref f24))) (l24 : K.lookup f24 = some ⟨oc24, od24, .func (PySem.W.fnOf "products_of" "products_of" (defArgs (topS 39)) (defBody (topS 39)) (defScope (topS 39)) .none kV24 dc24 pm24 an24 cd24 ct24), sl24⟩) (c24 : PySem.W.codeIn K cd24 "products_of" = true) (k24 : PySem.W.keepIn K (.ref f24) = true)
    {f25 : Addr} {od25 an25 : Option Addr} {sl25 : Array (Option Value)} {oc25 kV25 dc25 pm25 cd25 ct25 : Value}
    (a25 : PySem.W.nsIn K mainGlobals "show_term" = some (some (.ref f25))) (l25 : K.lookup f25 = some ⟨oc25, od25, .func (PySem.W.fnOf "show_term" "show_term" (defArgs (topS 40)) (defBody (topS 40)) (defScope (topS 40)) .none kV25 dc25 pm25 an25 cd25 ct25), sl25⟩) (c25 : PySem.W.codeIn K cd25 "show_term" = true) (k25 : PySem.W.keepIn K (.ref f25) = true)
    {f26 : Addr} {od26 an26 : Option Addr} {sl26 : Array (Option Value)} {oc26 kV26 dc26 pm26 cd26 ct26 : Value}
    (a26 : PySem.W.nsIn K mainGlobals "_law_cell" = some (some (.ref f26))) (l26 : K.lookup f26 = some ⟨oc26, od26, .func (PySem.W.fnOf "_law_cell" "_law_cell" (defArgs (topS 42)) (defBody (topS 42)) (defScope (topS 42)) .none kV26 dc26 pm26 an26 cd26 ct26), sl26⟩) (c26 : PySem.W.codeIn K cd26 "_law_cell" = true) (k26 : PySem.W.keepIn K (.ref f26) = true)
    {f27 : Addr} {od27 an27 : Option Addr} {sl27 : Array (Option Value)} {oc27 kV27 dc27 pm27 cd27 ct27 : Value}
    (a27 : PySem.W.nsIn K mainGlobals "_law_numbers" = some (some (.ref f27))) (l27 : K.lookup f27 = some ⟨oc27, od27, .func (PySem.W.fnOf "_law_numbers" "_law_numbers" (defArgs (topS 43)) (defBody (topS 43)) (defScope (topS 43)) .none kV27 dc27 pm27 an27 cd27 ct27), sl27⟩) (c27 : PySem.W.codeIn K cd27 "_law_numbers" = true) (k27 : PySem.W.keepIn K (.ref f27) = true)
    {f28 : Addr} {od28 an28 : Option Addr} {sl28 : Array (Option Value)} {oc28 kV28 dc28 pm28 cd28 ct28 : Value}
    (a28 : PySem.W.nsIn K mainGlobals "_law_trim" = some (some (.ref f28))) (l28 : K.lookup f28 = some ⟨oc28, od28, .func (PySem.W.fnOf "_law_trim" "_law_trim" (defArgs (topS 44)) (defBody (topS 44)) (defScope (topS 44)) .none kV28 dc28 pm28 an28 cd28 ct28), sl28⟩) (c28 : PySem.W.codeIn K cd28 "_law_trim" = true) (k28 : PySem.W.keepIn K (.ref f28) = true)
    {f29 : Addr} {od29 an29 : Option Addr} {sl29 : Array (Option Value)} {oc29 kV29 dc29 pm29 cd29 ct29 : Value}
    (a29 : PySem.W.nsIn K mainGlobals "_law_board_of" = some (some (.ref f29))) (l29 : K.lookup f29 = some ⟨oc29, od29, .func (PySem.W.fnOf "_law_board_of" "_law_board_of" (defArgs (topS 45)) (defBody (topS 45)) (defScope (topS 45)) .none kV29 dc29 pm29 an29 cd29 ct29), sl29⟩) (c29 : PySem.W.codeIn K cd29 "_law_board_of" = true) (k29 : PySem.W.keepIn K (.ref f29) = true)
    {f30 : Addr} {od30 an30 : Option Addr} {sl30 : Array (Option Value)} {oc30 kV30 dc30 pm30 cd30 ct30 : Value}
    (a30 : PySem.W.nsIn K mainGlobals "_law_product" = some (some (.ref f30))) (l30 : K.lookup f30 = some ⟨oc30, od30, .func (PySem.W.fnOf "_law_product" "_law_product" (defArgs (topS 46)) (defBody (topS 46)) (defScope (topS 46)) .none kV30 dc30 pm30 an30 cd30 ct30), sl30⟩) (c30 : PySem.W.codeIn K cd30 "_law_product" = true) (k30 : PySem.W.keepIn K (.ref f30) = true)
    {f31 : Addr} {od31 an31 : Option Addr} {sl31 : Array (Option Value)} {oc31 kV31 dc31 pm31 cd31 ct31 : Value}
    (a31 : PySem.W.nsIn K mainGlobals "_law_line" = some (some (.ref f31))) (l31 : K.lookup f31 = some ⟨oc31, od31, .func (PySem.W.fnOf "_law_line" "_law_line" (defArgs (topS 47)) (defBody (topS 47)) (defScope (topS 47)) .none kV31 dc31 pm31 an31 cd31 ct31), sl31⟩) (c31 : PySem.W.codeIn K cd31 "_law_line" = true) (k31 : PySem.W.keepIn K (.ref f31) = true)
    {f32 : Addr} {od32 an32 : Option Addr} {sl32 : Array (Option Value)} {oc32 kV32 dc32 pm32 cd32 ct32 : Value}
    (a32 : PySem.W.nsIn K mainGlobals "_law_conic" = some (some (.ref f32))) (l32 : K.lookup f32 = some ⟨oc32, od32, .func (PySem.W.fnOf "_law_conic" "_law_conic" (defArgs (topS 48)) (defBody (topS 48)) (defScope (topS 48)) .none kV32 dc32 pm32 an32 cd32 ct32), sl32⟩) (c32 : PySem.W.codeIn K cd32 "_law_conic" = true) (k32 : PySem.W.keepIn K (.ref f32) = true)
    {f33 : Addr} {od33 an33 : Option Addr} {sl33 : Array (Option Value)} {oc33 kV33 dc33 pm33 cd33 ct33 : Value}
    (a33 : PySem.W.nsIn K mainGlobals "_law_board" = some (some (.ref f33))) (l33 : K.lookup f33 = some ⟨oc33, od33, .func (PySem.W.fnOf "_law_board" "_law_board" (defArgs (topS 49)) (defBody (topS 49)) (defScope (topS 49)) .none kV33 dc33 pm33 an33 cd33 ct33), sl33⟩) (c33 : PySem.W.codeIn K cd33 "_law_board" = true) (k33 : PySem.W.keepIn K (.ref f33) = true)
    {f34 : Addr} {od34 an34 : Option Addr} {sl34 : Array (Option Value)} {oc34 kV34 dc34 pm34 cd34 ct34 : Value}
    (a34 : PySem.W.nsIn K mainGlobals "_law_letter" = some (some (.ref f34))) (l34 : K.lookup f34 = some ⟨oc34, od34, .func (PySem.W.fnOf "_law_letter" "_law_letter" (defArgs (topS 50)) (defBody (topS 50)) (defScope (topS 50)) .none kV34 dc34 pm34 an34 cd34 ct34), sl34⟩) (c34 : PySem.W.codeIn K cd34 "_law_letter" = true) (k34 : PySem.W.keepIn K (.ref f34) = true)
    {f35 : Addr} {od35 an35 : Option Addr} {sl35 : Array (Option Value)} {oc35 kV35 dc35 pm35 cd35 ct35 : Value}
    (a35 : PySem.W.nsIn K mainGlobals "_law_shown" = some (some (.ref f35))) (l35 : K.lookup f35 = some ⟨oc35, od35, .func (PySem.W.fnOf "_law_shown" "_law_shown" (defArgs (topS 51)) (defBody (topS 51)) (defScope (topS 51)) .none kV35 dc35 pm35 an35 cd35 ct35), sl35⟩) (c35 : PySem.W.codeIn K cd35 "_law_shown" = true) (k35 : PySem.W.keepIn K (.ref f35) = true)
    {f36 : Addr} {od36 an36 : Option Addr} {sl36 : Array (Option Value)} {oc36 kV36 dc36 pm36 cd36 ct36 : Value}
    (a36 : PySem.W.nsIn K mainGlobals "_law_any" = some (some (.ref f36))) (l36 : K.lookup f36 = some ⟨oc36, od36, .func (PySem.W.fnOf "_law_any" "_law_any" (defArgs (topS 52)) (defBody (topS 52)) (defScope (topS 52)) .none kV36 dc36 pm36 an36 cd36 ct36), sl36⟩) (c36 : PySem.W.codeIn K cd36 "_law_any" = true) (k36 : PySem.W.keepIn K (.ref f36) = true)
    {f37 : Addr} {od37 an37 : Option Addr} {sl37 : Array (Option Value)} {oc37 kV37 dc37 pm37 cd37 ct37 : Value}
    (a37 : PySem.W.nsIn K mainGlobals "law" = some (some (.ref f37))) (l37 : K.lookup f37 = some ⟨oc37, od37, .func (PySem.W.fnOf "law" "law" (defArgs (topS 53)) (defBody (topS 53)) (defScope (topS 53)) .none kV37 dc37 pm37 an37 cd37 ct37), sl37⟩) (c37 : PySem.W.codeIn K cd37 "law" = true) (k37 : PySem.W.keepIn K (.ref f37) = true)
    (z0 : PySem.W.nsIn K mainGlobals "len" = some none)
    (z1 : PySem.W.nsIn K mainGlobals "abs" = some none)
    (z2 : PySem.W.nsIn K mainGlobals "max" = some none)
    (z3 : PySem.W.nsIn K mainGlobals "min" = some none)
    (z4 : PySem.W.nsIn K mainGlobals "int" = some none)
    (z5 : PySem.W.nsIn K mainGlobals "tuple" = some none)
    (z6 : PySem.W.nsIn K mainGlobals "list" = some none)
    (z7 : PySem.W.nsIn K mainGlobals "all" = some none)
    (z8 : PySem.W.nsIn K mainGlobals "any" = some none)
    (z9 : PySem.W.nsIn K mainGlobals "bool" = some none)
    (z10 : PySem.W.nsIn K mainGlobals "str" = some none)
    (z11 : PySem.W.nsIn K mainGlobals "isinstance" = some none)
    (z12 : PySem.W.nsIn K mainGlobals "range" = some none)
    (z13 : PySem.W.nsIn K mainGlobals "enumerate" = some none)
    (z14 : PySem.W.nsIn K mainGlobals "zip" = some none)
    (z15 : PySem.W.nsIn K mainGlobals "dict" = some none)
    (z16 : PySem.W.nsIn K mainGlobals "sorted" = some none)
    (z17 : PySem.W.nsIn K mainGlobals "sum" = some none)
    {e0 : Addr} (ea0 : PySem.W.nsIn K mainGlobals "StackError" = some (some (.ref e0))) (ek0 : PySem.W.keepIn K (.ref e0) = true) (ex0 : PySem.W.excIn K e0 [.type "ValueError", .type "Exception", .type "BaseException", .type "object"] "ValueError.__new__" = true) (es0 : PySem.W.subIn K (.ref e0) (.type "BaseException") = some true) (et0 : PySem.W.typeIn K (.ref e0) = some (.type "type"))
    {e1 : Addr} (ea1 : PySem.W.nsIn K mainGlobals "NoText" = some (some (.ref e1))) (ek1 : PySem.W.keepIn K (.ref e1) = true) (ex1 : PySem.W.excIn K e1 [.type "ValueError", .type "Exception", .type "BaseException", .type "object"] "ValueError.__new__" = true) (es1 : PySem.W.subIn K (.ref e1) (.type "BaseException") = some true) (et1 : PySem.W.typeIn K (.ref e1) = some (.type "type"))
    {qt0_ : Tok}  (qa0 : PySem.W.nsIn K mainGlobals "SMALL" = some (some (.str "abcdefghijklmnopqrstuvwxyz" qt0_)))
    {qt1_ : Tok}  (qa1 : PySem.W.nsIn K mainGlobals "FIGURES" = some (some (.str "0123456789" qt1_)))
    {qt2__0 qt2__1 qt2__2 qt2__3 qt2__4 qt2__5 qt2__6 : Tok} {q2_ : Addr} {qd2_ : Option Addr} {qn2_ : Nat} {qs2_ : Array (Option Value)} (qa2 : PySem.W.nsIn K mainGlobals "WORDS" = some (some (.ref q2_))) (ql2_ : K.lookup q2_ = some ⟨.type "tuple", qd2_, .seq #[.str "not" qt2__0, .str "and" qt2__1, .str "or" qt2__2, .str "some" qt2__3, .str "all" qt2__4, .str "x" qt2__5, .str "y" qt2__6] qn2_, qs2_⟩)
    {qt3_ : Tok}  (qa3 : PySem.W.nsIn K mainGlobals "SIGNS" = some (some (.str "+-*^()[]<=>" qt3_)))
    {qt4_ : Tok}  (qa4 : PySem.W.nsIn K mainGlobals "MOST_SIGNS" = some (some (.int 1000 qt4_)))
    {qt5_ : Tok}  (qa5 : PySem.W.nsIn K mainGlobals "MOST_OPEN" = some (some (.int 20 qt5_)))
    {qt6_ : Tok}  (qa6 : PySem.W.nsIn K mainGlobals "MOST_MINUSES" = some (some (.int 20 qt6_)))
    {qt7_ : Tok}  (qa7 : PySem.W.nsIn K mainGlobals "MOST_FIGURES" = some (some (.int 12 qt7_)))
    {qt8__0_0 : Tok} {q8__0 : Addr} {qd8__0 : Option Addr} {qn8__0 : Nat} {qs8__0 : Array (Option Value)} {q8_ : Addr} {qd8_ : Option Addr} {qn8_ : Nat} {qs8_ : Array (Option Value)} (qa8 : PySem.W.nsIn K mainGlobals "ONE" = some (some (.ref q8_))) (ql8_ : K.lookup q8_ = some ⟨.type "tuple", qd8_, .seq #[.ref q8__0] qn8_, qs8_⟩) (ql8__0 : K.lookup q8__0 = some ⟨.type "tuple", qd8__0, .seq #[.int 1 qt8__0_0] qn8__0, qs8__0⟩) :
    ∃ fd : FuncData, (∀ (s : Shared) (u : Value), BindsTo s fd ⟨[u], []⟩ [("_law_script", u)]) ∧ ∀ base : Heap, K.In base → base.Ns mainGlobals mg → base.NoSeer → FnOk P w K mg base (L2N.CX P w) 80 fa fd ["_law_script"] (spL K 1 (runF pr 40 37)) := by
  have hA : AllF K mg pr fis [topS 4, topS 5, topS 6, topS 7, topS 8, topS 10, topS 11, topS 12, topS 13, topS 14, topS 25, topS 26, topS 27, topS 28, topS 29, topS 30, topS 31, topS 32, topS 33, topS 34, topS 35, topS 36, topS 37, topS 38, topS 39, topS 40, topS 42, topS 43, topS 44, topS 45, topS 46, topS 47, topS 48, topS 49, topS 50, topS 51, topS 52, topS 53] := ⟨⟨funAt X G a0 l0 c0 k0 bi_trimmed, ok_trimmed⟩, ⟨⟨funAt X G a1 l1 c1 k1 bi_part_at, ok_part_at⟩, ⟨⟨funAt X G a2 l2 c2 k2 bi_row_plus, ok_row_plus⟩, ⟨⟨funAt X G a3 l3 c3 k3 bi_row_minus, ok_row_minus⟩, ⟨⟨funAt X G a4 l4 c4 k4 bi_row_times, ok_row_times⟩, ⟨⟨funAt X G a5 l5 c5 k5 bi_cut_off, ok_cut_off⟩, ⟨⟨funAt X G a6 l6 c6 k6 bi_row_at, ok_row_at⟩, ⟨⟨funAt X G a7 l7 c7 k7 bi_board_plus, ok_board_plus⟩, ⟨⟨funAt X G a8 l8 c8 k8 bi_board_minus, ok_board_minus⟩, ⟨⟨funAt X G a9 l9 c9 k9 bi_board_times, ok_board_times⟩, ⟨⟨funAt X G a10 l10 c10 k10 bi_run_from, ok_run_from⟩, ⟨⟨funAt X G a11 l11 c11 k11 bi_mark_at, ok_mark_at⟩, ⟨⟨funAt X G a12 l12 c12 k12 bi_marks_of, ok_marks_of⟩, ⟨⟨funAt X G a13 l13 c13 k13 bi_check_open, ok_check_open⟩, ⟨⟨funAt X G a14 l14 c14 k14 bi_mark_of, ok_mark_of⟩, ⟨⟨funAt X G a15 l15 c15 k15 bi_is_number, ok_is_number⟩, ⟨⟨funAt X G a16 l16 c16 k16 bi_atom_at, ok_atom_at⟩, ⟨⟨funAt X G a17 l17 c17 k17 bi_power_of, ok_power_of⟩, ⟨⟨funAt X G a18 l18 c18 k18 bi_factor_at, ok_factor_at⟩, ⟨⟨funAt X G a19 l19 c19 k19 bi_product_at, ok_product_at⟩, ⟨⟨funAt X G a20 l20 c20 k20 bi_sum_at, ok_sum_at⟩, ⟨⟨funAt X G a21 l21 c21 k21 bi_read_term, ok_read_term⟩, ⟨⟨funAt X G a22 l22 c22 k22 bi_letter_text, ok_letter_text⟩, ⟨⟨funAt X G a23 l23 c23 k23 bi_product_text, ok_product_text⟩, ⟨⟨funAt X G a24 l24 c24 k24 bi_products_of, ok_products_of⟩, ⟨⟨funAt X G a25 l25 c25 k25 bi_show_term, ok_show_term⟩, ⟨⟨funAt X G a26 l26 c26 k26 bi__law_cell, ok__law_cell⟩, ⟨⟨funAt X G a27 l27 c27 k27 bi__law_numbers, ok__law_numbers⟩, ⟨⟨funAt X G a28 l28 c28 k28 bi__law_trim, ok__law_trim⟩, ⟨⟨funAt X G a29 l29 c29 k29 bi__law_board_of, ok__law_board_of⟩, ⟨⟨funAt X G a30 l30 c30 k30 bi__law_product, ok__law_product⟩, ⟨⟨funAt X G a31 l31 c31 k31 bi__law_line, ok__law_line⟩, ⟨⟨funAt X G a32 l32 c32 k32 bi__law_conic, ok__law_conic⟩, ⟨⟨funAt X G a33 l33 c33 k33 bi__law_board, ok__law_board⟩, ⟨⟨funAt X G a34 l34 c34 k34 bi__law_letter, ok__law_letter⟩, ⟨⟨funAt X G a35 l35 c35 k35 bi__law_shown, ok__law_shown⟩, ⟨⟨funAt X G a36 l36 c36 k36 bi__law_any, ok__law_any⟩, ⟨⟨funAt X G a37 l37 c37 k37 bi_law, ok_law⟩, trivial⟩⟩⟩⟩⟩⟩⟩⟩⟩⟩⟩⟩⟩⟩⟩⟩⟩⟩⟩⟩⟩⟩⟩⟩⟩⟩⟩⟩⟩⟩⟩⟩⟩⟩⟩⟩⟩⟩
  refine lawL (st := topS 53) (xa := (fun c => if c = 1 then e1 else e0)) ⟨fun f fi e => hA.get f fi e, fun x hx => ?_, fun g y d e => ?_, fun c x e => ?_, fun x hx c => ?_, fun hx => ?_, fun hx => ?_⟩ htr (show pr.fs[37]? = some i_law from rfl) rfl rfl hmg rfl rfl rfl (hA.2.2.2.2.2.2.2.2.2.2.2.2.2.2.2.2.2.2.2.2.2.2.2.2.2.2.2.2.2.2.2.2.2.2.2.2.2.1.1) (fun _ _ _ _ _ _ _ _ => .of_eq rfl) ok_law
  · exact NoneAll.get (show NoneAll mg bltNames from ⟨PySem.W.mg_none_of X G z0, PySem.W.mg_none_of X G z1, PySem.W.mg_none_of X G z2, PySem.W.mg_none_of X G z3, PySem.W.mg_none_of X G z4, PySem.W.mg_none_of X G z5, PySem.W.mg_none_of X G z6, PySem.W.mg_none_of X G z7, PySem.W.mg_none_of X G z8, PySem.W.mg_none_of X G z9, PySem.W.mg_none_of X G z10, PySem.W.mg_none_of X G z11, PySem.W.mg_none_of X G z12, PySem.W.mg_none_of X G z13, PySem.W.mg_none_of X G z14, PySem.W.mg_none_of X G z15, PySem.W.mg_none_of X G z16, PySem.W.mg_none_of X G z17, trivial⟩) x hx
  · match g, e with
    | 0, e => cases e; exact ⟨.str "abcdefghijklmnopqrstuvwxyz", _, PySem.W.mg_of X G qa0, ⟨_, rfl⟩, fun A H => (.str _)⟩
    | 1, e => cases e; exact ⟨.str "0123456789", _, PySem.W.mg_of X G qa1, ⟨_, rfl⟩, fun A H => (.str _)⟩
    | 2, e => cases e; exact ⟨.ref q2_, _, PySem.W.mg_of X G qa2, rfl, fun A H => (.tup (xs := [.str "not", .str "and", .str "or", .str "some", .str "all", .str "x", .str "y"]) (.inr ⟨_, _, _, ql2_, rfl, rfl, (show 7 ≤ sizeLine by decide), (.cons (⟨_, rfl⟩) (.cons (⟨_, rfl⟩) (.cons (⟨_, rfl⟩) (.cons (⟨_, rfl⟩) (.cons (⟨_, rfl⟩) (.cons (⟨_, rfl⟩) (.cons (⟨_, rfl⟩) .nil)))))))⟩) (.cons (.str _) (.cons (.str _) (.cons (.str _) (.cons (.str _) (.cons (.str _) (.cons (.str _) (.cons (.str _) .nil))))))))⟩
    | 3, e => cases e; exact ⟨.str "+-*^()[]<=>", _, PySem.W.mg_of X G qa3, ⟨_, rfl⟩, fun A H => (.str _)⟩
    | 4, e => cases e; exact ⟨.int (1000), _, PySem.W.mg_of X G qa4, ⟨_, rfl⟩, fun A H => (.int _)⟩
    | 5, e => cases e; exact ⟨.int (20), _, PySem.W.mg_of X G qa5, ⟨_, rfl⟩, fun A H => (.int _)⟩
    | 6, e => cases e; exact ⟨.int (20), _, PySem.W.mg_of X G qa6, ⟨_, rfl⟩, fun A H => (.int _)⟩
    | 7, e => cases e; exact ⟨.int (12), _, PySem.W.mg_of X G qa7, ⟨_, rfl⟩, fun A H => (.int _)⟩
    | 8, e => cases e; exact ⟨.ref q8_, _, PySem.W.mg_of X G qa8, rfl, fun A H => (.tup (xs := [.ref q8__0]) (.inr ⟨_, _, _, ql8_, rfl, rfl, (show 1 ≤ sizeLine by decide), (.cons (rfl) .nil)⟩) (.cons (.tup (xs := [.int (1)]) (.inr ⟨_, _, _, ql8__0, rfl, rfl, (show 1 ≤ sizeLine by decide), (.cons (⟨_, rfl⟩) .nil)⟩) (.cons (.int _) .nil)) .nil))⟩
    | _ + 9, e => cases e
  · match c, e with
    | 0, e => cases e; exact ⟨PySem.W.mg_of X G ea0, ek0, ex0, es0, et0, ea0⟩
    | 1, e => cases e; exact ⟨PySem.W.mg_of X G ea1, ek1, ex1, es1, et1, ea1⟩
    | _ + 2, e => cases e
  · simp [pr] at hx
  · cases hx
  · cases hx
end Lw
open PySem PySem.W PyProof.Rows
set_option maxHeartbeats 0 in
theorem PySem.Challenge.cw_planestacks_k30_terms_shown_holds : PySem.Challenge.rw_planestacks_k30_terms_shown.Holds := by
  w_on; o_law; k_head; (case hw => w_witness2)
  k_fill
  refine PD.walk_ofS (l := PySem.Challenge.rw_planestacks_k30_terms_shown) (n := 63) (k := 80) (x := "_law_script") (CX := fun w => L2N.CX PySem.Challenge.rw_planestacks_k30_terms_shown.prog w) (sp := fun w => PD.spL _ 1 (PD.runF Lw.pr 40 37)) (by decide +kernel) rfl (by decide) rfl ⟨rfl, by decide, by decide⟩ (fun w h Y => PySem.W.kIn_of Y) ?F (fun w H a ns hl hb _ hS => PD.law_okL hS (Lw.main ns hl hb)) (fun w H s e s' h => ?G)
  case F =>
    intro w mg fa h KX G hmg
    have hm2 : mg "law" = some (.ref fa) := hmg
    clear hmg
    refine' Lw.at_law KX G hm2 rfl ?a0 ?l0 ?c0 ?k0 ?a1 ?l1 ?c1 ?k1 ?a2 ?l2 ?c2 ?k2 ?a3 ?l3 ?c3 ?k3 ?a4 ?l4 ?c4 ?k4 ?a5 ?l5 ?c5 ?k5 ?a6 ?l6 ?c6 ?k6 ?a7 ?l7 ?c7 ?k7 ?a8 ?l8 ?c8 ?k8 ?a9 ?l9 ?c9 ?k9 ?a10 ?l10 ?c10 ?k10 ?a11 ?l11 ?c11 ?k11 ?a12 ?l12 ?c12 ?k12 ?a13 ?l13 ?c13 ?k13 ?a14 ?l14 ?c14 ?k14 ?a15 ?l15 ?c15 ?k15 ?a16 ?l16 ?c16 ?k16 ?a17 ?l17 ?c17 ?k17 ?a18 ?l18 ?c18 ?k18 ?a19 ?l19 ?c19 ?k19 ?a20 ?l20 ?c20 ?k20 ?a21 ?l21 ?c21 ?k21 ?a22 ?l22 ?c22 ?k22 ?a23 ?l23 ?c23 ?k23 ?a24 ?l24 ?c24 ?k24 ?a25 ?l25 ?c25 ?k25 ?a26 ?l26 ?c26 ?k26 ?a27 ?l27 ?c27 ?k27 ?a28 ?l28 ?c28 ?k28 ?a29 ?l29 ?c29 ?k29 ?a30 ?l30 ?c30 ?k30 ?a31 ?l31 ?c31 ?k31 ?a32 ?l32 ?c32 ?k32 ?a33 ?l33 ?c33 ?k33 ?a34 ?l34 ?c34 ?k34 ?a35 ?l35 ?c35 ?k35 ?a36 ?l36 ?c36 ?k36 ?a37 ?l37 ?c37 ?k37 ?z0 ?z1 ?z2 ?z3 ?z4 ?z5 ?z6 ?z7 ?z8 ?z9 ?z10 ?z11 ?z12 ?z13 ?z14 ?z15 ?z16 ?z17 ?ea0 ?ek0 ?ex0 ?es0 ?et0 ?ea1 ?ek1 ?ex1 ?es1 ?et1 ?qa0 ?qa1 ?qa2 ?ql2_ ?qa3 ?qa4 ?qa5 ?qa6 ?qa7 ?qa8 ?ql8_ ?ql8__0
    (case a0 => k_is)
    (case l0 => k_is)
    (case c0 => k_is)
    (case k0 => k_is)
    (case a1 => k_is)
    (case l1 => k_is)
    (case c1 => k_is)
    (case k1 => k_is)
    (case a2 => k_is)
    (case l2 => k_is)
    (case c2 => k_is)
    (case k2 => k_is)
    (case a3 => k_is)
    (case l3 => k_is)
    (case c3 => k_is)
    (case k3 => k_is)
    (case a4 => k_is)
    (case l4 => k_is)
    (case c4 => k_is)
    (case k4 => k_is)
    (case a5 => k_is)
    (case l5 => k_is)
    (case c5 => k_is)
    (case k5 => k_is)
    (case a6 => k_is)
    (case l6 => k_is)
    (case c6 => k_is)
    (case k6 => k_is)
    (case a7 => k_is)
    (case l7 => k_is)
    (case c7 => k_is)
    (case k7 => k_is)
    (case a8 => k_is)
    (case l8 => k_is)
    (case c8 => k_is)
    (case k8 => k_is)
    (case a9 => k_is)
    (case l9 => k_is)
    (case c9 => k_is)
    (case k9 => k_is)
    (case a10 => k_is)
    (case l10 => k_is)
    (case c10 => k_is)
    (case k10 => k_is)
    (case a11 => k_is)
    (case l11 => k_is)
    (case c11 => k_is)
    (case k11 => k_is)
    (case a12 => k_is)
    (case l12 => k_is)
    (case c12 => k_is)
    (case k12 => k_is)
    (case a13 => k_is)
    (case l13 => k_is)
    (case c13 => k_is)
    (case k13 => k_is)
    (case a14 => k_is)
    (case l14 => k_is)
    (case c14 => k_is)
    (case k14 => k_is)
    (case a15 => k_is)
    (case l15 => k_is)
    (case c15 => k_is)
    (case k15 => k_is)
    (case a16 => k_is)
    (case l16 => k_is)
    (case c16 => k_is)
    (case k16 => k_is)
    (case a17 => k_is)
    (case l17 => k_is)
    (case c17 => k_is)
    (case k17 => k_is)
    (case a18 => k_is)
    (case l18 => k_is)
    (case c18 => k_is)
    (case k18 => k_is)
    (case a19 => k_is)
    (case l19 => k_is)
    (case c19 => k_is)
    (case k19 => k_is)
    (case a20 => k_is)
    (case l20 => k_is)
    (case c20 => k_is)
    (case k20 => k_is)
    (case a21 => k_is)
    (case l21 => k_is)
    (case c21 => k_is)
    (case k21 => k_is)
    (case a22 => k_is)
    (case l22 => k_is)
    (case c22 => k_is)
    (case k22 => k_is)
    (case a23 => k_is)
    (case l23 => k_is)
    (case c23 => k_is)
    (case k23 => k_is)
    (case a24 => k_is)
    (case l24 => k_is)
    (case c24 => k_is)
    (case k24 => k_is)
    (case a25 => k_is)
    (case l25 => k_is)
    (case c25 => k_is)
    (case k25 => k_is)
    (case a26 => k_is)
    (case l26 => k_is)
    (case c26 => k_is)
    (case k26 => k_is)
    (case a27 => k_is)
    (case l27 => k_is)
    (case c27 => k_is)
    (case k27 => k_is)
    (case a28 => k_is)
    (case l28 => k_is)
    (case c28 => k_is)
    (case k28 => k_is)
    (case a29 => k_is)
    (case l29 => k_is)
    (case c29 => k_is)
    (case k29 => k_is)
    (case a30 => k_is)
    (case l30 => k_is)
    (case c30 => k_is)
    (case k30 => k_is)
    (case a31 => k_is)
    (case l31 => k_is)
    (case c31 => k_is)
    (case k31 => k_is)
    (case a32 => k_is)
    (case l32 => k_is)
    (case c32 => k_is)
    (case k32 => k_is)
    (case a33 => k_is)
    (case l33 => k_is)
    (case c33 => k_is)
    (case k33 => k_is)
    (case a34 => k_is)
    (case l34 => k_is)
    (case c34 => k_is)
    (case k34 => k_is)
    (case a35 => k_is)
    (case l35 => k_is)
    (case c35 => k_is)
    (case k35 => k_is)
    (case a36 => k_is)
    (case l36 => k_is)
    (case c36 => k_is)
    (case k36 => k_is)
    (case a37 => k_is)
    (case l37 => k_is)
    (case c37 => k_is)
    (case k37 => k_is)
    (case z0 => k_is)
    (case z1 => k_is)
    (case z2 => k_is)
    (case z3 => k_is)
    (case z4 => k_is)
    (case z5 => k_is)
    (case z6 => k_is)
    (case z7 => k_is)
    (case z8 => k_is)
    (case z9 => k_is)
    (case z10 => k_is)
    (case z11 => k_is)
    (case z12 => k_is)
    (case z13 => k_is)
    (case z14 => k_is)
    (case z15 => k_is)
    (case z16 => k_is)
    (case z17 => k_is)
    (case ea0 => k_is)
    (case ek0 => k_is)
    (case ex0 => k_exc)
    (case es0 => k_is)
    (case et0 => k_is)
    (case ea1 => k_is)
    (case ek1 => k_is)
    (case ex1 => k_exc)
    (case es1 => k_is)
    (case et1 => k_is)
    (case qa0 => k_is)
    (case qa1 => k_is)
    (case qa2 => k_is)
    (case ql2_ => k_is)
    (case qa3 => k_is)
    (case qa4 => k_is)
    (case qa5 => k_is)
    (case qa6 => k_is)
    (case qa7 => k_is)
    (case qa8 => k_is)
    (case ql8_ => k_is)
    (case ql8__0 => k_is)
  case G =>
    obtain ⟨_, _, _, _, _, _, _, _, _, _, _, _, z⟩ := h
    exact z
