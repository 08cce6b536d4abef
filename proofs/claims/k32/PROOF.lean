import PyProof.Rows.All
import Wide.All
import OpenK.AllK
import Wide.FinOn
import HandS.ForMost
import HandS.Wide
import HandS.WideBits
import HandS.Evl
import HandS.Exc
import HandS.HeadHook1
import HandS.IsInst
import HandS.WordsDict
import HandS.More
import HandS.TryOnly
import HandS.Defaults
import HandS.Head0
import HandS.Head1
import HandS.Head2
import HandS.HeadEnd
import HandS.HeadHook2
import HandS.Comp
import HandS.AnyAll
import HandS.SortInts
import HandS.Deep
import HandS.Conv
import HandS.Iter
import HandS.Rev
import HandS.RevRange
import HandS.Text
import HandS.Zip
import KE.KDictZip
import PyProof.ListNew
import HandS.WordsExc
import HandS.ExcOwn
import HandS.ExcIs
import HandS.TupAny
import HandS.SetKeys
import HandS.SetFor
import HandS.Strs
import HandS.TupSets
import HandS.Dict
import KE.SortData
import HandS.DictTup
import KE.KDictCopyH
import KE.KDictSum
import KE.BitLaws
import PySem.Challenge.RW_shiftsums_k32_what_odd_parts_cost
set_option Elab.async false
set_option linter.all false
set_option maxRecDepth 100000
set_option maxHeartbeats 4000000
/-! the pure layer: trees, ownership, what stands for what -/
namespace PL
open PySem L2

abbrev D := PyData
/-- a dict's key as data -/
def kD : Key → D
  | .inl i => .int i
  | .inr x => .str x

/-- what a slot holds: data that nobody changes (p), or a thing of the slot's own -/
inductive T where
  | p (d : D)
  | ol (ds : List D)
  | od (kvs : List (Key × D))
  | lk (a : Addr) (o : Obj) (kx : List (Key × V)) (kvs : List (Key × D))
  | tup (ts : List T)
  | oll (ts : List T)
  | ins (x : Str) (ns : List Str) (ts : List T)
  | exc (x : Str)
  | exv (x f : Str) (d : D)
  | ot (kvs : List (List Int × D))
/-- an error that a clause has handed on: its class, its fields -/
def erO (cls : Value) (a : Addr) : HO := .ext fun h => ∃ (oe : Obj) (vs : Array Value), h.get? a = some oe ∧ Zc cls none oe ∧ oe.data = .fields vs
/-- such an error with a dict of its own, at dx -/
def erD (cls : Value) (dx a : Addr) : HO := .ext fun h => ∃ (oe : Obj) (vs : Array Value), h.get? a = some oe ∧ Zc cls (some dx) oe ∧ oe.data = .fields vs
/-- a dict whose keys are tuples of ints, by its own object alone (where the keys' tuples stand, the values) -/
def dTo (kx : List (List Int × Addr × V)) (a : Addr) : HO := .ext fun h => kx.length ≤ sizeLine ∧ (a == sysModules) = false ∧ ∃ xs : List (List Int × Addr × Value),
  Paired (fun (p : List Int × Addr × V) (q : List Int × Addr × Value) => p.1 = q.1 ∧ p.2.1 = q.2.1 ∧ RelV p.2.2 q.2.2) kx xs ∧
  ∃ o es ep, h.get? a = some o ∧ o.ExactDict ∧ o.data = .dict es ep ∧ (∀ (P : Program) (w : World), es.toList = xs.map (entryOfKey (tupleKind (intKind P w)))) ∧ (xs.map (·.1)).Nodup
/-- what an expression gives: a thing, or what slot i holds -/
inductive R where
  | v (t : T)
  | r (i : Nat)
  | f (i : Nat)
  | g (i k : Nat) (q : List Nat)
abbrev Sl := List (Option T)

section
variable (K : PySem.W.Frag) (N : Hp)
mutual
inductive Rd : V → D → Prop
  | non : Rd .non .none
  | bl (b : Bool) : Rd (.bl b) (.bool b)
  | int (i : Int) : Rd (.int i) (.int i)
  | str (x : Str) : Rd (.str x) (.str x)
  | lst {a : Addr} {xs : List V} {ds : List D} : SqL K N a xs → RdL xs ds → Rd (.ref a) (.list ds)
  | tup {a : Addr} {xs : List V} {ds : List D} : SqT K N a xs → RdL xs ds → Rd (.ref a) (.tuple ds)
  | dct {a : Addr} {kx : List (Key × V)} {kvs : List (Key × D)} : L2.Rd N a (.dK kx) → kx.map (·.1) = kvs.map (·.1) → RdL (kx.map (·.2)) (kvs.map (·.2)) → Rd (.ref a) (.dict (kvs.map fun q => (kD q.1, q.2)))
inductive RdL : List V → List D → Prop
  | nil : RdL [] []
  | cons {v : V} {vs : List V} {d : D} {ds : List D} : Rd v d → RdL vs ds → RdL (v :: vs) (d :: ds)
end
end

section
variable {K : PySem.W.Frag} {N N' : Hp}
mutual
theorem Rd.mono (e : Evl.Ex N N') : ∀ {v : V} {d : D}, Rd K N v d → Rd K N' v d
  | _, _, .non => .non
  | _, _, .bl b => .bl b
  | _, _, .int b => .int b
  | _, _, .str b => .str b
  | _, _, .lst h r => .lst (Evl.ex_l e h) (RdL.mono e r)
  | _, _, .tup h r => .tup (Evl.ex_t e h) (RdL.mono e r)
  | _, _, .dct h k r => .dct (Evl.ex_rd e h) k (RdL.mono e r)
theorem RdL.mono (e : Evl.Ex N N') : ∀ {vs : List V} {ds : List D}, RdL K N vs ds → RdL K N' vs ds
  | _, _, .nil => .nil
  | _, _, .cons h r => .cons (Rd.mono e h) (RdL.mono e r)
end
theorem RdL.length : ∀ {vs : List V} {ds : List D}, RdL K N vs ds → vs.length = ds.length
  | _, _, .nil => rfl
  | _, _, .cons _ r => by rw [List.length_cons, List.length_cons, RdL.length r]
theorem RdL.get : ∀ {vs : List V} {ds : List D} {i : Nat} {d : D}, RdL K N vs ds → ds[i]? = some d → ∃ v, vs[i]? = some v ∧ Rd K N v d
  | _, _, _, _, .nil, e => by simp at e
  | _, _, 0, _, .cons r _, e => by simp at e; subst e; exact ⟨_, rfl, r⟩
  | _, _, i + 1, d, .cons _ t, e => by
    obtain ⟨u, h1, h2⟩ := RdL.get (i := i) (d := d) t (by simpa using e)
    exact ⟨u, by simpa using h1, h2⟩
theorem RdL.append : ∀ {vs us : List V} {ds es : List D}, RdL K N vs ds → RdL K N us es → RdL K N (vs ++ us) (ds ++ es)
  | _, _, _, _, .nil, s => s
  | _, _, _, _, .cons r t, s => .cons r (RdL.append t s)
theorem RdL.set {x : V} {d : D} (r : Rd K N x d) : ∀ {vs : List V} {ds : List D} (i : Nat), RdL K N vs ds → RdL K N (vs.set i x) (ds.set i d)
  | _, _, _, .nil => .nil
  | _, _, 0, .cons _ t => .cons r t
  | _, _, i + 1, .cons q t => .cons q (RdL.set r i t)
theorem RdL.take : ∀ {vs : List V} {ds : List D} (n : Nat), RdL K N vs ds → RdL K N (vs.take n) (ds.take n)
  | _, _, 0, _ => .nil
  | _, _, _ + 1, .nil => .nil
  | _, _, n + 1, .cons r t => .cons r (RdL.take n t)
theorem RdL.drop : ∀ {vs : List V} {ds : List D} (n : Nat), RdL K N vs ds → RdL K N (vs.drop n) (ds.drop n)
  | _, _, 0, r => r
  | _, _, _ + 1, .nil => .nil
  | _, _, n + 1, .cons _ t => RdL.drop n t
theorem RdL.reverse : ∀ {vs : List V} {ds : List D}, RdL K N vs ds → RdL K N vs.reverse ds.reverse
  | _, _, .nil => .nil
  | _, _, .cons r t => by rw [List.reverse_cons, List.reverse_cons]; exact (RdL.reverse t).append (.cons r .nil)
theorem RdL.dropLast {vs : List V} {ds : List D} (r : RdL K N vs ds) : RdL K N vs.dropLast ds.dropLast := by
  rw [List.dropLast_eq_take, List.dropLast_eq_take, r.length]; exact r.take _
theorem RdL.eraseIdx : ∀ {vs : List V} {ds : List D} (n : Nat), RdL K N vs ds → RdL K N (vs.eraseIdx n) (ds.eraseIdx n)
  | _, _, _, .nil => .nil
  | _, _, 0, .cons _ t => t
  | _, _, n + 1, .cons r t => .cons r (RdL.eraseIdx n t)
/-- ints -/
theorem RdL.ints : ∀ {vs : List V} {ns : List Int}, RdL K N vs (ns.map PyData.int) → vs = ns.map V.int
  | _, [], .nil => rfl
  | _, n :: ns, .cons r t => by
    cases r
    rw [RdL.ints t]; rfl
theorem RdL.of_ints : ∀ (ns : List Int), RdL K N (ns.map V.int) (ns.map PyData.int)
  | [] => .nil
  | n :: ns => .cons (.int n) (RdL.of_ints ns)
theorem RdL.bls : ∀ {vs : List V} {ns : List Bool}, RdL K N vs (ns.map PyData.bool) → vs = ns.map V.bl
  | _, [], .nil => rfl
  | _, n :: ns, .cons r t => by
    cases r
    rw [RdL.bls t]; rfl
theorem RdL.strs : ∀ {vs : List V} {ns : List Str}, RdL K N vs (ns.map PyData.str) → vs = ns.map V.str
  | _, [], .nil => rfl
  | _, n :: ns, .cons r t => by
    cases r
    rw [RdL.strs t]; rfl
end

/-! ### ownership -/
inductive Rid where
  | s (i : Nat) | t (j : Nat) | r | x
  deriving DecidableEq
abbrev Lab := Rid × List Nat
abbrev Own := Addr → Option Lab
/-- no tuple -/
def ntup : HO → Bool
  | .tup _ => false
  | .frz _ (.tup _) => false
  | .xd _ => false
  | _ => true
/-- the heap without what is owned -/
def msk (H : Hp) (w : Own) : Hp := fun b => match w b with
  | none => H b
  | some _ => none
theorem msk_none {H : Hp} {w : Own} {b : Addr} (h : w b = none) : msk H w b = H b := by unfold msk; rw [h]
theorem msk_some {H : Hp} {w : Own} {b : Addr} {l : Lab} (h : w b = some l) : msk H w b = none := by unfold msk; rw [h]
theorem msk_le {H : Hp} {w : Own} : Evl.Ex (msk H w) H := fun b o e => by
  cases h : w b with
  | none => rw [msk_none h] at e; exact e
  | some l => rw [msk_some h] at e; cases e
theorem msk_get {H : Hp} {w : Own} {b : Addr} {o : HO} (e : msk H w b = some o) : w b = none ∧ H b = some o := by
  cases h : w b with
  | none => rw [msk_none h] at e; exact ⟨rfl, e⟩
  | some l => rw [msk_some h] at e; cases e
theorem msk_mono {H H' : Hp} {w w' : Own} (h : ∀ b o, w b = none → H b = some o → w' b = none ∧ H' b = some o) : Evl.Ex (msk H w) (msk H' w') := fun b o e => by
  obtain ⟨e1, e2⟩ := msk_get e
  obtain ⟨f1, f2⟩ := h b o e1 e2
  rw [msk_none f1]; exact f2

section
variable (K : PySem.W.Frag) (N H : Hp) (w : Own)
mutual
inductive Rp : Lab → V → T → Prop
  | p {l : Lab} {v : V} {d : D} : Rd K N v d → Rp l v (.p d)
  | ol {l : Lab} {a : Addr} {xs : List V} {ds : List D} : w a = some l → H a = some (.lst xs) → RdL K N xs ds → Rp l (.ref a) (.ol ds)
  | od {l : Lab} {a : Addr} {kx : List (Key × V)} {kvs : List (Key × D)} : w a = some l → H a = some (.dK kx) → kx.map (·.1) = kvs.map (·.1) → RdL K N (kx.map (·.2)) (kvs.map (·.2)) → Rp l (.ref a) (.od kvs)
  | lk {l : Lab} {a : Addr} {o : Obj} {kx : List (Key × V)} {kvs : List (Key × D)} : w a = some l → H a = some (.frz o (.dK kx)) → kx.map (·.1) = kvs.map (·.1) → RdL K N (kx.map (·.2)) (kvs.map (·.2)) → Rp l (.ref a) (.lk a o kx kvs)
  | tup {l : Lab} {a : Addr} {xs : List V} {ts : List T} : SqT K N a xs → RpL l 0 xs ts → Rp l (.ref a) (.tup ts)
  | oll {l : Lab} {a : Addr} {xs : List V} {ts : List T} : w a = some l → H a = some (.lst xs) → RpL l 0 xs ts → Rp l (.ref a) (.oll ts)
  | ins {l : Lab} {a dx : Addr} {x : Str} {fs : List (Str × V)} {ns : List Str} {ts : List T} : w a = some l → H a = some (.ins (He.ga K x) dx fs) → fs.map (·.1) = ns → RpL l 0 (fs.map (·.2)) ts → Rp l (.ref a) (.ins x ns ts)
  | exc {l : Lab} {a : Addr} {x : Str} : N a = some (erO (.ref (He.ga K x)) a) → Rp l (.ref a) (.exc x)
  | exv {l : Lab} {a dx : Addr} {x f : Str} {v : V} {d : D} : N a = some (erD (.ref (He.ga K x)) dx a) → N dx = some (.xd [(f, v)]) → Rd K N v d → Rp l (.ref a) (.exv x f d)
  | ot {l : Lab} {a : Addr} {kx : List (List Int × Addr × V)} {kvs : List (List Int × D)} : w a = some l → H a = some (dTo kx a) → kx.map (·.1) = kvs.map (·.1) → (∀ x ∈ kx, SqT K N x.2.1 (x.1.map V.int)) → RdL K N (kx.map (·.2.2)) (kvs.map (·.2)) → Rp l (.ref a) (.ot kvs)
inductive RpL : Lab → Nat → List V → List T → Prop
  | nil {l : Lab} {k : Nat} : RpL l k [] []
  | cons {l : Lab} {k : Nat} {v : V} {vs : List V} {t : T} {ts : List T} : Rp (l.1, k :: l.2) v t → RpL l (k + 1) vs ts → RpL l k (v :: vs) (t :: ts)
end
end
section
variable {K : PySem.W.Frag} {N N' H H' : Hp} {w w' : Own}
/-- what is at labels from l on moves to labels from l' on -/
def Mv (H H' : Hp) (w w' : Own) (l l' : Lab) : Prop := ∀ a m o, w a = some (l.1, m ++ l.2) → H a = some o → w' a = some (l'.1, m ++ l'.2) ∧ H' a = some o
theorem Mv.kid {l l' : Lab} (h : Mv H H' w w' l l') (k : Nat) : Mv H H' w w' (l.1, k :: l.2) (l'.1, k :: l'.2) := fun a m o e1 e2 => by
  have := h a (m ++ [k]) o (by rw [e1]; simp) e2
  simpa using this
mutual
theorem Rp.move (e : Evl.Ex N N') : ∀ {l l' : Lab} {v : V} {t : T}, Rp K N H w l v t → Mv H H' w w' l l' → Rp K N' H' w' l' v t
  | _, _, _, _, .p r, _ => .p (r.mono e)
  | l, l', _, _, .ol h1 h2 r, m => by
    obtain ⟨f1, f2⟩ := m _ [] _ h1 h2
    exact .ol f1 f2 (r.mono e)
  | l, l', _, _, .od h1 h2 k r, m => by
    obtain ⟨f1, f2⟩ := m _ [] _ h1 h2
    exact .od f1 f2 k (r.mono e)
  | l, l', _, _, .lk h1 h2 k r, m => by
    obtain ⟨f1, f2⟩ := m _ [] _ h1 h2
    exact .lk f1 f2 k (r.mono e)
  | l, l', _, _, .tup h r, m => .tup (Evl.ex_t e h) (RpL.move e r m)
  | l, l', _, _, .oll h1 h2 r, m => by
    obtain ⟨f1, f2⟩ := m _ [] _ h1 h2
    exact .oll f1 f2 (RpL.move e r m)
  | l, l', _, _, .ins h1 h2 k r, m => by
    obtain ⟨f1, f2⟩ := m _ [] _ h1 h2
    exact .ins f1 f2 k (RpL.move e r m)
  | _, _, _, _, .exc h, _ => .exc (e _ _ h)
  | _, _, _, _, .exv h1 h2 r, _ => .exv (e _ _ h1) (e _ _ h2) (r.mono e)
  | l, l', _, _, .ot h1 h2 k q r, m => by
    obtain ⟨f1, f2⟩ := m _ [] _ h1 h2
    exact .ot f1 f2 k (fun x hx => Evl.ex_t e (q x hx)) (r.mono e)
theorem RpL.move (e : Evl.Ex N N') : ∀ {l l' : Lab} {k : Nat} {vs : List V} {ts : List T}, RpL K N H w l k vs ts → Mv H H' w w' l l' → RpL K N' H' w' l' k vs ts
  | _, _, _, _, _, .nil, _ => .nil
  | l, l', k, _, _, .cons h r, m => .cons (Rp.move e h (m.kid k)) (RpL.move e r m)
end
/- frozen -/
mutual
def T.dat : T → D
  | .p d => d
  | .ol ds => .list ds
  | .od kvs => .dict (kvs.map fun q => (kD q.1, q.2))
  | .lk _ _ _ _ => .none
  | .tup ts => .tuple (T.datL ts)
  | .oll ts => .list (T.datL ts)
  | .ins _ _ _ => .none
  | .exc _ => .none
  | .exv _ _ _ => .none
  | .ot _ => .none
def T.datL : List T → List D
  | [] => []
  | t :: ts => t.dat :: T.datL ts
end
mutual
def T.fz : T → Bool
  | .p _ => true
  | .ol _ => true
  | .od _ => true
  | .lk _ _ _ _ => false
  | .tup ts => T.fzL ts
  | .oll ts => T.fzL ts
  | .ins _ _ _ => false
  | .exc _ => false
  | .exv _ _ _ => false
  | .ot _ => false
def T.fzL : List T → Bool
  | [] => true
  | t :: ts => t.fz && T.fzL ts
end
mutual
theorem Rp.freeze (e : Evl.Ex N N') : ∀ {l : Lab} {v : V} {t : T}, Rp K N H w l v t → t.fz = true → (∀ a m o, w a = some (l.1, m) → H a = some o → N' a = some o) → Rd K N' v t.dat
  | _, _, _, .p r, _, _ => r.mono e
  | l, _, _, .ol h1 h2 r, _, m => .lst (Evl.sq_of (m _ _ _ h1 h2)) (r.mono e)
  | l, _, _, .od h1 h2 k r, _, m => .dct (.inl (m _ _ _ h1 h2)) k (r.mono e)
  | _, _, _, .lk _ _ _ _, h, _ => nomatch h
  | l, _, _, .tup h r, f, m => .tup (Evl.ex_t e h) (RpL.freeze e r f m)
  | l, _, _, .oll h1 h2 r, f, m => .lst (Evl.sq_of (m _ _ _ h1 h2)) (RpL.freeze e r f m)
  | _, _, _, .ins _ _ _ _, h, _ => nomatch h
  | _, _, _, .exc _, h, _ => nomatch h
  | _, _, _, .exv _ _ _, h, _ => nomatch h
  | _, _, _, .ot _ _ _ _ _, h, _ => nomatch h
theorem RpL.freeze (e : Evl.Ex N N') : ∀ {l : Lab} {k : Nat} {vs : List V} {ts : List T}, RpL K N H w l k vs ts → T.fzL ts = true → (∀ a m o, w a = some (l.1, m) → H a = some o → N' a = some o) → RdL K N' vs (T.datL ts)
  | _, _, _, _, .nil, _, _ => .nil
  | l, k, _, _, .cons h r, f, m => .cons (Rp.freeze e h (Bool.and_eq_true_iff.mp f).1 m) (RpL.freeze e r (Bool.and_eq_true_iff.mp f).2 m)
end
theorem RpL.get : ∀ {l : Lab} {k : Nat} {vs : List V} {ts : List T} {i : Nat} {t : T}, RpL K N H w l k vs ts → ts[i]? = some t → ∃ v, vs[i]? = some v ∧ Rp K N H w (l.1, (k + i) :: l.2) v t
  | _, _, _, _, _, _, .nil, e => by simp at e
  | l, k, _, _, 0, t, .cons h _, e => by
    simp at e; subst e
    exact ⟨_, rfl, h⟩
  | l, k, _, _, i + 1, t, .cons _ r, e => by
    obtain ⟨v, h1, h2⟩ := RpL.get (i := i) (t := t) r (by simpa using e)
    refine ⟨v, by simpa using h1, ?_⟩
    rw [show k + (i + 1) = k + 1 + i by omega]
    exact h2
theorem RpL.length : ∀ {l : Lab} {k : Nat} {vs : List V} {ts : List T}, RpL K N H w l k vs ts → vs.length = ts.length
  | _, _, _, _, .nil => rfl
  | _, _, _, _, .cons _ r => by rw [List.length_cons, List.length_cons, RpL.length r]
/-- what stands at a path -/
def T.kid : T → Nat → Option T
  | .tup ts, k => ts[k]?
  | .oll ts, k => ts[k]?
  | _, _ => none
def T.at : List Nat → T → Option T
  | [], t => some t
  | k :: q, t => match t.kid k with
    | some u => T.at q u
    | none => none
theorem T.at_kid {t u : T} {k : Nat} {q : List Nat} (h : t.kid k = some u) : T.at (k :: q) t = T.at q u := by
  show (match t.kid k with | some u => T.at q u | none => none) = _
  rw [h]
inductive AtP (K : PySem.W.Frag) (N H : Hp) (w : Own) : Lab → V → T → List Nat → V → Prop
  | nil {l : Lab} {v : V} {t : T} : Rp K N H w l v t → AtP K N H w l v t [] v
  | tup {l : Lab} {a : Addr} {xs : List V} {ts : List T} {k : Nat} {u : V} {t : T} {p : List Nat} {v : V} : SqT K N a xs → RpL K N H w l 0 xs ts → xs[k]? = some u → ts[k]? = some t → AtP K N H w (l.1, k :: l.2) u t p v → AtP K N H w l (.ref a) (.tup ts) (k :: p) v
  | oll {l : Lab} {a : Addr} {xs : List V} {ts : List T} {k : Nat} {u : V} {t : T} {p : List Nat} {v : V} : w a = some l → H a = some (.lst xs) → RpL K N H w l 0 xs ts → xs[k]? = some u → ts[k]? = some t → AtP K N H w (l.1, k :: l.2) u t p v → AtP K N H w l (.ref a) (.oll ts) (k :: p) v
theorem AtP.move (e : Evl.Ex N N') {l : Lab} {u : V} {t : T} {p : List Nat} {v : V} (h : AtP K N H w l u t p v) : ∀ {l' : Lab}, Mv H H' w w' l l' → AtP K N' H' w' l' u t p v := by
  induction h with
  | nil r => intro l' m; exact .nil (r.move e m)
  | tup q r h1 h2 _ ih => intro l' m; exact .tup (Evl.ex_t e q) (RpL.move e r m) h1 h2 (ih (m.kid _))
  | oll h1 h2 r h3 h4 _ ih =>
    intro l' m
    obtain ⟨f1, f2⟩ := m _ [] _ h1 h2
    exact .oll f1 f2 (RpL.move e r m) h3 h4 (ih (m.kid _))
theorem AtP.rp {l : Lab} {u : V} {t : T} {p : List Nat} {v : V} (h : AtP K N H w l u t p v) : ∃ t' m, T.at p t = some t' ∧ Rp K N H w (l.1, m) v t' := by
  induction h with
  | nil r => exact ⟨_, _, rfl, r⟩
  | tup q _ h1 h2 _ ih =>
    obtain ⟨t', m, e1, e2⟩ := ih
    exact ⟨t', m, (T.at_kid (t := .tup _) h2).trans e1, e2⟩
  | oll _ _ _ h1 h2 _ ih =>
    obtain ⟨t', m, e1, e2⟩ := ih
    exact ⟨t', m, (T.at_kid (t := .oll _) h2).trans e1, e2⟩
/-- a path is gone on -/
theorem AtP.ext {l : Lab} {u : V} {t : T} {p : List Nat} {v : V} (h : AtP K N H w l u t p v) : ∃ t' l', T.at p t = some t' ∧ Rp K N H w l' v t' ∧ l'.1 = l.1 ∧ ∀ p' v', AtP K N H w l' v t' p' v' → AtP K N H w l u t (p ++ p') v' := by
  induction h with
  | nil r => exact ⟨_, _, rfl, r, rfl, fun p' v' h => h⟩
  | tup q r h1 h2 _ ih =>
    obtain ⟨t', l', e1, e2, e3, e4⟩ := ih
    exact ⟨t', l', (T.at_kid (t := .tup _) h2).trans e1, e2, e3, fun p' v' h => .tup q r h1 h2 (e4 p' v' h)⟩
  | oll g1 g2 r h1 h2 _ ih =>
    obtain ⟨t', l', e1, e2, e3, e4⟩ := ih
    exact ⟨t', l', (T.at_kid (t := .oll _) h2).trans e1, e2, e3, fun p' v' h => .oll g1 g2 r h1 h2 (e4 p' v' h)⟩
/-- the thing at a path is another one -/
def T.put : List Nat → T → T → T
  | [], x, _ => x
  | k :: q, x, t => match t with
    | .tup ts => (match ts[k]? with
      | some u => .tup (ts.set k (T.put q x u))
      | none => .tup ts)
    | .oll ts => (match ts[k]? with
      | some u => .oll (ts.set k (T.put q x u))
      | none => .oll ts)
    | t => t
theorem RpL.moveB (e : Evl.Ex N N') {l : Lab} : ∀ {k : Nat} {vs : List V} {ts : List T}, RpL K N H w l k vs ts → (∀ j, k ≤ j → Mv H H' w w' (l.1, j :: l.2) (l.1, j :: l.2)) → RpL K N' H' w' l k vs ts
  | _, _, _, .nil, _ => .nil
  | k, _, _, .cons r rs, m => .cons (r.move e (m k (Nat.le_refl _))) (RpL.moveB e rs fun j hj => m j (Nat.le_of_succ_le hj))
theorem RpL.put (e : Evl.Ex N N') {l : Lab} {t' : T} {v : V} {i : Nat} : ∀ {k : Nat} {vs : List V} {ts : List T}, RpL K N H w l k vs ts → (∀ j, j ≠ k + i → Mv H H' w w' (l.1, j :: l.2) (l.1, j :: l.2)) → vs[i]? = some v → Rp K N' H' w' (l.1, (k + i) :: l.2) v t' → RpL K N' H' w' l k vs (ts.set i t')
  | _, _, _, .nil, _, h, _ => by simp at h
  | k, _, _, .cons (t := t) r rs, m, h, r' => by
    cases i with
    | zero =>
      simp at h; subst h
      refine .cons r' ?_
      exact RpL.moveB e rs fun j hj => m j (by omega)
    | succ i =>
      refine .cons (r.move e (m k (by omega))) ?_
      exact RpL.put e rs (fun j hj => m j (by omega)) (by simpa using h) (by rw [show k + 1 + i = k + (i + 1) by omega]; exact r')
theorem suffix_inj {m m' s : List Nat} {j k : Nat} (h : m ++ j :: s = m' ++ k :: s) : j = k := by
  have h1 := (List.append_inj' h rfl).2
  exact (List.cons.inj h1).1
/-- the list at a path is changed -/
theorem AtP.putL {l : Lab} {u : V} {t : T} {p : List Nat} {v : V} {ds : List D} (h : AtP K N H w l u t p v) : T.at p t = some (.ol ds) →
    ∃ a m xs, v = .ref a ∧ w a = some (l.1, m ++ l.2) ∧ H a = some (.lst xs) ∧ RdL K N xs ds ∧ ∀ xs' ds' N', Evl.Ex N N' → RdL K N' xs' ds' → Rp K N' (upd H a (.lst xs')) w l u (T.put p (.ol ds') t) := by
  induction h with
  | nil r =>
    intro e
    cases e
    cases r with
    | ol h1 h2 r => exact ⟨_, [], _, rfl, h1, h2, r, fun xs' ds' N' e r' => .ol h1 upd_same r'⟩
  | @tup l a xs ts k u t p v q r h1 h2 _ ih =>
    intro e
    rw [T.at_kid (t := .tup _) h2] at e
    obtain ⟨b, m, ys, rfl, hb, hH, rd, f⟩ := ih e
    refine ⟨b, m ++ [k], ys, rfl, by rw [hb]; simp, hH, rd, fun xs' ds' N' e r' => ?_⟩
    show Rp _ _ _ _ _ _ (match ts[k]? with | some u => T.tup (ts.set k (T.put p _ u)) | none => .tup ts)
    rw [h2]
    refine .tup (Evl.ex_t e q) (RpL.put (H' := upd H b (.lst xs')) (w' := w) e r (fun j hj a' m2 o e1 e2 => ⟨e1, ?_⟩) h1 (by rw [Nat.zero_add]; exact f xs' ds' N' e r'))
    rw [upd_ne fun z => ?_]
    · exact e2
    · rw [z, hb] at e1
      have := suffix_inj (congrArg Prod.snd (Option.some.inj e1))
      exact hj (by rw [Nat.zero_add]; exact this.symm)
  | @oll l a xs ts k u t p v g1 g2 r h1 h2 _ ih =>
    intro e
    rw [T.at_kid (t := .oll _) h2] at e
    obtain ⟨b, m, ys, rfl, hb, hH, rd, f⟩ := ih e
    refine ⟨b, m ++ [k], ys, rfl, by rw [hb]; simp, hH, rd, fun xs' ds' N' e r' => ?_⟩
    show Rp _ _ _ _ _ _ (match ts[k]? with | some u => T.oll (ts.set k (T.put p _ u)) | none => .oll ts)
    rw [h2]
    have hab : a ≠ b := fun z => by
      subst z
      rw [g1] at hb
      have := congrArg List.length (congrArg Prod.snd (Option.some.inj hb))
      simp at this
      omega
    refine .oll g1 (by rw [upd_ne hab]; exact g2) (RpL.put (H' := upd H b (.lst xs')) (w' := w) e r (fun j hj a' m2 o e1 e2 => ⟨e1, ?_⟩) h1 (by rw [Nat.zero_add]; exact f xs' ds' N' e r'))
    rw [upd_ne fun z => ?_]
    · exact e2
    · rw [z, hb] at e1
      have := suffix_inj (congrArg Prod.snd (Option.some.inj e1))
      exact hj (by rw [Nat.zero_add]; exact this.symm)
end
end PL

set_option Elab.async false
set_option linter.all false
set_option maxRecDepth 100000
set_option maxHeartbeats 4000000
set_option autoImplicit false
/-! the abstraction: pure slots S and temporaries τ over the frame's values σ and the heap H -/
namespace PL
open PySem L2

/-- what is fixed through a def's run: the heap at its entry, the addresses that are its own there, those of others, its arguments, which parameters are never stored to -/
structure PCx where
  H0 : Hp
  A0 : Addr → Prop
  F0 : Addr → Prop
  vs0 : List V
  prot : List Bool
  mu : List Bool := []

abbrev Tmp := List (V × R)
def refI : R → Option Nat
  | .v _ => none
  | .r i => some i
  | .f i => some i
  | .g i _ _ => some i
/-- the slot whose thing itself is meant -/
def ref0 : R → Option Nat
  | .v _ => none
  | .r i => some i
  | .f i => some i
  | .g _ _ _ => none
theorem ref0_I {x : R} {i : Nat} (h : ref0 x = some i) : refI x = some i := by
  cases x with
  | v t => cases h
  | r k => exact h
  | f k => exact h
  | g k a b => cases h
/-- what is meant by a path -/
def TgOk (K : PySem.W.Frag) (C : PCx) (w : Own) (σ : St) (τ : Tmp) (S : Sl) (H : Hp) : Prop := ∀ (j : Nat) (v : V) (i k : Nat) (q : List Nat), τ[j]? = some (v, R.g i k q) →
  C.mu[i]? = some true ∧ ∀ t, S[i]? = some (some t) → (T.at (k :: q) t).isSome = true → ∃ u, σ[i]? = some (some u) ∧ AtP K (msk H w) H w (.s i, []) u t (k :: q) v

structure Own0 (C : PCx) (w : Own) (H : Hp) : Prop where
  fr : ∀ b o, ¬ C.A0 b → C.H0 b = some o → H b = some o
  in0 : ∀ b l, w b = some l → l.1 = .x ∨ C.A0 b ∨ C.H0 b = none
  fo : ∀ b, C.F0 b → ∃ m, w b = some (.x, m)
  fx : ∀ b m, w b = some (.x, m) → C.F0 b
  dom : ∀ b l, w b = some l → ∃ o, H b = some o ∧ ntup o = true
  rl : ∀ b m, w b ≠ some (.r, m)

structure Abs0 (K : PySem.W.Frag) (C : PCx) (w : Own) (σ : St) (τ : Tmp) (S : Sl) (H : Hp) : Prop where
  ow : Own0 C w H
  len : S.length = σ.length
  sl : ∀ (i : Nat) (t : T), S[i]? = some (some t) → ∃ v, σ[i]? = some (some v) ∧ Rp K (msk H w) H w (.s i, []) v t
  tm : ∀ (j : Nat) (v : V) (t : T), τ[j]? = some (v, R.v t) → Rp K (msk H w) H w (.t j, []) v t
  tr : ∀ (j : Nat) (v : V) (x : R) (i : Nat), τ[j]? = some (v, x) → ref0 x = some i → σ[i]? = some (some v) ∧ C.mu[i]? = some true
  tl : ∀ b j m, w b = some (.t j, m) → j < τ.length
  sz : ∀ (b : Addr) (i : Nat) (m : List Nat), w b = some (.s i, m) → ∃ t, S[i]? = some (some t)
  pr : ∀ (i : Nat), C.prot[i]? = some true → σ[i]? = C.vs0[i]?.map some
  tg : TgOk K C w σ τ S H

def Abs (K : PySem.W.Frag) (C : PCx) (σ : St) (τ : Tmp) (S : Sl) (H : Hp) : Prop := ∃ w, Abs0 K C w σ τ S H

section
variable {K : PySem.W.Frag} {C : PCx} {w : Own} {σ : St} {τ : Tmp} {S : Sl} {H H' : Hp}

theorem get_snoc {α : Type} {l : List α} {x y : α} {j : Nat} (h : (l ++ [x])[j]? = some y) : (j < l.length ∧ l[j]? = some y) ∨ (j = l.length ∧ x = y) := by
  by_cases hj : j < l.length
  · exact .inl ⟨hj, by rwa [List.getElem?_append_left hj] at h⟩
  · rw [List.getElem?_append_right (by omega)] at h
    by_cases e : j - l.length = 0
    · rw [e] at h
      exact .inr ⟨by omega, by simpa using h⟩
    · rw [List.getElem?_eq_none (by simp; omega)] at h
      cases h
theorem get_snoc_last {α : Type} {l : List α} {x : α} : (l ++ [x])[l.length]? = some x := by simp
theorem get_left {α : Type} {l r : List α} {j : Nat} {y : α} (h : l[j]? = some y) : (l ++ r)[j]? = some y := by
  rw [List.getElem?_append_left (List.getElem?_eq_some_iff.mp h).1]; exact h

theorem TgOk.trans {σ' : St} {τ' : Tmp} {S' : Sl} {w' : Own} (h : TgOk K C w σ τ S H) (hτ : ∀ (j : Nat) (v : V) (i k : Nat) (q : List Nat), τ'[j]? = some (v, R.g i k q) → ∃ j' : Nat, τ[j']? = some (v, R.g i k q))
    (hS : ∀ (j : Nat) (v : V) (i k : Nat) (q : List Nat), τ'[j]? = some (v, R.g i k q) → ∀ t, S'[i]? = some (some t) → (T.at (k :: q) t).isSome = true → S[i]? = some (some t) ∧ σ'[i]? = σ[i]? ∧ Mv H H' w w' (.s i, []) (.s i, []))
    (e : Evl.Ex (msk H w) (msk H' w')) : TgOk K C w' σ' τ' S' H' := fun j v i k q ht => by
  obtain ⟨j', hj⟩ := hτ j v i k q ht
  obtain ⟨h1, h2⟩ := h j' v i k q hj
  refine ⟨h1, fun t h3 h4 => ?_⟩
  obtain ⟨h5, h6, h7⟩ := hS j v i k q ht t h3 h4
  obtain ⟨u, h8, h9⟩ := h2 t h5 h4
  exact ⟨u, h6.trans h8, h9.move e h7⟩
theorem Own0.free (A : Own0 C w H) {p : Addr} (hp : H p = none) : w p = none := by
  cases e : w p with
  | none => rfl
  | some l =>
    obtain ⟨o, ho, _⟩ := A.dom _ _ e
    rw [hp] at ho; cases ho
theorem Own0.ent (A : Own0 C w H) {p : Addr} (hp : H p = none) : C.A0 p ∨ C.H0 p = none := by
  by_cases h : C.A0 p
  · exact .inl h
  · right
    cases e : C.H0 p with
    | none => rfl
    | some o => rw [A.fr p o h e] at hp; cases hp

/-- the labels stay, the heap grows -/
theorem mv_same {H H' : Hp} {w w' : Own} {l : Lab} (hw : ∀ b m, w b = some (l.1, m ++ l.2) → w' b = w b) (hH : ∀ b m o, w b = some (l.1, m ++ l.2) → H b = some o → H' b = some o) : Mv H H' w w' l l :=
  fun a m o e1 e2 => ⟨(hw a m e1).trans e1, hH a m o e1 e2⟩

/-- one temporary more, nothing owned by it -/
theorem Abs0.pushG (A : Abs0 K C w σ τ S H) {v : V} {x : R} (h : ∀ t, x = .v t → Rp K (msk H w) H w (.t τ.length, []) v t) (h2 : ∀ i, ref0 x = some i → σ[i]? = some (some v) ∧ C.mu[i]? = some true) (h3 : TgOk K C w σ [(v, x)] S H) : Abs0 K C w σ (τ ++ [(v, x)]) S H where
  ow := A.ow
  len := A.len
  sl := A.sl
  tm := fun j u t e => by
    have z := get_snoc e; clear e; rcases z with ⟨_, e⟩ | ⟨rfl, e⟩
    · exact A.tm j u t e
    · cases e; exact h _ rfl
  tr := fun j u y i e q => by
    have z := get_snoc e; clear e; rcases z with ⟨_, e⟩ | ⟨rfl, e⟩
    · exact A.tr j u y i e q
    · cases e; exact h2 i q
  tl := fun b j m e => by rw [List.length_append]; exact Nat.lt_of_lt_of_le (A.tl b j m e) (Nat.le_add_right _ _)
  sz := A.sz
  pr := A.pr
  tg := fun j u i k q e => by
    have z := get_snoc e; clear e; rcases z with ⟨_, e⟩ | ⟨rfl, e⟩
    · exact A.tg j u i k q e
    · cases e; exact h3 0 _ _ _ _ rfl
theorem tg_v {v : V} {x : R} (h : ∀ i k q, x ≠ .g i k q) : TgOk K C w σ [(v, x)] S H := fun j u i k q e => by
  cases j with
  | zero =>
    simp at e
    exact absurd e.2 (h i k q)
  | succ j => simp at e
theorem Abs0.push (A : Abs0 K C w σ τ S H) {v : V} {d : D} (h : Rd K (msk H w) v d) : Abs0 K C w σ (τ ++ [(v, .v (.p d))]) S H :=
  A.pushG (fun t e => by cases e; exact .p h) (fun i e => by cases e) (tg_v fun i k q e => by cases e)
theorem Abs.push (A : Abs K C σ τ S H) {v : V} {d : D} (h : ∀ w, Abs0 K C w σ τ S H → Rd K (msk H w) v d) : Abs K C σ (τ ++ [(v, .v (.p d))]) S H :=
  let ⟨w, A⟩ := A; ⟨w, A.push (h w A)⟩
/-- a slot's thing by reference -/
theorem Abs.pushR (A : Abs K C σ τ S H) {v : V} {i : Nat} {x : R} (hx : ref0 x = some i) (h : σ[i]? = some (some v)) (hm : C.mu[i]? = some true) : Abs K C σ (τ ++ [(v, x)]) S H :=
  let ⟨w, A⟩ := A; ⟨w, A.pushG (fun t e => by subst e; cases hx) (fun i' e => by rw [hx] at e; cases e; exact ⟨h, hm⟩) (tg_v fun i k q e => by subst e; cases hx)⟩

/-! ### relabelling: what is frozen stays frozen; g tells where a label goes (or that it is let go) -/
theorem msk_re {w : Own} {g : Lab → Option Lab} (e : ∀ b o, H b = some o → H' b = some o) : Evl.Ex (msk H w) (msk H' fun b => (w b).bind g) :=
  msk_mono fun b o h1 h2 => ⟨by show (w b).bind g = Option.none; rw [h1]; rfl, e b o h2⟩
theorem mv_re {w : Own} {g : Lab → Option Lab} {l l' : Lab} (hg : ∀ m, g (l.1, m ++ l.2) = some (l'.1, m ++ l'.2)) (e : ∀ b o, H b = some o → H' b = some o) : Mv H H' w (fun b => (w b).bind g) l l' :=
  fun a m o h1 h2 => ⟨by show (w a).bind g = _; rw [h1]; exact hg m, e a o h2⟩
structure GOk (g : Lab → Option Lab) : Prop where
  x : ∀ m, g (.x, m) = some (.x, m)
  nx : ∀ l m, g l = some (.x, m) → l.1 = .x
  nr : ∀ l m, g l = some (.r, m) → l.1 = .r
theorem Own0.re {g : Lab → Option Lab} (A : Own0 C w H) (G : GOk g) : Own0 C (fun b => (w b).bind g) H where
  fr := A.fr
  in0 := fun b l h => by
    obtain ⟨l', h1, h2⟩ := Option.bind_eq_some_iff.mp h
    rcases A.in0 b l' h1 with z | z
    · left
      obtain ⟨r, m⟩ := l'
      cases z
      rw [G.x m] at h2
      cases h2; rfl
    · exact .inr z
  fo := fun b hb => by
    obtain ⟨m, e⟩ := A.fo b hb
    exact ⟨m, by show (w b).bind g = _; rw [e]; exact G.x m⟩
  fx := fun b m h => by
    obtain ⟨l', h1, h2⟩ := Option.bind_eq_some_iff.mp h
    have := G.nx l' m h2
    obtain ⟨r, m'⟩ := l'
    cases this
    exact A.fx b m' h1
  dom := fun b l h => by
    obtain ⟨l', h1, _⟩ := Option.bind_eq_some_iff.mp h
    exact A.dom b l' h1
  rl := fun b m h => by
    obtain ⟨l', h1, h2⟩ := Option.bind_eq_some_iff.mp h
    have := G.nr l' m h2
    obtain ⟨r, m'⟩ := l'
    cases this
    exact A.rl b m' h1

/-- the middle temporaries are dropped, the last one stays -/
def gSel (n k : Nat) : Lab → Option Lab
  | (.t j, m) => if j < n then some (.t j, m) else if j = n + k then some (.t n, m) else none
  | l => some l
theorem gSel_ok {n k : Nat} : GOk (gSel n k) where
  x := fun m => rfl
  nx := fun l m h => by
    obtain ⟨r, m'⟩ := l
    cases r <;> first | rfl | (exfalso; unfold gSel at h; dsimp only at h; (repeat' split at h) <;> cases h)
  nr := fun l m h => by
    obtain ⟨r, m'⟩ := l
    cases r <;> first | rfl | (exfalso; unfold gSel at h; dsimp only at h; (repeat' split at h) <;> cases h)
theorem Abs.sel {τm : Tmp} {v : V} {x : R} (A : Abs K C σ (τ ++ τm ++ [(v, x)]) S H) : Abs K C σ (τ ++ [(v, x)]) S H := by
  obtain ⟨w, A⟩ := A
  have e : ∀ b o, H b = some o → H b = some o := fun _ _ h => h
  refine ⟨fun b => (w b).bind (gSel τ.length τm.length), A.ow.re gSel_ok, A.len, fun i t h => ?_, fun j u t h => ?_, fun j u y i h q => ?_, fun b j m h => ?_, fun b i m h => ?_, A.pr, TgOk.trans A.tg (fun j u i k q h => ?_) (fun j u i k q _ t h _ => ⟨h, rfl, mv_re (fun m => rfl) e⟩) (msk_re e)⟩
  · obtain ⟨u, h1, h2⟩ := A.sl i t h
    exact ⟨u, h1, h2.move (msk_re e) (mv_re (fun m => rfl) e)⟩
  · have z := get_snoc h; clear h; rcases z with ⟨hj, h⟩ | ⟨rfl, h⟩
    · have := A.tm j u t (by rw [List.append_assoc]; exact get_left h)
      exact this.move (msk_re e) (mv_re (fun m => by simp [gSel, hj]) e)
    · cases h
      have := A.tm (τ ++ τm).length v t get_snoc_last
      refine this.move (msk_re e) (mv_re (fun m => ?_) e)
      have h1 : ¬ τ.length + τm.length < τ.length := by omega
      simp [gSel, h1, List.length_append]
  · have z := get_snoc h; clear h; rcases z with ⟨hj, h⟩ | ⟨rfl, h⟩
    · exact A.tr j u y i (by rw [List.append_assoc]; exact get_left h) q
    · cases h
      exact A.tr (τ ++ τm).length v _ i get_snoc_last q
  · obtain ⟨l', h1, h2⟩ := Option.bind_eq_some_iff.mp h
    rw [List.length_append]
    match l', h2 with
    | (.t j', m'), h2 =>
      unfold gSel at h2
      dsimp only at h2
      split at h2
      · cases h2; omega
      · split at h2
        · cases h2; simp
        · cases h2
  · obtain ⟨l', h1, h2⟩ := Option.bind_eq_some_iff.mp h
    match l', h2 with
    | (.s i', m'), h2 => cases h2; exact A.sz b _ _ h1
    | (.t j', m'), h2 =>
      unfold gSel at h2
      dsimp only at h2
      split at h2
      · cases h2
      · split at h2 <;> cases h2
  · have z := get_snoc h; clear h; rcases z with ⟨hj, h⟩ | ⟨rfl, h⟩
    · exact ⟨j, by rw [List.append_assoc]; exact get_left h⟩
    · cases h; exact ⟨_, get_snoc_last⟩
/-- the last temporaries are dropped -/
def gPop (n : Nat) : Lab → Option Lab
  | (.t j, m) => if j < n then some (.t j, m) else none
  | l => some l
theorem gPop_ok {n : Nat} : GOk (gPop n) where
  x := fun m => rfl
  nx := fun l m h => by
    obtain ⟨r, m'⟩ := l
    cases r <;> first | rfl | (exfalso; unfold gPop at h; dsimp only at h; (repeat' split at h) <;> cases h)
  nr := fun l m h => by
    obtain ⟨r, m'⟩ := l
    cases r <;> first | rfl | (exfalso; unfold gPop at h; dsimp only at h; (repeat' split at h) <;> cases h)
theorem Abs0.popW {τm : Tmp} (A : Abs0 K C w σ (τ ++ τm) S H) : Abs0 K C (fun b => (w b).bind (gPop τ.length)) σ τ S H := by
  have e : ∀ b o, H b = some o → H b = some o := fun _ _ h => h
  refine ⟨A.ow.re gPop_ok, A.len, fun i t h => ?_, fun j u t h => ?_, fun j u y i h q => ?_, fun b j m h => ?_, fun b i m h => ?_, A.pr, TgOk.trans A.tg (fun j u i k q h => ⟨j, get_left h⟩) (fun j u i k q _ t h _ => ⟨h, rfl, mv_re (fun m => rfl) e⟩) (msk_re e)⟩
  · obtain ⟨u, h1, h2⟩ := A.sl i t h
    exact ⟨u, h1, h2.move (msk_re e) (mv_re (fun m => rfl) e)⟩
  · have hj : j < τ.length := (List.getElem?_eq_some_iff.mp h).1
    exact (A.tm j u t (get_left h)).move (msk_re e) (mv_re (fun m => by simp [gPop, hj]) e)
  · exact A.tr j u y i (get_left h) q
  · obtain ⟨l', h1, h2⟩ := Option.bind_eq_some_iff.mp h
    match l', h2 with
    | (.t j', m'), h2 =>
      unfold gPop at h2
      dsimp only at h2
      split at h2
      · cases h2; omega
      · cases h2
  · obtain ⟨l', h1, h2⟩ := Option.bind_eq_some_iff.mp h
    match l', h2 with
    | (.s i', m'), h2 => cases h2; exact A.sz b _ _ h1
    | (.t j', m'), h2 =>
      unfold gPop at h2
      dsimp only at h2
      split at h2 <;> cases h2

theorem Abs.pop {τm : Tmp} (A : Abs K C σ (τ ++ τm) S H) : Abs K C σ τ S H := let ⟨_, A⟩ := A; ⟨_, A.popW⟩

/-- what a temporary (or the slot that it refers to) holds -/
def look (S : Sl) : R → Option T
  | .v t => some t
  | .r i => (S[i]?).join
  | .f i => (S[i]?).join
  | .g i k q => (S[i]?).join.bind (T.at (k :: q))
theorem join_some {i : Nat} {t : T} (h : (S[i]?).join = some t) : S[i]? = some (some t) := by
  cases q : S[i]? with
  | none => rw [q] at h; cases h
  | some u => rw [q] at h; simp at h; rw [h]
theorem Abs0.look (A : Abs0 K C w σ τ S H) {j : Nat} {v : V} {x : R} {t : T} (e : τ[j]? = some (v, x)) (h : PL.look S x = some t) : ∃ l, Rp K (msk H w) H w l v t := by
  cases x with
  | v t' => cases h; exact ⟨_, A.tm j v t e⟩
  | r i =>
    obtain ⟨u, h1, h2⟩ := A.sl i t (join_some h)
    rw [(A.tr j v _ i e rfl).1] at h1
    cases h1
    exact ⟨_, h2⟩
  | f i =>
    obtain ⟨u, h1, h2⟩ := A.sl i t (join_some h)
    rw [(A.tr j v _ i e rfl).1] at h1
    cases h1
    exact ⟨_, h2⟩
  | g i k q =>
    obtain ⟨u, h1, h2⟩ := Option.bind_eq_some_iff.mp (show (S[i]?).join.bind (T.at (k :: q)) = some t from h)
    obtain ⟨_, h3, h4⟩ := (A.tg j v i k q e).2 u (join_some h1) (by rw [h2]; rfl)
    obtain ⟨t', m, h5, h6⟩ := h4.rp
    rw [h2] at h5
    cases h5
    exact ⟨_, h6⟩

/-- the heap grows -/
theorem Abs0.grow (A : Abs0 K C w σ τ S H) (ex : Evl.Ex H H') : Abs0 K C w σ τ S H' := by
  have me : Evl.Ex (msk H w) (msk H' w) := msk_mono fun b u h1 h2 => ⟨h1, ex b u h2⟩
  refine ⟨⟨fun b u h1 h2 => ex _ _ (A.ow.fr b u h1 h2), A.ow.in0, A.ow.fo, A.ow.fx, fun b l q => ?_, A.ow.rl⟩, A.len, fun i t q => ?_, fun j u t q => ?_, A.tr, A.tl, A.sz, A.pr, TgOk.trans A.tg (fun j u i k q h => ⟨j, h⟩) (fun j u i k q _ t h _ => ⟨h, rfl, mv_same (fun _ _ _ => rfl) fun b m o _ e => ex b o e⟩) me⟩
  · obtain ⟨u, hu, hn⟩ := A.ow.dom b l q
    exact ⟨u, ex _ _ hu, hn⟩
  · obtain ⟨u, h1, h2⟩ := A.sl i t q
    exact ⟨u, h1, h2.move me (mv_same (fun _ _ _ => rfl) fun b m o _ e => ex b o e)⟩
  · exact (A.tm j u t q).move me (mv_same (fun _ _ _ => rfl) fun b m o _ e => ex b o e)
/-- a new thing at p: a frozen one -/
theorem Abs.alloc (A : Abs K C σ τ S H) {p : Addr} (hp : H p = none) (o : HO) {d : D} (h : ∀ w, Abs0 K C w σ τ S H → w p = none → Evl.Ex (msk H w) (msk (upd H p o) w) → Rd K (msk (upd H p o) w) (.ref p) d) : Abs K C σ (τ ++ [(.ref p, .v (.p d))]) S (upd H p o) := by
  obtain ⟨w, A⟩ := A
  have ex : Evl.Ex H (upd H p o) := Evl.Ex.new hp
  exact ⟨w, (A.grow ex).push (h w A (A.ow.free hp) (msk_mono fun b u h1 h2 => ⟨h1, ex b u h2⟩))⟩
/-- .. owned: the label is the new temporary's -/
theorem Abs0.allocO (A : Abs0 K C w σ τ S H) {p : Addr} (hp : H p = none) (o : HO) (ho : ntup o = true) {t : T} (h : ∀ w', Evl.Ex (msk H w) (msk (upd H p o) w') → w' p = some (.t τ.length, []) → Rp K (msk (upd H p o) w') (upd H p o) w' (.t τ.length, []) (.ref p) t) :
    Abs K C σ (τ ++ [(.ref p, .v t)]) S (upd H p o) := by
  have ex : Evl.Ex H (upd H p o) := Evl.Ex.new hp
  let w' : Own := fun b => if b = p then some (.t τ.length, []) else w b
  have w1 : w' p = some (.t τ.length, []) := if_pos rfl
  have w2 : ∀ b, b ≠ p → w' b = w b := fun b hb => if_neg hb
  have hne : ∀ {b : Addr} {u : HO}, H b = some u → b ≠ p := fun {b u} e z => by rw [z, hp] at e; cases e
  have me : Evl.Ex (msk H w) (msk (upd H p o) w') := msk_mono fun b u h1 h2 => ⟨(w2 b (hne h2)).trans h1, ex b u h2⟩
  have mv : ∀ l : Lab, Mv H (upd H p o) w w' l l := fun l a m u e1 e2 => ⟨(w2 a (hne e2)).trans e1, ex a u e2⟩
  refine ⟨w', ⟨fun b u h1 h2 => ex _ _ (A.ow.fr b u h1 h2), fun b l q => ?_, fun b hb => ?_, fun b m q => ?_, fun b l q => ?_, fun b m q => ?_⟩, A.len, fun i t q => ?_, fun j u t q => ?_, fun j u y i q z => ?_, fun b j m q => ?_, fun b i m q => ?_, A.pr, TgOk.trans A.tg (fun j u i k q h => ?_) (fun j u i k q _ t h _ => ⟨h, rfl, mv _⟩) me⟩
  · by_cases hb : b = p
    · subst hb; exact .inr (A.ow.ent hp)
    · rw [w2 b hb] at q; exact A.ow.in0 b l q
  · obtain ⟨m, e⟩ := A.ow.fo b hb
    refine ⟨m, (w2 b fun z => ?_).trans e⟩
    subst z
    obtain ⟨u, hu, _⟩ := A.ow.dom _ _ e
    rw [hp] at hu; cases hu
  · by_cases hb : b = p
    · subst hb; rw [w1] at q; cases q
    · rw [w2 b hb] at q; exact A.ow.fx b m q
  · by_cases hb : b = p
    · subst hb; exact ⟨o, upd_same, ho⟩
    · rw [w2 b hb] at q
      obtain ⟨u, hu, hn⟩ := A.ow.dom b l q
      exact ⟨u, ex _ _ hu, hn⟩
  · by_cases hb : b = p
    · subst hb; rw [w1] at q; cases q
    · rw [w2 b hb] at q; exact A.ow.rl b m q
  · obtain ⟨u, h1, h2⟩ := A.sl i t q
    exact ⟨u, h1, h2.move me (mv _)⟩
  · have z := get_snoc q; clear q; rcases z with ⟨_, q⟩ | ⟨rfl, q⟩
    · exact (A.tm j u t q).move me (mv _)
    · cases q; exact h w' me w1
  · have z' := get_snoc q; clear q; rcases z' with ⟨_, q⟩ | ⟨rfl, q⟩
    · exact A.tr j u y i q z
    · cases q; cases z
  · rw [List.length_append]
    by_cases hb : b = p
    · subst hb; rw [w1] at q; cases q; simp
    · rw [w2 b hb] at q; exact Nat.lt_of_lt_of_le (A.tl b j m q) (Nat.le_add_right _ _)
  · by_cases hb : b = p
    · subst hb; rw [w1] at q; cases q
    · rw [w2 b hb] at q; exact A.sz b i m q
  · have z := get_snoc h; clear h; rcases z with ⟨_, h⟩ | ⟨rfl, h⟩
    · exact ⟨j, h⟩
    · cases h
theorem Abs.allocO (A : Abs K C σ τ S H) {p : Addr} (hp : H p = none) (o : HO) (ho : ntup o = true) {t : T} (h : ∀ w w', Abs0 K C w σ τ S H → Evl.Ex (msk H w) (msk (upd H p o) w') → w' p = some (.t τ.length, []) → Rp K (msk (upd H p o) w') (upd H p o) w' (.t τ.length, []) (.ref p) t) :
    Abs K C σ (τ ++ [(.ref p, .v t)]) S (upd H p o) :=
  let ⟨w, A⟩ := A; A.allocO hp o ho fun w' e1 e2 => h w w' A e1 e2

/-- no temporary refers to a slot -/
def NoR (τ : Tmp) : Prop := ∀ x ∈ τ, refI x.2 = none
theorem NoR.at {τ : Tmp} (h : NoR τ) (i : Nat) : ∀ x ∈ τ, refI x.2 ≠ some i := fun x hx e => by rw [h x hx] at e; cases e
theorem Abs.noR {K : PySem.W.Frag} {C : PCx} {σ : St} {τ τ' : Tmp} {S : Sl} {H : Hp} {i : Nat} (A : Abs K C σ (τ ++ τ') S H) (h : C.mu[i]? ≠ some true) : ∀ x ∈ τ, refI x.2 ≠ some i := fun x hx e => by
  obtain ⟨w, A⟩ := A
  obtain ⟨j, hj⟩ := List.getElem?_of_mem hx
  obtain ⟨v, y⟩ := x
  cases y with
  | v t => cases e
  | r k => cases e; exact h (A.tr j v _ _ (get_left hj) rfl).2
  | f k => cases e; exact h (A.tr j v _ _ (get_left hj) rfl).2
  | g k a b => cases e; exact h (A.tg j v _ _ _ (get_left hj)).1
/-- the last temporary goes into slot i -/
def gTo (n i : Nat) : Lab → Option Lab
  | (.t j, m) => if j = n then some (.s i, m) else some (.t j, m)
  | (.s k, m) => if k = i then none else some (.s k, m)
  | l => some l
theorem gTo_ok {n k : Nat} : GOk (gTo n k) where
  x := fun m => rfl
  nx := fun l m h => by
    obtain ⟨r, m'⟩ := l
    cases r <;> first | rfl | (exfalso; unfold gTo at h; dsimp only at h; (repeat' split at h) <;> cases h)
  nr := fun l m h => by
    obtain ⟨r, m'⟩ := l
    cases r <;> first | rfl | (exfalso; unfold gTo at h; dsimp only at h; (repeat' split at h) <;> cases h)
theorem Abs.toSlot {v : V} {t : T} {i : Nat} (A : Abs K C σ (τ ++ [(v, .v t)]) S H) (hn : ∀ x ∈ τ, refI x.2 ≠ some i) (hp : C.prot[i]? ≠ some true) (hi : i < S.length) : Abs K C (σ.set i (some v)) τ (S.set i (some t)) H := by
  obtain ⟨w, A⟩ := A
  have e : ∀ b o, H b = some o → H b = some o := fun _ _ h => h
  have hiσ : i < σ.length := by rw [← A.len]; exact hi
  refine ⟨fun b => (w b).bind (gTo τ.length i), A.ow.re gTo_ok, by rw [List.length_set, List.length_set]; exact A.len, fun k u h => ?_, fun j u t' h => ?_, fun j u y k h z => ?_, fun b j m h => ?_, fun b k m h => ?_, fun k h => ?_, TgOk.trans A.tg (fun j u k a q h => ⟨j, get_left h⟩) (fun j u k a q h t ht _ => ?_) (msk_re e)⟩
  · by_cases hk : k = i
    · subst hk
      rw [List.getElem?_set_self hi] at h
      cases h
      refine ⟨v, by rw [List.getElem?_set_self hiσ], ?_⟩
      exact (A.tm τ.length v _ get_snoc_last).move (msk_re e) (mv_re (fun m => by simp [gTo]) e)
    · rw [List.getElem?_set_ne (Ne.symm hk)] at h
      obtain ⟨x, h1, h2⟩ := A.sl k u h
      exact ⟨x, by rw [List.getElem?_set_ne (Ne.symm hk)]; exact h1, h2.move (msk_re e) (mv_re (fun m => by simp [gTo, hk]) e)⟩
  · have hj : j < τ.length := (List.getElem?_eq_some_iff.mp h).1
    exact (A.tm j u t' (get_left h)).move (msk_re e) (mv_re (fun m => by simp [gTo, Nat.ne_of_lt hj]) e)
  · have := hn _ (List.mem_of_getElem? h)
    have hk : k ≠ i := fun e => this (e ▸ ref0_I z)
    refine ⟨?_, (A.tr j u y k (get_left h) z).2⟩
    rw [List.getElem?_set_ne (Ne.symm hk)]
    exact (A.tr j u y k (get_left h) z).1
  · obtain ⟨l', h1, h2⟩ := Option.bind_eq_some_iff.mp h
    match l', h2 with
    | (.t j', m'), h2 =>
      unfold gTo at h2
      dsimp only at h2
      split at h2
      · cases h2
      · cases h2
        have := A.tl b j m h1
        rw [List.length_append] at this
        simp at this
        omega
    | (.s j', m'), h2 =>
      unfold gTo at h2
      dsimp only at h2
      split at h2 <;> cases h2
  · obtain ⟨l', h1, h2⟩ := Option.bind_eq_some_iff.mp h
    match l', h2 with
    | (.t j', m'), h2 =>
      unfold gTo at h2
      dsimp only at h2
      split at h2
      · cases h2; exact ⟨t, by rw [List.getElem?_set_self hi]⟩
      · cases h2
    | (.s j', m'), h2 =>
      unfold gTo at h2
      dsimp only at h2
      split at h2
      · cases h2
      · cases h2
        rename_i hk
        rw [List.getElem?_set_ne (Ne.symm hk)]
        exact A.sz b k m h1
  · have hk : k ≠ i := fun z => by subst z; exact hp h
    rw [List.getElem?_set_ne (Ne.symm hk)]
    exact A.pr k h
  · have hk : k ≠ i := fun z => hn _ (List.mem_of_getElem? h) (by rw [z]; rfl)
    rw [List.getElem?_set_ne (Ne.symm hk)] at ht
    exact ⟨ht, by rw [List.getElem?_set_ne (Ne.symm hk)], mv_re (fun m => by simp [gTo, hk]) e⟩

/-- what bears root x is let go -/
def gFz (x : Rid) : Lab → Option Lab := fun l => if l.1 = x then none else some l
theorem gFz_ok {x : Rid} (hx : x ≠ .x) : GOk (gFz x) where
  x := fun m => by unfold gFz; rw [if_neg (Ne.symm hx)]
  nx := fun l m h => by
    unfold gFz at h
    split at h
    · cases h
    · cases h; rfl
  nr := fun l m h => by
    unfold gFz at h
    split at h
    · cases h
    · cases h; rfl
/-- slot i is frozen as it stands -/
theorem Abs.fzSlot (A : Abs K C σ τ S H) {i : Nat} {t : T} (hi : S[i]? = some (some t)) (hf : t.fz = true) : Abs K C σ τ (S.set i (some (.p t.dat))) H := by
  obtain ⟨w, A⟩ := A
  have e : ∀ b o, H b = some o → H b = some o := fun _ _ h => h
  have hl : i < S.length := (List.getElem?_eq_some_iff.mp hi).1
  refine ⟨fun b => (w b).bind (gFz (.s i)), A.ow.re (gFz_ok (by intro z; cases z)), by rw [List.length_set]; exact A.len, fun k u h => ?_, fun j u t' h => ?_, A.tr, fun b j m h => ?_, fun b k m h => ?_, A.pr, TgOk.trans A.tg (fun j u k a q h => ⟨j, h⟩) (fun j u k a q _ u ht hs => ?_) (msk_re e)⟩
  · by_cases hk : k = i
    · subst hk
      rw [List.getElem?_set_self hl] at h
      cases h
      obtain ⟨x, h1, h2⟩ := A.sl k t hi
      refine ⟨x, h1, .p (h2.freeze (msk_re e) hf fun a m o q1 q2 => ?_)⟩
      rw [msk_none (show (w a).bind (gFz (.s k)) = none by rw [q1]; simp [gFz])]
      exact q2
    · rw [List.getElem?_set_ne (Ne.symm hk)] at h
      obtain ⟨x, h1, h2⟩ := A.sl k u h
      exact ⟨x, h1, h2.move (msk_re e) (mv_re (fun m => by simp [gFz, hk]) e)⟩
  · exact (A.tm j u t' h).move (msk_re e) (mv_re (fun m => by simp [gFz]) e)
  · obtain ⟨l', h1, h2⟩ := Option.bind_eq_some_iff.mp h
    unfold gFz at h2
    split at h2
    · cases h2
    · cases h2; exact A.tl b j m h1
  · obtain ⟨l', h1, h2⟩ := Option.bind_eq_some_iff.mp h
    unfold gFz at h2
    split at h2
    · cases h2
    · cases h2
      obtain ⟨t', h3⟩ := A.sz b k m h1
      by_cases hk : k = i
      · exact ⟨_, by rw [hk, List.getElem?_set_self hl]⟩
      · exact ⟨t', by rw [List.getElem?_set_ne (Ne.symm hk)]; exact h3⟩
  · by_cases hk : k = i
    · subst hk
      rw [List.getElem?_set_self hl] at ht
      cases ht
      exact nomatch hs
    · rw [List.getElem?_set_ne (Ne.symm hk)] at ht
      exact ⟨ht, rfl, mv_re (fun m => by simp [gFz, hk]) e⟩
/-- the last temporary is frozen as it stands -/
theorem Abs.fzTmp {v : V} {t : T} (A : Abs K C σ (τ ++ [(v, .v t)]) S H) (hf : t.fz = true) : Abs K C σ (τ ++ [(v, .v (.p t.dat))]) S H := by
  obtain ⟨w, A⟩ := A
  have e : ∀ b o, H b = some o → H b = some o := fun _ _ h => h
  refine ⟨fun b => (w b).bind (gFz (.t τ.length)), A.ow.re (gFz_ok (by intro z; cases z)), A.len, fun k u h => ?_, fun j u t' h => ?_, fun j u y i h z => ?_, fun b j m h => ?_, fun b k m h => ?_, A.pr, TgOk.trans A.tg (fun j u k a q h => ?_) (fun j u k a q _ t h _ => ⟨h, rfl, mv_re (fun m => by simp [gFz]) e⟩) (msk_re e)⟩
  · obtain ⟨x, h1, h2⟩ := A.sl k u h
    exact ⟨x, h1, h2.move (msk_re e) (mv_re (fun m => by simp [gFz]) e)⟩
  · have z := get_snoc h; clear h; rcases z with ⟨hj, h⟩ | ⟨rfl, h⟩
    · exact (A.tm j u t' (get_left h)).move (msk_re e) (mv_re (fun m => by simp [gFz, Nat.ne_of_lt hj]) e)
    · cases h
      refine .p ((A.tm τ.length v t get_snoc_last).freeze (msk_re e) hf fun a m o q1 q2 => ?_)
      rw [msk_none (show (w a).bind (gFz (.t τ.length)) = none by rw [q1]; simp [gFz])]
      exact q2
  · have z' := get_snoc h; clear h; rcases z' with ⟨hj, h⟩ | ⟨rfl, h⟩
    · exact A.tr j u y i (get_left h) z
    · cases h; cases z
  · obtain ⟨l', h1, h2⟩ := Option.bind_eq_some_iff.mp h
    unfold gFz at h2
    split at h2
    · cases h2
    · cases h2
      have := A.tl b j m h1
      rw [List.length_append] at this ⊢
      exact this
  · obtain ⟨l', h1, h2⟩ := Option.bind_eq_some_iff.mp h
    unfold gFz at h2
    split at h2
    · cases h2
    · cases h2; exact A.sz b k m h1
  · have z := get_snoc h; clear h; rcases z with ⟨_, h⟩ | ⟨rfl, h⟩
    · exact ⟨j, get_left h⟩
    · cases h
/-- slot i's thing goes out, the slot is forgotten -/
def gOut (n i : Nat) : Lab → Option Lab
  | (.s k, m) => if k = i then some (.t n, m) else some (.s k, m)
  | l => some l
theorem gOut_ok {n k : Nat} : GOk (gOut n k) where
  x := fun m => rfl
  nx := fun l m h => by
    obtain ⟨r, m'⟩ := l
    cases r <;> first | rfl | (exfalso; unfold gOut at h; dsimp only at h; (repeat' split at h) <;> cases h)
  nr := fun l m h => by
    obtain ⟨r, m'⟩ := l
    cases r <;> first | rfl | (exfalso; unfold gOut at h; dsimp only at h; (repeat' split at h) <;> cases h)
theorem Abs.take (A : Abs K C σ τ S H) {i : Nat} {t : T} (hi : S[i]? = some (some t)) : ∃ v, σ[i]? = some (some v) ∧ Abs K C σ (τ ++ [(v, .v t)]) (S.set i none) H := by
  obtain ⟨w, A⟩ := A
  have e : ∀ b o, H b = some o → H b = some o := fun _ _ h => h
  have hl : i < S.length := (List.getElem?_eq_some_iff.mp hi).1
  obtain ⟨v, hv, hr⟩ := A.sl i t hi
  refine ⟨v, hv, fun b => (w b).bind (gOut τ.length i), A.ow.re gOut_ok, by rw [List.length_set]; exact A.len, fun k u h => ?_, fun j u t' h => ?_, fun j u y i h z => ?_, fun b j m h => ?_, fun b k m h => ?_, A.pr, TgOk.trans A.tg (fun j u k a q h => ?_) (fun j u k a q _ t h _ => ?_) (msk_re e)⟩
  · by_cases hk : k = i
    · subst hk
      rw [List.getElem?_set_self hl] at h
      cases h
    · rw [List.getElem?_set_ne (Ne.symm hk)] at h
      obtain ⟨x, h1, h2⟩ := A.sl k u h
      exact ⟨x, h1, h2.move (msk_re e) (mv_re (fun m => by simp [gOut, hk]) e)⟩
  · have z := get_snoc h; clear h; rcases z with ⟨hj, h⟩ | ⟨rfl, h⟩
    · exact (A.tm j u t' h).move (msk_re e) (mv_re (fun m => by simp [gOut]) e)
    · cases h
      exact hr.move (msk_re e) (mv_re (fun m => by simp [gOut]) e)
  · have z' := get_snoc h; clear h; rcases z' with ⟨hj, h⟩ | ⟨rfl, h⟩
    · exact A.tr j u y i h z
    · cases h; cases z
  · obtain ⟨l', h1, h2⟩ := Option.bind_eq_some_iff.mp h
    rw [List.length_append]
    match l', h2 with
    | (.t j', m'), h2 =>
      cases h2
      exact Nat.lt_of_lt_of_le (A.tl b j m h1) (Nat.le_add_right _ _)
    | (.s j', m'), h2 =>
      unfold gOut at h2
      dsimp only at h2
      split at h2
      · cases h2; simp
      · cases h2
  · obtain ⟨l', h1, h2⟩ := Option.bind_eq_some_iff.mp h
    match l', h2 with
    | (.s j', m'), h2 =>
      unfold gOut at h2
      dsimp only at h2
      split at h2
      · cases h2
      · cases h2
        rename_i hk
        rw [List.getElem?_set_ne (Ne.symm hk)]
        exact A.sz b k m h1
  · have z := get_snoc h; clear h; rcases z with ⟨_, h⟩ | ⟨rfl, h⟩
    · exact ⟨j, h⟩
    · cases h
  · by_cases hk : k = i
    · subst hk
      rw [List.getElem?_set_self hl] at h
      cases h
    · rw [List.getElem?_set_ne (Ne.symm hk)] at h
      exact ⟨h, rfl, mv_re (fun m => by simp [gOut, hk]) e⟩
/-- the one object of slot i at a is changed: everything else stands -/
theorem Abs0.mut (A : Abs0 K C w σ τ S H) {i : Nat} {a : Addr} {o : HO} {t : T} (hfl : ∀ k, t.kid k = none) (hi : i < S.length) (ha : w a = some (.s i, [])) (ho : ntup o = true)
    (h : ∀ N, Evl.Ex (msk H w) N → Rp K N (upd H a o) w (.s i, []) (.ref a) t) (hv : σ[i]? = some (some (.ref a))) : Abs0 K C w σ τ (S.set i (some t)) (upd H a o) := by
  have hne : ∀ {b : Addr}, w b = none → b ≠ a := fun {b} e z => by rw [z, ha] at e; cases e
  have me : Evl.Ex (msk H w) (msk (upd H a o) w) := msk_mono fun b u h1 h2 => ⟨h1, (upd_ne (hne h1)).trans h2⟩
  have mv : ∀ l : Lab, l.1 ≠ .s i → Mv H (upd H a o) w w l l := fun l hl b m u e1 e2 => ⟨e1, by
    rw [upd_ne (fun z => by rw [z, ha] at e1; injection e1 with e1; injection e1 with e1 _; exact hl e1.symm)]; exact e2⟩
  refine ⟨⟨fun b u h1 h2 => ?_, A.ow.in0, A.ow.fo, A.ow.fx, fun b l q => ?_, A.ow.rl⟩, by rw [List.length_set]; exact A.len, fun k u q => ?_, fun j u t' q => ?_, A.tr, A.tl, fun b k m q => ?_, A.pr, TgOk.trans A.tg (fun j u k a q h => ⟨j, h⟩) (fun j u k a q _ u ht hs => ?_) me⟩
  · have q := A.ow.fr b u h1 h2
    by_cases hb : b = a
    · subst hb
      rcases A.ow.in0 _ _ ha with z | z | z
      · cases z
      · exact absurd z h1
      · rw [z] at h2; cases h2
    · rw [upd_ne hb]; exact q
  · by_cases hb : b = a
    · subst hb; exact ⟨o, upd_same, ho⟩
    · rw [upd_ne hb]; exact A.ow.dom b l q
  · by_cases hk : k = i
    · subst hk
      rw [List.getElem?_set_self hi] at q
      cases q
      exact ⟨_, hv, h _ me⟩
    · rw [List.getElem?_set_ne (Ne.symm hk)] at q
      obtain ⟨x, h1, h2⟩ := A.sl k u q
      exact ⟨x, h1, h2.move me (mv _ fun z => hk (by cases z; rfl))⟩
  · exact (A.tm j u t' q).move me (mv _ fun z => by cases z)
  · by_cases hk : k = i
    · exact ⟨t, by rw [hk, List.getElem?_set_self hi]⟩
    · rw [List.getElem?_set_ne (Ne.symm hk)]; exact A.sz b k m q
  · by_cases hk : k = i
    · subst hk
      rw [List.getElem?_set_self hi] at ht
      cases ht
      unfold T.at at hs
      rw [hfl] at hs
      exact nomatch hs
    · rw [List.getElem?_set_ne (Ne.symm hk)] at ht
      exact ⟨ht, rfl, mv _ fun z => hk (by cases z; rfl)⟩
/-- an object within slot i's thing is changed -/
theorem Abs0.mutP (A : Abs0 K C w σ τ S H) {i : Nat} {a : Addr} {o : HO} {t : T} (hng : ∀ (j : Nat) (v : V) (i k : Nat) (q : List Nat), τ[j]? ≠ some (v, R.g i k q)) {u0 : V} {m0 : List Nat} (hi : i < S.length) (ha : w a = some (.s i, m0)) (ho : ntup o = true)
    (h : ∀ N, Evl.Ex (msk H w) N → Rp K N (upd H a o) w (.s i, []) u0 t) (hv : σ[i]? = some (some u0)) : Abs0 K C w σ τ (S.set i (some t)) (upd H a o) := by
  have hne : ∀ {b : Addr}, w b = none → b ≠ a := fun {b} e z => by rw [z, ha] at e; cases e
  have me : Evl.Ex (msk H w) (msk (upd H a o) w) := msk_mono fun b u h1 h2 => ⟨h1, (upd_ne (hne h1)).trans h2⟩
  have mv : ∀ l : Lab, l.1 ≠ .s i → Mv H (upd H a o) w w l l := fun l hl b m u e1 e2 => ⟨e1, by
    rw [upd_ne (fun z => by rw [z, ha] at e1; injection e1 with e1; injection e1 with e1 _; exact hl e1.symm)]; exact e2⟩
  refine ⟨⟨fun b u h1 h2 => ?_, A.ow.in0, A.ow.fo, A.ow.fx, fun b l q => ?_, A.ow.rl⟩, by rw [List.length_set]; exact A.len, fun k u q => ?_, fun j u t' q => ?_, A.tr, A.tl, fun b k m q => ?_, A.pr, fun j u k a q h => absurd h (hng j u k a q)⟩
  · have q := A.ow.fr b u h1 h2
    by_cases hb : b = a
    · subst hb
      rcases A.ow.in0 _ _ ha with z | z | z
      · cases z
      · exact absurd z h1
      · rw [z] at h2; cases h2
    · rw [upd_ne hb]; exact q
  · by_cases hb : b = a
    · subst hb; exact ⟨o, upd_same, ho⟩
    · rw [upd_ne hb]; exact A.ow.dom b l q
  · by_cases hk : k = i
    · subst hk
      rw [List.getElem?_set_self hi] at q
      cases q
      exact ⟨_, hv, h _ me⟩
    · rw [List.getElem?_set_ne (Ne.symm hk)] at q
      obtain ⟨x, h1, h2⟩ := A.sl k u q
      exact ⟨x, h1, h2.move me (mv _ fun z => hk (by cases z; rfl))⟩
  · exact (A.tm j u t' q).move me (mv _ fun z => by cases z)
  · by_cases hk : k = i
    · exact ⟨t, by rw [hk, List.getElem?_set_self hi]⟩
    · rw [List.getElem?_set_ne (Ne.symm hk)]; exact A.sz b k m q
end
end PL

set_option Elab.async false
set_option linter.all false
set_option maxRecDepth 100000
set_option maxHeartbeats 4000000
set_option autoImplicit false
/-! the pure layer's words: what a piece of the program does with slots -/
namespace PL
open PySem L2

abbrev PTE := Sl → (R → Sl → Prop) → Prop
abbrev PTT := Sl → (Bool → Sl → Prop) → Prop
abbrev PTA := Sl → (List R → Sl → Prop) → Prop
structure PEnds where
  nx : Sl → Prop
  rt : R → Sl → Prop
  bk : Sl → Prop := fun _ => False
  ct : Sl → Prop := fun _ => False
abbrev PTS := PEnds → Sl → Prop
abbrev BOp := T → T → (R → Prop) → Prop
abbrev UOp := T → (R → Prop) → Prop

abbrev R.d (d : D) : R := .v (.p d)
abbrev R.i (i : Int) : R := .v (.p (.int i))
abbrev R.b (b : Bool) : R := .v (.p (.bool b))

/-! ### data in view -/
def T.ls : T → Option (List D)
  | .p (.list ds) => some ds
  | .ol ds => some ds
  | _ => none
/-- a list or a tuple -/
def T.sq : T → Option (List D)
  | .p (.list ds) => some ds
  | .p (.tuple ds) => some ds
  | .ol ds => some ds
  | _ => none
/-- as data -/
def T.vw : T → Option D
  | .p d => some d
  | .ol ds => some (.list ds)
  | .tup ts => bif T.fzL ts then some (.tuple (T.datL ts)) else none
  | .oll ts => bif T.fzL ts then some (.list (T.datL ts)) else none
  | _ => none
/-- a dict -/
def T.dc : T → Option (List (Key × D))
  | .od kvs => some kvs
  | .lk _ _ _ kvs => some kvs
  | _ => none

def on1 (S : Sl) (x : R) (k : T → Prop) : Prop := match look S x with
  | some t => k t
  | none => False

/-! ### expressions -/
def pC (d : D) : PTE := fun S G => G (.v (.p d)) S
/-- a name that is read: data as a value, else by reference -/
def pV (i : Nat) : PTE := fun S G => match S[i]? with
  | some (some (.p d)) => G (.v (.p d)) S
  | some (some _) => G (.r i) S
  | _ => False
/-- a name that holds data -/
def pD (i : Nat) : PTE := fun S G => match S[i]? with
  | some (some (.p d)) => G (.v (.p d)) S
  | _ => False
/-- .. frozen from here on -/
def pF (i : Nat) : PTE := fun S G => match S[i]? with
  | some (some t) => t.fz = true ∧ G (.v (.p t.dat)) (S.set i (some (.p t.dat)))
  | _ => False
/-- .. handed on, the slot forgotten -/
def pM (i : Nat) : PTE := fun S G => match S[i]? with
  | some (some t) => G (.v t) (S.set i none)
  | _ => False
def pB (op : BOp) (a b : PTE) : PTE := fun S G => a S fun x S1 => b S1 fun y S2 => on1 S2 x fun t => on1 S2 y fun u => op t u fun z => G z S2
def pU (op : UOp) (a : PTE) : PTE := fun S G => a S fun x S1 => on1 S1 x fun t => op t fun z => G z S1
/-- a new thing is frozen -/
def pFz (a : PTE) : PTE := fun S G => a S fun x S1 => match x with
  | .v t => t.fz = true ∧ G (.v (.p t.dat)) S1
  | _ => False

def iop (c : Int → Int → Prop) (f : Int → Int → Int) : BOp := fun t u G => match t, u with
  | .p (.int i), .p (.int j) => c i j ∧ G (.v (.p (.int (f i j))))
  | _, _ => False
def iopB (f : Int → Int → Bool) : BOp := fun t u G => match t, u with
  | .p (.int i), .p (.int j) => G (.v (.p (.bool (f i j))))
  | _, _ => False
def bAdd : BOp := fun t u G => match t, u with
  | .p (.int i), .p (.int j) => G (.v (.p (.int (i + j))))
  | .p (.str a), .p (.str b) => a.length + b.length ≤ sizeLine ∧ G (.v (.p (.str (a ++ b))))
  | t, u => match t.ls, u.ls with
    | some a, some b => a.length + b.length ≤ sizeLine ∧ G (.v (.ol (a ++ b)))
    | _, _ => False
def bSub : BOp := iop (fun _ _ => True) (fun i j => i - j)
def bMul : BOp := iop CMulX (fun i j => i * j)
/-- xs * k -/
def bRep : BOp := fun t u G => match t, u with
  | .ol a, .p (.int k) => -(2 ^ 63) ≤ k ∧ k < 2 ^ 63 ∧ a.length * k.toNat ≤ sizeLine ∧ G (.v (.ol (List.replicate k.toNat a).flatten))
  | _, _ => False
def bDiv : BOp := iop CDivW (fun i j => i / j)
def bMod : BOp := iop (fun _ j => 0 < j) (fun i j => i % j)
def bPow : BOp := iop CPow (fun i j => i ^ j.toNat)
def bShl : BOp := iop CShl (fun i j => i * 2 ^ j.toNat)
def bShr : BOp := iop (fun _ j => 0 ≤ j) (fun i j => i / 2 ^ j.toNat)
def bAnd : BOp := iop (fun _ _ => True) (fun i j => Builtin.bitAnd i j)
def bOr : BOp := iop (fun _ _ => True) (fun i j => Builtin.bitOr i j)
def cLe : BOp := iopB fun i j => decide (i ≤ j)
def cGt : BOp := iopB fun i j => decide (j < i)
def cGe : BOp := iopB fun i j => decide (j ≤ i)
def cLt : BOp := iopB fun i j => decide (i < j)
/-- equality of data (ints, texts and truths by themselves, else at any depth) -/
def cEqB (neg : Bool) : BOp := fun t u G => match t, u with
  | .p (.int i), .p (.int j) => G (.v (.p (.bool (neg.xor (decide (i = j))))))
  | .p (.str i), .p (.str j) => G (.v (.p (.bool (neg.xor (decide (i = j))))))
  | .p (.bool i), .p (.bool j) => G (.v (.p (.bool (neg.xor (decide (i = j))))))
  | t, u => match t.vw, u.vw with
    | some d, some e => SeqAt.shaped d = true ∧ SeqAt.shaped e = true ∧ G (.v (.p (.bool (neg.xor (PyData.eqv d e)))))
    | _, _ => False
def cEq : BOp := cEqB false
def cNe : BOp := cEqB true
def uNeg : UOp := fun t G => match t with
  | .p (.int i) => G (.v (.p (.int (-i))))
  | _ => False
def uAbs : UOp := fun t G => match t with
  | .p (.int i) => G (.v (.p (.int (if i < 0 then -i else i))))
  | _ => False
def uLen : UOp := fun t G => match t.sq with
  | some ds => G (.v (.p (.int (ds.length : Int))))
  | none => match t with
    | .p (.str x) => x.length ≤ sizeLine ∧ G (.v (.p (.int (x.length : Int))))
    | .od kvs => G (.v (.p (.int (kvs.length : Int))))
    | .tup ts => G (.v (.p (.int (ts.length : Int))))
    | .oll ts => G (.v (.p (.int (ts.length : Int))))
    | _ => False
/-! dicts as lists of keys and data -/
def valK {κ : Type} [DecidableEq κ] (kvs : List (κ × D)) (k : κ) : Option D := (kvs.find? fun kv => decide (kv.1 = k)).map (·.2)
def put {κ : Type} [DecidableEq κ] (kvs : List (κ × D)) (k : κ) (d : D) : List (κ × D) :=
  if (kvs.any fun kv => decide (kv.1 = k)) = true then kvs.map fun kv => if kv.1 = k then (kv.1, d) else kv else kvs ++ [(k, d)]
/-- a datum as a key -/
def unK : D → Option Key
  | .int i => some (.inl i)
  | .str x => some (.inr x)
  | _ => none
def isK (k : Key) (d : D) : Bool := match k, d with
  | .inl i, .int j => decide (j = i)
  | .inr x, .str y => decide (y = x)
  | _, _ => false
def valD (l : List (D × D)) (k : Key) : Option D := (l.find? fun q => isK k q.1).map (·.2)
/-- what a dict holds -/
def T.get : T → Key → Option (Option D)
  | .od kvs, k => some (valK kvs k)
  | .lk _ _ _ kvs, k => some (valK kvs k)
  | .p (.dict l), k => some (valD l k)
  | _, _ => none
/-- xs[i], d[k] -/
def bIx : BOp := fun t u G => match t.sq, u with
  | some ds, .p (.int i) => ∃ d, atI ds i = some d ∧ G (.v (.p d))
  | none, .p k => (match t, k with
    | .p (.str z), .int i => z.length ≤ sizeLine ∧ ∃ c, atI z.cps.toList i = some c ∧ G (.v (.p (.str ⟨#[c]⟩)))
    | t, k => match unK k with
      | some k => ∃ d, t.get k = some (some d) ∧ G (.v (.p d))
      | none => False)
  | _, _ => False
/-- a part of a thing of one's own: data, or by its path -/
def T.kids : T → Option (List T)
  | .tup ts => some ts
  | .oll ts => some ts
  | _ => none
def ixR (x : R) (k : Nat) : Option R := match x with
  | .r i => some (.g i k [])
  | .f i => some (.g i k [])
  | .g i j q => some (.g i j (q ++ [k]))
  | .v _ => none
def pIx (a b : PTE) : PTE := fun S G => a S fun x S1 => b S1 fun y S2 => on1 S2 x fun t => on1 S2 y fun u => match t.kids, u with
  | some ts, .p (.int z) => ∃ k, ixN ts.length z = some k ∧ (match ts[k]? with
    | some (.p d) => G (.v (.p d)) S2
    | some _ => (match ixR x k with
      | some r => G r S2
      | none => False)
    | none => False)
  | none, u => bIx t u fun z => G z S2
  | _, _ => False
/-- min(a, b), max(a, b) -/
def bMin : BOp := fun t u G => match t, u with
  | .p (.int i), .p (.int j) => G (.v (.p (.int (if j < i then j else i))))
  | _, _ => False
def bMax : BOp := fun t u G => match t, u with
  | .p (.int i), .p (.int j) => G (.v (.p (.int (if j > i then j else i))))
  | _, _ => False
/-- the name of a thing's built-in class -/
def tyN : T → Option String
  | .p .none => some "NoneType"
  | .p (.bool _) => some "bool"
  | .p (.int _) => some "int"
  | .p (.str _) => some "str"
  | .p (.list _) => some "list"
  | .p (.tuple _) => some "tuple"
  | .p (.dict _) => some "dict"
  | .ol _ => some "list"
  | .od _ => some "dict"
  | .lk _ _ _ _ => some "dict"
  | .oll _ => some "list"
  | .tup _ => some "tuple"
  | _ => none
def isiB (a b : String) : Bool := a == b || (a == "bool" && b == "int")
def uIsi (b : String) : UOp := fun t G => match tyN t with
  | some a => G (.v (.p (.bool (isiB a b))))
  | none => False

/-- tests -/
def qV (a : PTE) : PTT := fun S G => a S fun x S1 => match x with
  | .v (.p (.bool b)) => G b S1
  | _ => False
def qNot (a : PTT) : PTT := fun S G => a S fun b S1 => G (!b) S1
def qAnd (a b : PTT) : PTT := fun S G => a S fun c S1 => (c = true → b S1 G) ∧ (c = false → G false S1)
def qOr (a b : PTT) : PTT := fun S G => a S fun c S1 => (c = true → G true S1) ∧ (c = false → b S1 G)
/-- a < b < c, of ints -/
def qCh (f f' : Int → Int → Bool) (a b c : PTE) : PTT := fun S G => a S fun x S1 => b S1 fun y S2 => match x, y with
  | .v (.p (.int i)), .v (.p (.int j)) => (f i j = true → c S2 fun z S3 => (match z with
      | .v (.p (.int k)) => G (f' j k) S3
      | _ => False)) ∧ (f i j = false → G false S2)
  | _, _ => False
/-- a truth as a value -/
def pT (t : PTT) : PTE := fun S G => t S fun b S1 => G (.v (.p (.bool b))) S1

/-! ### argument lists -/
def aN : PTA := fun S G => G [] S
def aC (a : PTE) (r : PTA) : PTA := fun S G => a S fun x S1 => r S1 fun xs S2 => G (x :: xs) S2
/-- all of them data -/
def allP : List R → Option (List D)
  | [] => some []
  | .v (.p d) :: r => (allP r).map (d :: ·)
  | _ => none
def pTup (a : PTA) : PTE := fun S G => a S fun xs S1 => match allP xs with
  | some ds => ds.length ≤ sizeLine ∧ G (.v (.p (.tuple ds))) S1
  | none => False
def pLst (a : PTA) : PTE := fun S G => a S fun xs S1 => match allP xs with
  | some ds => ds.length ≤ sizeLine ∧ G (.v (.ol ds)) S1
  | none => False

/-! ### calls -/
/-- no list and no dict within -/
def imD : D → Bool
  | .none => true
  | .bool _ => true
  | .int _ => true
  | .str _ => true
  | .tuple ds => imL ds
  | .list _ => false
  | .dict _ => false
where imL : List D → Bool
  | [] => true
  | d :: ds => imD d && imL ds
mutual
def T.im : T → Bool
  | .p d => imD d
  | .ol ds => imD.imL ds
  | .od _ => false
  | .lk _ _ _ _ => false
  | .tup ts => T.imL ts
  | .oll ts => T.imL ts
  | .ins _ _ _ => false
  | .exc _ => false
  | .exv _ _ _ => false
  | .ot _ => false
def T.imL : List T → Bool
  | [] => true
  | t :: ts => t.im && T.imL ts
end
/-- what a def does with its arguments: what it hands back, and what stands in its arguments behind it -/
abbrev FSp := List T → (T → List (Option T) → Prop) → Prop
/-- an argument that is lent to be read -/
def pL (i : Nat) : PTE := fun S G => match S[i]? with
  | some (some (.p d)) => G (.v (.p d)) S
  | some (some _) => G (.f i) S
  | _ => False
def argT (S : Sl) : R → Option T
  | .v t => some t
  | .r i => (S[i]?).join
  | .f i => match (S[i]?).join with
    | some t => if t.fz = true then some (.p t.dat) else none
    | none => none
  | .g i k q => match (S[i]?).join.bind (T.at (k :: q)) with
    | some t => if t.fz = true then some (.p t.dat) else none
    | none => none
def args (S : Sl) : List R → Option (List T)
  | [] => some []
  | x :: r => match argT S x, args S r with
    | some t, some ts => some (t :: ts)
    | _, _ => none
/-- the place at which slot i is lent to be changed -/
def posR : List R → Nat → Option Nat
  | [], _ => none
  | x :: r, i => match x with
    | .r k => if k = i then some 0 else (posR r i).map (· + 1)
    | _ => (posR r i).map (· + 1)
/-- the slots that are lent get back what the def left -/
def back : List R → List (Option T) → Sl → Sl
  | x :: xs, t :: ts, S => match x with
    | .r i => back xs ts (S.set i t)
    | _ => back xs ts S
  | _, _, S => S
/-- no slot is lent twice to be changed -/
def lent : List R → List Nat
  | [] => []
  | x :: r => match x with
    | .r i => i :: lent r
    | _ => lent r
theorem nd0 {xs : List R} (h : lent xs = []) : (lent xs).Nodup := h ▸ List.nodup_nil
theorem nd1 {xs : List R} {i : Nat} (h : lent xs = [i]) : (lent xs).Nodup := by rw [h]; simp
theorem nd2 {xs : List R} {i j : Nat} (h : lent xs = [i, j]) (n : i ≠ j) : (lent xs).Nodup := by rw [h]; simp [n]
theorem nd3 {xs : List R} {i j k : Nat} (h : lent xs = [i, j, k]) (n : i ≠ j ∧ i ≠ k ∧ j ≠ k) : (lent xs).Nodup := by rw [h]; simp [n]
def hasF : List R → Bool
  | [] => false
  | x :: r => match x with
    | .f _ => true
    | .g _ _ _ => true
    | _ => hasF r
/-- neither a tuple nor a list of things of their own -/
def flatO : Option T → Bool
  | some (.tup _) => false
  | some (.oll _) => false
  | _ => true
/-- what comes back to slots is flat -/
def flatB : List R → List (Option T) → Bool
  | x :: xs, t :: ts => match x with
    | .r _ => flatO t && flatB xs ts
    | _ => flatB xs ts
  | _, _ => true
def pCall (f : FSp) (a : PTA) : PTE := fun S G => a S fun xs S1 => match args S1 xs with
  | some ts => if hasF xs = true then lent xs = [] ∧ f ts fun r _ => r.im = true ∧ G (.v r) S1
    else (lent xs).Nodup ∧ f ts fun r ts' => flatB xs ts' = true ∧ G (.v r) (back xs ts' S1)
  | none => False

/-! ### statements -/
def sNx : PTS := fun D S => D.nx S
def sSeq (a b : PTS) : PTS := fun D S => a { D with nx := b D } S
def sIf (c : PTT) (a b : PTS) : PTS := fun D S => c S fun k S1 => (k = true → a D S1) ∧ (k = false → b D S1)
/-- a test that is long: what holds behind it, either way -/
def sIfC (c : PTT) (a b : PTS) : PTS := fun D S => ∃ P Q : Sl → Prop, c S (fun k S1 => (k = true → P S1) ∧ (k = false → Q S1)) ∧ (∀ S, P S → a D S) ∧ (∀ S, Q S → b D S)
theorem sIfC_of {c : PTT} {a b : PTS} {D : PEnds} {S : Sl} (h : sIf c a b D S) : sIfC c a b D S := ⟨a D, b D, h, fun _ h => h, fun _ h => h⟩
/-- one behind the other, by what holds between them -/
def sCut (a b : PTS) : PTS := fun D S => ∃ W : Sl → Prop, a { D with nx := W } S ∧ ∀ S, W S → b D S
theorem sCut_of {a b : PTS} {D : PEnds} {S : Sl} (h : sSeq a b D S) : sCut a b D S := ⟨b D, h, fun _ h => h⟩
def sRet (e : PTE) : PTS := fun D S => e S D.rt
def sDrop (e : PTE) : PTS := fun D S => e S fun _ S1 => D.nx S1
def sSet (i : Nat) (e : PTE) : PTS := fun D S => e S fun x S1 => match x with
  | .v t => i < S1.length ∧ D.nx (S1.set i (some t))
  | _ => False
def sBk : PTS := fun D S => D.bk S
def sCt : PTS := fun D S => D.ct S
def sNo : PTS := fun _ _ => False
/-- o[e] = v, o a list or a dict that a slot owns -/
def sSetIx (o e v : PTE) : PTS := fun D S => v S fun x S1 => o S1 fun y S2 => e S2 fun k S3 => match x, y, k with
  | .v (.p d), .r i, .v (.p k) => (match S3[i]? with
    | some (some (.ol ds)) => (match k with
      | .int z => ∃ j, ixN ds.length z = some j ∧ D.nx (S3.set i (some (.ol (ds.set j d))))
      | _ => False)
    | some (some (.od kvs)) => (match unK k with
      | some k => kvs.length < sizeLine ∧ D.nx (S3.set i (some (.od (put kvs k d))))
      | none => False)
    | _ => False)
  | _, _, _ => False
/-- a method of a list that a slot owns: what it makes of the list, what it hands back -/
abbrev LOp := List D → List R → (List D → R → Prop) → Prop
def lAppend : LOp := fun ds xs G => match xs with
  | [.v (.p d)] => ds.length < sizeLine ∧ G (ds ++ [d]) (.v (.p .none))
  | _ => False
def lPop : LOp := fun ds xs G => match xs with
  | [] => ∃ d, ds[ds.length - 1]? = some d ∧ G ds.dropLast (.v (.p d))
  | [.v (.p (.int i))] => ∃ k d, seqIndex? i ds.length = some k ∧ -(2 ^ 63) ≤ i ∧ i < 2 ^ 63 ∧ ds[k]? = some d ∧ G (ds.eraseIdx k) (.v (.p d))
  | _ => False
def lRev : LOp := fun ds xs G => match xs with
  | [] => G ds.reverse (.v (.p .none))
  | _ => False
def lClear : LOp := fun _ xs G => match xs with
  | [] => G [] (.v (.p .none))
  | _ => False
def lExtend : LOp := fun ds xs G => match xs with
  | [.v t] => (match t.ls with
    | some es => ds.length + es.length ≤ sizeLine ∧ G (ds ++ es) (.v (.p .none))
    | none => False)
  | _ => False
def pMeth (op : LOp) (o : PTE) (a : PTA) : PTE := fun S G => o S fun y S1 => match y with
  | .r i => (match S1[i]? with
    | some (some (.ol _)) => a S1 fun xs S2 => (match S2[i]? with
      | some (some (.ol ds)) => op ds xs fun ds' z => G z (S2.set i (some (.ol ds')))
      | _ => False)
    | _ => False)
  | _ => False
/-- while, by a word and its measure -/
def sWh (c : PTT) (b : PTS) : PTS := fun D S => ∃ W : Nat → Sl → Prop, (∃ m, W m S) ∧ ∀ m S, W m S →
  c S fun k S1 => (k = true → b { D with nx := fun S' => ∃ m', m' < m ∧ W m' S', ct := fun S' => ∃ m', m' < m ∧ W m' S', bk := D.nx } S1) ∧ (k = false → D.nx S1)
/-- what is walked: the things, one a turn -/
abbrev PTI := Sl → (List D → Sl → Prop) → Prop
abbrev PTG := D → Sl → (Sl → Prop) → Prop
def gN (i : Nat) : PTG := fun d S k => i < S.length ∧ k (S.set i (some (.p d)))
/-- (a, b, ..) -/
def gT : List PTG → PTG := fun gs d S k => match d with
  | .tuple ds => go gs ds S k
  | _ => False
where go : List PTG → List D → Sl → (Sl → Prop) → Prop
  | [], [], S, k => k S
  | g :: gs, d :: ds, S, k => g d S fun S1 => go gs ds S1 k
  | _, _, _, _ => False
/-- target = e, any target of names -/
def sAsg (g : PTG) (e : PTE) : PTS := fun D S => e S fun x S1 => match x with
  | .v (.p d) => g d S1 D.nx
  | _ => False
def sFor (w : PTI) (g : PTG) (b : PTS) : PTS := fun D S => w S fun ds S1 => ∃ W : Nat → Sl → Prop, W 0 S1 ∧
  (∀ i d S, ds[i]? = some d → W i S → g d S fun S2 => b { D with nx := W (i + 1), ct := W (i + 1), bk := D.nx } S2) ∧ (∀ S, W ds.length S → D.nx S)
def rng (lo hi : Int) : List D := (List.range (hi - lo).toNat).map fun (k : Nat) => .int (lo + (k : Int))
def iR1 (e : PTE) : PTI := fun S G => e S fun x S1 => match x with
  | .v (.p (.int n)) => (-(2 ^ 62) ≤ n ∧ n < 2 ^ 62) ∧ G (rng 0 n) S1
  | _ => False
def iR2 (a e : PTE) : PTI := fun S G => a S fun y S0 => e S0 fun x S1 => match y, x with
  | .v (.p (.int m)), .v (.p (.int n)) => (-(2 ^ 62) ≤ m ∧ m < 2 ^ 62 ∧ -(2 ^ 62) ≤ n ∧ n < 2 ^ 62) ∧ G (rng m n) S1
  | _, _ => False
/-- a list or tuple that stays -/
def iSq (e : PTE) : PTI := fun S G => e S fun x S1 => match x with
  | .v t => t.fz = true ∧ (match t.sq with
    | some ds => G ds S1
    | none => False)
  | _ => False
end PL

set_option Elab.async false
set_option linter.all false
set_option maxRecDepth 100000
set_option maxHeartbeats 4000000
set_option autoImplicit false
/-! the rules: a piece of the program does what its pure word says -/
namespace PL
open PySem L2

structure QE (X : Cx) (C : PCx) (e : Expr) (p : PTE) : Prop where
  ex : ∃ te, PE X e te ∧ ∀ (τ : Tmp) (S : Sl) (σ : St) (H : Hp) (G : R → Sl → Prop) (Q : VK), Abs X.K C σ τ S H → p S G →
    (∀ v H' x S', G x S' → Abs X.K C σ (τ ++ [(v, x)]) S' H' → Q v H') → te σ H Q
structure QT (X : Cx) (C : PCx) (e : Expr) (p : PTT) : Prop where
  ex : ∃ te, PT X e te ∧ ∀ (τ : Tmp) (S : Sl) (σ : St) (H : Hp) (G : Bool → Sl → Prop) (Q : Bool → Hp → Prop), Abs X.K C σ τ S H → p S G →
    (∀ b H' S', G b S' → Abs X.K C σ τ S' H' → Q b H') → te σ H Q
structure QW (X : Cx) (C : PCx) (e : Expr) (p : PTT) : Prop where
  ex : ∃ te, PW X e te ∧ ∀ (τ : Tmp) (S : Sl) (σ : St) (H : Hp) (G : Bool → Sl → Prop) (Q : Bool → Hp → Prop), Abs X.K C σ τ S H → p S G →
    (∀ b H' S', G b S' → Abs X.K C σ τ S' H' → Q b H') → te σ H Q
structure QA (X : Cx) (C : PCx) (es : List Expr) (p : PTA) : Prop where
  ex : ∃ te, PA X es te ∧ ∀ (τ : Tmp) (S : Sl) (σ : St) (H : Hp) (G : List R → Sl → Prop) (Q : List V → Hp → Prop), Abs X.K C σ τ S H → p S G →
    (∀ vs H' xs S', vs.length = xs.length → G xs S' → Abs X.K C σ (τ ++ vs.zip xs) S' H' → Q vs H') → te σ H Q
/-- what is wanted behind a statement, pure and not -/
structure Lf (K : PySem.W.Frag) (C : PCx) (τ : Tmp) (P : PEnds) (D : Ends) : Prop where
  nx : ∀ σ S H, Abs K C σ τ S H → P.nx S → D.nx σ H
  bk : ∀ σ S H, Abs K C σ τ S H → P.bk S → D.bk σ H
  ct : ∀ σ S H, Abs K C σ τ S H → P.ct S → D.ct σ H
  rt : ∀ σ v x S H, Abs K C σ (τ ++ [(v, x)]) S H → P.rt x S → D.rt v H
structure QS (X : Cx) (C : PCx) (st : Stmt) (p : PTS) : Prop where
  ex : ∃ ts, PS X st ts ∧ ∀ (τ : Tmp) (S : Sl) (σ : St) (H : Hp) (P : PEnds) (D : Ends), NoR τ → Abs X.K C σ τ S H → p P S → Lf X.K C τ P D → ts D σ H
structure QSs (X : Cx) (C : PCx) (sts : List Stmt) (p : PTS) : Prop where
  ex : ∃ ts, PSs X sts ts ∧ ∀ (τ : Tmp) (S : Sl) (σ : St) (H : Hp) (P : PEnds) (D : Ends), NoR τ → Abs X.K C σ τ S H → p P S → Lf X.K C τ P D → ts D σ H

section
variable {X : Cx} {C : PCx} {e a b c : Expr} {es : List Expr} {pa pb pc : PTE} {qa qb : PTT} {pos : Pos} {K : PySem.W.Frag} {σ : St} {τ : Tmp} {S : Sl} {H : Hp}

theorem Abs.slot (A : Abs K C σ τ S H) {i : Nat} {t : T} (h : S[i]? = some (some t)) : ∃ v, σ[i]? = some (some v) := by
  obtain ⟨w, A⟩ := A
  obtain ⟨v, hv, _⟩ := A.sl i t h
  exact ⟨v, hv⟩
theorem Abs.slotP (A : Abs K C σ τ S H) {i : Nat} {d : D} (h : S[i]? = some (some (.p d))) : ∃ v, σ[i]? = some (some v) ∧ Abs K C σ (τ ++ [(v, .v (.p d))]) S H := by
  obtain ⟨w, A⟩ := A
  obtain ⟨v, hv, r⟩ := A.sl i _ h
  cases r with
  | p r => exact ⟨v, hv, w, A.push r⟩

/-! ### names, constants -/
theorem qe_dat {i : Nat} (h : PE X e (tVar i)) : QE X C e (pD i) := by
  refine ⟨_, h, fun τ S σ H G Q A hp k => ?_⟩
  unfold pD at hp
  split at hp
  · next d hd =>
    obtain ⟨v, hv, A'⟩ := A.slotP hd
    exact ⟨v, hv, k v H _ S hp A'⟩
  · exact hp.elim
theorem qe_var {i : Nat} (h : PE X e (tVar i)) (hm : C.mu[i]? = some true) : QE X C e (pV i) := by
  refine ⟨_, h, fun τ S σ H G Q A hp k => ?_⟩
  unfold pV at hp
  split at hp
  · next d hd =>
    obtain ⟨v, hv, A'⟩ := A.slotP hd
    exact ⟨v, hv, k v H _ S hp A'⟩
  · next t ht hd =>
    obtain ⟨v, hv⟩ := A.slot hd
    exact ⟨v, hv, k v H _ S hp (A.pushR rfl hv hm)⟩
  · exact hp.elim
theorem qe_lend {i : Nat} (h : PE X e (tVar i)) (hm : C.mu[i]? = some true) : QE X C e (pL i) := by
  refine ⟨_, h, fun τ S σ H G Q A hp k => ?_⟩
  unfold pL at hp
  split at hp
  · next d hd =>
    obtain ⟨v, hv, A'⟩ := A.slotP hd
    exact ⟨v, hv, k v H _ S hp A'⟩
  · next t ht hd =>
    obtain ⟨v, hv⟩ := A.slot hd
    exact ⟨v, hv, k v H _ S hp (A.pushR rfl hv hm)⟩
  · exact hp.elim
theorem qe_fz {i : Nat} (h : PE X e (tVar i)) : QE X C e (pF i) := by
  refine ⟨_, h, fun τ S σ H G Q A hp k => ?_⟩
  unfold pF at hp
  split at hp
  · next t ht =>
    obtain ⟨hf, hp⟩ := hp
    have A1 := A.fzSlot ht hf
    obtain ⟨v, hv, A2⟩ := A1.slotP (i := i) (List.getElem?_set_self (List.getElem?_eq_some_iff.mp ht).1)
    exact ⟨v, hv, k v H _ _ hp A2⟩
  · exact hp.elim
theorem qe_mv {i : Nat} (h : PE X e (tVar i)) : QE X C e (pM i) := by
  refine ⟨_, h, fun τ S σ H G Q A hp k => ?_⟩
  unfold pM at hp
  split at hp
  · next t ht =>
    obtain ⟨v, hv, A2⟩ := A.take ht
    exact ⟨v, hv, k v H _ _ hp A2⟩
  · exact hp.elim
theorem qe_c {v : V} {d : D} (h : PE X e (tC v)) (r : ∀ K N, Rd K N v d) : QE X C e (pC d) :=
  ⟨_, h, fun τ S σ H G Q A hp k => k v H _ S hp (A.push fun w _ => r _ _)⟩
theorem qe_int {i j pos} : QE X C (.Constant (.int i) j pos) (pC (.int i)) := qe_c pe_int fun _ _ => .int i
theorem qe_bl {i j pos} : QE X C (.Constant (.bool i) j pos) (pC (.bool i)) := qe_c pe_bl fun _ _ => .bl i
theorem qe_non {j pos} : QE X C (.Constant .none j pos) (pC .none) := qe_c pe_non fun _ _ => .non
theorem qe_str {i j pos} : QE X C (.Constant (.str i) j pos) (pC (.str i)) := qe_c pe_str fun _ _ => .str i
/-- a module's constant -/
theorem qe_glob {x : Str} {v : V} {u : Value} {d : D} {pos : Pos} (hg : Gl X x) (hm : X.mg x = some u) (r : RelV v u) (rd : ∀ K N, Rd K N v d) (hd : (x == ("__debug__" : Str)) = false := by decide) : QE X C (.Name x pos) (pC d) :=
  qe_c (pe_glob hg hm r hd) rd

/-! ### operators -/
/-- an operator by values does what its pure word says -/
def BinS (C : PCx) (K : PySem.W.Frag) (r : R2) (op : BOp) : Prop := ∀ σ τ S H v x u y t t' (G : R → Prop) (Q : VK), Abs K C σ (τ ++ [(v, x)] ++ [(u, y)]) S H → look S x = some t → look S y = some t' → op t t' G →
  (∀ v' H' z, G z → Abs K C σ (τ ++ [(v', z)]) S H' → Q v' H') → r v u H Q
def UniS (C : PCx) (K : PySem.W.Frag) (r : V → Hp → VK → Prop) (op : UOp) : Prop := ∀ σ τ S H v x t (G : R → Prop) (Q : VK), Abs K C σ (τ ++ [(v, x)]) S H → look S x = some t → op t G →
  (∀ v' H' z, G z → Abs K C σ (τ ++ [(v', z)]) S H' → Q v' H') → r v H Q
theorem on1_iff {x : R} {k : T → Prop} (h : on1 S x k) : ∃ t, look S x = some t ∧ k t := by
  unfold on1 at h
  split at h
  · next t ht => exact ⟨t, ht, h⟩
  · exact h.elim
theorem qe_bin {op : Operator} {r : R2} {o : BOp} (ho : OpR X (binaryOp op) r) (hs : BinS C X.K r o) (ha : QE X C a pa) (hb : QE X C b pb) : QE X C (.BinOp a op b pos) (pB o pa pb) := by
  obtain ⟨ta, h1, f1⟩ := ha
  obtain ⟨tb, h2, f2⟩ := hb
  refine ⟨_, pe_op ho h1 h2, fun τ S σ H G Q A hp k => ?_⟩
  refine f1 τ S σ H _ _ A hp fun v H1 x S1 q1 A1 => ?_
  refine f2 _ S1 σ H1 _ _ A1 q1 fun u H2 y S2 q2 A2 => ?_
  obtain ⟨t, ht, q2⟩ := on1_iff q2
  obtain ⟨t', ht', q2⟩ := on1_iff q2
  exact hs _ _ _ _ _ _ _ _ _ _ _ _ A2 ht ht' q2 fun v' H' z g A' => k v' H' z S2 g A'
theorem qe_cmp {op : CmpOp} {r : R2} {o : BOp} (ho : OpR X (compareOp op) r) (hs : BinS C X.K r o) (ha : QE X C a pa) (hb : QE X C b pb) (hm : behindInMarks op b = false) : QE X C (.Compare a [op] [b] pos) (pB o pa pb) := by
  obtain ⟨ta, h1, f1⟩ := ha
  obtain ⟨tb, h2, f2⟩ := hb
  refine ⟨_, pe_cmpR ho h1 h2 hm, fun τ S σ H G Q A hp k => ?_⟩
  refine f1 τ S σ H _ _ A hp fun v H1 x S1 q1 A1 => ?_
  refine f2 _ S1 σ H1 _ _ A1 q1 fun u H2 y S2 q2 A2 => ?_
  obtain ⟨t, ht, q2⟩ := on1_iff q2
  obtain ⟨t', ht', q2⟩ := on1_iff q2
  exact hs _ _ _ _ _ _ _ _ _ _ _ _ A2 ht ht' q2 fun v' H' z g A' => k v' H' z S2 g A'
theorem qe_un {op : UnaryOp} {r : V → Hp → VK → Prop} {o : UOp} (ho : UnR X (unaryOp op) r) (hs : UniS C X.K r o) (ha : QE X C a pa) : QE X C (.UnaryOp op a pos) (pU o pa) := by
  obtain ⟨ta, h1, f1⟩ := ha
  refine ⟨_, pe_un ho h1, fun τ S σ H G Q A hp k => ?_⟩
  refine f1 τ S σ H _ _ A hp fun v H1 x S1 q1 A1 => ?_
  obtain ⟨t, ht, q1⟩ := on1_iff q1
  exact hs _ _ _ _ _ _ _ _ _ A1 ht q1 fun v' H' z g A' => k v' H' z S1 g A'

/-- data by value: what stands at a value -/
theorem Abs.rd1 {v : V} {x : R} {d : D} (A : Abs K C σ (τ ++ [(v, x)]) S H) (h : look S x = some (.p d)) : Rd K H v d := by
  obtain ⟨w, A⟩ := A
  obtain ⟨l, r⟩ := A.look get_snoc_last h
  cases r with
  | p r => exact r.mono msk_le
theorem get_mid {α : Type} {l r : List α} {x : α} : (l ++ [x] ++ r)[l.length]? = some x := by simp
theorem Abs.rd2 {v u : V} {x y : R} {d : D} (A : Abs K C σ (τ ++ [(v, x)] ++ [(u, y)]) S H) (h : look S x = some (.p d)) : Rd K H v d := by
  obtain ⟨w, A⟩ := A
  obtain ⟨l, r⟩ := A.look (j := τ.length) get_mid h
  cases r with
  | p r => exact r.mono msk_le
/-- a scalar as the answer -/
theorem Abs.ans2 {v u v' : V} {x y : R} {d : D} (A : Abs K C σ (τ ++ [(v, x)] ++ [(u, y)]) S H) (r : ∀ N, Rd K N v' d) : Abs K C σ (τ ++ [(v', .v (.p d))]) S H := by
  rw [List.append_assoc] at A
  exact A.pop.push fun w _ => r _
theorem Abs.ans1 {v v' : V} {x : R} {d : D} (A : Abs K C σ (τ ++ [(v, x)]) S H) (r : ∀ N, Rd K N v' d) : Abs K C σ (τ ++ [(v', .v (.p d))]) S H :=
  A.pop.push fun w _ => r _

theorem binS_int {c : Int → Int → Prop} {f : Int → Int → Int} : BinS C K (rI c fun i j => .int (f i j)) (iop c f) := by
  intro σ τ S H v x u y t t' G Q A h1 h2 op k
  unfold iop at op
  split at op
  · have r2 := A.rd1 h2
    have r1 := A.rd2 h1
    cases r1; cases r2
    obtain ⟨hc, g⟩ := op
    exact ⟨_, _, rfl, rfl, hc, k _ H _ g (A.ans2 fun N => .int _)⟩
  · exact op.elim
theorem binS_int0 {f : Int → Int → Int} : BinS C K (rI0 fun i j => .int (f i j)) (iop (fun _ _ => True) f) := by
  intro σ τ S H v x u y t t' G Q A h1 h2 op k
  unfold iop at op
  split at op
  · have r2 := A.rd1 h2
    have r1 := A.rd2 h1
    cases r1; cases r2
    obtain ⟨hc, g⟩ := op
    exact ⟨_, _, rfl, rfl, k _ H _ g (A.ans2 fun N => .int _)⟩
  · exact op.elim
theorem binS_intB {f : Int → Int → Bool} : BinS C K (rI0 fun i j => .bl (f i j)) (iopB f) := by
  intro σ τ S H v x u y t t' G Q A h1 h2 op k
  unfold iopB at op
  split at op
  · have r2 := A.rd1 h2
    have r1 := A.rd2 h1
    cases r1; cases r2
    exact ⟨_, _, rfl, rfl, k _ H _ op (A.ans2 fun N => .bl _)⟩
  · exact op.elim
/-- the list in view -/
theorem Rp.list {N : Hp} {w : Own} {l : Lab} {v : V} {t : T} {ds : List D} (r : Rp K N H w l v t) (h : t.ls = some ds) (hN : Evl.Ex N H) : ∃ a xs, v = .ref a ∧ SqL K H a xs ∧ RdL K N xs ds := by
  cases r with
  | p r =>
    cases r with
    | lst h1 h2 => cases h; exact ⟨_, _, rfl, Evl.ex_l hN h1, h2⟩
    | non => cases h
    | bl => cases h
    | int => cases h
    | str => cases h
    | tup => cases h
    | dct => cases h
  | ol h1 h2 r => cases h; exact ⟨_, _, rfl, Evl.sq_of h2, r⟩
  | od => cases h
  | lk => cases h
  | tup => cases h
  | oll => cases h
  | ins => cases h
  | exc => cases h
  | exv => cases h
  | ot => cases h
theorem Rp.seq {N : Hp} {w : Own} {l : Lab} {v : V} {t : T} {ds : List D} (r : Rp K N H w l v t) (h : t.sq = some ds) (hN : Evl.Ex N H) : ∃ a xs, v = .ref a ∧ (SqL K H a xs ∨ SqT K H a xs) ∧ RdL K N xs ds := by
  cases r with
  | p r =>
    cases r with
    | lst h1 h2 => cases h; exact ⟨_, _, rfl, .inl (Evl.ex_l hN h1), h2⟩
    | non => cases h
    | bl => cases h
    | int => cases h
    | str => cases h
    | tup h1 h2 => cases h; exact ⟨_, _, rfl, .inr (Evl.ex_t hN h1), h2⟩
    | dct => cases h
  | ol h1 h2 r => cases h; exact ⟨_, _, rfl, .inl (.inl (.inl h2)), r⟩
  | od => cases h
  | lk => cases h
  | tup => cases h
  | oll => cases h
  | ins => cases h
  | exc => cases h
  | exv => cases h
  | ot => cases h
end
end PL

set_option Elab.async false
set_option linter.all false
set_option maxRecDepth 100000
set_option maxHeartbeats 4000000
set_option autoImplicit false
/-! a def's contract; calls -/
namespace PL
open PySem L2
open PyProof.Rows (envOfC)

section
variable (K : PySem.W.Frag) (H : Hp) (w : Own)
structure Pre (vs : List V) (ts : List T) : Prop where
  rp : ∀ (j : Nat) (v : V) (t : T), vs[j]? = some v → ts[j]? = some t → Rp K (msk H w) H w (.s j, []) v t
  dom : ∀ b l, w b = some l → ∃ o, H b = some o ∧ ntup o = true
  lb : ∀ b l, w b = some l → l.1 = .x ∨ ∃ (j : Nat) (m : List Nat) (t : T), l = (.s j, m) ∧ ts[j]? = some t
structure Post (vs : List V) (ts' : List (Option T)) (r : T) (v : V) (H' : Hp) (w' : Own) : Prop where
  len : ts'.length = vs.length
  fr : ∀ b o, (w b = none ∨ ∃ m, w b = some (.x, m)) → H b = some o → H' b = some o
  fo : ∀ b m, w b = some (.x, m) → ∃ m', w' b = some (.x, m')
  nw : ∀ b l, w' b = some l → l.1 = .x ∨ w b ≠ none ∨ H b = none
  dom : ∀ b l, w' b = some l → ∃ o, H' b = some o ∧ ntup o = true
  lb : ∀ (b : Addr) (j : Nat) (m : List Nat), w' b = some (.s j, m) → ∃ t, ts'[j]? = some (some t)
  rt : Rp K (msk H' w') H' w' (.r, []) v r
  ar : ∀ (j : Nat) (u : V) (t : T), vs[j]? = some u → ts'[j]? = some (some t) → Rp K (msk H' w') H' w' (.s j, []) u t
end
/-- a def's promise, from its pure one -/
def lift (K : PySem.W.Frag) (f : FSp) : Sp := fun vs H Q _ => ∃ (ts : List T) (w : Own) (k : T → List (Option T) → Prop), vs.length = ts.length ∧ Pre K H w vs ts ∧ f ts k ∧ ∀ r ts', k r ts' → ∀ v H' w', Post K H w vs ts' r v H' w' → Q v H'

section
variable {K : PySem.W.Frag} {C : PCx} {w : Own} {σ : St} {τ : Tmp} {S : Sl} {H H' : Hp}

/-! ### lists of arguments -/
theorem args_len : ∀ {xs : List R} {ts : List T}, args S xs = some ts → xs.length = ts.length
  | [], ts, h => by cases h; rfl
  | x :: r, ts, h => by
    unfold args at h
    split at h
    · next t us h1 h2 =>
      cases h
      rw [List.length_cons, List.length_cons, args_len h2]
    · cases h
theorem args_get : ∀ {xs : List R} {ts : List T} {j : Nat} {x : R}, args S xs = some ts → xs[j]? = some x → ∃ t, ts[j]? = some t ∧ argT S x = some t
  | [], ts, j, x, h, e => by simp at e
  | y :: r, ts, j, x, h, e => by
    unfold args at h
    split at h
    · next t us h1 h2 =>
      cases h
      cases j with
      | zero => simp at e; subst e; exact ⟨t, rfl, h1⟩
      | succ j =>
        obtain ⟨t', q1, q2⟩ := args_get (j := j) h2 (by simpa using e)
        exact ⟨t', by simpa using q1, q2⟩
    · cases h
theorem posR_get : ∀ {xs : List R} {i j : Nat}, posR xs i = some j → xs[j]? = some (.r i)
  | [], i, j, h => by cases h
  | x :: r, i, j, h => by
    unfold posR at h
    split at h
    · next k =>
      split at h
      · next hk => cases h; subst hk; rfl
      · obtain ⟨j', h1, h2⟩ := Option.map_eq_some_iff.mp h
        subst h2
        simpa using posR_get h1
    · obtain ⟨j', h1, h2⟩ := Option.map_eq_some_iff.mp h
      subst h2
      simpa using posR_get h1
theorem lent_mem : ∀ {xs : List R} {i : Nat}, i ∈ lent xs ↔ ∃ j : Nat, xs[j]? = some (.r i)
  | [], i => by simp [lent]
  | x :: r, i => by
    have ih := lent_mem (xs := r) (i := i)
    cases x with
    | r k =>
      show i ∈ k :: lent r ↔ _
      rw [List.mem_cons, ih]
      constructor
      · rintro (e | ⟨j, e⟩)
        · subst e; exact ⟨0, rfl⟩
        · exact ⟨j + 1, by simpa using e⟩
      · rintro ⟨j, e⟩
        cases j with
        | zero => simp at e; exact .inl e.symm
        | succ j => exact .inr ⟨j, by simpa using e⟩
    | v t =>
      show i ∈ lent r ↔ _
      rw [ih]
      constructor
      · rintro ⟨j, e⟩; exact ⟨j + 1, by simpa using e⟩
      · rintro ⟨j, e⟩
        cases j with
        | zero => simp at e
        | succ j => exact ⟨j, by simpa using e⟩
    | f t =>
      show i ∈ lent r ↔ _
      rw [ih]
      constructor
      · rintro ⟨j, e⟩; exact ⟨j + 1, by simpa using e⟩
      · rintro ⟨j, e⟩
        cases j with
        | zero => simp at e
        | succ j => exact ⟨j, by simpa using e⟩
    | g t a b =>
      show i ∈ lent r ↔ _
      rw [ih]
      constructor
      · rintro ⟨j, e⟩; exact ⟨j + 1, by simpa using e⟩
      · rintro ⟨j, e⟩
        cases j with
        | zero => simp at e
        | succ j => exact ⟨j, by simpa using e⟩
theorem posR_of : ∀ {xs : List R} {i j : Nat}, (lent xs).Nodup → xs[j]? = some (.r i) → posR xs i = some j
  | [], i, j, _, h => by simp at h
  | x :: r, i, j, nd, h => by
    cases j with
    | zero =>
      simp at h
      subst h
      unfold posR
      simp
    | succ j =>
      have h' : r[j]? = some (.r i) := by simpa using h
      cases x with
      | r k =>
        have nd' : (k :: lent r).Nodup := nd
        have hk : k ≠ i := fun z => (List.nodup_cons.mp nd').1 (lent_mem.mpr ⟨j, by rw [z]; exact h'⟩)
        unfold posR
        simp only [if_neg hk, posR_of (List.nodup_cons.mp nd').2 h', Option.map_some]
      | v t =>
        unfold posR
        simp only [posR_of (xs := r) nd h', Option.map_some]
      | f t =>
        unfold posR
        simp only [posR_of (xs := r) nd h', Option.map_some]
      | g t _ _ =>
        unfold posR
        simp only [posR_of (xs := r) nd h', Option.map_some]
theorem posR_none {xs : List R} {i : Nat} (h : posR xs i = none) (nd : (lent xs).Nodup) : ∀ j : Nat, xs[j]? ≠ some (.r i) := fun j e => by
  rw [posR_of nd e] at h; cases h
theorem back_len : ∀ {xs : List R} {ts : List (Option T)} {S : Sl}, (back xs ts S).length = S.length
  | [], _, _ => rfl
  | _ :: _, [], _ => by unfold back; rfl
  | x :: xs, t :: ts, S => by
    unfold back
    split
    · rw [back_len, List.length_set]
    · rw [back_len]
theorem back_out : ∀ {xs : List R} {ts : List (Option T)} {S : Sl} {i : Nat}, (∀ j : Nat, xs[j]? ≠ some (.r i)) → (back xs ts S)[i]? = S[i]?
  | [], _, _, _, _ => rfl
  | _ :: _, [], _, _, _ => by unfold back; rfl
  | x :: xs, t :: ts, S, i, h => by
    have h' : ∀ j : Nat, xs[j]? ≠ some (.r i) := fun j e => h (j + 1) (by simpa using e)
    unfold back
    split
    · next k =>
      have hk : k ≠ i := fun z => h 0 (by rw [z]; rfl)
      rw [back_out h', List.getElem?_set_ne hk]
    · rw [back_out h']
theorem back_in : ∀ {xs : List R} {ts : List (Option T)} {S : Sl} {i j : Nat} {u : Option T}, (lent xs).Nodup → xs[j]? = some (.r i) → ts[j]? = some u → i < S.length → (back xs ts S)[i]? = some u
  | [], _, _, _, _, _, _, h, _, _ => by simp at h
  | _ :: _, [], _, _, _, _, _, _, h, _ => by simp at h
  | x :: xs, t :: ts, S, i, 0, u, nd, h, hu, hl => by
    simp at h hu
    subst h; subst hu
    have nd' : (i :: lent xs).Nodup := nd
    unfold back
    simp only
    rw [back_out fun j e => (List.nodup_cons.mp nd').1 (lent_mem.mpr ⟨j, e⟩), List.getElem?_set_self hl]
  | x :: xs, t :: ts, S, i, j + 1, u, nd, h, hu, hl => by
    have h' : xs[j]? = some (.r i) := by simpa using h
    have hu' : ts[j]? = some u := by simpa using hu
    unfold back
    split
    · next k =>
      have nd' : (k :: lent xs).Nodup := nd
      exact back_in (List.nodup_cons.mp nd').2 h' hu' (by rw [List.length_set]; exact hl)
    · next hx =>
      refine back_in ?_ h' hu' hl
      cases x with
      | r k => exact absurd rfl (hx k)
      | v t => exact nd
      | f t => exact nd
      | g t _ _ => exact nd
theorem flatB_at : ∀ {xs : List R} {ts : List (Option T)} {i j : Nat} {t : Option T}, flatB xs ts = true → xs[j]? = some (.r i) → ts[j]? = some t → flatO t = true
  | [], _, _, _, _, _, h, _ => by simp at h
  | _ :: _, [], _, _, _, _, _, h => by simp at h
  | x :: xs, u :: ts, i, 0, t, h, h1, h2 => by
    simp at h1 h2
    subst h1 h2
    exact (Bool.and_eq_true_iff.mp h).1
  | x :: xs, u :: ts, i, j + 1, t, h, h1, h2 => by
    refine flatB_at (xs := xs) (ts := ts) (i := i) (j := j) ?_ (by simpa using h1) (by simpa using h2)
    cases x with
    | r k => exact (Bool.and_eq_true_iff.mp h).2
    | v t => exact h
    | f t => exact h
    | g _ _ _ => exact h
theorem flat_kid {t : T} (h : flatO (some t) = true) (k : Nat) : t.kid k = none := by
  cases t with
  | p d => rfl
  | ol d => rfl
  | od d => rfl
  | lk d => rfl
  | tup d => cases h
  | oll d => cases h
  | ins _ _ _ => rfl
  | exc _ => rfl
  | exv _ _ _ => rfl
  | ot _ => rfl
theorem at_flat {t : T} (h : ∀ k, t.kid k = none) {k : Nat} {q : List Nat} : (T.at (k :: q) t).isSome = true → False := fun z => by
  unfold T.at at z
  rw [h] at z
  exact nomatch z
theorem zip_get {α β : Type} {l : List α} {r : List β} {j : Nat} {a : α} {b : β} (h1 : l[j]? = some a) (h2 : r[j]? = some b) : (l.zip r)[j]? = some (a, b) := by
  rw [List.getElem?_zip_eq_some]; exact ⟨h1, h2⟩
theorem at_zip {vs : List V} {xs : List R} {j : Nat} {v : V} {x : R} (h1 : vs[j]? = some v) (h2 : xs[j]? = some x) : (τ ++ vs.zip xs)[τ.length + j]? = some (v, x) := by
  rw [List.getElem?_append_right (Nat.le_add_right _ _), Nat.add_sub_cancel_left]
  exact zip_get h1 h2

/-! ### a call that may change what is lent to it -/
def gIn (n : Nat) (xs : List R) : Lab → Option Lab
  | (.t k, m) => if k < n then some (.x, []) else some (.s (k - n), m)
  | (.s i, m) => match posR xs i with
    | some j => some (.s j, m)
    | none => some (.x, [])
  | (.x, m) => some (.x, m)
  | (.r, _) => none
def wIn (n : Nat) (xs : List R) (w : Own) : Own := fun b => (w b).bind (gIn n xs)
def isX : Option Lab → Bool
  | some (.x, _) => true
  | _ => false
def gBack (n : Nat) (xs : List R) : Lab → Option Lab
  | (.r, m) => some (.t n, m)
  | (.s j, m) => match xs[j]? with
    | some (.r i) => some (.s i, m)
    | _ => none
  | _ => none
def wBack (n : Nat) (xs : List R) (w w' : Own) : Own := fun b => if isX (wIn n xs w b) = true then w b else (w' b).bind (gBack n xs)
theorem isX_iff {o : Option Lab} : isX o = true ↔ ∃ m, o = some (.x, m) := by
  constructor
  · intro h
    unfold isX at h
    split at h
    · exact ⟨_, rfl⟩
    · cases h
  · rintro ⟨m, rfl⟩; rfl

theorem Abs0.preIn {vs : List V} {xs : List R} {ts : List T} (A : Abs0 K C w σ (τ ++ vs.zip xs) S H) (hl : vs.length = xs.length) (hx : args S xs = some ts) (hf : hasF xs = false) (nd : (lent xs).Nodup) : Pre K H (wIn τ.length xs w) vs ts := by
  have e : ∀ b o, H b = some o → H b = some o := fun _ _ h => h
  have nog : ∀ {l : List R} {j i a : Nat} {q : List Nat}, hasF l = false → l[j]? ≠ some (.g i a q) := by
    intro l
    induction l with
    | nil => intro j i a q' _ q; simp at q
    | cons y r ih =>
      intro j i a q' h q
      cases y with
      | f k => cases h
      | g _ _ _ => cases h
      | v t =>
        cases j with
        | zero => simp at q
        | succ j => exact ih (j := j) (i := i) h (by simpa using q)
      | r t =>
        cases j with
        | zero => simp at q
        | succ j => exact ih (j := j) (i := i) h (by simpa using q)
  have nof : ∀ {l : List R} {j : Nat} {i : Nat}, hasF l = false → l[j]? ≠ some (.f i) := by
    intro l
    induction l with
    | nil => intro j i _ q; simp at q
    | cons y r ih =>
      intro j i h q
      cases y with
      | f k => cases h
      | g _ _ _ => cases h
      | v t =>
        cases j with
        | zero => simp at q
        | succ j => exact ih (j := j) (i := i) h (by simpa using q)
      | r t =>
        cases j with
        | zero => simp at q
        | succ j => exact ih (j := j) (i := i) h (by simpa using q)
  refine ⟨fun j v t hv ht => ?_, fun b l h => ?_, fun b l h => ?_⟩
  · have hj : j < xs.length := by rw [← hl]; exact (List.getElem?_eq_some_iff.mp hv).1
    obtain ⟨x, hxj⟩ : ∃ x, xs[j]? = some x := ⟨xs[j], List.getElem?_eq_getElem hj⟩
    obtain ⟨t', q1, q2⟩ := args_get hx hxj
    rw [ht] at q1; cases q1
    have ha := at_zip (τ := τ) hv hxj
    cases x with
    | v u =>
      cases q2
      exact (A.tm _ _ _ ha).move (msk_re e) (mv_re (fun m => by
        have h1 : ¬ τ.length + j < τ.length := by omega
        simp only [gIn, if_neg h1, Nat.add_sub_cancel_left]) e)
    | r i =>
      have hs := join_some (i := i) q2
      obtain ⟨u, hu, r⟩ := A.sl i t hs
      rw [(A.tr _ _ _ i ha rfl).1] at hu
      cases hu
      exact r.move (msk_re e) (mv_re (fun m => by simp only [gIn, posR_of nd hxj]) e)
    | f i => exact absurd hxj (nof hf)
    | g i a q => exact absurd hxj (nog hf)
  · obtain ⟨l', h1, _⟩ := Option.bind_eq_some_iff.mp h
    exact A.ow.dom b l' h1
  · obtain ⟨l', h1, h2⟩ := Option.bind_eq_some_iff.mp h
    match l', h2 with
    | (.t k, m), h2 =>
      unfold gIn at h2
      dsimp only at h2
      split at h2
      · cases h2; exact .inl rfl
      · next hk =>
        cases h2
        right
        have hk2 := A.tl b k m h1
        rw [List.length_append, List.length_zip, hl, Nat.min_self, args_len hx] at hk2
        exact ⟨_, m, ts[k - τ.length]'(by omega), rfl, List.getElem?_eq_getElem (by omega)⟩
    | (.s i, m), h2 =>
      unfold gIn at h2
      dsimp only at h2
      split at h2
      · next j hj =>
        cases h2
        right
        obtain ⟨t, q1, _⟩ := args_get hx (posR_get hj)
        exact ⟨j, m, t, rfl, q1⟩
      · cases h2; exact .inl rfl
    | (.x, m), h2 => cases h2; exact .inl rfl
    | (.r, m), h2 => cases h2

theorem Abs0.post {vs : List V} {xs : List R} {ts' : List (Option T)} {r : T} {v : V} {w' : Own} (A : Abs0 K C w σ (τ ++ vs.zip xs) S H) (hl : vs.length = xs.length) (nd : (lent xs).Nodup)
    (hin : ∀ (i j : Nat), xs[j]? = some (.r i) → i < S.length) (hfb : flatB xs ts' = true) (P : Post K H (wIn τ.length xs w) vs ts' r v H' w') : Abs0 K C (wBack τ.length xs w w') σ (τ ++ [(v, .v r)]) (back xs ts' S) H' := by
  have inX : ∀ b, isX (wIn τ.length xs w b) = true → wBack τ.length xs w w' b = w b := fun b h => if_pos h
  have inN : ∀ b, ¬ isX (wIn τ.length xs w b) = true → wBack τ.length xs w w' b = (w' b).bind (gBack τ.length xs) := fun b h => if_neg h
  -- a frozen thing stays frozen
  have nn : ∀ b o, w b = none → H b = some o → wBack τ.length xs w w' b = none ∧ H' b = some o := fun b o h1 h2 => by
    have hc : wIn τ.length xs w b = none := by unfold wIn; rw [h1]; rfl
    refine ⟨?_, P.fr b o (.inl hc) h2⟩
    rw [inN b (by rw [hc]; exact Bool.false_ne_true)]
    cases q : w' b with
    | none => rfl
    | some l =>
      rcases P.nw b l q with z | z | z
      · obtain ⟨l1, l2⟩ := l
        cases z; rfl
      · exact absurd hc z
      · rw [z] at h2; cases h2
  have me : Evl.Ex (msk H w) (msk H' (wBack τ.length xs w w')) := msk_mono nn
  have me' : Evl.Ex (msk H' w') (msk H' (wBack τ.length xs w w')) := msk_mono fun b o h1 h2 => by
    refine ⟨?_, h2⟩
    have : ¬ isX (wIn τ.length xs w b) = true := fun z => by
      obtain ⟨m, hm⟩ := isX_iff.mp z
      obtain ⟨m', h⟩ := P.fo b m hm
      rw [h1] at h; cases h
    rw [inN b this, h1]; rfl
  -- what is not lent stays as it is
  have keepX : ∀ (l : Lab), (∀ m, isX (gIn τ.length xs (l.1, m ++ l.2)) = true) → Mv H H' w (wBack τ.length xs w w') l l := fun l hg a m o e1 e2 => by
    have hc : wIn τ.length xs w a = gIn τ.length xs (l.1, m ++ l.2) := by unfold wIn; rw [e1]; rfl
    have hx : isX (wIn τ.length xs w a) = true := by rw [hc]; exact hg m
    exact ⟨(inX a hx).trans e1, P.fr a o (.inr (isX_iff.mp hx)) e2⟩
  have mvB : ∀ (l l' : Lab), (∀ m, gBack τ.length xs (l.1, m ++ l.2) = some (l'.1, m ++ l'.2)) → l.1 ≠ .x → Mv H' H' w' (wBack τ.length xs w w') l l' := fun l l' hg hne a m o e1 e2 => by
    refine ⟨?_, e2⟩
    have : ¬ isX (wIn τ.length xs w a) = true := fun z => by
      obtain ⟨m1, hm⟩ := isX_iff.mp z
      obtain ⟨m', h⟩ := P.fo a m1 hm
      rw [h] at e1; injection e1 with e1; injection e1 with e1 _; exact hne e1.symm
    rw [inN a this, e1]; exact hg m
  refine ⟨⟨fun b o h1 h2 => ?_, fun b l h => ?_, fun b hb => ?_, fun b m h => ?_, fun b l h => ?_, fun b m h => ?_⟩, ?_, fun i t h => ?_, fun j u t h => ?_, fun j u y i h q => ?_, fun b j m h => ?_, fun b i m h => ?_, A.pr, TgOk.trans A.tg (fun j u i a q h => ?_) (fun j u i a q _ t h hs => ?_) me⟩
  · have h3 := A.ow.fr b o h1 h2
    refine P.fr b o ?_ h3
    cases q : w b with
    | none => left; unfold wIn; rw [q]; rfl
    | some l =>
      rcases A.ow.in0 b l q with z | z | z
      · right
        obtain ⟨l1, l2⟩ := l
        cases z
        exact ⟨l2, by unfold wIn; rw [q]; rfl⟩
      · exact absurd z h1
      · rw [z] at h2; cases h2
  · by_cases hx : isX (wIn τ.length xs w b) = true
    · rw [inX b hx] at h; exact A.ow.in0 b l h
    · rw [inN b hx] at h
      obtain ⟨l', h1, h2⟩ := Option.bind_eq_some_iff.mp h
      rcases P.nw b l' h1 with z | z | z
      · obtain ⟨l1, l2⟩ := l'
        cases z; cases h2
      · right
        cases q : w b with
        | none => exact absurd (by unfold wIn; rw [q]; rfl) z
        | some l0 =>
          rcases A.ow.in0 b l0 q with z' | z'
          · obtain ⟨l1, l2⟩ := l0
            cases z'
            exact absurd (by unfold wIn; rw [q]; rfl) hx
          · exact z'
      · exact .inr (A.ow.ent z)
  · obtain ⟨m, e⟩ := A.ow.fo b hb
    have hx : isX (wIn τ.length xs w b) = true := by unfold wIn; rw [e]; rfl
    exact ⟨m, (inX b hx).trans e⟩
  · by_cases hx : isX (wIn τ.length xs w b) = true
    · rw [inX b hx] at h; exact A.ow.fx b m h
    · rw [inN b hx] at h
      obtain ⟨l', h1, h2⟩ := Option.bind_eq_some_iff.mp h
      match l', h2 with
      | (.r, m'), h2 => cases h2
      | (.s j, m'), h2 =>
        unfold gBack at h2
        dsimp only at h2
        split at h2 <;> cases h2
  · by_cases hx : isX (wIn τ.length xs w b) = true
    · rw [inX b hx] at h
      obtain ⟨o, h1, h2⟩ := A.ow.dom b l h
      exact ⟨o, P.fr b o (.inr (isX_iff.mp hx)) h1, h2⟩
    · rw [inN b hx] at h
      obtain ⟨l', h1, h2⟩ := Option.bind_eq_some_iff.mp h
      exact P.dom b l' h1
  · by_cases hx : isX (wIn τ.length xs w b) = true
    · rw [inX b hx] at h; exact A.ow.rl b m h
    · rw [inN b hx] at h
      obtain ⟨l', h1, h2⟩ := Option.bind_eq_some_iff.mp h
      match l', h2 with
      | (.r, m'), h2 => cases h2
      | (.s j, m'), h2 =>
        unfold gBack at h2
        dsimp only at h2
        split at h2 <;> cases h2
  · rw [back_len]; exact A.len
  · cases hp : posR xs i with
    | some j =>
      have hj := posR_get hp
      have hlt : j < ts'.length := by rw [P.len, hl]; exact (List.getElem?_eq_some_iff.mp hj).1
      have hv : j < vs.length := by rw [← P.len]; exact hlt
      have hb := back_in (S := S) (ts := ts') nd hj (List.getElem?_eq_getElem hlt) (hin i j hj)
      rw [hb] at h
      have h' : ts'[j]? = some (some t) := by rw [List.getElem?_eq_getElem hlt]; exact congrArg some (Option.some.inj h)
      refine ⟨vs[j], (A.tr _ _ _ i (at_zip (List.getElem?_eq_getElem hv) hj) rfl).1, ?_⟩
      exact (P.ar j _ t (List.getElem?_eq_getElem hv) h').move me' (mvB _ _ (fun m => by simp only [gBack, hj]) (by intro z; cases z))
    | none =>
      rw [back_out (posR_none hp nd)] at h
      obtain ⟨u, h1, h2⟩ := A.sl i t h
      exact ⟨u, h1, h2.move me (keepX _ fun m => by simp only [gIn, hp]; rfl)⟩
  · have z := get_snoc h; clear h; rcases z with ⟨hj, h⟩ | ⟨rfl, h⟩
    · exact (A.tm j u t (get_left h)).move me (keepX _ fun m => by simp only [gIn, if_pos hj]; rfl)
    · cases h
      exact P.rt.move me' (mvB _ _ (fun m => rfl) (by intro z; cases z))
  · have z := get_snoc h; clear h; rcases z with ⟨hj, h⟩ | ⟨rfl, h⟩
    · exact A.tr j u y i (get_left h) q
    · cases h; cases q
  · rw [List.length_append]
    by_cases hx : isX (wIn τ.length xs w b) = true
    · rw [inX b hx] at h
      have : wIn τ.length xs w b = gIn τ.length xs (.t j, m) := by unfold wIn; rw [h]; rfl
      rw [this] at hx
      unfold gIn at hx
      dsimp only at hx
      split at hx
      · omega
      · cases hx
    · rw [inN b hx] at h
      obtain ⟨l', h1, h2⟩ := Option.bind_eq_some_iff.mp h
      match l', h2 with
      | (.r, m'), h2 => cases h2; simp
      | (.s k, m'), h2 =>
        unfold gBack at h2
        dsimp only at h2
        split at h2 <;> cases h2
  · by_cases hx : isX (wIn τ.length xs w b) = true
    · rw [inX b hx] at h
      have : wIn τ.length xs w b = gIn τ.length xs (.s i, m) := by unfold wIn; rw [h]; rfl
      rw [this] at hx
      cases hp : posR xs i with
      | some j =>
        simp only [gIn, hp] at hx
        cases hx
      | none =>
        rw [back_out (posR_none hp nd)]
        exact A.sz b i m h
    · rw [inN b hx] at h
      obtain ⟨l', h1, h2⟩ := Option.bind_eq_some_iff.mp h
      match l', h2 with
      | (.r, m'), h2 => cases h2
      | (.s j, m'), h2 =>
        obtain ⟨t, ht⟩ := P.lb b j m' h1
        unfold gBack at h2
        dsimp only at h2
        split at h2
        · next k hk =>
          cases h2
          exact ⟨t, back_in nd hk ht (hin _ _ hk)⟩
        · cases h2
  · have z := get_snoc h; clear h; rcases z with ⟨_, h⟩ | ⟨rfl, h⟩
    · exact ⟨j, get_left h⟩
    · cases h
  · cases hp : posR xs i with
    | some j' =>
      have hj := posR_get hp
      have hlt : j' < ts'.length := by rw [P.len, hl]; exact (List.getElem?_eq_some_iff.mp hj).1
      have hb := back_in (S := S) (ts := ts') nd hj (List.getElem?_eq_getElem hlt) (hin i j' hj)
      rw [hb] at h
      have hf := flatB_at hfb hj (List.getElem?_eq_getElem hlt)
      rw [Option.some.inj h] at hf
      exact (at_flat (flat_kid hf) hs).elim
    | none =>
      rw [back_out (posR_none hp nd)] at h
      exact ⟨h, rfl, keepX _ fun m => by simp only [gIn, hp]; rfl⟩

/-! ### a call that only reads what is lent to it -/
mutual
theorem Rd.imm {N N' : Hp} (h : ∀ a o, N a = some o → ntup o = false → N' a = some o) : ∀ {v : V} {d : D}, Rd K N v d → imD d = true → Rd K N' v d
  | _, _, .non, _ => .non
  | _, _, .bl b, _ => .bl b
  | _, _, .int b, _ => .int b
  | _, _, .str b, _ => .str b
  | _, _, .lst _ _, i => by cases i
  | _, _, .dct _ _ _, i => by cases i
  | _, _, .tup q r, i => .tup (by
      rcases q with (q | ⟨o, q⟩) | q
      · exact .inl (.inl (h _ _ q rfl))
      · exact .inl (.inr ⟨o, h _ _ q rfl⟩)
      · exact .inr q) (RdL.imm h r i)
theorem RdL.imm {N N' : Hp} (h : ∀ a o, N a = some o → ntup o = false → N' a = some o) : ∀ {v : List V} {d : List D}, RdL K N v d → imD.imL d = true → RdL K N' v d
  | _, _, .nil, _ => .nil
  | _, _, .cons r q, i => by
    have i' := Bool.and_eq_true_iff.mp (show (imD _ && imD.imL _) = true from i)
    exact .cons (Rd.imm h r i'.1) (RdL.imm h q i'.2)
end
mutual
theorem Rp.imm {N N' : Hp} {w w' : Own} (h : ∀ a o, N a = some o → ntup o = false → N' a = some o) : ∀ {l l' : Lab} {v : V} {t : T}, Rp K N H w l v t → t.im = true → Mv H H' w w' l l' → Rp K N' H' w' l' v t
  | _, _, _, _, .p r, i, _ => .p (r.imm h i)
  | _, _, _, _, .ol h1 h2 r, i, m =>
    have f := m _ [] _ h1 h2
    .ol f.1 f.2 (r.imm h i)
  | _, _, _, _, .od _ _ _ _, i, _ => nomatch i
  | _, _, _, _, .lk _ _ _ _, i, _ => nomatch i
  | _, _, _, _, .tup q r, i, m => .tup (by
      rcases q with (q | ⟨o, q⟩) | q
      · exact .inl (.inl (h _ _ q rfl))
      · exact .inl (.inr ⟨o, h _ _ q rfl⟩)
      · exact .inr q) (RpL.imm h r i m)
  | _, _, _, _, .oll h1 h2 r, i, m =>
    have f := m _ [] _ h1 h2
    .oll f.1 f.2 (RpL.imm h r i m)
  | _, _, _, _, .ins _ _ _ _, i, _ => nomatch i
  | _, _, _, _, .exc _, i, _ => nomatch i
  | _, _, _, _, .exv _ _ _, i, _ => nomatch i
  | _, _, _, _, .ot _ _ _ _ _, i, _ => nomatch i
theorem RpL.imm {N N' : Hp} {w w' : Own} (h : ∀ a o, N a = some o → ntup o = false → N' a = some o) : ∀ {l l' : Lab} {k : Nat} {vs : List V} {ts : List T}, RpL K N H w l k vs ts → T.imL ts = true → Mv H H' w w' l l' → RpL K N' H' w' l' k vs ts
  | _, _, _, _, _, .nil, _, _ => .nil
  | _, _, k, _, _, .cons r q, i, m => .cons (Rp.imm h r (Bool.and_eq_true_iff.mp i).1 (m.kid k)) (RpL.imm h q (Bool.and_eq_true_iff.mp i).2 m)
end
def seenB : List R → Nat → Bool
  | [], _ => false
  | x :: r, i => match x with
    | .f k => k == i || seenB r i
    | .g k _ _ => k == i || seenB r i
    | _ => seenB r i
theorem seenB_ofG : ∀ {xs : List R} {i j a : Nat} {q : List Nat}, xs[j]? = some (.g i a q) → seenB xs i = true
  | [], i, j, _, _, h => by simp at h
  | x :: r, i, 0, _, _, h => by
    simp at h
    subst h
    unfold seenB
    simp
  | x :: r, i, j + 1, a, q, h => by
    have h' : r[j]? = some (.g i a q) := by simpa using h
    unfold seenB
    split
    · rw [seenB_ofG h', Bool.or_true]
    · rw [seenB_ofG h', Bool.or_true]
    · exact seenB_ofG h'
theorem seenB_of : ∀ {xs : List R} {i j : Nat}, xs[j]? = some (.f i) → seenB xs i = true
  | [], i, j, h => by simp at h
  | x :: r, i, 0, h => by
    simp at h
    subst h
    unfold seenB
    simp
  | x :: r, i, j + 1, h => by
    have h' : r[j]? = some (.f i) := by simpa using h
    unfold seenB
    split
    · rw [seenB_of h', Bool.or_true]
    · rw [seenB_of h', Bool.or_true]
    · exact seenB_of h'
def gInF (n : Nat) (xs : List R) : Lab → Option Lab
  | (.t k, m) => if k < n then some (.x, []) else some (.s (k - n), m)
  | (.s i, _) => if seenB xs i = true then none else some (.x, [])
  | (.x, m) => some (.x, m)
  | (.r, _) => none
def wInF (n : Nat) (xs : List R) (w : Own) : Own := fun b => (w b).bind (gInF n xs)
def kept (n : Nat) : Option Lab → Bool
  | some (.t k, _) => decide (k < n)
  | some (.s _, _) => true
  | some (.x, _) => true
  | _ => false
def gBackF (n : Nat) : Lab → Option Lab
  | (.r, m) => some (.t n, m)
  | _ => none
def wBackF (n : Nat) (w w' : Own) : Own := fun b => if kept n (w b) = true then w b else (w' b).bind (gBackF n)
theorem nolent : ∀ {xs : List R} {i j : Nat}, lent xs = [] → xs[j]? ≠ some (.r i) := fun {xs i j} h e => by
  have := lent_mem.mpr ⟨j, e⟩
  rw [h] at this
  simp at this
theorem Abs0.preInF {vs : List V} {xs : List R} {ts : List T} (A : Abs0 K C w σ (τ ++ vs.zip xs) S H) (hl : vs.length = xs.length) (hx : args S xs = some ts) (nl : lent xs = []) : Pre K H (wInF τ.length xs w) vs ts := by
  have e : ∀ b o, H b = some o → H b = some o := fun _ _ h => h
  refine ⟨fun j v t hv ht => ?_, fun b l h => ?_, fun b l h => ?_⟩
  · have hj : j < xs.length := by rw [← hl]; exact (List.getElem?_eq_some_iff.mp hv).1
    obtain ⟨x, hxj⟩ : ∃ x, xs[j]? = some x := ⟨xs[j], List.getElem?_eq_getElem hj⟩
    obtain ⟨t', q1, q2⟩ := args_get hx hxj
    rw [ht] at q1; cases q1
    have ha := at_zip (τ := τ) hv hxj
    cases x with
    | v u =>
      cases q2
      exact (A.tm _ _ _ ha).move (msk_re e) (mv_re (fun m => by
        have h1 : ¬ τ.length + j < τ.length := by omega
        simp only [gInF, if_neg h1, Nat.add_sub_cancel_left]) e)
    | r i => exact absurd hxj (nolent nl)
    | f i =>
      replace q2 : (match (S[i]?).join with | some t => if t.fz = true then some (T.p t.dat) else none | none => none) = some t := q2
      split at q2
      · next u hu =>
        split at q2
        · next hf =>
          cases q2
          have hs := join_some (i := i) hu
          obtain ⟨u', hu', r⟩ := A.sl i u hs
          rw [(A.tr _ _ _ i ha rfl).1] at hu'
          cases hu'
          refine .p (r.freeze (msk_re e) hf fun a m o h1 h2 => ?_)
          show msk H (wInF τ.length xs w) a = some o
          rw [msk_none (show wInF τ.length xs w a = none by unfold wInF; rw [h1]; simp [gInF, seenB_of hxj])]
          exact h2
        · cases q2
      · cases q2
    | g i a q =>
      replace q2 : (match (S[i]?).join.bind (T.at (a :: q)) with | some t => if t.fz = true then some (T.p t.dat) else none | none => none) = some t := q2
      split at q2
      · next u hu =>
        split at q2
        · next hf =>
          cases q2
          obtain ⟨u0, h1, h2⟩ := Option.bind_eq_some_iff.mp hu
          obtain ⟨_, h3, h4⟩ := (A.tg _ _ _ _ _ ha).2 u0 (join_some h1) (by rw [h2]; rfl)
          obtain ⟨t', m0, h5, r⟩ := h4.rp
          rw [h2] at h5
          cases h5
          refine .p (r.freeze (msk_re e) hf fun a m o h1 h2 => ?_)
          show msk H (wInF τ.length xs w) a = some o
          rw [msk_none (show wInF τ.length xs w a = none by unfold wInF; rw [h1]; simp [gInF, seenB_ofG hxj])]
          exact h2
        · cases q2
      · cases q2
  · obtain ⟨l', h1, _⟩ := Option.bind_eq_some_iff.mp h
    exact A.ow.dom b l' h1
  · obtain ⟨l', h1, h2⟩ := Option.bind_eq_some_iff.mp h
    match l', h2 with
    | (.t k, m), h2 =>
      unfold gInF at h2
      dsimp only at h2
      split at h2
      · cases h2; exact .inl rfl
      · next hk =>
        cases h2
        right
        have hk2 := A.tl b k m h1
        rw [List.length_append, List.length_zip, hl, Nat.min_self, args_len hx] at hk2
        exact ⟨_, m, ts[k - τ.length]'(by omega), rfl, List.getElem?_eq_getElem (by omega)⟩
    | (.s i, m), h2 =>
      unfold gInF at h2
      dsimp only at h2
      split at h2
      · cases h2
      · cases h2; exact .inl rfl
    | (.x, m), h2 => cases h2; exact .inl rfl
    | (.r, m), h2 => cases h2
theorem Abs0.postF {vs : List V} {xs : List R} {ts' : List (Option T)} {r : T} {v : V} {w' : Own} (A : Abs0 K C w σ (τ ++ vs.zip xs) S H) (him : r.im = true)
    (P : Post K H (wInF τ.length xs w) vs ts' r v H' w') : Abs0 K C (wBackF τ.length w w') σ (τ ++ [(v, .v r)]) S H' := by
  have inX : ∀ b, kept τ.length (w b) = true → wBackF τ.length w w' b = w b := fun b h => if_pos h
  have inN : ∀ b, ¬ kept τ.length (w b) = true → wBackF τ.length w w' b = (w' b).bind (gBackF τ.length) := fun b h => if_neg h
  -- what is kept is not changed
  have stay : ∀ b o, kept τ.length (w b) = true → H b = some o → H' b = some o := fun b o hk ho => by
    refine P.fr b o ?_ ho
    cases q : w b with
    | none => rw [q] at hk; cases hk
    | some l =>
      rw [q] at hk
      obtain ⟨l1, m⟩ := l
      unfold wInF
      rw [q]
      cases l1 with
      | t k =>
        have : k < τ.length := by simpa [kept] using hk
        right; exact ⟨[], by simp [gInF, this]⟩
      | s i =>
        by_cases hs : seenB xs i = true
        · left; simp [gInF, hs]
        · right; exact ⟨[], by simp [gInF, hs]⟩
      | x => right; exact ⟨m, rfl⟩
      | r => cases hk
  have nn : ∀ b o, w b = none → H b = some o → wBackF τ.length w w' b = none ∧ H' b = some o := fun b o h1 h2 => by
    have hc : wInF τ.length xs w b = none := by unfold wInF; rw [h1]; rfl
    refine ⟨?_, P.fr b o (.inl hc) h2⟩
    rw [inN b (by rw [h1]; exact Bool.false_ne_true)]
    cases q : w' b with
    | none => rfl
    | some l =>
      rcases P.nw b l q with z | z | z
      · obtain ⟨l1, l2⟩ := l
        cases z; rfl
      · exact absurd hc z
      · rw [z] at h2; cases h2
  have me : Evl.Ex (msk H w) (msk H' (wBackF τ.length w w')) := msk_mono nn
  have dom' : ∀ b l, wBackF τ.length w w' b = some l → ∃ o, H' b = some o ∧ ntup o = true := fun b l h => by
    by_cases hx : kept τ.length (w b) = true
    · rw [inX b hx] at h
      obtain ⟨o, h1, h2⟩ := A.ow.dom b l h
      exact ⟨o, stay b o hx h1, h2⟩
    · rw [inN b hx] at h
      obtain ⟨l', h1, h2⟩ := Option.bind_eq_some_iff.mp h
      exact P.dom b l' h1
  have me' : ∀ a o, msk H' w' a = some o → ntup o = false → msk H' (wBackF τ.length w w') a = some o := fun a o h1 h2 => by
    obtain ⟨q1, q2⟩ := msk_get h1
    cases q : wBackF τ.length w w' a with
    | none => rw [msk_none q]; exact q2
    | some l =>
      obtain ⟨o', h3, h4⟩ := dom' a l q
      rw [q2] at h3; cases h3
      rw [h2] at h4; cases h4
  have keepX : ∀ (l : Lab), (∀ m, kept τ.length (some (l.1, m ++ l.2)) = true) → Mv H H' w (wBackF τ.length w w') l l := fun l hg a m o e1 e2 => by
    have hx : kept τ.length (w a) = true := by rw [e1]; exact hg m
    exact ⟨(inX a hx).trans e1, stay a o hx e2⟩
  have rNX : ∀ b m, w' b = some (.r, m) → ¬ kept τ.length (w b) = true := fun b m h hk => by
    obtain ⟨o, ho, _⟩ := by
      cases q : w b with
      | none => rw [q] at hk; cases hk
      | some l => exact A.ow.dom b l q
    rcases P.nw b _ h with z | z | z
    · cases z
    · cases q : w b with
      | none => rw [q] at hk; cases hk
      | some l =>
        obtain ⟨l1, l2⟩ := l
        rw [q] at hk
        have hc : wInF τ.length xs w b = some (.x, l2) ∨ wInF τ.length xs w b = some (.x, []) ∨ wInF τ.length xs w b = none := by
          unfold wInF
          rw [q]
          cases l1 with
          | t k =>
            have : k < τ.length := by simpa [kept] using hk
            right; left; simp [gInF, this]
          | s i =>
            by_cases hs : seenB xs i = true
            · right; right; simp [gInF, hs]
            · right; left; simp [gInF, hs]
          | x => left; rfl
          | r => cases hk
        rcases hc with hc | hc | hc
        · obtain ⟨m', h'⟩ := P.fo b _ hc
          rw [h] at h'; cases h'
        · obtain ⟨m', h'⟩ := P.fo b _ hc
          rw [h] at h'; cases h'
        · exact z hc
    · rw [z] at ho; cases ho
  refine ⟨⟨fun b o h1 h2 => ?_, fun b l h => ?_, fun b hb => ?_, fun b m h => ?_, dom', fun b m h => ?_⟩, A.len, fun i t h => ?_, fun j u t h => ?_, fun j u y i h q => ?_, fun b j m h => ?_, fun b i m h => ?_, A.pr, TgOk.trans A.tg (fun j u i a q h => ?_) (fun j u i a q _ t h hs => ⟨h, rfl, keepX _ fun m => rfl⟩) me⟩
  · have h3 := A.ow.fr b o h1 h2
    cases q : w b with
    | none => exact (nn b o q h3).2
    | some l =>
      rcases A.ow.in0 b l q with z | z | z
      · obtain ⟨l1, l2⟩ := l
        cases z
        exact stay b o (by rw [q]; rfl) h3
      · exact absurd z h1
      · rw [z] at h2; cases h2
  · by_cases hx : kept τ.length (w b) = true
    · rw [inX b hx] at h; exact A.ow.in0 b l h
    · rw [inN b hx] at h
      obtain ⟨l', h1, h2⟩ := Option.bind_eq_some_iff.mp h
      rcases P.nw b l' h1 with z | z | z
      · obtain ⟨l1, l2⟩ := l'
        cases z; cases h2
      · right
        cases q : w b with
        | none => exact absurd (by unfold wInF; rw [q]; rfl) z
        | some l0 =>
          rcases A.ow.in0 b l0 q with z' | z'
          · obtain ⟨l1, l2⟩ := l0
            cases z'
            exact absurd (by rw [q]; rfl) hx
          · exact z'
      · exact .inr (A.ow.ent z)
  · obtain ⟨m, e⟩ := A.ow.fo b hb
    exact ⟨m, (inX b (by rw [e]; rfl)).trans e⟩
  · by_cases hx : kept τ.length (w b) = true
    · rw [inX b hx] at h; exact A.ow.fx b m h
    · rw [inN b hx] at h
      obtain ⟨l', h1, h2⟩ := Option.bind_eq_some_iff.mp h
      match l', h2 with
      | (.r, m'), h2 => cases h2
  · by_cases hx : kept τ.length (w b) = true
    · rw [inX b hx] at h; exact A.ow.rl b m h
    · rw [inN b hx] at h
      obtain ⟨l', h1, h2⟩ := Option.bind_eq_some_iff.mp h
      match l', h2 with
      | (.r, m'), h2 => cases h2
  · obtain ⟨u, h1, h2⟩ := A.sl i t h
    exact ⟨u, h1, h2.move me (keepX _ fun m => rfl)⟩
  · have z := get_snoc h; clear h; rcases z with ⟨hj, h⟩ | ⟨rfl, h⟩
    · exact (A.tm j u t (get_left h)).move me (keepX _ fun m => by simp [kept, hj])
    · cases h
      refine P.rt.imm me' him fun a m o e1 e2 => ⟨?_, e2⟩
      rw [inN a (rNX a _ e1), e1]; rfl
  · have z := get_snoc h; clear h; rcases z with ⟨hj, h⟩ | ⟨rfl, h⟩
    · exact A.tr j u y i (get_left h) q
    · cases h; cases q
  · rw [List.length_append]
    by_cases hx : kept τ.length (w b) = true
    · rw [inX b hx] at h
      rw [h] at hx
      have : j < τ.length := by simpa [kept] using hx
      omega
    · rw [inN b hx] at h
      obtain ⟨l', h1, h2⟩ := Option.bind_eq_some_iff.mp h
      match l', h2 with
      | (.r, m'), h2 => cases h2; simp
  · by_cases hx : kept τ.length (w b) = true
    · rw [inX b hx] at h; exact A.sz b i m h
    · rw [inN b hx] at h
      obtain ⟨l', h1, h2⟩ := Option.bind_eq_some_iff.mp h
      match l', h2 with
      | (.r, m'), h2 => cases h2
  · have z := get_snoc h; clear h; rcases z with ⟨_, h⟩ | ⟨rfl, h⟩
    · exact ⟨j, get_left h⟩
    · cases h
end

section
variable {X : Cx} {C : PCx} {x : Str} {p pos : Pos} {e : Expr} {es : List Expr} {pa : PTA} {f : FSp} {k : Nat} {fa : Addr} {fd : FuncData} {ps : List Str}
theorem args_slot {S : Sl} {xs : List R} {ts : List T} (h : args S xs = some ts) {i j : Nat} (hj : xs[j]? = some (.r i)) : i < S.length := by
  obtain ⟨t, _, q⟩ := args_get h hj
  exact (List.getElem?_eq_some_iff.mp (join_some q)).1
/-- f(e, ..) -/
theorem qe_call (F : FnOk X.prog X.w X.K X.mg X.base CX0 k fa fd ps (lift X.K f)) (hr : Room k X.A) (hg : Gl X x) (hm : X.mg x = some (.ref fa)) (hk : PySem.W.keepIn X.K (.ref fa) = true) (hb : Binds X.K fd ps []) (ha : QA X C (e :: es) pa)
    (hdb : (x == ("__debug__" : Str)) = false := by decide) (he : starEach (e :: es) X.env = (false, eval e X.env) :: starEach es X.env := by rfl) (hpl : (backTo pos (starEach es X.env)).any (·.1) = false := by rfl) : QE X C (.Call (.Name x p) (e :: es) [] pos) (pCall f pa) := by
  obtain ⟨ta, h1, f1⟩ := ha
  refine ⟨_, pe_call F hr hg hm hk hb .nil pass0 h1 hdb he hpl, fun τ S σ H G Q A hp K => ?_⟩
  refine f1 τ S σ H _ _ A hp fun vs H1 xs S1 hl q1 A1 => ?_
  rw [List.append_nil]
  split at q1
  · next ts hts =>
    obtain ⟨w, A1⟩ := A1
    split at q1
    · next hf =>
      obtain ⟨nl, q1⟩ := q1
      refine ⟨ts, _, _, hl.trans (args_len hts), A1.preInF hl hts nl, q1, fun r ts' g v H' w' P => ?_⟩
      exact K v H' _ _ g.2 ⟨_, A1.postF g.1 P⟩
    · next hf =>
      obtain ⟨nd, q1⟩ := q1
      refine ⟨ts, _, _, hl.trans (args_len hts), A1.preIn hl hts (by simpa using hf) nd, q1, fun r ts' g v H' w' P => ?_⟩
      exact K v H' _ _ g.2 ⟨_, A1.post hl nd (fun i j e => args_slot hts e) g.1 P⟩
  · exact q1.elim

/-! ### a def's body -/
/-- what stands in the arguments at the end -/
def post (prot : List Bool) (ts : List T) (S : Sl) : List (Option T) := (List.range ts.length).map fun j => match ts[j]? with
  | some (T.p d) => some (T.p d)
  | _ => if prot[j]? = some true then (S[j]?).join else none
def start (n : Nat) (ts : List T) : Sl := ts.map some ++ List.replicate (n - ts.length) none
/-- what a body must reach so that the def keeps k -/
def endsOf (prot : List Bool) (ts : List T) (k : T → List (Option T) → Prop) : PEnds where
  nx := fun S => k (.p .none) (post prot ts S)
  rt := fun x S => ∃ t, x = .v t ∧ k t (post prot ts S)
def gRet (prot : List Bool) (ts : List T) : Lab → Option Lab
  | (.t 0, m) => some (.r, m)
  | (.s j, m) => if prot[j]? = some true then (match ts[j]? with
    | some (.p _) => none
    | some _ => some (.s j, m)
    | none => none) else none
  | (.x, m) => some (.x, m)
  | _ => none
theorem post_get {prot : List Bool} {ts : List T} {S : Sl} {j : Nat} (h : j < ts.length) : (post prot ts S)[j]? = some (match ts[j]? with
  | some (T.p d) => some (T.p d)
  | _ => if prot[j]? = some true then (S[j]?).join else none) := by
  unfold post
  rw [List.getElem?_map, List.getElem?_range h]
  rfl
end
section
variable {K : PySem.W.Frag} {C : PCx} {w w'' : Own} {σ : St} {S : Sl} {H H' : Hp}
theorem postOf {vs : List V} {ts : List T} {r : T} {v : V} {σ' : St} (hl : vs.length = ts.length) (P : Pre K H w vs ts) (hC : C = ⟨H, fun b => ∃ l, w b = some l ∧ l.1 ≠ .x, fun b => ∃ m, w b = some (.x, m), vs, C.prot, C.mu⟩)
    (A : Abs0 K C w'' σ' ([] ++ [(v, .v r)]) S H') : Post K H w vs (post C.prot ts S) r v H' (fun b => (w'' b).bind (gRet C.prot ts)) := by
  have h0 : C.H0 = H := by rw [hC]
  have hA : C.A0 = fun b => ∃ l, w b = some l ∧ l.1 ≠ .x := by rw [hC]
  have hF : C.F0 = fun b => ∃ m, w b = some (.x, m) := by rw [hC]
  have hv0 : C.vs0 = vs := by rw [hC]
  have e : ∀ b o, H' b = some o → H' b = some o := fun _ _ h => h
  have na : ∀ b, (w b = none ∨ ∃ m, w b = some (.x, m)) → ¬ C.A0 b := fun b h z => by
    rw [hA] at z
    obtain ⟨l, h1, h2⟩ := z
    rcases h with h | ⟨m, h⟩
    · rw [h] at h1; cases h1
    · rw [h] at h1; cases h1; exact h2 rfl
  have fr : ∀ b o, (w b = none ∨ ∃ m, w b = some (.x, m)) → H b = some o → H' b = some o := fun b o h1 h2 => A.ow.fr b o (na b h1) (by rw [h0]; exact h2)
  -- frozen at the entry: frozen at the end
  have me : Evl.Ex (msk H w) (msk H' fun b => (w'' b).bind (gRet C.prot ts)) := msk_mono fun b o h1 h2 => by
    refine ⟨?_, fr b o (.inl h1) h2⟩
    cases q : w'' b with
    | none => rfl
    | some l =>
      exfalso
      rcases A.ow.in0 b l q with z | z | z
      · obtain ⟨l1, l2⟩ := l
        cases z
        have := A.ow.fx b _ q
        rw [hF] at this
        obtain ⟨m, hm⟩ := this
        rw [h1] at hm; cases hm
      · exact na b (.inl h1) z
      · rw [h0, h2] at z; cases z
  refine ⟨by unfold post; rw [List.length_map, List.length_range, hl], fr, fun b m h => ?_, fun b l h => ?_, fun b l h => ?_, fun b j m h => ?_, ?_, fun j u t hu ht => ?_⟩
  · obtain ⟨m', h'⟩ := A.ow.fo b (by rw [hF]; exact ⟨m, h⟩)
    exact ⟨m', by show (w'' b).bind _ = _; rw [h']; rfl⟩
  · obtain ⟨l', h1, h2⟩ := Option.bind_eq_some_iff.mp h
    rcases A.ow.in0 b l' h1 with z | z | z
    · obtain ⟨l1, l2⟩ := l'
      cases z
      cases h2; exact .inl rfl
    · rw [hA] at z
      obtain ⟨l0, z, _⟩ := z
      right; left
      rw [z]; exact fun q => nomatch q
    · rw [h0] at z; exact .inr (.inr z)
  · obtain ⟨l', h1, _⟩ := Option.bind_eq_some_iff.mp h
    exact A.ow.dom b l' h1
  · obtain ⟨l', h1, h2⟩ := Option.bind_eq_some_iff.mp h
    match l', h1, h2 with
    | (.t 0, m'), _, h2 => cases h2
    | (.t (k + 1), m'), _, h2 => cases h2
    | (.x, m'), _, h2 => cases h2
    | (.r, m'), _, h2 => cases h2
    | (.s k, m'), h1, h2 =>
      obtain ⟨t, ht⟩ := A.sz b k m' h1
      unfold gRet at h2
      dsimp only at h2
      split at h2
      · next hp =>
        split at h2
        · cases h2
        · next t0 hnp ht0 =>
          cases h2
          refine ⟨t, ?_⟩
          rw [post_get (List.getElem?_eq_some_iff.mp ht0).1, ht0, if_pos hp, ht]
          split
          · next d hd => cases hd; exact absurd rfl (hnp d)
          · rfl
        · cases h2
      · cases h2
  · exact (A.tm 0 v r rfl).move (msk_re e) (mv_re (fun m => rfl) e)
  · have hj : j < ts.length := by rw [← hl]; exact (List.getElem?_eq_some_iff.mp hu).1
    rw [post_get hj] at ht
    have ht := Option.some.inj ht
    have h1 : ts[j]? = some ts[j] := List.getElem?_eq_getElem hj
    have r0 := P.rp j u _ hu h1
    split at ht
    · next d hd =>
      cases ht
      rw [h1] at hd
      rw [Option.some.inj hd] at r0
      cases r0 with
      | p r0 => exact .p (r0.mono me)
    · next hnp =>
      split at ht
      · next hp =>
        have hs := join_some ht
        obtain ⟨u', hu', r1⟩ := A.sl j t hs
        rw [A.pr j hp, hv0, hu] at hu'
        cases hu'
        refine r1.move (msk_re e) (mv_re (fun m => ?_) e)
        simp only [gRet, hp, if_true]
        split
        · next d hd => exact absurd hd (hnp d)
        · rfl
        · next hn => rw [h1] at hn; cases hn
      · cases ht
/-- THE RULE for a def -/
theorem fn_ok {P : Program} {wd : World} {mg : Str → Option Value} {base : Heap} {x qual : Str} {st : Stmt} {f : Addr} {fd : FuncData} {N ps : List Str} {k : Nat} {sp : FSp} {b : PTS} {prot mu : List Bool} (F : Fun K x qual st f fd) (Sc : FnScope N ps (defScope st))
    (hp : prot.length ≤ ps.length)
    (hbody : ∀ (cdv : Value) (A : Around) (outer : List Env) (s : Shared) (H : Hp) (E : XK) (C : PCx), Room k (A.deeper (envOfC qual (defScope st) s.heap.objs.size f cdv)) → C.prot = prot → C.mu = mu → QSs (cxOf CX0 P wd K mg base N qual (defScope st) f cdv A outer s H E).nox C (defBody st) b)
    (hsp : ∀ ts K, sp ts K → ts.length = ps.length ∧ b (endsOf prot ts K) (start N.length ts)) : FnOk P wd K mg base CX0 (k + 1) f fd ps (lift K sp) := by
  refine F.ok Sc (fun vs H Q E h => ?_) (fun cdv A outer s H vs Q E hr h => ?_)
  · obtain ⟨ts, w, kk, hl, _, q, _⟩ := h
    exact hl.trans (hsp ts kk q).1
  · obtain ⟨ts, w, kk, hl, Pr, q, hQ⟩ := h
    obtain ⟨hts, hb⟩ := hsp ts kk q
    let C : PCx := ⟨H, fun b => ∃ l, w b = some l ∧ l.1 ≠ .x, fun b => ∃ m, w b = some (.x, m), vs, prot, mu⟩
    obtain ⟨tb, h1, f1⟩ := hbody cdv A outer s H E C hr rfl rfl
    have hN : ts.length ≤ N.length := by
      have := congrArg List.length Sc.pre
      rw [List.length_take] at this
      omega
    have lt0 : ∀ {i : Nat} {t : T}, (start N.length ts)[i]? = some (some t) → ts[i]? = some t := fun {i t} h => by
      unfold start at h
      by_cases hi : i < ts.length
      · rw [List.getElem?_append_left (by rw [List.length_map]; exact hi), List.getElem?_map] at h
        obtain ⟨u, h2, h3⟩ := Option.map_eq_some_iff.mp h
        cases h3; exact h2
      · rw [List.getElem?_append_right (by rw [List.length_map]; omega), List.getElem?_replicate] at h
        split at h <;> cases h
    have A0 : Abs0 K C w (L2.start N vs) [] (start N.length ts) H := by
      refine ⟨⟨fun b o _ e => e, fun b l e => ?_, fun b e => e, fun b m e => ⟨m, e⟩, Pr.dom, fun b m e => ?_⟩, ?_, fun i t h => ?_, fun j v t h => by simp at h, fun j v x i h _ => by simp at h, fun b j m h => ?_, fun b i m h => ?_, fun i h => ?_, fun j v i k q h => by simp at h⟩
      · by_cases hx : l.1 = .x
        · exact .inl hx
        · exact .inr (.inl ⟨l, e, hx⟩)
      · rcases Pr.lb b _ e with z | ⟨j, m', t, z, _⟩
        · cases z
        · cases z
      · unfold start L2.start
        rw [List.length_append, List.length_append, List.length_map, List.length_map, List.length_replicate, List.length_replicate, hl]
      · have ht := lt0 h
        have hi : i < vs.length := by rw [hl]; exact (List.getElem?_eq_some_iff.mp ht).1
        refine ⟨vs[i], ?_, Pr.rp i _ t (List.getElem?_eq_getElem hi) ht⟩
        unfold L2.start
        rw [List.getElem?_append_left (by rw [List.length_map]; exact hi), List.getElem?_map, List.getElem?_eq_getElem hi]
        rfl
      · rcases Pr.lb b _ h with z | ⟨j', m', t, z, _⟩
        · cases z
        · cases z
      · rcases Pr.lb b _ h with z | ⟨j', m', t, z, ht⟩
        · cases z
        · cases z
          refine ⟨t, ?_⟩
          unfold start
          rw [List.getElem?_append_left (by rw [List.length_map]; exact (List.getElem?_eq_some_iff.mp ht).1), List.getElem?_map, ht]
          rfl
      · have hi : i < vs.length := by
          rw [hl, hts]
          exact Nat.lt_of_lt_of_le (List.getElem?_eq_some_iff.mp h).1 hp
        show (L2.start N vs)[i]? = vs[i]?.map some
        unfold L2.start
        rw [List.getElem?_append_left (by rw [List.length_map]; exact hi), List.getElem?_map]
    refine ⟨tb, h1, f1 [] _ _ H _ _ (fun x hx => by simp at hx) ⟨w, A0⟩ hb ⟨fun σ S H' A q => ?_, fun _ _ _ _ q => q.elim, fun _ _ _ _ q => q.elim, fun σ v x S H' A q => ?_⟩⟩
    · obtain ⟨w'', A1⟩ := A.push (v := .non) (d := .none) fun w _ => .non
      exact hQ _ _ q .non H' _ (postOf hl Pr rfl A1)
    · obtain ⟨t, rfl, q⟩ := q
      obtain ⟨w'', A1⟩ := A
      exact hQ _ _ q v H' _ (postOf hl Pr rfl A1)
end
end PL

set_option Elab.async false
set_option linter.all false
set_option maxRecDepth 100000
set_option maxHeartbeats 4000000
set_option autoImplicit false
/-! the rules, further: operators by kinds, tests, argument lists, built-ins, statements, loops -/
namespace PL
open PySem L2

section
variable {X : Cx} {C : PCx} {K : PySem.W.Frag} {σ : St} {τ : Tmp} {S : Sl} {H : Hp}

/-! ### lists added, repeated -/
def rCatR (K : PySem.W.Frag) : R2 := fun x y H Q => ∃ l b xs zs, x = .ref l ∧ y = .ref b ∧ SqL K H l xs ∧ SqL K H b zs ∧ xs.length + zs.length ≤ sizeLine ∧ ∀ p, H p = none → Q (.ref p) (upd H p (.lst (xs ++ zs)))
theorem op_catR : OpR X (binaryOp .Add) (rCatR X.K) := by
  intro pins s σ H x y v u Q I rx ry h
  obtain ⟨l, b, xs, zs, rfl, rfl, hH, hB, hz, q⟩ := h
  cases rx
  cases ry
  obtain ⟨its, r, hl, z⟩ := I.list hH
  obtain ⟨its2, r2, hl2, z2⟩ := I.list hB
  obtain ⟨⟨cls, dd, data, sl⟩, n, ho, hc, hd0, hd⟩ := hl
  obtain ⟨⟨cls2, dd2, data2, sl2⟩, n2, ho2, hc2, hd02, hd2⟩ := hl2
  simp only at hc hd hc2 hd2
  subst hc hd hc2 hd2
  have e : its.toArray ++ its2.toArray = (its ++ its2).toArray := by simp
  refine concat_meets ⟨_, ho, rfl⟩ ⟨_, ho2, rfl⟩ noFill_list_add seq_list_add PySem.F.slot_list_add PySem.F.entry_list_add (PySem.F.args_list_add_2 _ _) (PyProof.Rows.list_addW l b its.toArray its2.toArray n n2 dd dd2 sl sl2 (by rw [List.size_toArray, List.size_toArray, ← r.length, ← r2.length]; exact hz)) ⟨ho, ho2, ?_⟩
  rw [e]
  exact ⟨.ref _, _, I.lnew (t' := s.toks) (r.append r2) (by rw [List.length_append]; omega), rfl, q _ I.fresh⟩
theorem op_addA : OpR X (binaryOp .Add) (fun x y H Q => (rI0 fun i j => .int (i + j)) x y H Q ∨ (∃ i j, x = .str i ∧ y = .str j ∧ i.length + j.length ≤ sizeLine ∧ Q (.str (i ++ j)) H) ∨ rCatR X.K x y H Q) := op_add.or (op_add_str.or op_catR)
/-- a new list, of a temporary's own, above temporaries that go -/
theorem Abs0.newL {w : Own} {τm : Tmp} {p : Addr} {xs : List V} {ds : List D} (A : Abs0 K C w σ (τ ++ τm) S H) (hp : H p = none) (h : RdL K (msk H w) xs ds) : Abs K C σ (τ ++ [(.ref p, .v (.ol ds))]) S (upd H p (.lst xs)) :=
  (A.allocO hp (.lst xs) rfl fun w' ex hw => .ol hw upd_same (h.mono ex)).sel
theorem Abs.newL {τm : Tmp} {p : Addr} {xs : List V} {ds : List D} (A : Abs K C σ (τ ++ τm) S H) (hp : H p = none) (h : ∀ w, Abs0 K C w σ (τ ++ τm) S H → RdL K (msk H w) xs ds) : Abs K C σ (τ ++ [(.ref p, .v (.ol ds))]) S (upd H p (.lst xs)) :=
  let ⟨w, A⟩ := A; A.newL hp (h w A)
theorem Abs0.lists2 {w : Own} {v u : V} {x y : R} {t t' : T} {ds es : List D} (A : Abs0 K C w σ (τ ++ [(v, x)] ++ [(u, y)]) S H) (h1 : PL.look S x = some t) (h2 : PL.look S y = some t') (l1 : t.ls = some ds) (l2 : t'.ls = some es) :
    ∃ a b xs zs, v = .ref a ∧ u = .ref b ∧ SqL K H a xs ∧ SqL K H b zs ∧ RdL K (msk H w) xs ds ∧ RdL K (msk H w) zs es := by
  obtain ⟨_, r1⟩ := A.look (j := τ.length) get_mid h1
  obtain ⟨_, r2⟩ := A.look get_snoc_last h2
  obtain ⟨a, xs, rfl, q1, q2⟩ := r1.list l1 msk_le
  obtain ⟨b, zs, rfl, q3, q4⟩ := r2.list l2 msk_le
  exact ⟨a, b, xs, zs, rfl, rfl, q1, q3, q2, q4⟩
theorem binS_add : BinS C K (fun x y H Q => (rI0 fun i j => .int (i + j)) x y H Q ∨ (∃ i j, x = .str i ∧ y = .str j ∧ i.length + j.length ≤ sizeLine ∧ Q (.str (i ++ j)) H) ∨ rCatR K x y H Q) bAdd := by
  intro σ τ S H v x u y t t' G Q A h1 h2 op k
  unfold bAdd at op
  split at op
  · have r2 := A.rd1 h2
    have r1 := A.rd2 h1
    cases r1; cases r2
    exact .inl ⟨_, _, rfl, rfl, k _ H _ op (A.ans2 fun N => .int _)⟩
  · have r2 := A.rd1 h2
    have r1 := A.rd2 h1
    cases r1; cases r2
    exact .inr (.inl ⟨_, _, rfl, rfl, op.1, k _ H _ op.2 (A.ans2 fun N => .str _)⟩)
  · split at op
    · next ds es l1 l2 =>
      obtain ⟨w, A⟩ := A
      obtain ⟨a, b, xs, zs, rfl, rfl, q1, q2, r1, r2⟩ := A.lists2 h1 h2 l1 l2
      refine .inr (.inr ⟨a, b, xs, zs, rfl, rfl, q1, q2, by rw [r1.length, r2.length]; exact op.1, fun p hp => ?_⟩)
      refine k _ _ _ op.2 ?_
      rw [List.append_assoc] at A
      exact A.newL hp (r1.append r2)
    · exact op.elim
def rRepR : R2 := fun x y H Q => ∃ l k xs, x = .ref l ∧ y = .int k ∧ H l = some (.lst xs) ∧ -(2 ^ 63) ≤ k ∧ k < 2 ^ 63 ∧ xs.length * k.toNat ≤ sizeLine ∧ ∀ p, H p = none → Q (.ref p) (upd H p (.lst (List.replicate k.toNat xs).flatten))

/-! ### equality -/
theorem Rd.noDict : ∀ {d : D} {N : Hp} {v : V}, Rd K N v d → True := fun _ => trivial
mutual
/-- data as the library's equality takes it (no dict within) -/
theorem Rd.dp {N : Hp} : ∀ {v : V} {d : D}, Rd K N v d → d.canLay0 = true → Dp K N v d
  | _, _, .non, _ => .non
  | _, _, .bl b, _ => .bl b
  | _, _, .int b, _ => .int b
  | _, _, .str b, _ => .str b
  | _, _, .lst h r, c => .lst h (RdL.dp r (by simpa [PyData.canLay0] using c))
  | _, _, .tup h r, c => .tup h (RdL.dp r (by simpa [PyData.canLay0] using c))
  | _, _, .dct _ _ _, c => by simp [PyData.canLay0] at c
theorem RdL.dp {N : Hp} : ∀ {v : List V} {d : List D}, RdL K N v d → PyData.canLayAll0 d = true → DpAll K N v d
  | _, _, .nil, _ => .nil
  | _, d :: ds, .cons r q, c => by
    have c' : d.canLay0 = true ∧ PyData.canLayAll0 ds = true := by simpa [PyData.canLayAll0] using c
    exact .cons (Rd.dp r c'.1) (RdL.dp q c'.2)
end
theorem Rp.view {N : Hp} {w : Own} {l : Lab} {v : V} {t : T} {d : D} (r : Rp K N H w l v t) (h : t.vw = some d) (hN : Evl.Ex N H) : Rd K H v d := by
  cases r with
  | p r => cases h; exact r.mono hN
  | ol h1 h2 r => cases h; exact .lst (Evl.sq_of h2) (r.mono hN)
  | od => cases h
  | lk => cases h
  | @tup _ _ _ ts q r =>
    cases hf : T.fzL ts with
    | false => replace h : (bif T.fzL ts then some (PyData.tuple (T.datL ts)) else none) = some d := h; rw [hf] at h; cases h
    | true =>
      replace h : (bif T.fzL ts then some (PyData.tuple (T.datL ts)) else none) = some d := h
      rw [hf] at h; cases h
      exact .tup (Evl.ex_t hN q) (r.freeze hN hf fun a m o _ h => h)
  | @oll _ _ _ ts h1 h2 r =>
    cases hf : T.fzL ts with
    | false => replace h : (bif T.fzL ts then some (PyData.list (T.datL ts)) else none) = some d := h; rw [hf] at h; cases h
    | true =>
      replace h : (bif T.fzL ts then some (PyData.list (T.datL ts)) else none) = some d := h
      rw [hf] at h; cases h
      exact .lst (Evl.sq_of h2) (r.freeze hN hf fun a m o _ h => h)
  | ins => cases h
  | exc => cases h
  | exv => cases h
  | ot => cases h
theorem Abs.view2 {v u : V} {x y : R} {t t' : T} {d d' : D} (A : Abs K C σ (τ ++ [(v, x)] ++ [(u, y)]) S H) (h1 : look S x = some t) (h2 : look S y = some t') (l1 : t.vw = some d) (l2 : t'.vw = some d') : Rd K H v d ∧ Rd K H u d' := by
  obtain ⟨w, A⟩ := A
  obtain ⟨_, r1⟩ := A.look (j := τ.length) get_mid h1
  obtain ⟨_, r2⟩ := A.look get_snoc_last h2
  exact ⟨r1.view l1 msk_le, r2.view l2 msk_le⟩
theorem dec_i {i j : Int} : decide (V.int i = V.int j) = decide (i = j) := by
  by_cases e : i = j
  · subst e; simp
  · rw [decide_eq_false e, decide_eq_false (fun z => e (V.int.inj z))]
theorem dec_s {i j : Str} : decide (V.str i = V.str j) = decide (i = j) := by
  by_cases e : i = j
  · subst e; simp
  · rw [decide_eq_false e, decide_eq_false (fun z => e (V.str.inj z))]
theorem dec_b {i j : Bool} : decide (V.bl i = V.bl j) = decide (i = j) := by
  by_cases e : i = j
  · subst e; simp
  · rw [decide_eq_false e, decide_eq_false (fun z => e (V.bl.inj z))]
theorem binS_eq : BinS C K (fun x y H Q => rEq x y H Q ∨ rEqD K x y H Q) cEq := by
  intro σ τ S H v x u y t t' G Q A h1 h2 op k
  unfold cEq cEqB at op
  split at op
  · have r2 := A.rd1 h2
    have r1 := A.rd2 h1
    cases r1; cases r2
    exact .inl ⟨rfl, by rw [dec_i]; exact k _ H _ (by simpa using op) (A.ans2 fun N => .bl _)⟩
  · have r2 := A.rd1 h2
    have r1 := A.rd2 h1
    cases r1; cases r2
    exact .inl ⟨rfl, by rw [dec_s]; exact k _ H _ (by simpa using op) (A.ans2 fun N => .bl _)⟩
  · have r2 := A.rd1 h2
    have r1 := A.rd2 h1
    cases r1; cases r2
    exact .inl ⟨rfl, by rw [dec_b]; exact k _ H _ (by simpa using op) (A.ans2 fun N => .bl _)⟩
  · split at op
    · next d e l1 l2 =>
      obtain ⟨o1, o2, op⟩ := op
      obtain ⟨r1, r2⟩ := A.view2 h1 h2 l1 l2
      refine .inr ⟨d, e, r1.dp (SeqAt.canLay_of_shaped o1), r2.dp (SeqAt.canLay_of_shaped o2), o1, o2, k _ H _ (by simpa using op) (A.ans2 fun N => .bl _)⟩
    · exact op.elim
theorem binS_ne : BinS C K (fun x y H Q => rNe x y H Q ∨ rNeD K x y H Q) cNe := by
  intro σ τ S H v x u y t t' G Q A h1 h2 op k
  unfold cNe cEqB at op
  split at op
  · have r2 := A.rd1 h2
    have r1 := A.rd2 h1
    cases r1; cases r2
    exact .inl ⟨rfl, by rw [dec_i]; exact k _ H _ (by simpa using op) (A.ans2 fun N => .bl _)⟩
  · have r2 := A.rd1 h2
    have r1 := A.rd2 h1
    cases r1; cases r2
    exact .inl ⟨rfl, by rw [dec_s]; exact k _ H _ (by simpa using op) (A.ans2 fun N => .bl _)⟩
  · have r2 := A.rd1 h2
    have r1 := A.rd2 h1
    cases r1; cases r2
    exact .inl ⟨rfl, by rw [dec_b]; exact k _ H _ (by simpa using op) (A.ans2 fun N => .bl _)⟩
  · split at op
    · next d e l1 l2 =>
      obtain ⟨o1, o2, op⟩ := op
      obtain ⟨r1, r2⟩ := A.view2 h1 h2 l1 l2
      refine .inr ⟨d, e, r1.dp (SeqAt.canLay_of_shaped o1), r2.dp (SeqAt.canLay_of_shaped o2), o1, o2, k _ H _ (by simpa using op) (A.ans2 fun N => .bl _)⟩
    · exact op.elim
theorem uniS_neg : UniS C K (rU fun i => .int (-i)) uNeg := by
  intro σ τ S H v x t G Q A h1 op k
  unfold uNeg at op
  split at op
  · have r1 := A.rd1 h1
    cases r1
    exact ⟨_, rfl, k _ H _ op (A.ans1 fun N => .int _)⟩
  · exact op.elim
end

section
variable {X : Cx} {C : PCx} {e a b c : Expr} {es : List Expr} {pa pb pc : PTE} {qa qb : PTT} {ta : PTA} {pos : Pos}
/-! ### operators in short -/
theorem qe_add (ha : QE X C a pa) (hb : QE X C b pb) : QE X C (.BinOp a .Add b pos) (pB bAdd pa pb) := qe_bin op_addA binS_add ha hb
theorem qe_sub (ha : QE X C a pa) (hb : QE X C b pb) : QE X C (.BinOp a .Sub b pos) (pB bSub pa pb) := qe_bin op_sub binS_int0 ha hb
theorem qe_mul (ha : QE X C a pa) (hb : QE X C b pb) : QE X C (.BinOp a .Mult b pos) (pB bMul pa pb) := qe_bin op_mulX binS_int ha hb
theorem qe_div (ha : QE X C a pa) (hb : QE X C b pb) : QE X C (.BinOp a .FloorDiv b pos) (pB bDiv pa pb) := qe_bin op_fdivW binS_int ha hb
theorem qe_mod (ha : QE X C a pa) (hb : QE X C b pb) : QE X C (.BinOp a .Mod b pos) (pB bMod pa pb) := qe_bin op_mod binS_int ha hb
theorem qe_pow (ha : QE X C a pa) (hb : QE X C b pb) : QE X C (.BinOp a .Pow b pos) (pB bPow pa pb) := qe_bin op_pow binS_int ha hb
theorem qe_shl (ha : QE X C a pa) (hb : QE X C b pb) : QE X C (.BinOp a .LShift b pos) (pB bShl pa pb) := qe_bin op_shlW binS_int ha hb
theorem qe_shr (ha : QE X C a pa) (hb : QE X C b pb) : QE X C (.BinOp a .RShift b pos) (pB bShr pa pb) := qe_bin op_shr binS_int ha hb
theorem qe_and (ha : QE X C a pa) (hb : QE X C b pb) : QE X C (.BinOp a .BitAnd b pos) (pB bAnd pa pb) := qe_bin op_and binS_int0 ha hb
theorem qe_or (ha : QE X C a pa) (hb : QE X C b pb) : QE X C (.BinOp a .BitOr b pos) (pB bOr pa pb) := qe_bin op_or binS_int0 ha hb
theorem qe_neg (ha : QE X C a pa) : QE X C (.UnaryOp .USub a pos) (pU uNeg pa) := qe_un un_neg uniS_neg ha
theorem qe_lt (ha : QE X C a pa) (hb : QE X C b pb) : QE X C (.Compare a [.Lt] [b] pos) (pB cLt pa pb) := qe_cmp op_lt binS_intB ha hb (nomark _)
theorem qe_le (ha : QE X C a pa) (hb : QE X C b pb) : QE X C (.Compare a [.LtE] [b] pos) (pB cLe pa pb) := qe_cmp op_le binS_intB ha hb (nomark _)
theorem qe_gt (ha : QE X C a pa) (hb : QE X C b pb) : QE X C (.Compare a [.Gt] [b] pos) (pB cGt pa pb) := qe_cmp op_gt binS_intB ha hb (nomark _)
theorem qe_ge (ha : QE X C a pa) (hb : QE X C b pb) : QE X C (.Compare a [.GtE] [b] pos) (pB cGe pa pb) := qe_cmp op_ge binS_intB ha hb (nomark _)
theorem qe_eq {k : Nat} (hr : Room k X.A) (ha : QE X C a pa) (hb : QE X C b pb) : QE X C (.Compare a [.Eq] [b] pos) (pB cEq pa pb) := qe_cmp (op_eq.or (op_eqD hr.units)) binS_eq ha hb (nomark _)
theorem qe_ne {k : Nat} (hr : Room k X.A) (ha : QE X C a pa) (hb : QE X C b pb) : QE X C (.Compare a [.NotEq] [b] pos) (pB cNe pa pb) := qe_cmp (op_ne.or (op_neD hr.units)) binS_ne ha hb (nomark _)

/-! ### tests -/
theorem Abs.boolOf {K : PySem.W.Frag} {σ : St} {τ : Tmp} {S : Sl} {H : Hp} {v : V} {k : Bool} (A : Abs K C σ (τ ++ [(v, .v (.p (.bool k)))]) S H) : v = .bl k := by
  have := A.rd1 (d := .bool k) rfl
  cases this; rfl
theorem qt_val (ha : QE X C a pa) (he : ∀ whole, isTrue a X.env whole = (do let v ← whole; standAt a.pos; holding [v] (truthy v)) := by intro _; rfl) : QT X C a (qV pa) := by
  obtain ⟨ta, h1, f1⟩ := ha
  refine ⟨_, pt_val h1 he, fun τ S σ H G Q A hp k => ?_⟩
  refine f1 τ S σ H _ _ A hp fun v H1 x S1 q1 A1 => ?_
  try dsimp only at q1
  split at q1
  · next b =>
    exact ⟨b, A1.boolOf, k b H1 S1 q1 A1.pop⟩
  · exact q1.elim
/-- a comparison as a test -/
theorem qt_cmp {op : CmpOp} {r : R2} {o : BOp} (ho : OpR X (compareOp op) r) (hs : BinS C X.K r o) (ha : QE X C a pa) (hb : QE X C b pb) (hm : behindInMarks op b = false) : QT X C (.Compare a [op] [b] pos) (qV (pB o pa pb)) := by
  obtain ⟨ta, h1, f1⟩ := ha
  obtain ⟨tb, h2, f2⟩ := hb
  refine ⟨_, pt_cmpR ho h1 h2 hm, fun τ S σ H G Q A hp k => ?_⟩
  refine f1 τ S σ H _ _ A hp fun v H1 x S1 q1 A1 => ?_
  refine f2 _ S1 σ H1 _ _ A1 q1 fun u H2 y S2 q2 A2 => ?_
  obtain ⟨t, ht, q2⟩ := on1_iff q2
  obtain ⟨t', ht', q2⟩ := on1_iff q2
  refine hs _ _ _ _ _ _ _ _ _ _ _ _ A2 ht ht' q2 fun v' H' z g A' => ?_
  try dsimp only at g
  split at g
  · next b =>
    exact ⟨b, A'.boolOf, k b H' S2 g A'.pop⟩
  · exact g.elim
theorem qt_lt (ha : QE X C a pa) (hb : QE X C b pb) : QT X C (.Compare a [.Lt] [b] pos) (qV (pB cLt pa pb)) := qt_cmp op_lt binS_intB ha hb (nomark _)
theorem qt_le (ha : QE X C a pa) (hb : QE X C b pb) : QT X C (.Compare a [.LtE] [b] pos) (qV (pB cLe pa pb)) := qt_cmp op_le binS_intB ha hb (nomark _)
theorem qt_gt (ha : QE X C a pa) (hb : QE X C b pb) : QT X C (.Compare a [.Gt] [b] pos) (qV (pB cGt pa pb)) := qt_cmp op_gt binS_intB ha hb (nomark _)
theorem qt_ge (ha : QE X C a pa) (hb : QE X C b pb) : QT X C (.Compare a [.GtE] [b] pos) (qV (pB cGe pa pb)) := qt_cmp op_ge binS_intB ha hb (nomark _)
theorem qt_eq {k : Nat} (hr : Room k X.A) (ha : QE X C a pa) (hb : QE X C b pb) : QT X C (.Compare a [.Eq] [b] pos) (qV (pB cEq pa pb)) := qt_cmp (op_eq.or (op_eqD hr.units)) binS_eq ha hb (nomark _)
theorem qt_ne {k : Nat} (hr : Room k X.A) (ha : QE X C a pa) (hb : QE X C b pb) : QT X C (.Compare a [.NotEq] [b] pos) (qV (pB cNe pa pb)) := qt_cmp (op_ne.or (op_neD hr.units)) binS_ne ha hb (nomark _)
theorem qt_not (ha : QT X C a qa) : QT X C (.UnaryOp .Not a pos) (qNot qa) := by
  obtain ⟨ta, h1, f1⟩ := ha
  exact ⟨_, pt_not h1, fun τ S σ H G Q A hp k => f1 τ S σ H _ _ A hp fun b H1 S1 q1 A1 => k _ H1 S1 q1 A1⟩
theorem QW.t (h : QW X C a qa) : QT X C a qa := by
  obtain ⟨t, h1, f1⟩ := h
  exact ⟨t, h1.pt, f1⟩
variable {rest : List Expr}
theorem qw_and1 (ha : QT X C a qa) : QW X C (.BoolOp .And [a] pos) qa := by
  obtain ⟨ta, h1, f1⟩ := ha
  exact ⟨_, pw_and1 h1, f1⟩
theorem qw_or1 (ha : QT X C a qa) : QW X C (.BoolOp .Or [a] pos) qa := by
  obtain ⟨ta, h1, f1⟩ := ha
  exact ⟨_, pw_or1 h1, f1⟩
theorem qw_and (ha : QT X C a qa) (hb : QW X C (.BoolOp .And (b :: rest) pos) qb) : QW X C (.BoolOp .And (a :: b :: rest) pos) (qAnd qa qb) := by
  obtain ⟨ta, h1, f1⟩ := ha
  obtain ⟨tb, h2, f2⟩ := hb
  refine ⟨_, pw_and h1 h2, fun τ S σ H G Q A hp k => ?_⟩
  refine f1 τ S σ H _ _ A hp fun b H1 S1 q1 A1 => ?_
  cases b with
  | true => exact f2 τ S1 σ H1 _ _ A1 (q1.1 rfl) k
  | false => exact k _ H1 S1 (q1.2 rfl) A1
theorem qw_or (ha : QT X C a qa) (hb : QW X C (.BoolOp .Or (b :: rest) pos) qb) : QW X C (.BoolOp .Or (a :: b :: rest) pos) (qOr qa qb) := by
  obtain ⟨ta, h1, f1⟩ := ha
  obtain ⟨tb, h2, f2⟩ := hb
  refine ⟨_, pw_or h1 h2, fun τ S σ H G Q A hp k => ?_⟩
  refine f1 τ S σ H _ _ A hp fun b H1 S1 q1 A1 => ?_
  cases b with
  | false => exact f2 τ S1 σ H1 _ _ A1 (q1.2 rfl) k
  | true => exact k _ H1 S1 (q1.1 rfl) A1
/-- a < b < c, of ints -/
theorem qt_ch {op op' : CmpOp} {f f' : Int → Int → Bool} (ho : OpR X (compareOp op) (rI0 fun i j => .bl (f i j))) (ho' : OpR X (compareOp op') (rI0 fun i j => .bl (f' i j))) (ha : QE X C a pa) (hb : QE X C b pb) (hc : QE X C c pc)
    (hm : lastMarks [op, op'] [b, c] = false := by with_unfolding_all rfl) : QT X C (.Compare a [op, op'] [b, c] pos) (qCh f f' pa pb pc) := by
  obtain ⟨ta, h1, f1⟩ := ha
  obtain ⟨tb, h2, f2⟩ := hb
  obtain ⟨tc, h3, f3⟩ := hc
  refine ⟨_, pt_chain ho ho' h1 h2 h3 hm, fun τ S σ H G Q A hp k => ?_⟩
  refine f1 τ S σ H _ _ A hp fun v H1 x S1 q1 A1 => ?_
  refine f2 _ S1 σ H1 _ _ A1 q1 fun u H2 y S2 q2 A2 => ?_
  try dsimp only at q2
  split at q2
  · next i j =>
    have r2 := A2.rd1 (d := .int j) rfl
    have r1 := A2.rd2 (d := .int i) rfl
    cases r1; cases r2
    refine ⟨i, j, rfl, rfl, _, rfl, ?_⟩
    cases hf : f i j with
    | false =>
      rw [if_neg Bool.false_ne_true]
      replace q2 := q2.2 hf
      rw [List.append_assoc] at A2
      exact ⟨_, rfl, k _ H2 S2 q2 A2.pop⟩
    | true =>
      rw [if_pos rfl]
      replace q2 := q2.1 hf
      refine f3 _ S2 σ H2 _ _ A2 q2 fun z H3 w S3 q3 A3 => ?_
      try dsimp only at q3
      split at q3
      · next l =>
        have r3 := A3.rd1 (d := .int l) rfl
        cases r3
        refine ⟨j, l, rfl, rfl, _, rfl, ?_⟩
        rw [List.append_assoc, List.append_assoc] at A3
        exact k _ H3 S3 q3 A3.pop
      · exact q3.elim
  · exact q2.elim
/-- .. as a value -/
theorem qe_ch {op op' : CmpOp} {f f' : Int → Int → Bool} (ho : OpR X (compareOp op) (rI0 fun i j => .bl (f i j))) (ho' : OpR X (compareOp op') (rI0 fun i j => .bl (f' i j))) (ha : QE X C a pa) (hb : QE X C b pb) (hc : QE X C c pc)
    (hm : lastMarks [op, op'] [b, c] = false := by with_unfolding_all rfl) : QE X C (.Compare a [op, op'] [b, c] pos) (pT (qCh f f' pa pb pc)) := by
  obtain ⟨ta, h1, f1⟩ := ha
  obtain ⟨tb, h2, f2⟩ := hb
  obtain ⟨tc, h3, f3⟩ := hc
  refine ⟨_, pe_chain ho ho' h1 h2 h3 hm, fun τ S σ H G Q A hp k => ?_⟩
  refine f1 τ S σ H _ _ A hp fun v H1 x S1 q1 A1 => ?_
  refine f2 _ S1 σ H1 _ _ A1 q1 fun u H2 y S2 q2 A2 => ?_
  try dsimp only at q2
  split at q2
  · next i j =>
    have r2 := A2.rd1 (d := .int j) rfl
    have r1 := A2.rd2 (d := .int i) rfl
    cases r1; cases r2
    refine ⟨i, j, rfl, rfl, _, rfl, ?_⟩
    cases hf : f i j with
    | false =>
      rw [if_neg Bool.false_ne_true]
      replace q2 := q2.2 hf
      exact k _ H2 _ S2 q2 (A2.ans2 fun N => .bl _)
    | true =>
      rw [if_pos rfl]
      replace q2 := q2.1 hf
      refine f3 _ S2 σ H2 _ _ A2 q2 fun z H3 w S3 q3 A3 => ?_
      try dsimp only at q3
      split at q3
      · next l =>
        have r3 := A3.rd1 (d := .int l) rfl
        cases r3
        refine ⟨j, l, rfl, rfl, ?_⟩
        rw [List.append_assoc, List.append_assoc] at A3
        exact k _ H3 _ S3 q3 (A3.pop.push fun w _ => .bl _)
      · exact q3.elim
  · exact q2.elim

/-! ### argument lists and displays -/
theorem qa_nil : QA X C [] aN := ⟨_, pa_nil, fun τ S σ H G Q A hp k => k [] H [] S rfl hp (by simpa using A)⟩
theorem qa_cons (ha : QE X C e pa) (hr : QA X C es ta) (hs : starEach (e :: es) X.env = (false, eval e X.env) :: starEach es X.env := by rfl) : QA X C (e :: es) (aC pa ta) := by
  obtain ⟨t1, h1, f1⟩ := ha
  obtain ⟨t2, h2, f2⟩ := hr
  refine ⟨_, pa_cons h1 h2 hs, fun τ S σ H G Q A hp k => ?_⟩
  refine f1 τ S σ H _ _ A hp fun v H1 x S1 q1 A1 => ?_
  refine f2 _ S1 σ H1 _ _ A1 q1 fun vs H2 xs S2 hl q2 A2 => ?_
  exact k _ H2 (x :: xs) S2 (by simp [hl]) q2 (by simpa [List.append_assoc] using A2)
theorem allP_rd {K : PySem.W.Frag} {C : PCx} {w : Own} {σ : St} {S : Sl} {H : Hp} : ∀ {vs : List V} {xs : List R} {ds : List D} {τ : Tmp}, Abs0 K C w σ (τ ++ vs.zip xs) S H → vs.length = xs.length → allP xs = some ds → RdL K (msk H w) vs ds
  | [], [], ds, τ, A, _, h => by cases h; exact .nil
  | v :: vs, x :: xs, ds, τ, A, hl, h => by
    cases x with
    | v t =>
      cases t with
      | p d =>
        obtain ⟨es, h1, h2⟩ := Option.map_eq_some_iff.mp (show (allP xs).map (d :: ·) = some ds from h)
        subst h2
        have r := A.tm τ.length v (.p d) (by simp)
        cases r with
        | p r =>
          refine .cons r (allP_rd (τ := τ ++ [(v, R.v (.p d))]) (by rw [List.append_assoc]; exact A) (by simpa using hl) h1)
      | ol => cases h
      | od => cases h
      | lk => cases h
      | tup => cases h
      | oll => cases h
      | ins => cases h
      | exc => cases h
      | exv => cases h
      | ot => cases h
    | r i => cases h
    | f i => cases h
    | g i _ _ => cases h
  | [], _ :: _, _, _, _, hl, _ => by cases hl
  | _ :: _, [], _, _, _, hl, _ => by cases hl
theorem qe_tup {x1} (h : QA X C es ta) : QE X C (.Tuple es x1 pos) (pTup ta) := by
  obtain ⟨t1, h1, f1⟩ := h
  refine ⟨_, pe_tup h1, fun τ S σ H G Q A hp k => ?_⟩
  refine f1 τ S σ H _ _ A hp fun vs H1 xs S1 hl q1 A1 => ?_
  try dsimp only at q1
  split at q1
  · next ds hds =>
    have hlen : vs.length = ds.length := by
      obtain ⟨w, A1⟩ := A1
      exact (allP_rd A1 hl hds).length
    refine ⟨by rw [hlen]; exact q1.1, fun p hp' => k _ _ _ _ q1.2 ?_⟩
    refine (A1.alloc hp' (.tup vs) fun w A' hw ex => ?_).sel
    refine .tup (.inl (.inl ?_)) ((allP_rd A' hl hds).mono ex)
    rw [msk_none hw]; exact upd_same
  · exact q1.elim
theorem qe_lst (h : QA X C es ta) : QE X C (.List es pos) (pLst ta) := by
  obtain ⟨t1, h1, f1⟩ := h
  refine ⟨_, pe_lst h1, fun τ S σ H G Q A hp k => ?_⟩
  refine f1 τ S σ H _ _ A hp fun vs H1 xs S1 hl q1 A1 => ?_
  try dsimp only at q1
  split at q1
  · next ds hds =>
    have hlen : vs.length = ds.length := by
      obtain ⟨w, A1⟩ := A1
      exact (allP_rd A1 hl hds).length
    refine ⟨by rw [hlen]; exact q1.1, fun p hp' => k _ _ _ _ q1.2 ?_⟩
    exact A1.newL hp' fun w A' => allP_rd A' hl hds
  · exact q1.elim
/-- a new thing, frozen -/
theorem qe_frz (h : QE X C e pa) : QE X C e (pFz pa) := by
  obtain ⟨t1, h1, f1⟩ := h
  refine ⟨_, h1, fun τ S σ H G Q A hp k => ?_⟩
  refine f1 τ S σ H _ _ A hp fun v H1 x S1 q1 A1 => ?_
  try dsimp only at q1
  split at q1
  · exact k v H1 _ S1 q1.2 (A1.fzTmp q1.1)
  · exact q1.elim
end
end PL

set_option Elab.async false
set_option linter.all false
set_option maxRecDepth 100000
set_option maxHeartbeats 4000000
set_option autoImplicit false
/-! the rules, further: subscripts, built-ins, statements, loops -/
namespace PL
open PySem L2
open PyProof.Rows (tail_any)

section
variable {K : PySem.W.Frag} {C : PCx} {σ : St} {τ : Tmp} {S : Sl} {H : Hp}
/-! ### dicts -/
theorem kV_isK {k k' : Key} : isK k (kD k') = decide (k' = k) := by
  cases k <;> cases k' <;> simp [isK, kD]
theorem valD_map (k : Key) : ∀ kvs : List (Key × D), valD (kvs.map fun q => (kD q.1, q.2)) k = valK kvs k
  | [] => rfl
  | q :: r => by
    have ih := valD_map k r
    unfold valD valK at ih ⊢
    rw [List.map_cons, List.find?_cons, List.find?_cons, kV_isK]
    by_cases h : q.1 = k
    · simp [h]
    · simp only [h, decide_false]
      exact ih
theorem valV_rd {N : Hp} (k : Key) : ∀ {kx : List (Key × V)} {kvs : List (Key × D)}, kx.map (·.1) = kvs.map (·.1) → RdL K N (kx.map (·.2)) (kvs.map (·.2)) →
    (valV kx k = none ∧ valK kvs k = none) ∨ ∃ v d, valV kx k = some v ∧ valK kvs k = some d ∧ Rd K N v d
  | [], [], _, _ => .inl ⟨rfl, rfl⟩
  | [], _ :: _, h, _ => by cases h
  | _ :: _, [], h, _ => by cases h
  | q :: kx, p :: kvs, h, r => by
    rw [List.map_cons, List.map_cons] at h r
    obtain ⟨h1, h2⟩ := List.cons.inj h
    cases r with
    | cons r1 r2 =>
      have ih := valV_rd (N := N) k (kx := kx) (kvs := kvs) h2 r2
      unfold valV valK at ih ⊢
      rw [List.find?_cons, List.find?_cons]
      rw [h1]
      by_cases e : p.1 = k
      · right; exact ⟨_, _, by simp [e], by simp [e], r1⟩
      · simp only [e, decide_false]
        exact ih
theorem put_rd {N : Hp} {k : Key} {v : V} {d : D} (r : Rd K N v d) : ∀ {kx : List (Key × V)} {kvs : List (Key × D)}, kx.map (·.1) = kvs.map (·.1) → RdL K N (kx.map (·.2)) (kvs.map (·.2)) →
    (putK kx k v).map (·.1) = (put kvs k d).map (·.1) ∧ RdL K N ((putK kx k v).map (·.2)) ((put kvs k d).map (·.2)) := by
  intro kx kvs h1 h2
  have hany : (kx.any fun kv => decide (kv.1 = k)) = (kvs.any fun kv => decide (kv.1 = k)) := by
    have e1 : (kx.any fun kv => decide (kv.1 = k)) = (kx.map (·.1)).any fun x => decide (x = k) := by rw [List.any_map]; rfl
    have e2 : (kvs.any fun kv => decide (kv.1 = k)) = (kvs.map (·.1)).any fun x => decide (x = k) := by rw [List.any_map]; rfl
    rw [e1, e2, h1]
  unfold putK put
  rw [hany]
  split
  · refine ⟨?_, ?_⟩
    · rw [List.map_map, List.map_map]
      have e1 : ((fun q : Key × V => q.1) ∘ fun kv : Key × V => if kv.1 = k then (kv.1, v) else kv) = fun q => q.1 := by
        funext q; simp only [Function.comp]; split <;> rfl
      have e2 : ((fun q : Key × D => q.1) ∘ fun kv : Key × D => if kv.1 = k then (kv.1, d) else kv) = fun q => q.1 := by
        funext q; simp only [Function.comp]; split <;> rfl
      rw [e1, e2]; exact h1
    · have go : ∀ {kx : List (Key × V)} {kvs : List (Key × D)}, kx.map (·.1) = kvs.map (·.1) → RdL K N (kx.map (·.2)) (kvs.map (·.2)) →
          RdL K N ((kx.map fun kv => if kv.1 = k then (kv.1, v) else kv).map (·.2)) ((kvs.map fun kv => if kv.1 = k then (kv.1, d) else kv).map (·.2)) := by
        intro kx
        induction kx with
        | nil => intro kvs h _; cases kvs with
          | nil => exact .nil
          | cons _ _ => cases h
        | cons q kx ih => intro kvs h rr; cases kvs with
          | nil => cases h
          | cons p kvs =>
            rw [List.map_cons, List.map_cons] at h rr
            obtain ⟨g1, g2⟩ := List.cons.inj h
            cases rr with
            | cons r1 r2 =>
              rw [List.map_cons, List.map_cons, List.map_cons, List.map_cons]
              refine .cons ?_ (ih g2 r2)
              rw [g1]
              split
              · exact r
              · exact r1
      exact go h1 h2
  · refine ⟨by rw [List.map_append, List.map_append, h1]; rfl, ?_⟩
    rw [List.map_append, List.map_append]
    exact h2.append (.cons r .nil)
theorem unK_rd {N : Hp} {v : V} {d : D} {k : Key} (r : Rd K N v d) (h : unK d = some k) : v = kV k := by
  cases r with
  | int => cases h; rfl
  | str => cases h; rfl
  | non => cases h
  | bl => cases h
  | lst => cases h
  | tup => cases h
  | dct => cases h
/-- what a dict in view holds -/
theorem Rp.dget {N : Hp} {w : Own} {l : Lab} {v : V} {t : T} {k : Key} {o : Option D} (r : Rp K N H w l v t) (h : t.get k = some o) (hN : Evl.Ex N H) : ∃ a ov, v = .ref a ∧ DGet H a (kV k) ov ∧ ((ov = none ∧ o = none) ∨ ∃ u d, ov = some u ∧ o = some d ∧ Rd K N u d) := by
  have fin : ∀ {a : Addr} {kx : List (Key × V)} {kvs : List (Key × D)}, L2.Rd H a (.dK kx) → kx.map (·.1) = kvs.map (·.1) → RdL K N (kx.map (·.2)) (kvs.map (·.2)) → valK kvs k = o →
      ∃ a' ov, V.ref a = .ref a' ∧ DGet H a' (kV k) ov ∧ ((ov = none ∧ o = none) ∨ ∃ u d, ov = some u ∧ o = some d ∧ Rd K N u d) := fun {a kx kvs} q1 q2 q3 q4 => by
    refine ⟨a, valV kx k, rfl, .inl ⟨kx, k, q1, rfl, rfl⟩, ?_⟩
    rcases valV_rd k q2 q3 with ⟨e1, e2⟩ | ⟨u, d, e1, e2, e3⟩
    · exact .inl ⟨e1, by rw [← q4]; exact e2⟩
    · exact .inr ⟨u, d, e1, by rw [← q4]; exact e2, e3⟩
  cases r with
  | p r =>
    cases r with
    | dct h1 h2 h3 =>
      have h' := Option.some.inj (show some (valD _ k) = some o from h)
      rw [valD_map] at h'
      exact fin (Evl.ex_rd hN h1) h2 h3 h'
    | non => cases h
    | bl => cases h
    | int => cases h
    | str => cases h
    | lst => cases h
    | tup => cases h
  | od h1 h2 h3 r => exact fin (.inl h2) h3 r (Option.some.inj h)
  | lk h1 h2 h3 r => exact fin (.inr ⟨_, h2⟩) h3 r (Option.some.inj h)
  | ol => cases h
  | tup => cases h
  | oll => cases h
  | ins => cases h
  | exc => cases h
  | exv => cases h
  | ot => cases h
end

section
variable {X : Cx} {C : PCx} {K : PySem.W.Frag} {σ : St} {τ : Tmp} {S : Sl} {H : Hp}
/-! ### subscripts -/
def rIxD : R2 := fun x y H Q => ∃ a v, x = .ref a ∧ DGet H a y (some v) ∧ Q v H
theorem ix_dict (hu : X.A.units + 1 < cLine) : IxR X rIxD := by
  intro value slice pins s σ H x y v u Q I rx ry h hs
  obtain ⟨a, z, rfl, g, q⟩ := h
  cases rx
  exact tail_any (dict_typeIs I g) slot_dict_getitem.lookup (d_getItem hu I g ry fun w' s' I' r' => ⟨z, H, I', r', q⟩) hs
theorem atI_rd {N : Hp} {xs : List V} {ds : List D} {i : Int} {d : D} (r : RdL K N xs ds) (h : atI ds i = some d) : ∃ v, atI xs i = some v ∧ Rd K N v d := by
  unfold atI at h ⊢
  obtain ⟨j, h1, h2⟩ := Option.bind_eq_some_iff.mp h
  obtain ⟨v, h3, h4⟩ := r.get h2
  exact ⟨v, by rw [r.length, h1]; exact h3, h4⟩
theorem binS_ix : BinS C K (fun x y H Q => rIx K x y H Q ∨ rIxD x y H Q) bIx := by
  intro σ τ S H v x u y t t' G Q A h1 h2 op k
  unfold bIx at op
  split at op
  · next ds i hds =>
    have r2 := A.rd1 h2
    cases r2
    obtain ⟨d, hd, g⟩ := op
    obtain ⟨w, A⟩ := A
    obtain ⟨_, r1⟩ := A.look (j := τ.length) get_mid h1
    obtain ⟨a, xs, rfl, q1, q2⟩ := r1.seq hds msk_le
    obtain ⟨z, hz, rz⟩ := atI_rd q2 hd
    have fin : Q z H := by
      refine k _ H _ g ?_
      have A' := A.push rz
      rw [List.append_assoc τ] at A'
      exact Abs.sel ⟨w, A'⟩
    rcases q1 with q1 | q1
    · exact .inl (.inl ⟨a, xs, i, z, rfl, rfl, q1, hz, fin⟩)
    · exact .inl (.inr (.inl ⟨a, xs, i, z, rfl, rfl, q1, hz, fin⟩))
  · next kk hsq =>
    split at op
    · next z i =>
      have r2 := A.rd1 h2
      have r1 := A.rd2 h1
      cases r1; cases r2
      obtain ⟨o1, c, hc, g⟩ := op
      exact .inl (.inr (.inr ⟨z, i, c, rfl, rfl, o1, hc, k _ H _ g (A.ans2 fun N => .str _)⟩))
    · split at op
      · next key hk =>
        obtain ⟨d, hd, g⟩ := op
        have r2 := A.rd1 h2
        have e2 := unK_rd r2 hk
        subst e2
        obtain ⟨w, A⟩ := A
        obtain ⟨_, r1⟩ := A.look (j := τ.length) get_mid h1
        obtain ⟨a, ov, rfl, q1, q2⟩ := r1.dget hd msk_le
        rcases q2 with ⟨_, q2⟩ | ⟨u, d', rfl, q2, q3⟩
        · cases q2
        · cases q2
          refine .inr ⟨a, u, rfl, q1, k _ H _ g ?_⟩
          have A' := A.push q3
          rw [List.append_assoc τ] at A'
          exact Abs.sel ⟨w, A'⟩
      · exact op.elim
  · exact op.elim
/-! ### built-ins of one and two arguments -/
theorem uniS_len : UniS C K (fun x H Q => (∃ p ys, [x] = [.ref p] ∧ (SqL K H p ys ∨ SqT K H p ys) ∧ Q (.int ys.length) H) ∨ (∃ z, [x] = [.str z] ∧ z.length ≤ sizeLine ∧ Q (.int z.length) H) ∨ (∃ a kvs, [x] = [V.ref a] ∧ H a = some (.dK kvs) ∧ Q (.int kvs.length) H)) uLen := by
  intro σ τ S H v x t G Q A h1 op k
  unfold uLen at op
  split at op
  · next ds hds =>
    obtain ⟨w, A⟩ := A
    obtain ⟨_, r1⟩ := A.look get_snoc_last h1
    obtain ⟨a, xs, rfl, q1, q2⟩ := r1.seq hds msk_le
    refine .inl ⟨a, xs, rfl, q1, ?_⟩
    rw [q2.length]
    exact k _ H _ op (Abs.ans1 ⟨w, A⟩ fun N => .int _)
  · split at op
    · have r1 := A.rd1 h1
      cases r1
      exact .inr (.inl ⟨_, rfl, op.1, k _ H _ op.2 (A.ans1 fun N => .int _)⟩)
    · next kvs =>
      obtain ⟨w, A⟩ := A
      obtain ⟨_, r1⟩ := A.look get_snoc_last h1
      cases r1 with
      | od q1 q2 q3 q4 =>
        refine .inr (.inr ⟨_, _, rfl, q2, ?_⟩)
        have e := congrArg List.length q3
        rw [List.length_map, List.length_map] at e
        rw [e]
        exact k _ H _ op (Abs.ans1 ⟨w, A⟩ fun N => .int _)
    · obtain ⟨w, A⟩ := A
      obtain ⟨_, r1⟩ := A.look get_snoc_last h1
      cases r1 with
      | tup q1 q2 =>
        refine .inl ⟨_, _, rfl, .inr (Evl.ex_t msk_le q1), ?_⟩
        rw [q2.length]
        exact k _ H _ op (Abs.ans1 ⟨w, A⟩ fun N => .int _)
    · obtain ⟨w, A⟩ := A
      obtain ⟨_, r1⟩ := A.look get_snoc_last h1
      cases r1 with
      | oll q0 q1 q2 =>
        refine .inl ⟨_, _, rfl, .inl (Evl.sq_of q1), ?_⟩
        rw [q2.length]
        exact k _ H _ op (Abs.ans1 ⟨w, A⟩ fun N => .int _)
    · exact op.elim
theorem uniS_abs : UniS C K (fun x H Q => ∃ i, [x] = [.int i] ∧ Q (.int (if i < 0 then -i else i)) H) uAbs := by
  intro σ τ S H v x t G Q A h1 op k
  unfold uAbs at op
  split at op
  · have r1 := A.rd1 h1
    cases r1
    exact ⟨_, rfl, k _ H _ op (A.ans1 fun N => .int _)⟩
  · exact op.elim
theorem binS_min : BinS C K (fun x y H Q => ∃ i j, [x, y] = [.int i, .int j] ∧ Q (.int (if j < i then j else i)) H) bMin := by
  intro σ τ S H v x u y t t' G Q A h1 h2 op k
  unfold bMin at op
  split at op
  · have r2 := A.rd1 h2
    have r1 := A.rd2 h1
    cases r1; cases r2
    exact ⟨_, _, rfl, k _ H _ op (A.ans2 fun N => .int _)⟩
  · exact op.elim
theorem binS_max : BinS C K (fun x y H Q => ∃ i j, [x, y] = [.int i, .int j] ∧ Q (.int (if j > i then j else i)) H) bMax := by
  intro σ τ S H v x u y t t' G Q A h1 h2 op k
  unfold bMax at op
  split at op
  · have r2 := A.rd1 h2
    have r1 := A.rd2 h1
    cases r1; cases r2
    exact ⟨_, _, rfl, k _ H _ op (A.ans2 fun N => .int _)⟩
  · exact op.elim
theorem kit_isi : ∀ a ∈ ["NoneType", "bool", "int", "str", "list", "tuple", "dict"], ∀ b ∈ ["int", "bool", "list", "tuple", "str", "dict"], kitB a b = some (isiB a b) := by decide +kernel
theorem Rp.ty {N : Hp} {w : Own} {l : Lab} {v : V} {t : T} {a : String} (r : Rp K N H w l v t) (h : tyN t = some a) (hN : Evl.Ex N H) : TyX K H v (.type a) ∧ a ∈ ["NoneType", "bool", "int", "str", "list", "tuple", "dict"] := by
  have lst : ∀ {p : Addr} {xs : List V}, SqL K H p xs → TyX K H (.ref p) (.type "list") := fun {p xs} q => by
    rcases q with (q | ⟨o, q⟩) | ⟨o, its, n, q, qc, _⟩
    · exact .base (.lst q)
    · exact .base (.frz q)
    · exact .kList q qc
  cases r with
  | p r =>
    cases r with
    | non => cases h; exact ⟨.base .non, by simp⟩
    | bl b => cases h; exact ⟨.base (.bl b), by simp⟩
    | int b => cases h; exact ⟨.base (.int b), by simp⟩
    | str b => cases h; exact ⟨.base (.str b), by simp⟩
    | lst q _ => cases h; exact ⟨lst (Evl.ex_l hN q), by simp⟩
    | tup q _ =>
      cases h
      refine ⟨?_, by simp⟩
      rcases Evl.ex_t hN q with (q | ⟨o, q⟩) | ⟨o, its, n, q, qc, _⟩
      · exact .base (.tup q)
      · exact .fTuple q
      · exact .kTuple q qc
    | dct q _ _ =>
      cases h
      refine ⟨?_, by simp⟩
      rcases Evl.ex_rd hN q with q | ⟨o, q⟩
      · exact .base (.dK q)
      · exact .fDict q
  | ol _ q _ => cases h; exact ⟨lst (Evl.sq_of q), by simp⟩
  | od _ q _ _ => cases h; exact ⟨.base (.dK q), by simp⟩
  | lk _ q _ _ => cases h; exact ⟨.fDict q, by simp⟩
  | tup q _ =>
    cases h
    refine ⟨?_, by simp⟩
    rcases Evl.ex_t hN q with (q | ⟨o, q⟩) | ⟨o, its, n, q, qc, _⟩
    · exact .base (.tup q)
    · exact .fTuple q
    · exact .kTuple q qc
  | oll _ q _ => cases h; exact ⟨lst (Evl.sq_of q), by simp⟩
  | ins => cases h
  | exc => cases h
  | exv => cases h
  | ot => cases h
end

section
variable {X : Cx} {C : PCx} {e a b c : Expr} {es : List Expr} {pa pb pc : PTE} {qa qb : PTT} {ta : PTA} {x : Str} {p pos : Pos} {id : String}
theorem qe_ix (hu : X.A.units + 1 < cLine) (ha : QE X C a pa) (hb : QE X C b pb) (hs : PlainIx b) : QE X C (.Subscript a b pos) (pB bIx pa pb) := by
  obtain ⟨ta, h1, f1⟩ := ha
  obtain ⟨tb, h2, f2⟩ := hb
  refine ⟨_, pe_ix (ix_seq.or (ix_dict hu)) h1 h2 hs, fun τ S σ H G Q A hp k => ?_⟩
  refine f1 τ S σ H _ _ A hp fun v H1 x S1 q1 A1 => ?_
  refine f2 _ S1 σ H1 _ _ A1 q1 fun u H2 y S2 q2 A2 => ?_
  obtain ⟨t, ht, q2⟩ := on1_iff q2
  obtain ⟨t', ht', q2⟩ := on1_iff q2
  exact binS_ix _ _ _ _ _ _ _ _ _ _ _ _ A2 ht ht' q2 fun v' H' z g A' => k v' H' z S2 g A'
/-- f(e), f a built-in function -/
theorem qe_B1 {r : List V → Hp → VK → Prop} {o : UOp} (hc : CallR X (.builtin id) r) (hs : UniS C X.K (fun v => r [v]) o) (hg : Gl X x) (hm : X.mg x = none) (hv : bootBuiltins x = some (.builtin id)) (ha : QE X C e pa)
    (hn : x ≠ "__name__" := by decide) (hdb : (x == ("__debug__" : Str)) = false := by decide) (he : starEach [e] X.env = [(false, eval e X.env)] := by rfl) : QE X C (.Call (.Name x p) [e] [] pos) (pU o pa) := by
  obtain ⟨ta, h1, f1⟩ := ha
  refine ⟨_, pe_callB hc hg hm hv (pa_cons h1 pa_nil he) hn hdb he rfl, fun τ S σ H G Q A hp k => ?_⟩
  refine f1 τ S σ H _ _ A hp fun v H1 x S1 q1 A1 => ?_
  obtain ⟨t, ht, q1⟩ := on1_iff q1
  exact hs _ _ _ _ _ _ _ _ _ A1 ht q1 fun v' H' z g A' => k v' H' z S1 g A'
theorem qe_B2 {r : List V → Hp → VK → Prop} {o : BOp} (hc : CallR X (.builtin id) r) (hs : BinS C X.K (fun v u => r [v, u]) o) (hg : Gl X x) (hm : X.mg x = none) (hv : bootBuiltins x = some (.builtin id)) (ha : QE X C a pa) (hb : QE X C b pb)
    (hn : x ≠ "__name__" := by decide) (hdb : (x == ("__debug__" : Str)) = false := by decide) (he : starEach [a, b] X.env = (false, eval a X.env) :: starEach [b] X.env := by rfl) (he2 : starEach [b] X.env = [(false, eval b X.env)] := by rfl)
    (hpl : (backTo pos (starEach [b] X.env)).any (·.1) = false := by rfl) : QE X C (.Call (.Name x p) [a, b] [] pos) (pB o pa pb) := by
  obtain ⟨ta, h1, f1⟩ := ha
  obtain ⟨tb, h2, f2⟩ := hb
  refine ⟨_, pe_callB hc hg hm hv (pa_cons h1 (pa_cons h2 pa_nil he2) he) hn hdb he hpl, fun τ S σ H G Q A hp k => ?_⟩
  refine f1 τ S σ H _ _ A hp fun v H1 x S1 q1 A1 => ?_
  refine f2 _ S1 σ H1 _ _ A1 q1 fun u H2 y S2 q2 A2 => ?_
  obtain ⟨t, ht, q2⟩ := on1_iff q2
  obtain ⟨t', ht', q2⟩ := on1_iff q2
  exact hs _ _ _ _ _ _ _ _ _ _ _ _ A2 ht ht' q2 fun v' H' z g A' => k v' H' z S2 g A'
/-- T(e), T a built-in class -/
theorem qe_T1 {T' : String} {r : List V → Hp → VK → Prop} {o : UOp} (hc : CallR X (.type T') r) (hs : UniS C X.K (fun v => r [v]) o) (hg : Gl X x) (hm : X.mg x = none) (hv : bootBuiltins x = some (.type T')) (ha : QE X C e pa)
    (hn : x ≠ "__name__" := by decide) (hdb : (x == ("__debug__" : Str)) = false := by decide) (he : starEach [e] X.env = [(false, eval e X.env)] := by rfl) : QE X C (.Call (.Name x p) [e] [] pos) (pU o pa) := by
  obtain ⟨ta, h1, f1⟩ := ha
  refine ⟨_, pe_callTy hc hg hm hv (pa_cons h1 pa_nil he) hn hdb he rfl, fun τ S σ H G Q A hp k => ?_⟩
  refine f1 τ S σ H _ _ A hp fun v H1 x S1 q1 A1 => ?_
  obtain ⟨t, ht, q1⟩ := on1_iff q1
  exact hs _ _ _ _ _ _ _ _ _ A1 ht q1 fun v' H' z g A' => k v' H' z S1 g A'
theorem qe_len (hm : X.mg "len" = none) (ha : QE X C e pa) (hg : Gl X "len" := by rfl) (he : starEach [e] X.env = [(false, eval e X.env)] := by rfl) : QE X C (.Call (.Name "len" p) [e] [] pos) (pU uLen pa) :=
  qe_B1 (call_len_seq.or (call_len_str.or call_lenD)) uniS_len hg hm PySem.boot_len ha (he := he)
theorem qe_abs (hm : X.mg "abs" = none) (ha : QE X C e pa) (hg : Gl X "abs" := by rfl) (he : starEach [e] X.env = [(false, eval e X.env)] := by rfl) : QE X C (.Call (.Name "abs" p) [e] [] pos) (pU uAbs pa) :=
  qe_B1 call_abs uniS_abs hg hm (by decide +kernel) ha (he := he)
theorem qe_min2 (hc : X.calm = true) (hm : X.mg "min" = none) (ha : QE X C a pa) (hb : QE X C b pb) (hg : Gl X "min" := by rfl) (he : starEach [a, b] X.env = (false, eval a X.env) :: starEach [b] X.env := by rfl) (he2 : starEach [b] X.env = [(false, eval b X.env)] := by rfl)
    (hpl : (backTo pos (starEach [b] X.env)).any (·.1) = false := by rfl) : QE X C (.Call (.Name "min" p) [a, b] [] pos) (pB bMin pa pb) :=
  qe_B2 (call_min2 hc) binS_min hg hm (by decide +kernel) ha hb (he := he) (he2 := he2) (hpl := hpl)
theorem qe_max2 (hc : X.calm = true) (hm : X.mg "max" = none) (ha : QE X C a pa) (hb : QE X C b pb) (hg : Gl X "max" := by rfl) (he : starEach [a, b] X.env = (false, eval a X.env) :: starEach [b] X.env := by rfl) (he2 : starEach [b] X.env = [(false, eval b X.env)] := by rfl)
    (hpl : (backTo pos (starEach [b] X.env)).any (·.1) = false := by rfl) : QE X C (.Call (.Name "max" p) [a, b] [] pos) (pB bMax pa pb) :=
  qe_B2 (call_max2 hc) binS_max hg hm (by decide +kernel) ha hb (he := he) (he2 := he2) (hpl := hpl)
/-- isinstance(e, T), T a built-in class by its name -/
theorem qe_isi {T' : String} {n : Str} {pT : Pos} (hm : X.mg "isinstance" = none) (ha : QE X C e pa) (hT : X.mg n = none) (hvT : bootBuiltins n = some (.type T')) (hmem : T' ∈ ["int", "bool", "list", "tuple", "str", "dict"])
    (hg : Gl X "isinstance" := by rfl) (hgT : Gl X n := by rfl) (hn : n ≠ "__name__" := by decide) (hnd : (n == ("__debug__" : Str)) = false := by decide)
    (he : starEach [e, .Name n pT] X.env = (false, eval e X.env) :: starEach [.Name n pT] X.env := by rfl) : QE X C (.Call (.Name "isinstance" p) [e, .Name n pT] [] pos) (pU (uIsi T') pa) := by
  obtain ⟨ta, h1, f1⟩ := ha
  refine ⟨_, pe_callB call_isi hg hm (by decide +kernel) (pa_cons h1 (pa_cons (pe_bltn (v := .ty T') hgT hT hvT rfl hn hnd) pa_nil rfl) he) (by decide) (by decide) he rfl, fun τ S σ H G Q A hp k => ?_⟩
  refine f1 τ S σ H _ _ A hp fun v H1 x S1 q1 A1 => ?_
  obtain ⟨t, ht, q1⟩ := on1_iff q1
  unfold uIsi at q1
  split at q1
  · next a ha =>
    obtain ⟨w, A1⟩ := A1
    obtain ⟨_, r⟩ := A1.look get_snoc_last ht
    obtain ⟨ty, hmem'⟩ := r.ty ha msk_le
    exact ⟨v, .ty T', .type a, .type T', isiB a T', rfl, .ty T', ty, kit_ty (kit_isi a hmem' T' hmem), k _ H1 _ S1 q1 (Abs.ans1 ⟨w, A1⟩ fun N => .bl _)⟩
  · exact q1.elim

/-! ### statements -/
variable {st : Stmt} {sts : List Stmt} {p1 p2 : PTS}
theorem qss_nil : QSs X C [] sNx := ⟨_, pss_nil, fun τ S σ H P D hn A hp L => L.nx σ S H A hp⟩
theorem qss_cons (h1 : QS X C st p1) (h2 : QSs X C sts p2) : QSs X C (st :: sts) (sSeq p1 p2) := by
  obtain ⟨t1, g1, f1⟩ := h1
  obtain ⟨t2, g2, f2⟩ := h2
  refine ⟨_, pss_cons g1 g2, fun τ S σ H P D hn A hp L => ?_⟩
  exact f1 τ S σ H _ _ hn A hp ⟨fun σ' S' H' A' q => f2 τ S' σ' H' P D hn A' q L, L.bk, L.ct, L.rt⟩
theorem qss_cut (h1 : QS X C st p1) (h2 : QSs X C sts p2) : QSs X C (st :: sts) (sCut p1 p2) := by
  obtain ⟨t1, g1, f1⟩ := h1
  obtain ⟨t2, g2, f2⟩ := h2
  refine ⟨_, pss_cons g1 g2, fun τ S σ H P D hn A hp L => ?_⟩
  obtain ⟨W, q1, q2⟩ := hp
  exact f1 τ S σ H _ _ hn A q1 ⟨fun σ' S' H' A' q => f2 τ S' σ' H' P D hn A' (q2 S' q) L, L.bk, L.ct, L.rt⟩
theorem qss_one (h1 : QS X C st p1) : QSs X C [st] p1 := by
  obtain ⟨t1, g1, f1⟩ := h1
  exact ⟨_, pss_one g1, f1⟩
theorem qs_if (hc : QT X C c qa) {s1 s2 : List Stmt} (h1 : QSs X C s1 p1) (h2 : QSs X C s2 p2) : QS X C (.If c s1 s2 pos) (sIf qa p1 p2) := by
  obtain ⟨tc, gc, fc⟩ := hc
  obtain ⟨t1, g1, f1⟩ := h1
  obtain ⟨t2, g2, f2⟩ := h2
  refine ⟨_, ps_if gc g1 g2, fun τ S σ H P D hn A hp L => ?_⟩
  refine fc τ S σ H _ _ A hp fun b H1 S1 q1 A1 => ?_
  cases b with
  | true => exact f1 τ S1 σ H1 P D hn A1 (q1.1 rfl) L
  | false => exact f2 τ S1 σ H1 P D hn A1 (q1.2 rfl) L
theorem qs_ifC (hc : QT X C c qa) {s1 s2 : List Stmt} (h1 : QSs X C s1 p1) (h2 : QSs X C s2 p2) : QS X C (.If c s1 s2 pos) (sIfC qa p1 p2) := by
  obtain ⟨tc, gc, fc⟩ := hc
  obtain ⟨t1, g1, f1⟩ := h1
  obtain ⟨t2, g2, f2⟩ := h2
  refine ⟨_, ps_if gc g1 g2, fun τ S σ H P D hn A hp L => ?_⟩
  obtain ⟨R1, R2, q0, q1, q2⟩ := hp
  refine fc τ S σ H _ _ A q0 fun b H1 S1 q A1 => ?_
  cases b with
  | true => exact f1 τ S1 σ H1 P D hn A1 (q1 S1 (q.1 rfl)) L
  | false => exact f2 τ S1 σ H1 P D hn A1 (q2 S1 (q.2 rfl)) L
theorem qs_ret (he : QE X C e pa) : QS X C (.Return (some e) pos) (sRet pa) := by
  obtain ⟨te, ge, fe⟩ := he
  exact ⟨_, ps_ret ge, fun τ S σ H P D hn A hp L => fe τ S σ H _ _ A hp fun v H1 x S1 q1 A1 => L.rt σ v x S1 H1 A1 q1⟩
theorem qs_drop (he : QE X C e pa) (hs : swapsWith e none pos.line X.env = pure false := by rfl) : QS X C (.Expr e pos) (sDrop pa) := by
  obtain ⟨te, ge, fe⟩ := he
  exact ⟨_, ps_expr ge hs, fun τ S σ H P D hn A hp L => fe τ S σ H _ _ A hp fun v H1 x S1 q1 A1 => L.nx σ S1 H1 A1.pop q1⟩
theorem qs_pass : QS X C (.Pass pos) sNx := ⟨_, ps_pass, fun τ S σ H P D hn A hp L => L.nx σ S H A hp⟩
theorem qs_break : QS X C (.Break pos) sBk := ⟨_, ps_break, fun τ S σ H P D hn A hp L => L.bk σ S H A hp⟩
theorem qs_continue : QS X C (.Continue pos) sCt := ⟨_, ps_continue, fun τ S σ H P D hn A hp L => L.ct σ S H A hp⟩
theorem qs_never : QS X C st sNo := ⟨_, ps_never, fun τ S σ H P D hn A hp L => hp.elim⟩
theorem qs_set {i : Nat} {y : Str} {pos' : Pos} (hN : X.N.Nodup) (hi : X.N[i]? = some y) (hx : Loc X.env.scope y) (hpr : C.prot[i]? ≠ some true) (he : QE X C e pa) (hs : swapsWith e (some (.Name y pos')) pos.line X.env = pure false := by rfl)
    (hf : X.fn y = true ∨ X.env.scope.names.lookup y = some .local := by first | exact .inl rfl | exact .inr rfl | assumption) : QS X C (.Assign [.Name y pos'] e pos) (sSet i pa) := by
  obtain ⟨te, ge, fe⟩ := he
  refine ⟨_, ps_set hN hi hx ge hs hf, fun τ S σ H P D hn A hp L => ?_⟩
  refine fe τ S σ H _ _ A hp fun v H1 x S1 q1 A1 => ?_
  try dsimp only at q1
  split at q1
  · exact L.nx _ _ H1 (A1.toSlot (hn.at _) hpr q1.1) q1.2
  · exact q1.elim
/-! ### targets -/
structure QG (X : Cx) (C : PCx) (tg : Expr) (g : PTG) : Prop where
  ex : ∃ t, PG X tg t ∧ ∀ (τ : Tmp) (S : Sl) (σ : St) (H : Hp) (v : V) (d : D) (k : Sl → Prop) (Q : St → Hp → Prop), NoR τ → Abs X.K C σ (τ ++ [(v, .v (.p d))]) S H → g d S k →
    (∀ σ' S' H', Abs X.K C σ' τ S' H' → k S' → Q σ' H') → t v σ H Q
structure QGs (X : Cx) (C : PCx) (tgs : List Expr) (g : List D → Sl → (Sl → Prop) → Prop) : Prop where
  ex : ∃ t, PGs X tgs t ∧ ∀ (τ : Tmp) (S : Sl) (σ : St) (H : Hp) (vs : List V) (ds : List D) (k : Sl → Prop) (Q : St → Hp → Prop), NoR τ → Abs X.K C σ (τ ++ vs.zip (ds.map fun d => R.v (.p d))) S H → vs.length = ds.length → g ds S k →
    (∀ σ' S' H', Abs X.K C σ' τ S' H' → k S' → Q σ' H') → t vs σ H Q
theorem qg_name {i : Nat} {y : Str} (hN : X.N.Nodup) (hi : X.N[i]? = some y) (hx : Loc X.env.scope y) (hpr : C.prot[i]? ≠ some true) (hf : X.fn y = true ∨ X.env.scope.names.lookup y = some .local := by first | exact .inl rfl | exact .inr rfl | assumption) : QG X C (.Name y pos) (gN i) :=
  ⟨_, pg_name hN hi hx hf, fun τ S σ H v d k Q hn A hp h => h _ _ H (A.toSlot (hn.at _) hpr hp.1) hp.2⟩
def gNilP : List D → Sl → (Sl → Prop) → Prop := fun ds S k => ds = [] ∧ k S
def gConsP (g : PTG) (r : List D → Sl → (Sl → Prop) → Prop) : List D → Sl → (Sl → Prop) → Prop := fun ds S k => match ds with
  | d :: ds => g d S fun S1 => r ds S1 k
  | [] => False
def gTupP (n : Nat) (g : List D → Sl → (Sl → Prop) → Prop) : PTG := fun d S k => match d with
  | .tuple ds => ds.length = n ∧ g ds S k
  | .list ds => ds.length = n ∧ g ds S k
  | _ => False
theorem PG.or {X : Cx} {tg : Expr} {t t' : TG} (h : PG X tg t) (h' : PG X tg t') : PG X tg (fun v σ H Q => t v σ H Q ∨ t' v σ H Q) :=
  ⟨fun pins s σ H v u Q I r q => q.elim (h.run pins s σ H v u Q I r) (h'.run pins s σ H v u Q I r)⟩
theorem qgs_nil : QGs X C [] gNilP := ⟨_, pgs_nil, fun τ S σ H vs ds k Q hn A hl hp h => by
  obtain ⟨rfl, hp⟩ := hp
  cases vs with
  | nil => exact ⟨rfl, h σ S H (by simpa using A) hp⟩
  | cons _ _ => cases hl⟩
/-- the first of the last temporaries to the end -/
theorem Abs.rot {K : PySem.W.Frag} {C : PCx} {σ : St} {τ τ' : Tmp} {S : Sl} {H : Hp} {v : V} {d : D} (A : Abs K C σ (τ ++ (v, .v (.p d)) :: τ') S H) : Abs K C σ (τ ++ (v, .v (.p d)) :: τ' ++ [(v, .v (.p d))]) S H := by
  obtain ⟨w, A⟩ := A
  have r := A.tm τ.length v (.p d) (by simp)
  cases r with
  | p r => exact ⟨w, A.push r⟩
theorem noR_app {τ τ' : Tmp} (h : NoR τ) (h' : NoR τ') : NoR (τ ++ τ') := fun x hx => by
  rcases List.mem_append.mp hx with z | z
  · exact h x z
  · exact h' x z
theorem noR_zip {vs : List V} {ds : List D} : NoR (vs.zip (ds.map fun d => R.v (.p d))) := fun x hx => by
  obtain ⟨y, z⟩ := x
  have := List.of_mem_zip hx
  obtain ⟨d, _, e⟩ := List.mem_map.mp this.2
  subst e; rfl
/-- the first of the frozen temporaries above τ is dropped -/
def gDrop (n : Nat) : Lab → Option Lab
  | (.t j, m) => if j < n then some (.t j, m) else if j = n then none else some (.t (j - 1), m)
  | l => some l
theorem gDrop_ok {n : Nat} : GOk (gDrop n) where
  x := fun m => rfl
  nx := fun l m h => by
    obtain ⟨r, m'⟩ := l
    cases r <;> first | rfl | (exfalso; unfold gDrop at h; dsimp only at h; (repeat' split at h) <;> cases h)
  nr := fun l m h => by
    obtain ⟨r, m'⟩ := l
    cases r <;> first | rfl | (exfalso; unfold gDrop at h; dsimp only at h; (repeat' split at h) <;> cases h)
theorem Abs.drop1 {K : PySem.W.Frag} {C : PCx} {σ : St} {τ τ' : Tmp} {S : Sl} {H : Hp} {y : V × R} (A : Abs K C σ (τ ++ y :: τ') S H) : Abs K C σ (τ ++ τ') S H := by
  obtain ⟨w, A⟩ := A
  have e : ∀ b o, H b = some o → H b = some o := fun _ _ h => h
  have at1 : ∀ {j : Nat} {z : V × R}, (τ ++ τ')[j]? = some z → (j < τ.length ∧ (τ ++ y :: τ')[j]? = some z) ∨ (τ.length ≤ j ∧ (τ ++ y :: τ')[j + 1]? = some z) := fun {j z} h => by
    by_cases hj : j < τ.length
    · rw [List.getElem?_append_left hj] at h
      exact .inl ⟨hj, by rw [List.getElem?_append_left hj]; exact h⟩
    · rw [List.getElem?_append_right (by omega)] at h
      refine .inr ⟨by omega, ?_⟩
      rw [List.getElem?_append_right (by omega), show j + 1 - τ.length = (j - τ.length) + 1 by omega]
      simpa using h
  refine ⟨fun b => (w b).bind (gDrop τ.length), A.ow.re gDrop_ok, A.len, fun i t h => ?_, fun j u t h => ?_, fun j u z i h q => ?_, fun b j m h => ?_, fun b i m h => ?_, A.pr, TgOk.trans A.tg (fun j u i a q h => ?_) (fun j u i a q _ t h _ => ⟨h, rfl, mv_re (fun m => rfl) e⟩) (msk_re e)⟩
  · obtain ⟨u, h1, h2⟩ := A.sl i t h
    exact ⟨u, h1, h2.move (msk_re e) (mv_re (fun m => rfl) e)⟩
  · rcases at1 h with ⟨hj, h⟩ | ⟨hj, h⟩
    · exact (A.tm j u t h).move (msk_re e) (mv_re (fun m => by simp [gDrop, hj]) e)
    · refine (A.tm (j + 1) u t h).move (msk_re e) (mv_re (fun m => ?_) e)
      have h1 : ¬ j + 1 < τ.length := by omega
      have h2 : ¬ j + 1 = τ.length := by omega
      simp [gDrop, h1, h2]
  · rcases at1 h with ⟨hj, h⟩ | ⟨hj, h⟩
    · exact A.tr _ u z i h q
    · exact A.tr _ u z i h q
  · obtain ⟨l', h1, h2⟩ := Option.bind_eq_some_iff.mp h
    match l', h2 with
    | (.t j', m'), h2 =>
      have := A.tl b j' m' h1
      rw [List.length_append, List.length_cons] at this
      rw [List.length_append]
      unfold gDrop at h2
      dsimp only at h2
      split at h2
      · cases h2; omega
      · split at h2
        · cases h2
        · cases h2; omega
  · obtain ⟨l', h1, h2⟩ := Option.bind_eq_some_iff.mp h
    match l', h2 with
    | (.s i', m'), h2 => cases h2; exact A.sz b _ _ h1
    | (.t j', m'), h2 =>
      unfold gDrop at h2
      dsimp only at h2
      split at h2
      · cases h2
      · split at h2 <;> cases h2
  · rcases at1 h with ⟨_, h⟩ | ⟨_, h⟩ <;> exact ⟨_, h⟩
theorem qgs_cons {g : PTG} {r : List D → Sl → (Sl → Prop) → Prop} (h1 : QG X C e g) (h2 : QGs X C es r) (hs : (assignEach (e :: es) X.env).map (·.2) = assign e X.env :: (assignEach es X.env).map (·.2) := by rfl) : QGs X C (e :: es) (gConsP g r) := by
  obtain ⟨t1, g1, f1⟩ := h1
  obtain ⟨t2, g2, f2⟩ := h2
  refine ⟨_, pgs_cons g1 g2 hs, fun τ S σ H vs ds k Q hn A hl hp h => ?_⟩
  cases ds with
  | nil => exact hp.elim
  | cons d ds =>
    cases vs with
    | nil => cases hl
    | cons v vs =>
      refine ⟨v, vs, rfl, ?_⟩
      have A1 : Abs X.K C σ (τ ++ vs.zip (ds.map fun d => R.v (.p d)) ++ [(v, .v (.p d))]) S H := by
        have := Abs.rot (τ' := vs.zip (ds.map fun d => R.v (.p d))) (show Abs X.K C σ (τ ++ (v, R.v (.p d)) :: vs.zip (ds.map fun d => R.v (.p d))) S H from A)
        rw [List.append_assoc, List.cons_append] at this
        rw [List.append_assoc]
        exact this.drop1
      refine f1 _ S σ H v d _ _ (noR_app hn noR_zip) A1 hp fun σ' S' H' A' q => ?_
      exact f2 τ S' σ' H' vs ds k Q hn A' (by simpa using hl) q h
theorem RdL.zip {K : PySem.W.Frag} {C : PCx} {w : Own} {σ : St} {S : Sl} {H : Hp} : ∀ {xs : List V} {ds : List D} {τ : Tmp}, Abs0 K C w σ τ S H → RdL K (msk H w) xs ds → Abs0 K C w σ (τ ++ xs.zip (ds.map fun d => R.v (.p d))) S H
  | _, _, τ, A, .nil => by simpa using A
  | _, _, τ, A, .cons (v := v) (d := d) r t => by
    have := RdL.zip (A.push r) t
    rw [List.append_assoc] at this
    exact this
theorem qg_tup {g : List D → Sl → (Sl → Prop) → Prop} {k n : Nat} (hc : X.calm = true) (h : QGs X C es g) (hn : (assignEach es X.env).length = n := by rfl) (hst : (assignEach es X.env).findIdx? (·.1) = none := by rfl) : QG X C (.Tuple es k pos) (gTupP n g) := by
  obtain ⟨t1, g1, f1⟩ := h
  refine ⟨_, PG.or (pg_tup hc g1 hn hst) (pg_lst hc g1 hn hst), fun τ S σ H v d k Q hnr A hp h => ?_⟩
  unfold gTupP at hp
  split at hp
  · next ds =>
    obtain ⟨hl, hp⟩ := hp
    obtain ⟨w, A⟩ := A
    have r := A.tm τ.length v (.p (.tuple ds)) get_snoc_last
    cases r with
    | p r =>
      cases r with
      | tup q r =>
        refine .inl ⟨_, _, rfl, Evl.ex_t msk_le q, r.length.trans hl, ?_⟩
        have A' : Abs X.K C σ (τ ++ _) S H := Abs.drop1 (τ := τ) (y := _) ⟨w, by
          have := RdL.zip A r
          rw [List.append_assoc] at this
          exact this⟩
        exact f1 τ S σ H _ ds k Q hnr A' r.length hp h
  · next ds =>
    obtain ⟨hl, hp⟩ := hp
    obtain ⟨w, A⟩ := A
    have r := A.tm τ.length v (.p (.list ds)) get_snoc_last
    cases r with
    | p r =>
      cases r with
      | lst q r =>
        refine .inr ⟨_, _, rfl, Evl.ex_l msk_le q, r.length.trans hl, ?_⟩
        have A' : Abs X.K C σ (τ ++ _) S H := Abs.drop1 (τ := τ) (y := _) ⟨w, by
          have := RdL.zip A r
          rw [List.append_assoc] at this
          exact this⟩
        exact f1 τ S σ H _ ds k Q hnr A' r.length hp h
  · exact hp.elim
theorem qs_asg {g : PTG} {tg : Expr} (he : QE X C e pa) (hg : QG X C tg g) (hs : swapsWithSole [tg] e pos.line X.env = pure false := by rfl) (hw : swappedStores [tg] e X.env = pure none := by rfl)
    (h1 : (assignEach [tg] X.env).map (·.2) = [assign tg X.env] := by rfl) : QS X C (.Assign [tg] e pos) (sAsg g pa) := by
  obtain ⟨te, ge, fe⟩ := he
  obtain ⟨tt, gt, ft⟩ := hg
  refine ⟨_, ps_asg ge gt hs hw h1, fun τ S σ H P D hn A hp L => ?_⟩
  refine fe τ S σ H _ _ A hp fun v H1 x S1 q1 A1 => ?_
  try dsimp only at q1
  split at q1
  · exact ft τ S1 σ H1 v _ _ _ hn A1 q1 fun σ' S' H' A' q => L.nx σ' S' H' A' q
  · exact q1.elim

/-! ### while -/
theorem qs_while {s1 : List Stmt} (hp : PassesOwn (model X.prog X.w) X.A X.env X.xe) (hc : QT X C c qa) (h1 : QSs X C s1 p1) : QS X C (.While c s1 [] pos) (sWh qa p1) := by
  obtain ⟨tc, gc, fc⟩ := hc
  obtain ⟨t1, g1, f1⟩ := h1
  refine ⟨_, ps_while hp gc g1, fun τ S σ H P D hn A hp L => ?_⟩
  obtain ⟨W, ⟨m0, w0⟩, turn⟩ := hp
  refine ⟨fun m σ H => ∃ S, Abs X.K C σ τ S H ∧ W m S, ⟨m0, S, A, w0⟩, fun m σ H ⟨S, A, wm⟩ => ?_⟩
  refine fc τ S σ H _ _ A (turn m S wm) fun b H1 S1 q1 A1 => ?_
  cases b with
  | true =>
    refine ⟨fun σ' H' => ∃ m', m' < m ∧ ∃ S, Abs X.K C σ' τ S H' ∧ W m' S, fun _ _ h => h, ?_⟩
    exact f1 τ S1 σ H1 _ _ hn A1 (q1.1 rfl) ⟨fun σ' S' H' A' ⟨m', h1, h2⟩ => ⟨m', h1, S', A', h2⟩, L.nx, fun σ' S' H' A' ⟨m', h1, h2⟩ => ⟨m', h1, S', A', h2⟩, L.rt⟩
  | false => exact L.nx σ S1 H1 A1 (q1.2 rfl)

/-! ### for -/
/-- what is walked gives the data ds, one a turn, while the temporaries ex stand -/
def SeqOk (K : PySem.W.Frag) (C : PCx) (J : It) (ex : Tmp) (ds : List D) : Prop := ∀ τ τ' σ S H, Abs K C σ (τ ++ ex ++ τ') S H →
  (∀ i d, ds[i]? = some d → J.go i H ∧ ∀ x H', J.yld i H x H' → Abs K C σ (τ ++ ex ++ τ' ++ [(x, .v (.p d))]) S H') ∧ J.stop ds.length H
structure QI (X : Cx) (C : PCx) (tg iter : Expr) (w : PTI) : Prop where
  ex : ∃ wi, PI X tg iter wi ∧ ∀ (τ : Tmp) (S : Sl) (σ : St) (H : Hp) (G : List D → Sl → Prop) (Rr : It → Hp → Prop), Abs X.K C σ τ S H → w S G →
    (∀ J H' ex ds S', NoR ex → G ds S' → Abs X.K C σ (τ ++ ex) S' H' → SeqOk X.K C J ex ds → Rr J H') → wi σ H Rr
theorem qs_for {tg iter : Expr} {s1 : List Stmt} {w : PTI} {g : PTG} (hp : PassesOwn (model X.prog X.w) X.A X.env X.xe) (hc : X.calm = true) (hi : QI X C tg iter w) (hg : QG X C tg g) (h1 : QSs X C s1 p1)
    (hs : ∀ x, foldedSetIterable iter X.env x = pure x := by intro _; rfl) : QS X C (.For tg iter s1 [] pos) (sFor w g p1) := by
  obtain ⟨wi, gi, fi⟩ := hi
  obtain ⟨tt, gt, ft⟩ := hg
  obtain ⟨t1, g1, f1⟩ := h1
  refine ⟨_, ps_for hp hc gi gt g1 hs, fun τ S σ H P D hn A hp L => ?_⟩
  refine fi τ S σ H _ _ A hp fun J H1 ex ds S1 hne q1 A1 seq => ?_
  obtain ⟨W, w0, turn, last⟩ := q1
  refine ⟨fun i m σ H => i + m = ds.length ∧ ∃ S, Abs X.K C σ (τ ++ ex) S H ∧ W i S, ⟨ds.length, by simp, S1, A1, w0⟩, fun i m σ H ⟨him, S, A, wi⟩ => ?_⟩
  obtain ⟨sq1, sq2⟩ := seq τ [] σ S H (by rw [List.append_nil]; exact A)
  simp only [List.append_nil] at sq1
  by_cases h : i < ds.length
  · right
    obtain ⟨s1, s2⟩ := sq1 i ds[i] (List.getElem?_eq_getElem h)
    refine ⟨s1, fun σ' H' => ∃ S, Abs X.K C σ' (τ ++ ex) S H' ∧ W (i + 1) S, fun σ' H' h' => ⟨m - 1, by omega, by omega, h'⟩, fun x H' y => ?_⟩
    refine ft (τ ++ ex) S σ H' x ds[i] _ _ (noR_app hn hne) (s2 x H' y) (turn i _ S (List.getElem?_eq_getElem h) wi) fun σ' S' H2 A' q => ?_
    exact f1 (τ ++ ex) S' σ' H2 _ _ (noR_app hn hne) A' q ⟨fun σ' S' H' A' q => ⟨S', A', q⟩, fun σ' S' H' A' q => L.nx σ' S' H' A'.pop q, fun σ' S' H' A' q => ⟨S', A', q⟩, fun σ' v x S' H' A' q => L.rt σ' v x S' H' A'.sel q⟩
  · left
    have e : i = ds.length := by omega
    subst e
    exact ⟨sq2, L.nx σ S H A.pop (last S wi)⟩
theorem seq_rng {K : PySem.W.Frag} {lo hi : Int} : SeqOk K C (Itr lo (hi - lo).toNat) [] (rng lo hi) := fun τ τ' σ S H A => by
  have hl : (rng lo hi).length = (hi - lo).toNat := by unfold rng; rw [List.length_map, List.length_range]
  refine ⟨fun i d h => ?_, by rw [hl]; exact Nat.le_refl _⟩
  have hi' : i < (hi - lo).toNat := by rw [← hl]; exact (List.getElem?_eq_some_iff.mp h).1
  refine ⟨hi', fun x H' y => ?_⟩
  obtain ⟨rfl, rfl⟩ := y
  unfold rng at h
  rw [List.getElem?_map, List.getElem?_range hi'] at h
  cases h
  exact A.push fun w _ => .int _
theorem qi_range1 {tg : Expr} (hm : X.mg "range" = none) (ha : QE X C a pa) (hg : Gl X "range" := by rfl) (hs : starEach [a] X.env = [(false, eval a X.env)] := by rfl) : QI X C tg (.Call (.Name "range" p) [a] [] pos) (iR1 pa) := by
  obtain ⟨ta, h1, f1⟩ := ha
  refine ⟨_, pi_range1 hg hm (pa_cons h1 pa_nil hs) hs, fun τ S σ H G Rr A hp k => ?_⟩
  refine f1 τ S σ H _ _ A hp fun v H1 x S1 q1 A1 => ?_
  try dsimp only at q1
  split at q1
  · next n =>
    have r := A1.rd1 (d := .int n) rfl
    cases r
    refine ⟨n, rfl, q1.1.1, q1.1.2, ?_⟩
    refine k _ H1 [] (rng 0 n) S1 (fun x hx => by simp at hx) q1.2 (by simpa using A1.pop) ?_
    have := seq_rng (K := X.K) (C := C) (lo := 0) (hi := n)
    rwa [Int.sub_zero] at this
  · exact q1.elim
theorem qi_range2 {tg : Expr} (hm : X.mg "range" = none) (ha : QE X C a pa) (hb : QE X C b pb) (hg : Gl X "range" := by rfl) (hs : starEach [a, b] X.env = [(false, eval a X.env), (false, eval b X.env)] := by rfl) (hs2 : starEach [b] X.env = [(false, eval b X.env)] := by rfl) :
    QI X C tg (.Call (.Name "range" p) [a, b] [] pos) (iR2 pa pb) := by
  obtain ⟨ta, h1, f1⟩ := ha
  obtain ⟨tb, h2, f2⟩ := hb
  refine ⟨_, pi_range2 hg hm (pa_cons h1 (pa_cons h2 pa_nil hs2) (by rw [hs, hs2])) hs hs2, fun τ S σ H G Rr A hp k => ?_⟩
  refine f1 τ S σ H _ _ A hp fun v H1 x S1 q1 A1 => ?_
  refine f2 _ S1 σ H1 _ _ A1 q1 fun u H2 y S2 q2 A2 => ?_
  try dsimp only at q2
  split at q2
  · next m n =>
    have r2 := A2.rd1 (d := .int n) rfl
    have r1 := A2.rd2 (d := .int m) rfl
    cases r1; cases r2
    refine ⟨m, n, rfl, q2.1, ?_⟩
    rw [List.append_assoc] at A2
    exact k _ H2 [] (rng m n) S2 (fun x hx => by simp at hx) q2.2 (by simpa using A2.pop) seq_rng
  · exact q2.elim
/-- over a list that stays -/
theorem seq_list {K : PySem.W.Frag} {v : V} {ds : List D} {ad : Addr} (hv : v = .ref ad) : SeqOk K C (Itl K ad) [(v, .v (.p (.list ds)))] ds := fun τ τ' σ S H A => by
  obtain ⟨w, A0⟩ := id A
  have r := A0.tm τ.length v (.p (.list ds)) get_mid
  cases r with
  | p r =>
    cases r with
    | lst q r =>
      cases hv
      have hq : SqL K H ad _ := Evl.ex_l msk_le q
      refine ⟨fun i d h => ?_, _, hq, by rw [r.length]; exact Nat.le_refl _⟩
      obtain ⟨x, hx, rx⟩ := r.get h
      refine ⟨⟨_, x, hq, hx⟩, fun y H' hy => ?_⟩
      obtain ⟨rfl, hy⟩ := hy
      have := hy _ hq
      rw [hx] at this
      cases this
      exact ⟨w, A0.push rx⟩
theorem seq_tup {K : PySem.W.Frag} {v : V} {ds : List D} {ad : Addr} (hv : v = .ref ad) : SeqOk K C (Itt K ad) [(v, .v (.p (.tuple ds)))] ds := fun τ τ' σ S H A => by
  obtain ⟨w, A0⟩ := id A
  have r := A0.tm τ.length v (.p (.tuple ds)) get_mid
  cases r with
  | p r =>
    cases r with
    | tup q r =>
      cases hv
      have hq : SqT K H ad _ := Evl.ex_t msk_le q
      refine ⟨fun i d h => ?_, _, hq, by rw [r.length]; exact Nat.le_refl _⟩
      obtain ⟨x, hx, rx⟩ := r.get h
      refine ⟨⟨_, x, hq, hx⟩, fun y H' hy => ?_⟩
      obtain ⟨rfl, hy⟩ := hy
      have := hy _ hq
      rw [hx] at this
      cases this
      exact ⟨w, A0.push rx⟩
def iLs (e : PTE) : PTI := fun S G => e S fun x S1 => match x with
  | .v t => t.fz = true ∧ (match t.ls with
    | some ds => G ds S1
    | none => False)
  | _ => False
def iTp (e : PTE) : PTI := fun S G => e S fun x S1 => match x with
  | .v (.p (.tuple ds)) => G ds S1
  | _ => False
theorem ls_dat {t : T} {ds : List D} (h : t.ls = some ds) : t.dat = .list ds := by
  cases t with
  | p d => cases d <;> cases h <;> rfl
  | ol => cases h; rfl
  | od => cases h
  | lk => cases h
  | tup => cases h
  | oll => cases h
  | ins => cases h
  | exc => cases h
  | exv => cases h
  | ot => cases h
theorem qi_list {tg : Expr} (ha : QE X C a pa) : QI X C tg a (iLs pa) := by
  obtain ⟨ta, h1, f1⟩ := ha
  refine ⟨_, pi_list h1, fun τ S σ H G Rr A hp k => ?_⟩
  refine f1 τ S σ H _ _ A hp fun v H1 x S1 q1 A1 => ?_
  try dsimp only at q1
  split at q1
  · next t =>
    obtain ⟨hf, q1⟩ := q1
    split at q1
    · next ds hds =>
      have A2 := A1.fzTmp hf
      rw [ls_dat hds] at A2
      obtain ⟨w, A0⟩ := id A2
      have r := A0.tm τ.length v (.p (.list ds)) get_snoc_last
      cases r with
      | p r =>
        cases r with
        | lst q r =>
          exact ⟨_, rfl, ⟨_, Evl.ex_l msk_le q⟩, k _ H1 _ ds S1 (fun x hx => by simp at hx; subst hx; rfl) q1 A2 (seq_list rfl)⟩
    · exact q1.elim
  · exact q1.elim
theorem qi_tup {tg : Expr} (ha : QE X C a pa) : QI X C tg a (iTp pa) := by
  obtain ⟨ta, h1, f1⟩ := ha
  refine ⟨_, pi_tup h1, fun τ S σ H G Rr A hp k => ?_⟩
  refine f1 τ S σ H _ _ A hp fun v H1 x S1 q1 A1 => ?_
  try dsimp only at q1
  split at q1
  · next ds =>
    obtain ⟨w, A0⟩ := id A1
    have r := A0.tm τ.length v (.p (.tuple ds)) get_snoc_last
    cases r with
    | p r =>
      cases r with
      | tup q r =>
        exact ⟨_, rfl, ⟨_, Evl.ex_t msk_le q⟩, k _ H1 _ ds S1 (fun x hx => by simp at hx; subst hx; rfl) q1 A1 (seq_tup rfl)⟩
  · exact q1.elim
end
end PL

set_option Elab.async false
set_option linter.all false
set_option maxRecDepth 100000
set_option maxHeartbeats 4000000
set_option autoImplicit false
/-! the rules, further: stores into lists and dicts, methods of lists, comprehensions -/
namespace PL
open PySem L2
section
variable {X : Cx} {C : PCx} {K : PySem.W.Frag} {σ : St} {τ : Tmp} {S : Sl} {H : Hp}
theorem set_dict (hu : X.A.units + 1 < cLine) : PSet X (fun o i v H Q => ∃ a H4, o = .ref a ∧ DPut H a i v H4 ∧ Q H4) := by
  intro pins s σ H o i v ov iv u Q I ro ri rv h
  obtain ⟨a, H4, rfl, g, q⟩ := h
  cases ro
  exact d_setItem hu I g ri rv fun s' I' => ⟨H4, I', q⟩
theorem PSet.or {t t' : TSet} (h : PSet X t) (h' : PSet X t') : PSet X (fun o i v H Q => t o i v H Q ∨ t' o i v H Q) := by
  intro pins s σ H o i v ov iv u Q I ro ri rv q
  rcases q with q | q
  · exact h pins s σ H o i v ov iv u Q I ro ri rv q
  · exact h' pins s σ H o i v ov iv u Q I ro ri rv q
/-- the list of slot i is changed -/
theorem Abs.setL (A : Abs K C σ τ S H) {i : Nat} {ds ds' : List D} {v : V} (hs : S[i]? = some (some (.ol ds))) (hv : σ[i]? = some (some v)) : ∃ a xs, v = .ref a ∧ H a = some (.lst xs) ∧ xs.length = ds.length ∧
    ∀ xs', (∀ w N, Abs0 K C w σ τ S H → Evl.Ex (msk H w) N → RdL K N xs ds → RdL K N xs' ds') → Abs K C σ τ (S.set i (some (.ol ds'))) (upd H a (.lst xs')) := by
  obtain ⟨w, A⟩ := A
  obtain ⟨u, hu, r⟩ := A.sl i _ hs
  rw [hv] at hu; cases hu
  cases r with
  | ol h1 h2 r =>
    exact ⟨_, _, rfl, h2, r.length, fun xs' h => ⟨w, A.mut (fun _ => rfl) (List.getElem?_eq_some_iff.mp hs).1 h1 rfl (fun N e => .ol h1 upd_same (h w N A e (r.mono e))) hv⟩⟩
theorem Abs.setD (A : Abs K C σ τ S H) {i : Nat} {ds ds' : List (Key × D)} {v : V} (hs : S[i]? = some (some (.od ds))) (hv : σ[i]? = some (some v)) : ∃ a xs, v = .ref a ∧ H a = some (.dK xs) ∧ xs.map (·.1) = ds.map (·.1) ∧
    ∀ xs', (∀ w N, Abs0 K C w σ τ S H → Evl.Ex (msk H w) N → RdL K N (xs.map (·.2)) (ds.map (·.2)) → xs'.map (·.1) = ds'.map (·.1) ∧ RdL K N (xs'.map (·.2)) (ds'.map (·.2))) → Abs K C σ τ (S.set i (some (.od ds'))) (upd H a (.dK xs')) := by
  obtain ⟨w, A⟩ := A
  obtain ⟨u, hu, r⟩ := A.sl i _ hs
  rw [hv] at hu; cases hu
  cases r with
  | od h1 h2 h3 r =>
    exact ⟨_, _, rfl, h2, h3, fun xs' h => ⟨w, A.mut (fun _ => rfl) (List.getElem?_eq_some_iff.mp hs).1 h1 rfl (fun N e => .od h1 upd_same (h w N A e (r.mono e)).1 (h w N A e (r.mono e)).2) hv⟩⟩
end
section
variable {X : Cx} {C : PCx} {e a b c o v : Expr} {es : List Expr} {pa pb pc po pe pv : PTE} {qa qb : PTT} {ta : PTA} {x : Str} {p pos : Pos} {id : String}
theorem qs_setix (hu : X.A.units + 1 < cLine) (hv : QE X C v pv) (ho : QE X C o po) (hi : QE X C e pe)
    (ha : ∀ u, assign (.Subscript o e p) X.env u = (do
      let ov ← holding [u] (eval o X.env)
      let iv ← holding [u, ov] (eval e X.env)
      standAt p
      holding [u, ov, iv] (setItem ov iv u)
      release [u, ov, iv] []) := by intro _; rfl)
    (hs : swapsWithSole [.Subscript o e p] v pos.line X.env = pure false := by rfl) (hw : swappedStores [.Subscript o e p] v X.env = pure none := by rfl)
    (h1 : (assignEach [.Subscript o e p] X.env).map (·.2) = [assign (.Subscript o e p) X.env] := by rfl) : QS X C (.Assign [.Subscript o e p] v pos) (sSetIx po pe pv) := by
  obtain ⟨tv, gv, fv⟩ := hv
  obtain ⟨to, go, fo⟩ := ho
  obtain ⟨ti, gi, fi⟩ := hi
  refine ⟨_, ps_asg gv (pg_sub go gi (PSet.or set_list (set_dict hu)) ha) hs hw h1, fun τ S σ H P D hn A hp L => ?_⟩
  refine fv τ S σ H _ _ A hp fun z H1 x S1 q1 A1 => ?_
  refine fo _ S1 σ H1 _ _ A1 q1 fun u H2 y S2 q2 A2 => ?_
  refine fi _ S2 σ H2 _ _ A2 q2 fun k H3 w S3 q3 A3 => ?_
  try dsimp only at q3
  split at q3
  · next d i kd =>
    have hσ : σ[i]? = some (some u) := by
      obtain ⟨ww, A0⟩ := A3
      exact (A0.tr (τ.length + 1) u (.r i) i (by simp) rfl).1
    have hd : ∀ (w : Own) (N : Hp), Abs0 X.K C w σ (τ ++ [(z, .v (.p d))] ++ [(u, .r i)] ++ [(k, .v (.p kd))]) S3 H3 → Evl.Ex (msk H3 w) N → Rd X.K N z d := fun w N A0 ex => by
      have r := A0.tm τ.length z (.p d) (by simp)
      cases r with
      | p r => exact r.mono ex
    have rk := A3.rd1 (d := kd) rfl
    have fin : ∀ {S' H'}, Abs X.K C σ (τ ++ [(z, .v (.p d))] ++ [(u, .r i)] ++ [(k, .v (.p kd))]) S' H' → P.nx S' → D.nx σ H' := fun A' q => by
      rw [List.append_assoc, List.append_assoc] at A'
      exact L.nx σ _ _ A'.pop q
    split at q3
    · next ds hs' =>
      split at q3
      · next zz =>
        obtain ⟨j, hj, q3⟩ := q3
        cases rk
        obtain ⟨ad, xs, rfl, h1, h2, h3⟩ := A3.setL (ds' := ds.set j d) hs' hσ
        refine .inl ⟨ad, xs, zz, j, rfl, rfl, h1, by rw [h2]; exact hj, fin (h3 _ fun w N A0 ex r => r.set (hd w N A0 ex) j) q3⟩
      · exact q3.elim
    · next kvs hs' =>
      split at q3
      · next key hk =>
        obtain ⟨hl, q3⟩ := q3
        have ek := unK_rd rk hk
        subst ek
        obtain ⟨ad, xs, rfl, h1, h2, h3⟩ := A3.setD (ds' := put kvs key d) hs' hσ
        have hl' : xs.length = kvs.length := by
          have := congrArg List.length h2
          simpa using this
        refine .inr ⟨ad, _, rfl, DPut.k h1 (by rw [hl']; exact hl), fin (h3 _ fun w N A0 ex r => put_rd (hd w N A0 ex) h2 r) q3⟩
      · exact q3.elim
    · exact q3.elim
  · exact q3.elim

/-! ### methods of lists -/
/-- a list's method by its pure word -/
def LstS (C : PCx) (K : PySem.W.Frag) (r : V → List V → Hp → VK → Prop) (op : LOp) : Prop := ∀ σ τ S H (i : Nat) v vs xs ds (G : List D → R → Prop) (Q : VK), Abs K C σ (τ ++ [(v, .r i)] ++ vs.zip xs) S H → vs.length = xs.length → S[i]? = some (some (.ol ds)) → op ds xs G →
  (∀ v' H' ds' z, G ds' z → Abs K C σ (τ ++ [(v', z)]) (S.set i (some (.ol ds'))) H' → Q v' H') → r v vs H Q
theorem Abs.recv {K : PySem.W.Frag} {σ : St} {τ τ' : Tmp} {S : Sl} {H : Hp} {i : Nat} {v : V} (A : Abs K C σ (τ ++ [(v, .r i)] ++ τ') S H) : σ[i]? = some (some v) := by
  obtain ⟨w, A⟩ := A
  exact (A.tr τ.length v (.r i) i (by simp) rfl).1
theorem lstS_append {K : PySem.W.Frag} : LstS C K rAppend lAppend := by
  intro σ τ S H i v vs xs ds G Q A hl hs op k
  unfold lAppend at op
  split at op
  · next d =>
    obtain ⟨u, rfl⟩ : ∃ u, vs = [u] := by
      match vs, hl with
      | [u], _ => exact ⟨u, rfl⟩
    obtain ⟨a, ys, rfl, h1, h2, h3⟩ := A.setL (ds' := ds ++ [d]) hs A.recv
    refine ⟨a, ys, u, rfl, rfl, h1, by rw [h2]; exact op.1, k _ _ _ _ op.2 ?_⟩
    have A' := h3 (ys ++ [u]) fun w N A0 ex r => by
      have r1 := A0.tm (τ.length + 1) u (.p d) (by simp)
      cases r1 with
      | p r1 => exact r.append (.cons (r1.mono ex) .nil)
    rw [List.append_assoc] at A'
    exact A'.pop.push fun w _ => .non
  · exact op.elim
theorem lstS_rev {K : PySem.W.Frag} : LstS C K rReverse lRev := by
  intro σ τ S H i v vs xs ds G Q A hl hs op k
  unfold lRev at op
  split at op
  · have : vs = [] := List.length_eq_zero_iff.mp hl
    subst this
    obtain ⟨a, ys, rfl, h1, h2, h3⟩ := A.setL (ds' := ds.reverse) hs A.recv
    refine ⟨a, ys, rfl, rfl, h1, k _ _ _ _ op ?_⟩
    have A' := h3 ys.reverse fun w N A0 ex r => r.reverse
    rw [List.append_assoc] at A'
    exact A'.pop.push fun w _ => .non
  · exact op.elim
theorem lstS_clear {K : PySem.W.Frag} : LstS C K rClear lClear := by
  intro σ τ S H i v vs xs ds G Q A hl hs op k
  unfold lClear at op
  split at op
  · have : vs = [] := List.length_eq_zero_iff.mp hl
    subst this
    obtain ⟨a, ys, rfl, h1, h2, h3⟩ := A.setL (ds' := []) hs A.recv
    refine ⟨a, ys, rfl, rfl, h1, k _ _ _ _ op ?_⟩
    have A' := h3 [] fun w N A0 ex r => .nil
    rw [List.append_assoc] at A'
    exact A'.pop.push fun w _ => .non
  · exact op.elim
/-- the element first, then the list changed -/
theorem Abs.popped {K : PySem.W.Frag} {σ : St} {τ τ' : Tmp} {S : Sl} {H : Hp} {i : Nat} {ds ds' : List D} {v : V} {d : D} {j : Nat} (A : Abs K C σ (τ ++ τ') S H) (hs : S[i]? = some (some (.ol ds))) (hv : σ[i]? = some (some v)) (hd : ds[j]? = some d) :
    ∃ a xs y, v = .ref a ∧ H a = some (.lst xs) ∧ xs.length = ds.length ∧ xs[j]? = some y ∧ ∀ xs', (∀ N, RdL K N xs ds → RdL K N xs' ds') → Abs K C σ (τ ++ [(y, .v (.p d))]) (S.set i (some (.ol ds'))) (upd H a (.lst xs')) := by
  obtain ⟨w, A⟩ := A
  obtain ⟨u, hu, r⟩ := A.sl i _ hs
  rw [hv] at hu; cases hu
  cases r with
  | ol h1 h2 r =>
    obtain ⟨y, hy, ry⟩ := r.get hd
    refine ⟨_, _, y, rfl, h2, r.length, hy, fun xs' h => ?_⟩
    have A1 := A.push ry
    exact Abs.sel ⟨w, A1.mut (fun _ => rfl) (List.getElem?_eq_some_iff.mp hs).1 h1 rfl (fun N e => .ol h1 upd_same (h N (r.mono e))) hv⟩
def rPopA : V → List V → Hp → VK → Prop := fun x vs H Q => rPop x vs H Q ∨ rPopAt x vs H Q
theorem lstS_pop {K : PySem.W.Frag} : LstS C K rPopA lPop := by
  intro σ τ S H i v vs xs ds G Q A hl hs op k
  unfold lPop at op
  split at op
  · have : vs = [] := List.length_eq_zero_iff.mp hl
    subst this
    obtain ⟨d, hd, g⟩ := op
    have hv := A.recv
    rw [List.append_assoc] at A
    obtain ⟨a, ys, y, rfl, h1, h2, h3, h4⟩ := A.popped (ds' := ds.dropLast) hs hv hd
    exact .inl ⟨a, ys, y, rfl, rfl, h1, by rw [h2]; exact h3, k _ _ _ _ g (h4 _ fun N r => r.dropLast)⟩
  · next ii =>
    obtain ⟨u, rfl⟩ : ∃ u, vs = [u] := by
      match vs, hl with
      | [u], _ => exact ⟨u, rfl⟩
    obtain ⟨kk, d, q1, q2, q3, hd, g⟩ := op
    have hv := A.recv
    have ru : u = .int ii := by
      obtain ⟨w, A0⟩ := A
      have r1 := A0.tm (τ.length + 1) u (.p (.int ii)) (by simp)
      cases r1 with
      | p r1 => cases r1; rfl
    subst ru
    rw [List.append_assoc] at A
    obtain ⟨a, ys, y, rfl, h1, h2, h3, h4⟩ := A.popped (ds' := ds.eraseIdx kk) hs hv hd
    exact .inr ⟨a, ys, ii, kk, y, rfl, rfl, h1, q2, q3, by rw [h2]; exact q1, h3, k _ _ _ _ g (h4 _ fun N r => r.eraseIdx kk)⟩
  · exact op.elim
theorem tyV_lst {K : PySem.W.Frag} {H : Hp} {a : Addr} {xs : List V} (h : H a = some (.lst xs)) : tyV K "list" (.ref a) H := Or.inl ⟨rfl, _, SqL.of h⟩
/-- o.m(..), o a slot's list -/
theorem qe_lm0 {name : Str} {apos cpos : Pos} {r : V → List V → Hp → VK → Prop} {op : LOp} (slot : Slot "list" name id) (hty : typeOf (.builtin id) = pure (.type "method_descriptor")) (hm : MtR X id r) (hs : LstS C X.K r op) (ho : QE X C o po)
    (hbase : attributeBase o name X.env (eval o X.env) = eval o X.env := by rfl) (hline : (apos.endLine == cpos.line) = true := by rfl) : QE X C (.Call (.Attribute o name apos) [] [] cpos) (pMeth op po aN) := by
  obtain ⟨to, go, fo⟩ := ho
  refine ⟨_, pe_bm0 PySem.F.plainAttrs_list slot hty hm go hbase hline, fun τ S σ H G Q A hp k => ?_⟩
  refine fo τ S σ H _ _ A hp fun v H1 y S1 q1 A1 => ?_
  try dsimp only [aN] at q1
  split at q1
  · next i =>
    split at q1
    · next ds hs' =>
      have hσ : σ[i]? = some (some v) := by
        obtain ⟨w, A0⟩ := A1
        exact (A0.tr τ.length v (.r i) i (by simp) rfl).1
      obtain ⟨a, xs, rfl, h1, h2, h3⟩ := A1.setL (ds' := ds) hs' hσ
      exact ⟨tyV_lst h1, hs σ τ S1 H1 i _ [] [] ds _ Q (by simpa using A1) rfl hs' q1 fun v' H' ds' z g A' => k v' H' z _ g A'⟩
    · exact q1.elim
  · exact q1.elim
theorem qe_lm {name : Str} {apos cpos : Pos} {r : V → List V → Hp → VK → Prop} {op : LOp} (slot : Slot "list" name id) (hty : typeOf (.builtin id) = pure (.type "method_descriptor")) (hm : MtR X id r) (hs : LstS C X.K r op) (ho : QE X C o po) (ha : QA X C (e :: es) ta)
    (hbase : attributeBase o name X.env (eval o X.env) = eval o X.env := by rfl)
    (hfew : ((backTo cpos (starEach (e :: es) X.env)).all (fun x => !x.1) && (backToKw cpos (keywordEach [] X.env)).all (fun x => x.1.isSome)
      && decide ((e :: es).length + ([] : List Keyword).length + (if ([] : List Keyword).isEmpty then 0 else 1) < 30)) = true := by rfl)
    (hline : (apos.endLine == cpos.line) = true := by rfl) (hst : starEach (e :: es) X.env = (false, eval e X.env) :: starEach es X.env := by rfl) (hplain : (backTo cpos (starEach es X.env)).any (·.1) = false := by rfl) :
    QE X C (.Call (.Attribute o name apos) (e :: es) [] cpos) (pMeth op po ta) := by
  obtain ⟨to, go, fo⟩ := ho
  obtain ⟨t1, g1, f1⟩ := ha
  refine ⟨_, pe_bm PySem.F.plainAttrs_list slot hty hm go g1 hbase hfew hline hst hplain, fun τ S σ H G Q A hp k => ?_⟩
  refine fo τ S σ H _ _ A hp fun v H1 y S1 q1 A1 => ?_
  try dsimp only at q1
  split at q1
  · next i =>
    split at q1
    · next ds hs' =>
      have hσ : σ[i]? = some (some v) := by
        obtain ⟨w, A0⟩ := A1
        exact (A0.tr τ.length v (.r i) i (by simp) rfl).1
      obtain ⟨a, xs, rfl, h1, h2, h3⟩ := A1.setL (ds' := ds) hs' hσ
      refine ⟨tyV_lst h1, f1 _ S1 σ H1 _ _ A1 q1 fun vs H2 zs S2 hl q2 A2 => ?_⟩
      try dsimp only at q2
      split at q2
      · next ds2 hs2 =>
        exact hs σ τ S2 H2 i _ vs zs ds2 _ Q A2 hl hs2 q2 fun v' H' ds' z g A' => k v' H' z _ g A'
      · exact q2.elim
    · exact q1.elim
  · exact q1.elim
theorem qe_append {apos cpos : Pos} (ho : QE X C o po) (ha : QE X C e pe) (hbase : attributeBase o "append" X.env (eval o X.env) = eval o X.env := by rfl)
    (hfew : ((backTo cpos (starEach [e] X.env)).all (fun x => !x.1) && (backToKw cpos (keywordEach [] X.env)).all (fun x => x.1.isSome)
      && decide (([e] : List Expr).length + ([] : List Keyword).length + (if ([] : List Keyword).isEmpty then 0 else 1) < 30)) = true := by rfl)
    (hline : (apos.endLine == cpos.line) = true := by rfl) (hst : starEach [e] X.env = [(false, eval e X.env)] := by rfl) : QE X C (.Call (.Attribute o "append" apos) [e] [] cpos) (pMeth lAppend po (aC pe aN)) :=
  qe_lm PySem.F.slot_list_append PySem.F.type_list_append mt_append lstS_append ho (qa_cons ha qa_nil hst) hbase hfew hline hst rfl
theorem qe_popAt {apos cpos : Pos} (ho : QE X C o po) (ha : QE X C e pe) (hbase : attributeBase o "pop" X.env (eval o X.env) = eval o X.env := by rfl)
    (hfew : ((backTo cpos (starEach [e] X.env)).all (fun x => !x.1) && (backToKw cpos (keywordEach [] X.env)).all (fun x => x.1.isSome)
      && decide (([e] : List Expr).length + ([] : List Keyword).length + (if ([] : List Keyword).isEmpty then 0 else 1) < 30)) = true := by rfl)
    (hline : (apos.endLine == cpos.line) = true := by rfl) (hst : starEach [e] X.env = [(false, eval e X.env)] := by rfl) : QE X C (.Call (.Attribute o "pop" apos) [e] [] cpos) (pMeth lPop po (aC pe aN)) :=
  qe_lm PySem.F.slot_list_pop PySem.F.type_list_pop (r := rPopA) (MtR.or mt_pop mt_popAt) lstS_pop ho (qa_cons ha qa_nil hst) hbase hfew hline hst rfl
theorem qe_pop {apos cpos : Pos} (ho : QE X C o po) (hbase : attributeBase o "pop" X.env (eval o X.env) = eval o X.env := by rfl) (hline : (apos.endLine == cpos.line) = true := by rfl) : QE X C (.Call (.Attribute o "pop" apos) [] [] cpos) (pMeth lPop po aN) :=
  qe_lm0 PySem.F.slot_list_pop PySem.F.type_list_pop (r := rPopA) (MtR.or mt_pop mt_popAt) lstS_pop ho hbase hline
theorem qe_reverse {apos cpos : Pos} (ho : QE X C o po) (hbase : attributeBase o "reverse" X.env (eval o X.env) = eval o X.env := by rfl) (hline : (apos.endLine == cpos.line) = true := by rfl) : QE X C (.Call (.Attribute o "reverse" apos) [] [] cpos) (pMeth lRev po aN) :=
  qe_lm0 PySem.F.slot_list_reverse PySem.F.type_list_reverse mt_reverse lstS_rev ho hbase hline
theorem qe_clear {apos cpos : Pos} (ho : QE X C o po) (hbase : attributeBase o "clear" X.env (eval o X.env) = eval o X.env := by rfl) (hline : (apos.endLine == cpos.line) = true := by rfl) : QE X C (.Call (.Attribute o "clear" apos) [] [] cpos) (pMeth lClear po aN) :=
  qe_lm0 PySem.F.slot_list_clear PySem.F.type_list_clear mt_clear lstS_clear ho hbase hline
end
end PL

set_option Elab.async false
set_option linter.all false
set_option maxRecDepth 100000
set_option maxHeartbeats 4000000
set_option autoImplicit false
/-! a def with its promise by name; the law's end -/
namespace PL
open PySem L2
abbrev fLt : Int → Int → Bool := fun i j => decide (i < j)
abbrev fLe : Int → Int → Bool := fun i j => decide (i ≤ j)
abbrev fGt : Int → Int → Bool := fun i j => decide (j < i)
abbrev fGe : Int → Int → Bool := fun i j => decide (j ≤ i)
theorem npr {C : PCx} {l : List Bool} {i : Nat} (h : C.prot = l) (n : l[i]? ≠ some true) : C.prot[i]? ≠ some true := by rw [h]; exact n
/-- a def of the module that keeps a promise -/
structure Def (P : Program) (w : World) (K : PySem.W.Frag) (mg : Str → Option Value) (base : Heap) (k : Nat) (x : Str) (ps : List Str) (sp : FSp) : Prop where
  ex : ∃ (fa : Addr) (fd : FuncData), FnOk P w K mg base CX0 k fa fd ps (lift K sp) ∧ mg x = some (.ref fa) ∧ PySem.W.keepIn K (.ref fa) = true ∧ Binds K fd ps []
theorem ismu {C : PCx} {l : List Bool} {i : Nat} (h : C.mu = l) (n : l[i]? = some true) : C.mu[i]? = some true := by rw [h]; exact n
theorem nomu {C : PCx} {l : List Bool} {i : Nat} (h : C.mu = l) (n : l[i]? ≠ some true) : C.mu[i]? ≠ some true := by rw [h]; exact n
theorem qe_callD {X : Cx} {C : PCx} {x : Str} {p pos : Pos} {e : Expr} {es : List Expr} {pa : PTA} {f : FSp} {k : Nat} {ps : List Str} (F : Def X.prog X.w X.K X.mg X.base k x ps f) (hr : Room k X.A) (hg : Gl X x) (ha : QA X C (e :: es) pa)
    (hdb : (x == ("__debug__" : Str)) = false := by decide) (he : starEach (e :: es) X.env = (false, eval e X.env) :: starEach es X.env := by rfl) (hpl : (backTo pos (starEach es X.env)).any (·.1) = false := by rfl) : QE X C (.Call (.Name x p) (e :: es) [] pos) (pCall f pa) := by
  obtain ⟨fa, fd, h1, h2, h3, h4⟩ := F
  exact qe_call h1 hr hg h2 h3 h4 ha hdb he hpl
theorem fun_of {K : PySem.W.Frag} {x qual : PySem.Str} {st : Stmt} {f : Addr} {fd : FuncData} {kws : List (PySem.Str × L2.V)} (F : L2.FunD K x qual (L2.defArgs st) (L2.defBody st) (L2.defScope st) [] kws f fd) : L2.Fun K x qual st f fd := by
  obtain ⟨oc, od, dV, kV, doc, pm, an, cdv, ct, osl, e, l, c, hd, _⟩ := F.ex
  rcases hd with ⟨_, e2⟩ | ⟨e2, _⟩
  · subst e2
    exact ⟨⟨oc, od, kV, doc, pm, an, cdv, ct, osl, e, l, c⟩, F.kp⟩
  · exact absurd rfl e2
/-- where a def stands: what the head's facts tell -/
structure At (K : PySem.W.Frag) (mg : Str → Option Value) (x : Str) (st : Stmt) (ps : List Str) : Prop where
  ex : ∃ (f : Addr) (fd : FuncData), Fun K x x st f fd ∧ mg x = some (.ref f) ∧ Binds K fd ps []
theorem At.mk' {K : PySem.W.Frag} {h : Heap} {mg : Str → Option Value} {fa : List He.Fa} {fn : List He.DefD} (X : K.In h) (G : h.Ns mainGlobals mg) (c : He.SaysD fa fn K) (i j : Nat) {x : Str} {st : Stmt} {ps : List Str}
    (hi : fn[i]? = some ⟨(x, none), x, x, defArgs st, defBody st, defScope st, [], []⟩) (hj : fa[j]? = some (.glo x))
    (b : ∀ (kV doc pm : Value) (an : Option Addr) (cdv ct : Value) (us : List Value), us.length = ps.length → bindArgs (PySem.W.fnOf x x (defArgs st) (defBody st) (defScope st) .none kV doc pm an cdv ct) ⟨us, []⟩ = pure (ps.zip us)) : At K mg x st ps := by
  obtain ⟨fd, F⟩ := c.def_ i (d := ⟨(x, none), x, x, defArgs st, defBody st, defScope st, [], []⟩) hi
  have F' := fun_of F
  exact ⟨_, fd, F', He.glo_ok X G (c.fact j (f := .glo x) hj), F'.binds b⟩
/-- a def keeps its promise -/
theorem At.def {P : Program} {wd : World} {K : PySem.W.Frag} {mg : Str → Option Value} {base : Heap} {x : Str} {st : Stmt} {N ps : List Str} {k : Nat} {sp : FSp} {b : PTS} {prot mu : List Bool} (F : At K mg x st ps) (Sc : FnScope N ps (defScope st))
    (hp : prot.length ≤ ps.length)
    (hbody : ∀ (f : Addr) (cdv : Value) (A : Around) (outer : List Env) (s : Shared) (H : Hp) (E : XK) (C : PCx), Room k (A.deeper (PyProof.Rows.envOfC x (defScope st) s.heap.objs.size f cdv)) → C.prot = prot → C.mu = mu → QSs (cxOf CX0 P wd K mg base N x (defScope st) f cdv A outer s H E).nox C (defBody st) b)
    (hsp : ∀ ts K, sp ts K → ts.length = ps.length ∧ b (endsOf prot ts K) (start N.length ts)) : Def P wd K mg base (k + 1) x ps sp := by
  obtain ⟨f, fd, F, h1, h2⟩ := F
  exact ⟨f, fd, fn_ok F Sc hp (fun cdv A outer s H E C => hbody f cdv A outer s H E C) hsp, h1, F.kp, h2⟩
/-- the law itself: of every list of at most so many ints it hands back True -/
def LawSp (n : Nat) (sp : FSp) : Prop := ∀ ns : List Int, ns.length ≤ n → sp [.p (.list (ns.map PyData.int))] fun r _ => r = .p (.bool true)
theorem lift_law {K : PySem.W.Frag} {n : Nat} {sp : FSp} (h : LawSp n sp) (H : Hp) (a : Addr) (ns : List Int) (hl : ns.length ≤ n) (hS : SqL K H a (ns.map V.int)) : lift K sp [.ref a] H (fun v _ => v = .bl true) fun _ _ _ => False := by
  refine ⟨[.p (.list (ns.map PyData.int))], fun _ => none, _, rfl, ⟨fun j v t hv ht => ?_, fun b l e => (nomatch e), fun b l e => (nomatch e)⟩, h ns hl, fun r ts' q v H' w' P => ?_⟩
  · cases j with
    | zero =>
      cases hv; cases ht
      refine .p (.lst ?_ (RdL.of_ints ns))
      have e : msk H (fun _ => none) = H := rfl
      rw [e]; exact hS
    | succ j => simp at hv
  · subst q
    have r := P.rt
    cases r with
    | p r => cases r; rfl
end PL

set_option Elab.async false
set_option linter.all false
set_option maxRecDepth 100000
set_option maxHeartbeats 4000000
set_option autoImplicit false
/-! comprehensions -/
namespace PL
open PySem L2

section
variable {K : PySem.W.Frag} {C : PCx} {w : Own} {σ : St} {τ : Tmp} {S : Sl} {H H' : Hp}
/-- a temporary's own thing is changed -/
theorem Abs0.mutT (A : Abs0 K C w σ τ S H) {j : Nat} {a : Addr} {o : HO} {t t' : T} (hj : τ[j]? = some (.ref a, .v t)) (ha : w a = some (.t j, [])) (ho : ntup o = true)
    (h : ∀ N, Evl.Ex (msk H w) N → Rp K N (upd H a o) w (.t j, []) (.ref a) t') : Abs0 K C w σ (τ.set j (.ref a, .v t')) S (upd H a o) := by
  have hne : ∀ {b : Addr}, w b = none → b ≠ a := fun {b} e z => by rw [z, ha] at e; cases e
  have me : Evl.Ex (msk H w) (msk (upd H a o) w) := msk_mono fun b u h1 h2 => ⟨h1, (upd_ne (hne h1)).trans h2⟩
  have mv : ∀ l : Lab, l.1 ≠ .t j → Mv H (upd H a o) w w l l := fun l hl b m u e1 e2 => ⟨e1, by
    rw [upd_ne (fun z => by rw [z, ha] at e1; injection e1 with e1; injection e1 with e1 _; exact hl e1.symm)]; exact e2⟩
  have hl : j < τ.length := (List.getElem?_eq_some_iff.mp hj).1
  refine ⟨⟨fun b u h1 h2 => ?_, A.ow.in0, A.ow.fo, A.ow.fx, fun b l q => ?_, A.ow.rl⟩, A.len, fun k u q => ?_, fun k u t'' q => ?_, fun k u y i q z => ?_, fun b k m q => ?_, A.sz, A.pr, TgOk.trans A.tg (fun k u i a q h => ?_) (fun k u i a q _ t h _ => ⟨h, rfl, mv _ fun z => by cases z⟩) me⟩
  · have q := A.ow.fr b u h1 h2
    by_cases hb : b = a
    · subst hb
      rcases A.ow.in0 _ _ ha with z | z | z
      · cases z
      · exact absurd z h1
      · rw [z] at h2; cases h2
    · rw [upd_ne hb]; exact q
  · by_cases hb : b = a
    · subst hb; exact ⟨o, upd_same, ho⟩
    · rw [upd_ne hb]; exact A.ow.dom b l q
  · obtain ⟨x, h1, h2⟩ := A.sl k u q
    exact ⟨x, h1, h2.move me (mv _ fun z => by cases z)⟩
  · by_cases hk : k = j
    · subst hk
      rw [List.getElem?_set_self hl] at q
      cases q
      exact h _ me
    · rw [List.getElem?_set_ne (Ne.symm hk)] at q
      exact (A.tm k u t'' q).move me (mv _ fun z => hk (by cases z; rfl))
  · by_cases hk : k = j
    · subst hk
      rw [List.getElem?_set_self hl] at q
      cases q; cases z
    · rw [List.getElem?_set_ne (Ne.symm hk)] at q
      exact A.tr k u y i q z
  · rw [List.length_set]; exact A.tl b k m q
  · by_cases hk : k = j
    · subst hk
      rw [List.getElem?_set_self hl] at h
      cases h
    · rw [List.getElem?_set_ne (Ne.symm hk)] at h
      exact ⟨k, h⟩
theorem set_mid {α : Type} {l r : List α} {x y : α} : (l ++ [x] ++ r).set l.length y = l ++ [y] ++ r := by
  rw [List.append_assoc, List.set_append_right _ _ (Nat.le_refl _)]
  simp
/-- the list that grows is a temporary of its own -/
theorem Abs.acc {D : Addr} {ds : List PyData} {v : V} {d : PyData} (A : Abs K C σ (τ ++ [(.ref D, .v (.ol ds))] ++ [(v, .v (.p d))]) S H) :
    ∃ xs, H D = some (.lst xs) ∧ xs.length = ds.length ∧ Abs K C σ (τ ++ [(.ref D, .v (.ol (ds ++ [d])))]) S (upd H D (.lst (xs ++ [v]))) := by
  obtain ⟨w, A⟩ := A
  have r := A.tm τ.length (.ref D) (.ol ds) get_mid
  have r1 := A.tm (τ ++ [(V.ref D, R.v (T.ol ds))]).length v (.p d) get_snoc_last
  cases r with
  | ol h1 h2 r =>
    cases r1 with
    | p r1 =>
      refine ⟨_, h2, r.length, ?_⟩
      have A' := A.mutT (j := τ.length) (t' := .ol (ds ++ [d])) get_mid h1 rfl fun N ex => .ol h1 (upd_same (o := .lst _)) ((r.mono ex).append (.cons (r1.mono ex) .nil))
      rw [set_mid] at A'
      exact Abs.pop ⟨w, A'⟩
/-- a slot is forgotten -/
def gFg (i : Nat) : Lab → Option Lab
  | (.s k, m) => if k = i then none else some (.s k, m)
  | l => some l
theorem gFg_ok {k : Nat} : GOk (gFg k) where
  x := fun m => rfl
  nx := fun l m h => by
    obtain ⟨r, m'⟩ := l
    cases r <;> first | rfl | (exfalso; unfold gFg at h; dsimp only at h; (repeat' split at h) <;> cases h)
  nr := fun l m h => by
    obtain ⟨r, m'⟩ := l
    cases r <;> first | rfl | (exfalso; unfold gFg at h; dsimp only at h; (repeat' split at h) <;> cases h)
theorem Abs.wipe1 {i : Nat} (A : Abs K C σ τ S H) (hm : C.mu[i]? ≠ some true) (hp : C.prot[i]? ≠ some true) : Abs K C (σ.set i none) τ (S.set i none) H := by
  obtain ⟨w, A⟩ := A
  have e : ∀ b o, H b = some o → H b = some o := fun _ _ h => h
  refine ⟨fun b => (w b).bind (gFg i), A.ow.re gFg_ok, by rw [List.length_set, List.length_set]; exact A.len, fun k t h => ?_, fun j u t h => ?_, fun j u y k h q => ?_, fun b j m h => ?_, fun b k m h => ?_, fun k h => ?_, TgOk.trans A.tg (fun j u k a q h => ⟨j, h⟩) (fun j u k a q h t ht _ => ?_) (msk_re e)⟩
  · by_cases hk : k = i
    · subst hk
      rw [List.getElem?_set] at h
      simp only [if_true] at h
      split at h <;> cases h
    · rw [List.getElem?_set_ne (Ne.symm hk)] at h
      obtain ⟨u, h1, h2⟩ := A.sl k t h
      exact ⟨u, by rw [List.getElem?_set_ne (Ne.symm hk)]; exact h1, h2.move (msk_re e) (mv_re (fun m => by simp [gFg, hk]) e)⟩
  · exact (A.tm j u t h).move (msk_re e) (mv_re (fun m => rfl) e)
  · obtain ⟨h1, h2⟩ := A.tr j u y k h q
    have hk : k ≠ i := fun z => hm (z ▸ h2)
    exact ⟨by rw [List.getElem?_set_ne (Ne.symm hk)]; exact h1, h2⟩
  · obtain ⟨l', h1, h2⟩ := Option.bind_eq_some_iff.mp h
    match l', h2 with
    | (.t j', m'), h2 => cases h2; exact A.tl b j m h1
    | (.s j', m'), h2 =>
      unfold gFg at h2
      dsimp only at h2
      split at h2 <;> cases h2
  · obtain ⟨l', h1, h2⟩ := Option.bind_eq_some_iff.mp h
    match l', h2 with
    | (.s j', m'), h2 =>
      unfold gFg at h2
      dsimp only at h2
      split at h2
      · cases h2
      · next hne =>
        cases h2
        obtain ⟨t, ht⟩ := A.sz b _ _ h1
        exact ⟨t, by rw [List.getElem?_set_ne (Ne.symm hne)]; exact ht⟩
  · have hk : k ≠ i := fun z => hp (z ▸ h)
    rw [List.getElem?_set_ne (Ne.symm hk)]
    exact A.pr k h
  · have hk : k ≠ i := fun z => hm (z ▸ (A.tg j u k a q h).1)
    rw [List.getElem?_set_ne (Ne.symm hk)] at ht
    exact ⟨ht, by rw [List.getElem?_set_ne (Ne.symm hk)], mv_re (fun m => by simp [gFg, hk]) e⟩
def wipeS (S : Sl) : List Nat → Sl
  | [] => S
  | v :: vs => (wipeS S vs).set v none
structure OwnV (C : PCx) (vs : List Nat) : Prop where
  mu : ∀ v ∈ vs, C.mu[v]? ≠ some true
  pr : ∀ v ∈ vs, C.prot[v]? ≠ some true
theorem Abs.wipe (A : Abs K C σ τ S H) : ∀ {vs : List Nat}, OwnV C vs → Abs K C (L2.wipe σ vs) τ (wipeS S vs) H
  | [], _ => A
  | v :: vs, h => (A.wipe (vs := vs) ⟨fun x hx => h.mu x (List.mem_cons_of_mem _ hx), fun x hx => h.pr x (List.mem_cons_of_mem _ hx)⟩).wipe1 (h.mu v List.mem_cons_self) (h.pr v List.mem_cons_self)
theorem wipe_get {σ : St} {i : Nat} : ∀ {vs : List Nat}, i ∉ vs → (L2.wipe σ vs)[i]? = σ[i]?
  | [], _ => rfl
  | v :: vs, h => by
    unfold L2.wipe
    rw [List.getElem?_set_ne (fun e => h (by rw [← e]; exact List.mem_cons_self))]
    exact wipe_get fun z => h (List.mem_cons_of_mem _ z)
theorem Abs.unwipe {vs : List Nat} (A : Abs K C (L2.wipe σ vs) τ S H) (h : OwnV C vs) : Abs K C σ τ S H := by
  obtain ⟨w, A⟩ := A
  refine ⟨w, A.ow, by rw [A.len, wipe_length], fun i t q => ?_, A.tm, fun j v x i q z => ?_, A.tl, A.sz, fun i q => ?_, TgOk.trans A.tg (fun j u k a q h => ⟨j, h⟩) (fun j u k a q hq t ht _ => ⟨ht, ?_, mv_same (fun _ _ _ => rfl) fun _ _ _ _ e => e⟩) (fun _ _ e => e)⟩
  · obtain ⟨v, h1, h2⟩ := A.sl i t q
    exact ⟨v, (wipe_some h1).1, h2⟩
  · obtain ⟨h1, h2⟩ := A.tr j v x i q z
    exact ⟨(wipe_some h1).1, h2⟩
  · rw [← A.pr i q, wipe_get fun z => h.pr i z q]
  · rw [wipe_get fun z => h.mu k z (A.tg j u k a q hq).1]
theorem wipe_set {σ : St} {v : Option V} {i : Nat} : ∀ {vs : List Nat}, i ∈ vs → L2.wipe (σ.set i v) vs = L2.wipe σ vs
  | u :: vs, h => by
    unfold L2.wipe
    by_cases e : i ∈ vs
    · rw [wipe_set e]
    · rcases List.mem_cons.mp h with rfl | h
      · have : ∀ {vs : List Nat}, i ∉ vs → L2.wipe (σ.set i v) vs = (L2.wipe σ vs).set i v := fun {vs} => by
          induction vs with
          | nil => intro _; rfl
          | cons x xs ih =>
            intro hn
            unfold L2.wipe
            rw [ih fun z => hn (List.mem_cons_of_mem _ z), List.set_comm _ _ (fun z => hn (by rw [← z]; exact List.mem_cons_self))]
        rw [this e, List.set_set]
      · exact absurd h e
theorem wipe_idem {σ : St} : ∀ {vs : List Nat}, L2.wipe (L2.wipe σ vs) vs = L2.wipe σ vs := fun {vs} => by
  apply List.ext_getElem?
  intro i
  by_cases h : i ∈ vs
  · have : ∀ {σ : St} {us : List Nat}, i ∈ us → (L2.wipe σ us)[i]? = if i < σ.length then some none else none := fun {σ us} => by
      induction us with
      | nil => intro h; cases h
      | cons x xs ih =>
        intro h
        unfold L2.wipe
        rw [List.getElem?_set]
        by_cases e : x = i
        · subst e; simp [wipe_length]
        · rw [if_neg e]
          exact ih (List.mem_of_ne_of_mem (Ne.symm e) h)
    rw [this h, this h, wipe_length]
  · rw [wipe_get h]
end

/-! ### targets within a block -/
structure QGb (X : Cx) (C : PCx) (tg : Expr) (vs : List Nat) (g : PTG) : Prop where
  ex : ∃ t, PG X tg t ∧ ∀ (τ : Tmp) (S : Sl) (σ : St) (H : Hp) (v : V) (d : PyData) (k : Sl → Prop) (Q : St → Hp → Prop), Abs X.K C σ (τ ++ [(v, .v (.p d))]) S H → g d S k →
    (∀ σ' S' H', L2.wipe σ' vs = L2.wipe σ vs → Abs X.K C σ' τ S' H' → k S' → Q σ' H') → t v σ H Q
structure QGbs (X : Cx) (C : PCx) (tgs : List Expr) (vs : List Nat) (g : List D → Sl → (Sl → Prop) → Prop) : Prop where
  ex : ∃ t, PGs X tgs t ∧ ∀ (τ : Tmp) (S : Sl) (σ : St) (H : Hp) (us : List V) (ds : List PyData) (k : Sl → Prop) (Q : St → Hp → Prop), Abs X.K C σ (τ ++ us.zip (ds.map fun d => R.v (.p d))) S H → us.length = ds.length → g ds S k →
    (∀ σ' S' H', L2.wipe σ' vs = L2.wipe σ vs → Abs X.K C σ' τ S' H' → k S' → Q σ' H') → t us σ H Q
section
variable {X : Cx} {C : PCx} {e a b c elt tg iter : Expr} {es tgs ifs : List Expr} {pa pb pe : PTE} {qa : PTT} {ta : PTA} {pos p : Pos} {vs : List Nat}
theorem qgb_name {i : Nat} {y : Str} (hN : X.N.Nodup) (hi : X.N[i]? = some y) (hx : Loc X.env.scope y) (hpr : C.prot[i]? ≠ some true) (hmu : C.mu[i]? ≠ some true) (hv : i ∈ vs) (hf : X.fn y = true ∨ X.env.scope.names.lookup y = some .local := by first | exact .inr rfl | exact .inl rfl) : QGb X C (.Name y pos) vs (gN i) :=
  ⟨_, pg_name hN hi hx hf, fun τ S σ H v d k Q A hp h => h _ _ H (wipe_set hv) (A.toSlot (A.noR hmu) hpr hp.1) hp.2⟩
theorem qgbs_nil : QGbs X C [] vs gNilP := ⟨_, pgs_nil, fun τ S σ H us ds k Q A hl hp h => by
  obtain ⟨rfl, hp⟩ := hp
  cases us with
  | nil => exact ⟨rfl, h σ S H rfl (by simpa using A) hp⟩
  | cons _ _ => cases hl⟩
theorem qgbs_cons {g : PTG} {r : List PyData → Sl → (Sl → Prop) → Prop} (h1 : QGb X C e vs g) (h2 : QGbs X C es vs r) (hs : (assignEach (e :: es) X.env).map (·.2) = assign e X.env :: (assignEach es X.env).map (·.2) := by rfl) : QGbs X C (e :: es) vs (gConsP g r) := by
  obtain ⟨t1, g1, f1⟩ := h1
  obtain ⟨t2, g2, f2⟩ := h2
  refine ⟨_, pgs_cons g1 g2 hs, fun τ S σ H us ds k Q A hl hp h => ?_⟩
  cases ds with
  | nil => exact hp.elim
  | cons d ds =>
    cases us with
    | nil => cases hl
    | cons v us =>
      refine ⟨v, us, rfl, ?_⟩
      have A1 : Abs X.K C σ (τ ++ us.zip (ds.map fun d => R.v (.p d)) ++ [(v, .v (.p d))]) S H := by
        have := Abs.rot (τ' := us.zip (ds.map fun d => R.v (.p d))) (show Abs X.K C σ (τ ++ (v, R.v (.p d)) :: us.zip (ds.map fun d => R.v (.p d))) S H from A)
        rw [List.append_assoc, List.cons_append] at this
        rw [List.append_assoc]
        exact this.drop1
      refine f1 _ S σ H v d _ _ A1 hp fun σ' S' H' e1 A' q => ?_
      exact f2 τ S' σ' H' us ds k Q A' (by simpa using hl) q fun σ'' S'' H'' e2 => h σ'' S'' H'' (e2.trans e1)
theorem qgb_tup {g : List PyData → Sl → (Sl → Prop) → Prop} {k n : Nat} (hc : X.calm = true) (h : QGbs X C es vs g) (hn : (assignEach es X.env).length = n := by rfl) (hst : (assignEach es X.env).findIdx? (·.1) = none := by rfl) : QGb X C (.Tuple es k pos) vs (gTupP n g) := by
  obtain ⟨t1, g1, f1⟩ := h
  refine ⟨_, PG.or (pg_tup hc g1 hn hst) (pg_lst hc g1 hn hst), fun τ S σ H v d k Q A hp h => ?_⟩
  unfold gTupP at hp
  split at hp
  · next ds =>
    obtain ⟨hl, hp⟩ := hp
    obtain ⟨w, A⟩ := A
    have r := A.tm τ.length v (.p (.tuple ds)) get_snoc_last
    cases r with
    | p r =>
      cases r with
      | tup q r =>
        refine .inl ⟨_, _, rfl, Evl.ex_t msk_le q, r.length.trans hl, ?_⟩
        have A' : Abs X.K C σ (τ ++ _) S H := Abs.drop1 (τ := τ) (y := _) ⟨w, by
          have := RdL.zip A r
          rw [List.append_assoc] at this
          exact this⟩
        exact f1 τ S σ H _ ds k Q A' r.length hp h
  · next ds =>
    obtain ⟨hl, hp⟩ := hp
    obtain ⟨w, A⟩ := A
    have r := A.tm τ.length v (.p (.list ds)) get_snoc_last
    cases r with
    | p r =>
      cases r with
      | lst q r =>
        refine .inr ⟨_, _, rfl, Evl.ex_l msk_le q, r.length.trans hl, ?_⟩
        have A' : Abs X.K C σ (τ ++ _) S H := Abs.drop1 (τ := τ) (y := _) ⟨w, by
          have := RdL.zip A r
          rw [List.append_assoc] at this
          exact this⟩
        exact f1 τ S σ H _ ds k Q A' r.length hp h
  · exact hp.elim
structure QTs (X : Cx) (C : PCx) (ifs : List Expr) (p : PTT) : Prop where
  ex : ∃ te, PTs X ifs te ∧ ∀ (τ : Tmp) (S : Sl) (σ : St) (H : Hp) (G : Bool → Sl → Prop) (Q : Bool → Hp → Prop), Abs X.K C σ τ S H → p S G →
    (∀ b H' S', G b S' → Abs X.K C σ τ S' H' → Q b H') → te σ H Q
def qYes : PTT := fun S G => G true S
theorem qts_nil : QTs X C [] qYes := ⟨_, pts_nil, fun τ S σ H G Q A hp k => k true H S hp A⟩
theorem qts_one (h : QT X C c qa) : QTs X C [c] qa := by
  obtain ⟨t, h1, f1⟩ := h
  exact ⟨_, pts_one h1, f1⟩
/-- [e for g in w if q] -/
def pLc (w : PTI) (g : PTG) (q : PTT) (e : PTE) (vs : List Nat) : PTE := fun S G => w S fun ds S1 => ∃ W : Nat → List PyData → Sl → Prop, W 0 [] (wipeS S1 vs) ∧
  (∀ i d acc S, ds[i]? = some d → W i acc S → g d S fun S2 => q S2 fun b S3 => (b = true → e S3 fun y S4 => match y with
    | .v (.p d') => acc.length < sizeLine ∧ W (i + 1) (acc ++ [d']) (wipeS S4 vs)
    | _ => False) ∧ (b = false → W (i + 1) acc (wipeS S3 vs))) ∧
  (∀ acc S, W ds.length acc S → G (.v (.ol acc)) S)
/-- what is done in the block, whatever block it is -/
abbrev Blk := Shared × Hp × Addr × List (Str × Addr) × List Addr
abbrev blkX (X : Cx) (scope : Scope) (z : Blk) : Cx := X.blk z.1 z.2.1 scope (compEnvC scope z.2.2.2.1 z.2.2.1 X.env) z.2.2.2.2
theorem lc_sem {w : PTI} {g : PTG} {q : PTT} {pe : PTE} {wi : TI} {gt : TG} {tt : TT} {te : TE} {vs : List Nat} (hv : OwnV C vs)
    (fi : ∀ (τ : Tmp) (S : Sl) (σ : St) (H : Hp) (G : List PyData → Sl → Prop) (Rr : It → Hp → Prop), Abs X.K C σ τ S H → w S G → (∀ J H' ex ds S', NoR ex → G ds S' → Abs X.K C σ (τ ++ ex) S' H' → SeqOk X.K C J ex ds → Rr J H') → wi σ H Rr)
    (fg : ∀ (τ : Tmp) (S : Sl) (σ : St) (H : Hp) (v : V) (d : PyData) (k : Sl → Prop) (Q : St → Hp → Prop), Abs X.K C σ (τ ++ [(v, .v (.p d))]) S H → g d S k → (∀ σ' S' H', L2.wipe σ' vs = L2.wipe σ vs → Abs X.K C σ' τ S' H' → k S' → Q σ' H') → gt v σ H Q)
    (fq : ∀ (τ : Tmp) (S : Sl) (σ : St) (H : Hp) (G : Bool → Sl → Prop) (Q : Bool → Hp → Prop), Abs X.K C σ τ S H → q S G → (∀ b H' S', G b S' → Abs X.K C σ τ S' H' → Q b H') → tt σ H Q)
    (fe : ∀ (τ : Tmp) (S : Sl) (σ : St) (H : Hp) (G : R → Sl → Prop) (Q : VK), Abs X.K C σ τ S H → pe S G → (∀ v H' x S', G x S' → Abs X.K C σ (τ ++ [(v, x)]) S' H' → Q v H') → te σ H Q)
    (τ : Tmp) (S : Sl) (σ : St) (H : Hp) (G : R → Sl → Prop) (Q : VK) (A : Abs X.K C σ τ S H) (hp : pLc w g q pe vs S G) (k : ∀ v H' x S', G x S' → Abs X.K C σ (τ ++ [(v, x)]) S' H' → Q v H') : tLc wi gt tt te vs σ H Q := by
  refine fi τ S σ H _ _ A hp fun J H1 ex ds S1 hne hW A1 seq => ?_
  obtain ⟨W, w0, turn, last⟩ := hW
  intro D hD
  have A2 : Abs X.K C σ (τ ++ ex ++ [(.ref D, .v (.ol []))]) S1 (upd H1 D (.lst [])) := A1.allocO hD (.lst []) rfl fun w w' _ _ hw => .ol hw upd_same .nil
  have A3 := A2.wipe hv
  refine ⟨fun i m H => i + m = ds.length ∧ ∃ acc S, Abs X.K C (L2.wipe σ vs) (τ ++ ex ++ [(.ref D, .v (.ol acc))]) S H ∧ W i acc S, ⟨ds.length, by simp, [], _, A3, w0⟩, ?_⟩
  rintro i m H ⟨him, acc, S, A, wi⟩
  obtain ⟨sq1, sq2⟩ := seq τ [(.ref D, .v (.ol acc))] _ S H A
  by_cases h : i < ds.length
  · right
    obtain ⟨s1, s2⟩ := sq1 i ds[i] (List.getElem?_eq_getElem h)
    refine ⟨s1, fun H' => ∃ acc S, Abs X.K C (L2.wipe σ vs) (τ ++ ex ++ [(.ref D, .v (.ol acc))]) S H' ∧ W (i + 1) acc S, fun H' h' => ⟨m - 1, by omega, by omega, h'⟩, fun x H' y => ?_⟩
    refine fg _ S _ H' x ds[i] _ _ (s2 x H' y) (turn i _ acc S (List.getElem?_eq_getElem h) wi) fun σ2 S2 H2 hw A' q => ?_
    have hw : L2.wipe σ2 vs = L2.wipe σ vs := hw.trans wipe_idem
    refine ⟨hw, fq _ S2 σ2 H2 _ _ A' q fun b H3 S3 q3 A3 => ?_⟩
    cases b with
    | false =>
      rw [if_neg Bool.false_ne_true]
      have A4 := A3.wipe hv
      rw [hw] at A4
      exact ⟨acc, _, A4, q3.2 rfl⟩
    | true =>
      rw [if_pos rfl]
      refine fe _ S3 σ2 H3 _ _ A3 (q3.1 rfl) fun z H4 y S4 q4 A4 => ?_
      try dsimp only at q4
      split at q4
      · next d' =>
        obtain ⟨xs, h1, h2, A5⟩ := A4.acc
        have A6 := A5.wipe hv
        rw [hw] at A6
        exact ⟨xs, h1, by rw [h2]; exact q4.1, _, _, A6, q4.2⟩
      · exact q4.elim
  · left
    have e : i = ds.length := by omega
    subst e
    refine ⟨sq2, k _ H (.v (.ol acc)) S (last acc S wi) ?_⟩
    have A' := A.unwipe hv
    exact A'.sel
theorem lc_all {w : PTI} {g : PTG} {q : PTT} {scope : Scope} {own : List (Str × Nat)} (hv : OwnV C (own.map (·.2))) (hi : QI X C tg iter w)
    (hg : ∀ z, QGb (blkX X scope z) C tg (own.map (·.2)) g) (hq : ∀ z, QTs (blkX X scope z) C ifs q) (he : ∀ z, QE (blkX X scope z) C elt pe) :
    ∃ wi gt tt te, PI X tg iter wi ∧ (∀ (s : Shared) (H : Hp) (C : Addr) (cl : List (Str × Addr)) (fp : List Addr), PG (X.blk s H scope (compEnvC scope cl C X.env) fp) tg gt) ∧
      (∀ (s : Shared) (H : Hp) (C : Addr) (cl : List (Str × Addr)) (fp : List Addr), PTs (X.blk s H scope (compEnvC scope cl C X.env) fp) ifs tt) ∧
      (∀ (s : Shared) (H : Hp) (C : Addr) (cl : List (Str × Addr)) (fp : List Addr), PE (X.blk s H scope (compEnvC scope cl C X.env) fp) elt te) ∧
      ∀ (τ : Tmp) (S : Sl) (σ : St) (H : Hp) (G : R → Sl → Prop) (Q : VK), Abs X.K C σ τ S H → pLc w g q pe (own.map (·.2)) S G → (∀ v H' x S', G x S' → Abs X.K C σ (τ ++ [(v, x)]) S' H' → Q v H') → tLc wi gt tt te (own.map (·.2)) σ H Q := by
  obtain ⟨wi, i1, i2⟩ := hi
  have hg' := fun z => (hg z).ex
  have hq' := fun z => (hq z).ex
  have he' := fun z => (he z).ex
  obtain ⟨gt, hg'⟩ := Classical.skolem.mp hg'
  obtain ⟨tt, hq'⟩ := Classical.skolem.mp hq'
  obtain ⟨te, he'⟩ := Classical.skolem.mp he'
  refine ⟨wi, fun v σ H Q => ∀ z, gt z v σ H Q, fun σ H Q => ∀ z, tt z σ H Q, fun σ H Q => ∀ z, te z σ H Q, i1,
    fun s H C' cl fp => ⟨fun pins s' σ H' x v Q I r h => (hg' (s, H, C', cl, fp)).1.run pins s' σ H' x v Q I r (h _)⟩, fun s H C' cl fp => ⟨fun pins s' σ H' Q I h => (hq' (s, H, C', cl, fp)).1.run pins s' σ H' Q I (h _)⟩,
    fun s H C' cl fp => ⟨fun pins s' σ H' Q I h => (he' (s, H, C', cl, fp)).1.run pins s' σ H' Q I (h _)⟩, ?_⟩
  exact lc_sem hv i2 (fun τ S σ H v d k Q A hp h z => (hg' z).2 τ S σ H v d k Q A hp h) (fun τ S σ H G Q A hp h z => (hq' z).2 τ S σ H G Q A hp h) (fun τ S σ H G Q A hp h z => (he' z).2 τ S σ H G Q A hp h)
theorem qe_lc {w : PTI} {g : PTG} {q : PTT} {scope : Scope} (own : List (Str × Nat)) (hc : X.calm = true) (hN : X.N.Nodup) (ok : BlkOk X.N X.env.scope scope own) (hv : OwnV C (own.map (·.2))) (hi : QI X C tg iter w)
    (hg : ∀ z, QGb (blkX X scope z) C tg (own.map (·.2)) g) (hq : ∀ z, QTs (blkX X scope z) C ifs q) (he : ∀ z, QE (blkX X scope z) C elt pe) (hs : ∀ x, foldedSetIterable iter X.env x = pure x := by intro _; rfl) :
    QE X C (.ListComp elt [⟨tg, iter, ifs, 0⟩] scope pos) (pLc w g q pe (own.map (·.2))) := by
  obtain ⟨wi, gt, tt, te, h1, h2, h3, h4, h5⟩ := lc_all hv hi hg hq he
  exact ⟨_, pe_lc (own := own) hc hN h1 ok h2 h3 h4 hs, h5⟩
/-- y = [..], the list y's own -/
theorem qs_setLc {i : Nat} {y : Str} {py spos : Pos} {w : PTI} {g : PTG} {q : PTT} {scope : Scope} (own : List (Str × Nat)) (hc : X.calm = true) (hN : X.N.Nodup) (ok : BlkOk X.N X.env.scope scope own) (hv : OwnV C (own.map (·.2)))
    (hy : X.N[i]? = some y) (hyl : X.env.scope.names.lookup y = some .local) (hpr : C.prot[i]? ≠ some true)
    (hsw : swapsWith (.ListComp elt [⟨tg, iter, ifs, 0⟩] scope pos) (some (.Name y py)) spos.line X.env = pure true)
    (hi : QI X C tg iter w) (hg : ∀ z, QGb (blkX X scope z) C tg (own.map (·.2)) g) (hq : ∀ z, QTs (blkX X scope z) C ifs q) (he : ∀ z, QE (blkX X scope z) C elt pe) (hs : ∀ x, foldedSetIterable iter X.env x = pure x := by intro _; rfl) :
    QS X C (.Assign [.Name y py] (.ListComp elt [⟨tg, iter, ifs, 0⟩] scope pos) spos) (sSet i (pLc w g q pe (own.map (·.2)))) := by
  obtain ⟨wi, gt, tt, te, h1, h2, h3, h4, h5⟩ := lc_all hv hi hg hq he
  refine ⟨_, ps_setLc (own := own) hc hN hy hyl hsw h1 ok h2 h3 h4 hs, fun τ S σ H P D hn A hp L => ?_⟩
  refine h5 τ S σ H _ _ A hp fun v H1 x S1 q1 A1 => ?_
  try dsimp only at q1
  split at q1
  · exact L.nx _ _ H1 (A1.toSlot (hn.at _) hpr q1.1) q1.2
  · exact q1.elim
/-- y = [..], frozen -/
theorem qs_setLcF {i : Nat} {y : Str} {py spos : Pos} {w : PTI} {g : PTG} {q : PTT} {scope : Scope} (own : List (Str × Nat)) (hc : X.calm = true) (hN : X.N.Nodup) (ok : BlkOk X.N X.env.scope scope own) (hv : OwnV C (own.map (·.2)))
    (hy : X.N[i]? = some y) (hyl : X.env.scope.names.lookup y = some .local) (hpr : C.prot[i]? ≠ some true)
    (hsw : swapsWith (.ListComp elt [⟨tg, iter, ifs, 0⟩] scope pos) (some (.Name y py)) spos.line X.env = pure true)
    (hi : QI X C tg iter w) (hg : ∀ z, QGb (blkX X scope z) C tg (own.map (·.2)) g) (hq : ∀ z, QTs (blkX X scope z) C ifs q) (he : ∀ z, QE (blkX X scope z) C elt pe) (hs : ∀ x, foldedSetIterable iter X.env x = pure x := by intro _; rfl) :
    QS X C (.Assign [.Name y py] (.ListComp elt [⟨tg, iter, ifs, 0⟩] scope pos) spos) (sSet i (pFz (pLc w g q pe (own.map (·.2))))) := by
  obtain ⟨wi, gt, tt, te, h1, h2, h3, h4, h5⟩ := lc_all hv hi hg hq he
  refine ⟨_, ps_setLc (own := own) hc hN hy hyl hsw h1 ok h2 h3 h4 hs, fun τ S σ H P D hn A hp L => ?_⟩
  have hp : pLc w g q pe (own.map (·.2)) S (fun x S1 => match x with
    | .v t => t.fz = true ∧ (i < S1.length ∧ P.nx (S1.set i (some (.p t.dat))))
    | _ => False) := hp
  refine h5 τ S σ H _ _ A hp fun v H1 x S1 q1 A1 => ?_
  try dsimp only at q1
  split at q1
  · obtain ⟨q0, q1⟩ := q1
    have A2 := A1.fzTmp q0
    exact L.nx _ _ H1 (A2.toSlot (hn.at _) hpr q1.1) q1.2
  · exact q1.elim
end
end PL

set_option Elab.async false
set_option linter.all false
set_option maxRecDepth 100000
set_option maxHeartbeats 4000000
set_option autoImplicit false
/-! further words and rules: truths as values, is, in, built-ins over lists, displays -/
namespace PL
open PySem L2

def pAndV (a b : PTE) : PTE := fun S G => a S fun x S1 => match x with
  | .v (.p (.bool c)) => (c = true → b S1 G) ∧ (c = false → G (.v (.p (.bool false))) S1)
  | _ => False
def pOrV (a b : PTE) : PTE := fun S G => a S fun x S1 => match x with
  | .v (.p (.bool c)) => (c = true → G (.v (.p (.bool true))) S1) ∧ (c = false → b S1 G)
  | _ => False
def pNotV (a : PTE) : PTE := fun S G => a S fun x S1 => match x with
  | .v (.p (.bool c)) => G (.v (.p (.bool (!c)))) S1
  | _ => False
/-- is the thing the constant d? -/
def sameC : T → PyData → Bool
  | .p .none, .none => true
  | .p (.bool a), .bool b => a == b
  | _, _ => false
def nxor : Bool → Bool → Bool
  | true, b => !b
  | false, b => b
def uIs (d : PyData) (neg : Bool) : UOp := fun t G => G (.v (.p (.bool (nxor neg (sameC t d)))))
def uInt : UOp := fun t G => match t with
  | .p (.int i) => G (.v (.p (.int i)))
  | .p (.bool b) => G (.v (.p (.int (if b = true then 1 else 0))))
  | _ => False
def uBits : UOp := fun t G => match t with
  | .p (.int i) => G (.v (.p (.int (Builtin.Int.intBits i : Nat))))
  | _ => False
section
variable {X : Cx} {C : PCx} {e a b c o : Expr} {es rest : List Expr} {pa pb pc po : PTE} {qa qb : PTT} {ta : PTA} {pos p : Pos} {K : PySem.W.Frag} {σ : St} {τ : Tmp} {S : Sl} {H : Hp}
theorem qe_one {op : BoolOp} (h : QE X C a pa) : QE X C (.BoolOp op [a] pos) pa := by
  obtain ⟨t, h1, f1⟩ := h
  exact ⟨_, pe_one h1, f1⟩
theorem qe_andV (ha : QE X C a pa) (hb : QE X C (.BoolOp .And (b :: rest) pos) pb) : QE X C (.BoolOp .And (a :: b :: rest) pos) (pAndV pa pb) := by
  obtain ⟨ta, h1, f1⟩ := ha
  obtain ⟨tb, h2, f2⟩ := hb
  refine ⟨_, pe_and h1 h2, fun τ S σ H G Q A hp k => ?_⟩
  refine f1 τ S σ H _ _ A hp fun v H1 x S1 q1 A1 => ?_
  try dsimp only at q1
  split at q1
  · next c =>
    have r := A1.rd1 (d := .bool c) rfl
    cases r
    refine ⟨c, rfl, ?_⟩
    cases c with
    | true => rw [if_pos rfl]; exact f2 τ S1 σ H1 _ _ A1.pop (q1.1 rfl) k
    | false => rw [if_neg Bool.false_ne_true]; exact k _ H1 _ S1 (q1.2 rfl) A1
  · exact q1.elim
theorem qe_orV (ha : QE X C a pa) (hb : QE X C (.BoolOp .Or (b :: rest) pos) pb) : QE X C (.BoolOp .Or (a :: b :: rest) pos) (pOrV pa pb) := by
  obtain ⟨ta, h1, f1⟩ := ha
  obtain ⟨tb, h2, f2⟩ := hb
  refine ⟨_, pe_or h1 h2, fun τ S σ H G Q A hp k => ?_⟩
  refine f1 τ S σ H _ _ A hp fun v H1 x S1 q1 A1 => ?_
  try dsimp only at q1
  split at q1
  · next c =>
    have r := A1.rd1 (d := .bool c) rfl
    cases r
    refine ⟨c, rfl, ?_⟩
    cases c with
    | true => rw [if_pos rfl]; exact k _ H1 _ S1 (q1.1 rfl) A1
    | false => rw [if_neg Bool.false_ne_true]; exact f2 τ S1 σ H1 _ _ A1.pop (q1.2 rfl) k
  · exact q1.elim
theorem qe_not (ha : QE X C a pa) : QE X C (.UnaryOp .Not a pos) (pNotV pa) := by
  obtain ⟨ta, h1, f1⟩ := ha
  refine ⟨_, pe_not h1, fun τ S σ H G Q A hp k => ?_⟩
  refine f1 τ S σ H _ _ A hp fun v H1 x S1 q1 A1 => ?_
  try dsimp only at q1
  split at q1
  · next c =>
    have r := A1.rd1 (d := .bool c) rfl
    cases r
    exact ⟨c, rfl, k _ H1 _ S1 q1 (A1.ans1 fun N => .bl _)⟩
  · exact q1.elim
/-! ### is -/
def rIsC (neg : Bool) : R2 := fun x y H Q => (y = .non ∧ Q (.bl (nxor neg (decide (x = .non)))) H) ∨ ∃ b, y = .bl b ∧ Q (.bl (nxor neg (decide (x = .bl b)))) H
theorem op_isB1 : OpR X (compareOp .Is) (rIsC false) := by
  intro pins s σ H x y v u Q I rx ry h
  rcases h with h | ⟨b, rfl, q⟩
  · exact op_isN pins s σ H x y v u Q I rx ry h
  · cases (show u = Value.bool b from ry)
    refine wpAny_is_plain ?_ (fin_bl I q ?_)
    · cases x <;> first
        | (cases rx; rfl)
        | (obtain ⟨t, rfl⟩ := rx; rfl)
    · cases x with
      | bl c =>
        cases rx
        show nxor false (decide (V.bl c = V.bl b)) = (Value.bool c == Value.bool b)
        cases c <;> cases b <;> rfl
      | _ => first
        | (cases rx; rfl)
        | (obtain ⟨t, rfl⟩ := rx; rfl)
theorem op_notB1 : OpR X (compareOp .IsNot) (rIsC true) := by
  intro pins s σ H x y v u Q I rx ry h
  rcases h with h | ⟨b, rfl, q⟩
  · exact op_notN pins s σ H x y v u Q I rx ry h
  · cases (show u = Value.bool b from ry)
    refine wpAny_isNot_plain ?_ (fin_bl I q ?_)
    · cases x <;> first
        | (cases rx; rfl)
        | (obtain ⟨t, rfl⟩ := rx; rfl)
    · cases x with
      | bl c =>
        cases rx
        show nxor true (decide (V.bl c = V.bl b)) = (!(Value.bool c == Value.bool b))
        cases c <;> cases b <;> rfl
      | _ => first
        | (cases rx; rfl)
        | (obtain ⟨t, rfl⟩ := rx; rfl)
theorem Rp.sameN {N : Hp} {w : Own} {l : Lab} {v : V} {t : T} (r : Rp K N H w l v t) : decide (v = .non) = sameC t .none := by
  cases r with
  | p r => cases r <;> rfl
  | _ => rfl
theorem Rp.sameB {N : Hp} {w : Own} {l : Lab} {v : V} {t : T} {b : Bool} (r : Rp K N H w l v t) : decide (v = .bl b) = sameC t (.bool b) := by
  cases r with
  | p r =>
    cases r with
    | bl c => cases c <;> cases b <;> rfl
    | _ => rfl
  | _ => rfl
theorem uniS_is {neg : Bool} {d : PyData} {y : V} (h : (d = .none ∧ y = .non) ∨ ∃ b, d = .bool b ∧ y = .bl b) : UniS C K (fun x H Q => rIsC neg x y H Q) (uIs d neg) := by
  intro σ τ S H v x t G Q A h1 op k
  obtain ⟨w, A0⟩ := id A
  obtain ⟨l, r⟩ := A0.look get_snoc_last h1
  rcases h with ⟨rfl, rfl⟩ | ⟨b, rfl, rfl⟩
  · exact .inl ⟨rfl, by rw [r.sameN]; exact k _ H _ op (A.ans1 fun N => .bl _)⟩
  · exact .inr ⟨b, rfl, by rw [r.sameB]; exact k _ H _ op (A.ans1 fun N => .bl _)⟩
theorem qe_is {op : CmpOp} {neg : Bool} {d : PyData} {y : V} (ho : OpR X (compareOp op) (rIsC neg)) (hb : PE X b (tC y)) (h : (d = .none ∧ y = .non) ∨ ∃ b, d = .bool b ∧ y = .bl b) (ha : QE X C a pa) (hm : behindInMarks op b = false) : QE X C (.Compare a [op] [b] pos) (pU (uIs d neg) pa) := by
  obtain ⟨ta, h1, f1⟩ := ha
  refine ⟨_, pe_cmpR ho h1 hb hm, fun τ S σ H G Q A hp k => ?_⟩
  refine f1 τ S σ H _ _ A hp fun v H1 x S1 q1 A1 => ?_
  obtain ⟨t, ht, q1⟩ := on1_iff q1
  exact uniS_is h _ _ _ _ _ _ _ _ _ A1 ht q1 fun v' H' z g A' => k v' H' z S1 g A'
theorem qt_is {op : CmpOp} {neg : Bool} {d : PyData} {y : V} (ho : OpR X (compareOp op) (rIsC neg)) (hb : PE X b (tC y)) (h : (d = .none ∧ y = .non) ∨ ∃ b, d = .bool b ∧ y = .bl b) (ha : QE X C a pa) (hm : behindInMarks op b = false) : QT X C (.Compare a [op] [b] pos) (qV (pU (uIs d neg) pa)) := by
  obtain ⟨ta, h1, f1⟩ := ha
  refine ⟨_, pt_cmpR ho h1 hb hm, fun τ S σ H G Q A hp k => ?_⟩
  refine f1 τ S σ H _ _ A hp fun v H1 x S1 q1 A1 => ?_
  obtain ⟨t, ht, q1⟩ := on1_iff q1
  refine uniS_is (neg := neg) h _ _ _ _ _ _ _ _ (fun x H' => ∃ k, x = V.bl k ∧ Q k H') A1 ht q1 fun v' H' z g A' => ?_
  try dsimp only at g
  split at g
  · next b => exact ⟨b, A'.boolOf, k b H' S1 g A'.pop⟩
  · exact g.elim
theorem qe_isN {j : Nat} {p : Pos} (ha : QE X C a pa) : QE X C (.Compare a [.Is] [.Constant .none j p] pos) (pU (uIs .none false) pa) := qe_is op_isB1 pe_non (.inl ⟨rfl, rfl⟩) ha (nomark _)
theorem qe_isnotN {j : Nat} {p : Pos} (ha : QE X C a pa) : QE X C (.Compare a [.IsNot] [.Constant .none j p] pos) (pU (uIs .none true) pa) := qe_is op_notB1 pe_non (.inl ⟨rfl, rfl⟩) ha (nomark _)
theorem qt_isN {j : Nat} {p : Pos} (ha : QE X C a pa) : QT X C (.Compare a [.Is] [.Constant .none j p] pos) (qV (pU (uIs .none false) pa)) := qt_is op_isB1 pe_non (.inl ⟨rfl, rfl⟩) ha (nomark _)
theorem qt_isnotN {j : Nat} {p : Pos} (ha : QE X C a pa) : QT X C (.Compare a [.IsNot] [.Constant .none j p] pos) (qV (pU (uIs .none true) pa)) := qt_is op_notB1 pe_non (.inl ⟨rfl, rfl⟩) ha (nomark _)
theorem qe_isB {j : Nat} {p : Pos} {b : Bool} (ha : QE X C a pa) : QE X C (.Compare a [.Is] [.Constant (.bool b) j p] pos) (pU (uIs (.bool b) false) pa) := qe_is op_isB1 pe_bl (.inr ⟨b, rfl, rfl⟩) ha (nomark _)
theorem qe_isnotB {j : Nat} {p : Pos} {b : Bool} (ha : QE X C a pa) : QE X C (.Compare a [.IsNot] [.Constant (.bool b) j p] pos) (pU (uIs (.bool b) true) pa) := qe_is op_notB1 pe_bl (.inr ⟨b, rfl, rfl⟩) ha (nomark _)
theorem qt_isB {j : Nat} {p : Pos} {b : Bool} (ha : QE X C a pa) : QT X C (.Compare a [.Is] [.Constant (.bool b) j p] pos) (qV (pU (uIs (.bool b) false) pa)) := qt_is op_isB1 pe_bl (.inr ⟨b, rfl, rfl⟩) ha (nomark _)
theorem qt_isnotB {j : Nat} {p : Pos} {b : Bool} (ha : QE X C a pa) : QT X C (.Compare a [.IsNot] [.Constant (.bool b) j p] pos) (qV (pU (uIs (.bool b) true) pa)) := qt_is op_notB1 pe_bl (.inr ⟨b, rfl, rfl⟩) ha (nomark _)
/-! ### int(), bit_length -/
theorem qe_int1 (hm : X.mg "int" = none) (ha : QE X C e pa) (hg : Gl X "int" := by rfl) (he : starEach [e] X.env = [(false, eval e X.env)] := by rfl) : QE X C (.Call (.Name "int" p) [e] [] pos) (pU uInt pa) := by
  refine qe_T1 (T' := "int") call_int1 (fun σ τ S H v x t G Q A h1 op k => ?_) hg hm (by decide +kernel) ha (he := he)
  unfold uInt at op
  split at op
  · have r := A.rd1 h1
    cases r
    exact .inl ⟨_, rfl, k _ H _ op (A.ans1 fun N => .int _)⟩
  · have r := A.rd1 h1
    cases r
    exact .inr ⟨_, rfl, k _ H _ op (A.ans1 fun N => .int _)⟩
  · exact op.elim
theorem qe_bits {apos : Pos} (ha : QE X C o pa) (hbase : attributeBase o "bit_length" X.env (eval o X.env) = eval o X.env := by rfl) (hline : (apos.endLine == pos.line) = true := by rfl) : QE X C (.Call (.Attribute o "bit_length" apos) [] [] pos) (pU uBits pa) := by
  obtain ⟨ta, h1, f1⟩ := ha
  refine ⟨_, pe_bits h1 hbase hline, fun τ S σ H G Q A hp k => ?_⟩
  refine f1 τ S σ H _ _ A hp fun v H1 x S1 q1 A1 => ?_
  obtain ⟨t, ht, q1⟩ := on1_iff q1
  unfold uBits at q1
  split at q1
  · have r := A1.rd1 ht
    cases r
    exact ⟨_, rfl, k _ H1 _ S1 q1 (A1.ans1 fun N => .int _)⟩
  · exact q1.elim
end
end PL

set_option Elab.async false
set_option linter.all false
set_option maxRecDepth 100000
set_option maxHeartbeats 4000000
set_option autoImplicit false
/-! in; built-ins over lists; displays -/
namespace PL
open PySem L2

def flatD : PyData → Bool
  | .none => true
  | .bool _ => true
  | .int _ => true
  | .str _ => true
  | _ => false
def T.isL : T → Bool
  | .p (.list _) => true
  | .ol _ => true
  | _ => false
/-- t in u -/
def cInB (neg : Bool) : BOp := fun t u G => match u.sq, t with
  | some ds, .p d => ((flatD d && ds.all flatD) || (u.isL && SeqAt.shaped d && SeqAt.shaped (.list ds))) = true ∧ G (.v (.p (.bool (nxor neg (ds.any fun z => PyData.eqv z d)))))
  | none, .p k => (match unK k with
    | some k => (match u.get k with
      | some o => G (.v (.p (.bool (nxor neg o.isSome))))
      | none => False)
    | none => False)
  | _, _ => False
def cIn : BOp := cInB false
def cNi : BOp := cInB true
section
variable {X : Cx} {C : PCx} {e a b c o : Expr} {es rest : List Expr} {pa pb pc po : PTE} {qa qb : PTT} {ta : PTA} {pos p : Pos} {K : PySem.W.Frag} {σ : St} {τ : Tmp} {S : Sl} {H : Hp}
def rDin (neg : Bool) : R2 := fun y x H Q => ∃ a o, x = .ref a ∧ DGet H a y o ∧ Q (.bl (nxor neg o.isSome)) H
theorem op_din (hu : X.A.units + 1 < cLine) : OpR X (compareOp .In) (rDin false) := by
  intro pins s σ H y x v u Q I ry rx h
  obtain ⟨a, ov, rfl, g, q⟩ := h
  obtain rfl : u = Value.ref a := rx
  exact d_in hu I g ry fun s3 I3 => ⟨.bl ov.isSome, H, I3, rfl, q⟩
theorem op_dni (hu : X.A.units + 1 < cLine) : OpR X (compareOp .NotIn) (rDin true) := by
  intro pins s σ H y x v u Q I ry rx h
  obtain ⟨a, ov, rfl, g, q⟩ := h
  obtain rfl : u = Value.ref a := rx
  exact d_notIn hu I g ry fun s3 I3 => ⟨.bl (!ov.isSome), H, I3, rfl, q⟩
theorem flatV_rd {N : Hp} {v : V} {d : PyData} (r : Rd K N v d) (h : flatD d = true) : flatV v = true := by
  cases r <;> first | rfl | cases h
theorem eqV_rd {N : Hp} {v u : V} {d d' : PyData} (r : Rd K N v d) (r' : Rd K N u d') (h : flatD d = true) (h' : flatD d' = true) : eqV v u = PyData.eqv d d' := by
  cases r <;> first | (cases r' <;> first | rfl | (cases h'; done)) | (cases h; done)
theorem allFlat_rd {N : Hp} : ∀ {vs : List V} {ds : List PyData}, RdL K N vs ds → ds.all flatD = true → vs.all flatV = true
  | _, _, .nil, _ => rfl
  | _, d :: ds, .cons r t, h => by
    rw [List.all_cons, Bool.and_eq_true] at h
    rw [List.all_cons, flatV_rd r h.1, allFlat_rd t h.2]; rfl
theorem inV_rd {N : Hp} {u : V} {d : PyData} (ru : Rd K N u d) (hd : flatD d = true) : ∀ {vs : List V} {ds : List PyData}, RdL K N vs ds → ds.all flatD = true → inV u vs = ds.any fun z => PyData.eqv z d
  | _, _, .nil, _ => rfl
  | _, d' :: ds, .cons (v := v) r t, h => by
    rw [List.all_cons, Bool.and_eq_true] at h
    have ih := inV_rd ru hd t h.2
    unfold inV at ih ⊢
    rw [List.any_cons, List.any_cons, ih, eqV_rd r ru h.1 hd]
theorem Rp.lsd {N : Hp} {w : Own} {l : Lab} {v : V} {t : T} {ds : List PyData} (r : Rp K N H w l v t) (h : t.sq = some ds) (hl : t.isL = true) (hN : Evl.Ex N H) : Rd K H v (.list ds) := by
  cases r with
  | p r =>
    cases r with
    | lst q r => cases h; exact .lst (Evl.ex_l hN q) (r.mono hN)
    | tup => cases hl
    | _ => cases h
  | ol h1 h2 r => cases h; exact .lst (Evl.sq_of h2) (r.mono hN)
  | _ => cases h
def rInAll (K : PySem.W.Frag) (neg : Bool) : R2 := fun x y H Q => rIn K neg x y H Q ∨ (if neg then rNotInD K x y H Q else rInD K x y H Q) ∨ rDin neg x y H Q
theorem op_inAll {k : Nat} (hr : Room k X.A) : OpR X (compareOp .In) (rInAll X.K false) := op_in_seq.or ((op_inD (by have := hr.un; omega)).or (op_din (hu_of hr)))
theorem op_niAll {k : Nat} (hr : Room k X.A) : OpR X (compareOp .NotIn) (rInAll X.K true) := op_notIn_seq.or ((op_notInD (by have := hr.un; omega)).or (op_dni (hu_of hr)))
theorem binS_in {neg : Bool} : BinS C K (rInAll K neg) (cInB neg) := by
  intro σ τ S H v x u y t t' G Q A h1 h2 op k
  unfold cInB at op
  obtain ⟨w, A0⟩ := id A
  obtain ⟨_, r1⟩ := A0.look (j := τ.length) get_mid h1
  obtain ⟨_, r2⟩ := A0.look get_snoc_last h2
  split at op
  · next ds d hsq =>
    obtain ⟨hc, op⟩ := op
    have rd : Rd K H v d := A.rd2 h1
    rw [Bool.or_eq_true] at hc
    rcases hc with hc | hc
    · rw [Bool.and_eq_true] at hc
      obtain ⟨ad, xs, rfl, q, r⟩ := r2.seq hsq msk_le
      have r := r.mono (N' := H) msk_le
      refine .inl ⟨ad, xs, rfl, q, flatV_rd rd hc.1, allFlat_rd r hc.2, ?_⟩
      rw [inV_rd rd hc.1 r hc.2]
      have e : (if neg = true then !(ds.any fun z => PyData.eqv z d) else ds.any fun z => PyData.eqv z d) = nxor neg (ds.any fun z => PyData.eqv z d) := by cases neg <;> rfl
      rw [e]
      exact k _ H _ op (A.ans2 fun N => .bl _)
    · rw [Bool.and_eq_true, Bool.and_eq_true] at hc
      have rl := r2.lsd hsq hc.1.1 msk_le
      refine .inr (.inl ?_)
      cases neg with
      | false => exact ⟨d, ds, rd.dp (SeqAt.canLay_of_shaped hc.1.2), rl.dp (SeqAt.canLay_of_shaped hc.2), hc.1.2, hc.2, k _ H _ op (A.ans2 fun N => .bl _)⟩
      | true => exact ⟨d, ds, rd.dp (SeqAt.canLay_of_shaped hc.1.2), rl.dp (SeqAt.canLay_of_shaped hc.2), hc.1.2, hc.2, k _ H _ op (A.ans2 fun N => .bl _)⟩
  · next kd hsq =>
    split at op
    · next key hk =>
      split at op
      · next o ho =>
        have rd : Rd K H v kd := A.rd2 h1
        have ek := unK_rd rd hk
        subst ek
        obtain ⟨ad, ov, rfl, g, z⟩ := r2.dget ho msk_le
        have e : ov.isSome = o.isSome := by
          rcases z with ⟨rfl, rfl⟩ | ⟨_, _, rfl, rfl, _⟩ <;> rfl
        exact .inr (.inr ⟨ad, ov, rfl, g, by rw [e]; exact k _ H _ op (A.ans2 fun N => .bl _)⟩)
      · exact op.elim
    · exact op.elim
  · exact op.elim
theorem qe_in {k : Nat} (hr : Room k X.A) (ha : QE X C a pa) (hb : QE X C b pb) (hm : behindInMarks .In b = false := by rfl) : QE X C (.Compare a [.In] [b] pos) (pB cIn pa pb) := qe_cmp (op_inAll hr) binS_in ha hb hm
theorem qe_ni {k : Nat} (hr : Room k X.A) (ha : QE X C a pa) (hb : QE X C b pb) (hm : behindInMarks .NotIn b = false := by rfl) : QE X C (.Compare a [.NotIn] [b] pos) (pB cNi pa pb) := qe_cmp (op_niAll hr) binS_in ha hb hm
theorem qt_in {k : Nat} (hr : Room k X.A) (ha : QE X C a pa) (hb : QE X C b pb) (hm : behindInMarks .In b = false := by rfl) : QT X C (.Compare a [.In] [b] pos) (qV (pB cIn pa pb)) := qt_cmp (op_inAll hr) binS_in ha hb hm
theorem qt_ni {k : Nat} (hr : Room k X.A) (ha : QE X C a pa) (hb : QE X C b pb) (hm : behindInMarks .NotIn b = false := by rfl) : QT X C (.Compare a [.NotIn] [b] pos) (qV (pB cNi pa pb)) := qt_cmp (op_niAll hr) binS_in ha hb hm
/-! ### a list times an int -/
theorem RdL.flat {N : Hp} : ∀ (n : Nat) {vs : List V} {ds : List PyData}, RdL K N vs ds → RdL K N (List.replicate n vs).flatten (List.replicate n ds).flatten
  | 0, _, _, _ => .nil
  | n + 1, _, _, r => by
    rw [List.replicate_succ, List.replicate_succ, List.flatten_cons, List.flatten_cons]
    exact r.append (RdL.flat n r)
theorem binS_rep : BinS C K rRep bRep := by
  intro σ τ S H v x u y t t' G Q A h1 h2 op k
  unfold bRep at op
  split at op
  · next ds kk =>
    obtain ⟨o1, o2, o3, op⟩ := op
    have r2 := A.rd1 h2
    cases r2
    obtain ⟨w, A0⟩ := id A
    obtain ⟨_, r1⟩ := A0.look (j := τ.length) get_mid h1
    cases r1 with
    | ol q1 q2 r =>
      refine ⟨_, kk, _, rfl, rfl, q2, o1, o2, by rw [r.length]; exact o3, fun p hp => ?_⟩
      refine k _ _ _ op ?_
      rw [List.append_assoc] at A0
      exact A0.newL hp (RdL.flat _ r)
  · exact op.elim
theorem qe_rep (ha : QE X C a pa) (hb : QE X C b pb) : QE X C (.BinOp a .Mult b pos) (pB bRep pa pb) := qe_bin op_rep binS_rep ha hb
/-! ### sums, greatest, least, all, any -/
def allI : List PyData → Option (List Int)
  | [] => some []
  | .int i :: r => (allI r).map (i :: ·)
  | _ => none
def allB : List PyData → Option (List Bool)
  | [] => some []
  | .bool i :: r => (allB r).map (i :: ·)
  | _ => none
theorem allI_eq : ∀ {ds : List PyData} {ns : List Int}, allI ds = some ns → ds = ns.map PyData.int
  | [], _, h => by cases h; rfl
  | .int i :: r, ns, h => by
    obtain ⟨ms, h1, rfl⟩ := Option.map_eq_some_iff.mp h
    rw [allI_eq h1]; rfl
  | .none :: _, _, h => by cases h
  | .bool _ :: _, _, h => by cases h
  | .str _ :: _, _, h => by cases h
  | .list _ :: _, _, h => by cases h
  | .tuple _ :: _, _, h => by cases h
  | .dict _ :: _, _, h => by cases h
theorem allB_eq : ∀ {ds : List PyData} {ns : List Bool}, allB ds = some ns → ds = ns.map PyData.bool
  | [], _, h => by cases h; rfl
  | .bool i :: r, ns, h => by
    obtain ⟨ms, h1, rfl⟩ := Option.map_eq_some_iff.mp h
    rw [allB_eq h1]; rfl
  | .none :: _, _, h => by cases h
  | .int _ :: _, _, h => by cases h
  | .str _ :: _, _, h => by cases h
  | .list _ :: _, _, h => by cases h
  | .tuple _ :: _, _, h => by cases h
  | .dict _ :: _, _, h => by cases h
theorem allI_map (ns : List Int) : allI (ns.map PyData.int) = some ns := by
  induction ns with
  | nil => rfl
  | cons n ns ih => rw [List.map_cons, allI, ih]; rfl
theorem allB_map (ns : List Bool) : allB (ns.map PyData.bool) = some ns := by
  induction ns with
  | nil => rfl
  | cons n ns ih => rw [List.map_cons, allB, ih]; rfl
def uSum : UOp := fun t G => match t.ls with
  | some ds => ∃ ns, allI ds = some ns ∧ G (.v (.p (.int ns.sum)))
  | none => False
def uMaxL : UOp := fun t G => match t.ls with
  | some ds => ∃ ns m, allI ds = some ns ∧ (m ∈ ns ∧ ∀ y, y ∈ ns → y ≤ m) ∧ G (.v (.p (.int m)))
  | none => False
def uMinL : UOp := fun t G => match t.ls with
  | some ds => ∃ ns m, allI ds = some ns ∧ (m ∈ ns ∧ ∀ y, y ∈ ns → m ≤ y) ∧ G (.v (.p (.int m)))
  | none => False
def uAll : UOp := fun t G => match t.ls with
  | some ds => ∃ bs, allB ds = some bs ∧ G (.v (.p (.bool (bs.all id))))
  | none => False
def uAny : UOp := fun t G => match t.ls with
  | some ds => ∃ bs, allB ds = some bs ∧ G (.v (.p (.bool (bs.any id))))
  | none => False
/-- sorted(xs), ints -/
def uSorted : UOp := fun t G => match t.ls with
  | some ds => ∃ ns, allI ds = some ns ∧ ∀ ns' : List Int, ns'.Perm ns → ns'.Pairwise (· ≤ ·) → G (.v (.ol (ns'.map PyData.int)))
  | none => match t with
    | .od kvs => ∃ ks : List Int, kvs.map (·.1) = ks.map Sum.inl ∧ ks.length < 64 ∧ ∀ ns' : List Int, ns'.Perm ks → ns'.Pairwise (· ≤ ·) → G (.v (.ol (ns'.map PyData.int)))
    | _ => False
/-- list(xs), tuple(xs) -/
def uList : UOp := fun t G => match t.sq with
  | some ds => G (.v (.ol ds))
  | none => match t with
    | .od kvs => G (.v (.ol (kvs.map fun q => kD q.1)))
    | _ => False
def uTuple : UOp := fun t G => match t with
  | .p (.tuple ds) => G (.v (.p (.tuple ds)))
  | t => match t.ls with
    | some ds => G (.v (.p (.tuple ds)))
    | none => False
theorem Rp.intsOf {N : Hp} {w : Own} {l : Lab} {v : V} {t : T} {ds : List PyData} {ns : List Int} (r : Rp K N H w l v t) (h : t.ls = some ds) (hi : allI ds = some ns) (hN : Evl.Ex N H) : ∃ a, v = .ref a ∧ SqL K H a (ns.map V.int) := by
  obtain ⟨a, xs, rfl, q, r⟩ := r.list h hN
  rw [allI_eq hi] at r
  rw [r.ints] at q
  exact ⟨a, rfl, q⟩
theorem Rp.blsOf {N : Hp} {w : Own} {l : Lab} {v : V} {t : T} {ds : List PyData} {ns : List Bool} (r : Rp K N H w l v t) (h : t.ls = some ds) (hi : allB ds = some ns) (hN : Evl.Ex N H) : ∃ a, v = .ref a ∧ SqL K H a (ns.map V.bl) := by
  obtain ⟨a, xs, rfl, q, r⟩ := r.list h hN
  rw [allB_eq hi] at r
  rw [r.bls] at q
  exact ⟨a, rfl, q⟩
theorem uniS_sum : UniS C K (fun v => rSum K [v]) uSum := by
  intro σ τ S H v x t G Q A h1 op k
  unfold uSum at op
  split at op
  · next ds hds =>
    obtain ⟨ns, hi, op⟩ := op
    obtain ⟨w, A0⟩ := id A
    obtain ⟨_, r1⟩ := A0.look get_snoc_last h1
    obtain ⟨a, rfl, q⟩ := r1.intsOf hds hi msk_le
    exact ⟨a, ns, rfl, q, k _ H _ op (A.ans1 fun N => .int _)⟩
  · exact op.elim
theorem uniS_max : UniS C K (fun v => rMax K [v]) uMaxL := by
  intro σ τ S H v x t G Q A h1 op k
  unfold uMaxL at op
  split at op
  · next ds hds =>
    obtain ⟨ns, m, hi, ⟨m1, m2⟩, op⟩ := op
    obtain ⟨w, A0⟩ := id A
    obtain ⟨_, r1⟩ := A0.look get_snoc_last h1
    obtain ⟨a, rfl, q⟩ := r1.intsOf hds hi msk_le
    refine ⟨a, ns, rfl, q, List.length_pos_of_mem m1, fun m' p1 p2 => ?_⟩
    have e : m' = m := Int.le_antisymm (m2 _ p1) (p2 _ m1)
    subst e
    exact k _ H _ op (A.ans1 fun N => .int _)
  · exact op.elim
theorem uniS_min' : UniS C K (fun v => rMin K [v]) uMinL := by
  intro σ τ S H v x t G Q A h1 op k
  unfold uMinL at op
  split at op
  · next ds hds =>
    obtain ⟨ns, m, hi, ⟨m1, m2⟩, op⟩ := op
    obtain ⟨w, A0⟩ := id A
    obtain ⟨_, r1⟩ := A0.look get_snoc_last h1
    obtain ⟨a, rfl, q⟩ := r1.intsOf hds hi msk_le
    refine ⟨a, ns, rfl, q, List.length_pos_of_mem m1, fun m' p1 p2 => ?_⟩
    have e : m' = m := Int.le_antisymm (p2 _ m1) (m2 _ p1)
    subst e
    exact k _ H _ op (A.ans1 fun N => .int _)
  · exact op.elim
theorem uniS_all : UniS C K (fun v => rAll K [v]) uAll := by
  intro σ τ S H v x t G Q A h1 op k
  unfold uAll at op
  split at op
  · next ds hds =>
    obtain ⟨ns, hi, op⟩ := op
    obtain ⟨w, A0⟩ := id A
    obtain ⟨_, r1⟩ := A0.look get_snoc_last h1
    obtain ⟨a, rfl, q⟩ := r1.blsOf hds hi msk_le
    exact ⟨a, ns, rfl, q, k _ H _ op (A.ans1 fun N => .bl _)⟩
  · exact op.elim
theorem uniS_any : UniS C K (fun v => rAny K [v]) uAny := by
  intro σ τ S H v x t G Q A h1 op k
  unfold uAny at op
  split at op
  · next ds hds =>
    obtain ⟨ns, hi, op⟩ := op
    obtain ⟨w, A0⟩ := id A
    obtain ⟨_, r1⟩ := A0.look get_snoc_last h1
    obtain ⟨a, rfl, q⟩ := r1.blsOf hds hi msk_le
    exact ⟨a, ns, rfl, q, k _ H _ op (A.ans1 fun N => .bl _)⟩
  · exact op.elim
def rSortedDI : List V → Hp → VK → Prop := fun xs H Q => ∃ (a : Addr) (kvs : List (Key × V)) (ks : List Int), xs = [.ref a] ∧ L2.Rd H a (.dK kvs) ∧ kvs.map (·.1) = ks.map Sum.inl ∧ ks.length < 64 ∧
    ∀ (ys : List Int) (p : Addr), ys.Perm ks → ys.Pairwise (· ≤ ·) → H p = none → Q (.ref p) (upd H p (.lst (ys.map V.int)))
theorem uniS_sorted : UniS C K (fun v H Q => rSortedI K [v] H Q ∨ rSortedDI [v] H Q) uSorted := by
  intro σ τ S H v x t G Q A h1 op k
  unfold uSorted at op
  split at op
  · next ds hds =>
    obtain ⟨ns, hi, op⟩ := op
    obtain ⟨w, A0⟩ := id A
    obtain ⟨_, r1⟩ := A0.look get_snoc_last h1
    obtain ⟨a, rfl, q⟩ := r1.intsOf hds hi msk_le
    refine .inl ⟨a, ns, rfl, q, fun ns' p h1 h2 hp => k _ _ _ (op ns' h1 h2) ?_⟩
    exact A0.newL hp (RdL.of_ints ns')
  · split at op
    · next kvs =>
      obtain ⟨ks, hk, hl, op⟩ := op
      obtain ⟨w, A0⟩ := id A
      obtain ⟨_, r1⟩ := A0.look get_snoc_last h1
      cases r1 with
      | od q1 q2 q3 q4 =>
        refine .inr ⟨_, _, ks, rfl, .inl q2, q3.trans hk, hl, fun ns' p h1 h2 hp => k _ _ _ (op ns' h1 h2) ?_⟩
        exact A0.newL hp (RdL.of_ints ns')
    · exact op.elim
def rListOf (K : PySem.W.Frag) : List V → Hp → VK → Prop := fun xs H Q => ∃ p ys, xs = [.ref p] ∧ (SqL K H p ys ∨ SqT K H p ys) ∧ ∀ l, H l = none → Q (.ref l) (upd H l (.lst ys))
theorem rd_keys {N : Hp} : ∀ {kx : List (Key × V)} {kvs : List (Key × PyData)}, kx.map (·.1) = kvs.map (·.1) → RdL K N (kx.map fun q => kV q.1) (kvs.map fun q => kD q.1)
  | [], [], _ => .nil
  | [], _ :: _, h => by cases h
  | _ :: _, [], h => by cases h
  | p :: kx, q :: kvs, h => by
    rw [List.map_cons, List.map_cons] at h
    obtain ⟨h1, h2⟩ := List.cons.inj h
    rw [List.map_cons, List.map_cons]
    refine .cons ?_ (rd_keys h2)
    rw [h1]
    cases q.1 with
    | inl i => exact .int i
    | inr x => exact .str x
theorem uniS_list : UniS C K (fun v H Q => rListOf K [v] H Q ∨ rListD [v] H Q) uList := by
  intro σ τ S H v x t G Q A h1 op k
  unfold uList at op
  split at op
  · next ds hds =>
    obtain ⟨w, A0⟩ := id A
    obtain ⟨_, r1⟩ := A0.look get_snoc_last h1
    obtain ⟨a, xs, rfl, q, r⟩ := r1.seq hds msk_le
    exact .inl ⟨a, xs, rfl, q, fun p hp => k _ _ _ op (A0.newL hp r)⟩
  · split at op
    · next kvs =>
      obtain ⟨w, A0⟩ := id A
      obtain ⟨_, r1⟩ := A0.look get_snoc_last h1
      cases r1 with
      | od q1 q2 q3 q4 => exact .inr ⟨_, _, rfl, q2, fun p hp => k _ _ _ op (A0.newL hp (rd_keys q3))⟩
    · exact op.elim
section
variable {x : Str}
theorem qe_sum1 (hc : X.calm = true) (hm : X.mg "sum" = none) (ha : QE X C e pa) (hg : Gl X "sum" := by rfl) (he : starEach [e] X.env = [(false, eval e X.env)] := by rfl) : QE X C (.Call (.Name "sum" p) [e] [] pos) (pU uSum pa) :=
  qe_B1 (cr_sum hc) uniS_sum hg hm (by decide +kernel) ha (he := he)
theorem qe_max1 (hc : X.calm = true) (hm : X.mg "max" = none) (ha : QE X C e pa) (hg : Gl X "max" := by rfl) (he : starEach [e] X.env = [(false, eval e X.env)] := by rfl) : QE X C (.Call (.Name "max" p) [e] [] pos) (pU uMaxL pa) :=
  qe_B1 (cr_max hc) uniS_max hg hm (by decide +kernel) ha (he := he)
theorem qe_min1 (hc : X.calm = true) (hm : X.mg "min" = none) (ha : QE X C e pa) (hg : Gl X "min" := by rfl) (he : starEach [e] X.env = [(false, eval e X.env)] := by rfl) : QE X C (.Call (.Name "min" p) [e] [] pos) (pU uMinL pa) :=
  qe_B1 (cr_min hc) uniS_min' hg hm (by decide +kernel) ha (he := he)
theorem qe_all1 (hc : X.calm = true) (hm : X.mg "all" = none) (ha : QE X C e pa) (hg : Gl X "all" := by rfl) (he : starEach [e] X.env = [(false, eval e X.env)] := by rfl) : QE X C (.Call (.Name "all" p) [e] [] pos) (pU uAll pa) :=
  qe_B1 (cr_all hc) uniS_all hg hm (by decide +kernel) ha (he := he)
theorem qe_any1 (hc : X.calm = true) (hm : X.mg "any" = none) (ha : QE X C e pa) (hg : Gl X "any" := by rfl) (he : starEach [e] X.env = [(false, eval e X.env)] := by rfl) : QE X C (.Call (.Name "any" p) [e] [] pos) (pU uAny pa) :=
  qe_B1 (cr_any hc) uniS_any hg hm (by decide +kernel) ha (he := he)
theorem qe_sorted1 (hc : X.calm = true) (hm : X.mg "sorted" = none) (ha : QE X C e pa) (hg : Gl X "sorted" := by rfl) (he : starEach [e] X.env = [(false, eval e X.env)] := by rfl) : QE X C (.Call (.Name "sorted" p) [e] [] pos) (pU uSorted pa) :=
  qe_B1 (cr_sortedI.or (call_sortedDI hc)) uniS_sorted hg hm (by decide +kernel) ha (he := he)
theorem qe_list1 (hc : X.calm = true) (hm : X.mg "list" = none) (ha : QE X C e pa) (hg : Gl X "list" := by rfl) (he : starEach [e] X.env = [(false, eval e X.env)] := by rfl) : QE X C (.Call (.Name "list" p) [e] [] pos) (pU uList pa) :=
  qe_T1 (T' := "list") (r := fun xs H Q => rListOf X.K xs H Q ∨ rListD xs H Q) (call_list_of.or (call_list_dK hc)) uniS_list hg hm (by decide +kernel) ha (he := he)
end

/-! ### tuple(xs), list(range(..)) -/
def rTupleOf (K : PySem.W.Frag) : List V → Hp → VK → Prop := fun xs H Q => ∃ p ys, xs = [.ref p] ∧ ((SqL K H p ys ∧ ∀ l, H l = none → Q (.ref l) (upd H l (.tup ys))) ∨ (SqT K H p ys ∧ Q (.ref p) H))
theorem uniS_tuple : UniS C K (fun v => rTupleOf K [v]) uTuple := by
  intro σ τ S H v x t G Q A h1 op k
  unfold uTuple at op
  obtain ⟨w, A0⟩ := id A
  obtain ⟨_, r1⟩ := A0.look get_snoc_last h1
  split at op
  · next ds =>
    cases r1 with
    | p r1 =>
      have r1' := r1
      cases r1 with
      | tup q r =>
        refine ⟨_, _, rfl, .inr ⟨Evl.ex_t msk_le q, k _ _ _ op ?_⟩⟩
        have A' := Abs.push (K := K) (C := C) ⟨w, A0⟩ (v := .ref _) (d := .tuple ds) (fun w' A'' => by
          obtain ⟨_, r2⟩ := A''.look get_snoc_last h1
          cases r2 with
          | p r2 => exact r2)
        exact A'.sel
  · split at op
    · next ds hds =>
      obtain ⟨a, xs, rfl, q, r⟩ := r1.list hds msk_le
      refine ⟨a, xs, rfl, .inl ⟨q, fun p hp => k _ _ _ op ?_⟩⟩
      have ex : Evl.Ex H (upd H p (.tup xs)) := Evl.Ex.new hp
      have hw := A0.ow.free hp
      have me : Evl.Ex (msk H w) (msk (upd H p (.tup xs)) w) := msk_mono fun b u h1 h2 => ⟨h1, ex b u h2⟩
      have A' : Abs K C σ (τ ++ [(V.ref a, x)] ++ [(.ref p, .v (.p (.tuple ds)))]) S (upd H p (.tup xs)) := ⟨w, (A0.grow ex).push (.tup (.inl (.inl (by rw [msk_none hw]; exact upd_same))) (r.mono me))⟩
      exact A'.sel
    · exact op.elim
theorem qe_tuple1 (hm : X.mg "tuple" = none) (ha : QE X C e pa) (hg : Gl X "tuple" := by rfl) (he : starEach [e] X.env = [(false, eval e X.env)] := by rfl) : QE X C (.Call (.Name "tuple" p) [e] [] pos) (pU uTuple pa) :=
  qe_T1 (T' := "tuple") (r := rTupleOf X.K) call_tuple_of uniS_tuple hg hm (by decide +kernel) ha (he := he)
/-- list(range(m, n)) -/
def pRgL (a b : PTE) : PTE := fun S G => a S fun y S0 => b S0 fun x S1 => match y, x with
  | .v (.p (.int m)), .v (.p (.int n)) => (-(2 ^ 62) ≤ m ∧ m < 2 ^ 62 ∧ -(2 ^ 62) ≤ n ∧ n < 2 ^ 62 ∧ (n - m).toNat ≤ 2 ^ 24) ∧ G (.v (.ol (rng m n))) S1
  | _, _ => False
def pRgL1 (b : PTE) : PTE := fun S G => b S fun x S1 => match x with
  | .v (.p (.int n)) => (-(2 ^ 62) ≤ n ∧ n < 2 ^ 62 ∧ n.toNat ≤ 2 ^ 24) ∧ G (.v (.ol (rng 0 n))) S1
  | _ => False
theorem rgV_rd {N : Hp} {m n : Int} : RdL K N (rgV m n) (rng m n) := by
  unfold rgV rng
  generalize (n - m).toNat = j
  generalize e : List.range j = l
  clear e
  induction l with
  | nil => exact .nil
  | cons x xs ih => exact .cons (.int _) ih
theorem qe_listR1 {p2 pos2 : Pos} (hc : X.calm = true) (hm : X.mg "list" = none) (hm2 : X.mg "range" = none) (ha : QE X C a pa) (hg : Gl X "list" := by rfl) (hg2 : Gl X "range" := by rfl)
    (na : starEach [a] X.env = (false, eval a X.env) :: starEach [] X.env := by rfl) (nr : starEach [.Call (.Name "range" p2) [a] [] pos2] X.env = (false, eval (.Call (.Name "range" p2) [a] [] pos2) X.env) :: starEach [] X.env := by rfl) :
    QE X C (.Call (.Name "list" p) [.Call (.Name "range" p2) [a] [] pos2] [] pos) (pRgL1 pa) := by
  obtain ⟨ta, h1, f1⟩ := ha
  refine ⟨_, pe_listRg hc hg hm (prg_1 hg2 hm2 h1 na) nr, fun τ S σ H G Q A hp k => ?_⟩
  refine f1 τ S σ H _ _ A hp fun v H1 x S1 q1 A1 => ?_
  try dsimp only at q1
  split at q1
  · have r := A1.rd1 (d := .int _) rfl
    cases r
    refine ⟨_, rfl, ⟨by omega, by omega, q1.1.1, q1.1.2.1, by rw [Int.sub_zero]; exact q1.1.2.2⟩, fun q hq => k _ _ _ _ q1.2 ?_⟩
    obtain ⟨w, A0⟩ := A1
    exact A0.newL hq rgV_rd
  · exact q1.elim
theorem qe_listR2 {p2 pos2 : Pos} (hc : X.calm = true) (hm : X.mg "list" = none) (hm2 : X.mg "range" = none) (ha : QE X C a pa) (hb : QE X C b pb) (hg : Gl X "list" := by rfl) (hg2 : Gl X "range" := by rfl)
    (na : starEach [a, b] X.env = (false, eval a X.env) :: starEach [b] X.env := by rfl) (nb : starEach [b] X.env = (false, eval b X.env) :: starEach [] X.env := by rfl) (hpp : (backTo pos2 (starEach [b] X.env)).any (·.1) = false := by rfl)
    (nr : starEach [.Call (.Name "range" p2) [a, b] [] pos2] X.env = (false, eval (.Call (.Name "range" p2) [a, b] [] pos2) X.env) :: starEach [] X.env := by rfl) :
    QE X C (.Call (.Name "list" p) [.Call (.Name "range" p2) [a, b] [] pos2] [] pos) (pRgL pa pb) := by
  obtain ⟨ta, h1, f1⟩ := ha
  obtain ⟨tb, h2, f2⟩ := hb
  refine ⟨_, pe_listRg hc hg hm (prg_2 hg2 hm2 h1 h2 na nb hpp) nr, fun τ S σ H G Q A hp k => ?_⟩
  refine f1 τ S σ H _ _ A hp fun v H1 x S1 q1 A1 => ?_
  refine f2 _ S1 σ H1 _ _ A1 q1 fun u H2 y S2 q2 A2 => ?_
  try dsimp only at q2
  split at q2
  · have r2 := A2.rd1 (d := .int _) rfl
    have r1 := A2.rd2 (d := .int _) rfl
    cases r1; cases r2
    refine ⟨_, _, rfl, rfl, q2.1, fun q hq => k _ _ _ _ q2.2 ?_⟩
    rw [List.append_assoc] at A2
    obtain ⟨w, A0⟩ := A2
    exact A0.newL hq rgV_rd
  · exact q2.elim
/-! ### displays of dicts -/
abbrev PTP := Sl → (List (PyData × PyData) → Sl → Prop) → Prop
def dispT : List (V × V) → List (PyData × PyData) → Tmp
  | p :: r, q :: s => (p.1, .v (.p q.1)) :: (p.2, .v (.p q.2)) :: dispT r s
  | _, _ => []
structure QPs (X : Cx) (C : PCx) (pos : Pos) (keys : List (Option Expr)) (values : List Expr) (w : PTP) : Prop where
  ex : ∃ trs, PPs X pos keys values trs ∧ ∀ (τ : Tmp) (S : Sl) (σ : St) (H : Hp) (G : List (PyData × PyData) → Sl → Prop) (Q : List (V × V) → Hp → Prop), Abs X.K C σ τ S H → w S G →
    (∀ ps H' qs S', ps.length = qs.length → G qs S' → Abs X.K C σ (τ ++ dispT ps qs) S' H' → Q ps H') → tPairs trs σ H Q
def pPn : PTP := fun S G => G [] S
def pPc (k v : PTE) (r : PTP) : PTP := fun S G => k S fun x S1 => v S1 fun y S2 => match x, y with
  | .v (.p a), .v (.p b) => r S2 fun qs S3 => G ((a, b) :: qs) S3
  | _, _ => False
theorem qps_nil : QPs X C pos [] [] pPn := ⟨[], pps_nil, fun τ S σ H G Q A hp k => k [] H [] S rfl hp (by simpa [dispT] using A)⟩
theorem qps_cons {ks : List (Option Expr)} {vs : List Expr} {w : PTP} (hk : QE X C a pa) (hv : QE X C b pb) (hr : QPs X C pos ks vs w) : QPs X C pos (some a :: ks) (b :: vs) (pPc pa pb w) := by
  obtain ⟨ta, h1, f1⟩ := hk
  obtain ⟨tb, h2, f2⟩ := hv
  obtain ⟨tr, h3, f3⟩ := hr
  refine ⟨_, pps_cons h1 h2 h3, fun τ S σ H G Q A hp k => ?_⟩
  refine f1 τ S σ H _ _ A hp fun v H1 x S1 q1 A1 => ?_
  refine f2 _ S1 σ H1 _ _ A1 q1 fun u H2 y S2 q2 A2 => ?_
  try dsimp only at q2
  split at q2
  · refine f3 _ S2 σ H2 _ _ A2 q2 fun ps H3 qs S3 hl q3 A3 => ?_
    refine k _ H3 (_ :: qs) S3 (by simp [hl]) q3 ?_
    rw [List.append_assoc, List.append_assoc] at A3
    exact A3
  · exact q2.elim
def keysOf : List (PyData × PyData) → Option (List (Key × PyData))
  | [] => some []
  | (a, b) :: r => match unK a, keysOf r with
    | some k, some l => some ((k, b) :: l)
    | _, _ => none
def mergeD (kvs more : List (Key × PyData)) : List (Key × PyData) := more.foldl (fun acc kv => put acc kv.1 kv.2) kvs
def pDct (r : PTP) : PTE := fun S G => r S fun qs S1 => match keysOf qs with
  | some kvs => kvs.length ≤ 15 ∧ G (.v (.od (mergeD [] kvs))) S1
  | none => False
def pDctN : PTE := fun S G => G (.v (.od [])) S
theorem qe_dnew : QE X C (.Dict [] [] pos) pDctN := ⟨_, pe_dnewK, fun τ S σ H G Q A hp k p hp' => k _ _ _ _ hp (A.allocO hp' (.dK []) rfl fun w w' _ _ hw => .od hw upd_same rfl .nil)⟩
theorem keys_rd {w : Own} {S : Sl} {H : Hp} : ∀ {ps : List (V × V)} {qs : List (PyData × PyData)} {kvs : List (Key × PyData)} {τ : Tmp}, Abs0 K C w σ (τ ++ dispT ps qs) S H → ps.length = qs.length → keysOf qs = some kvs →
    ∃ kx : List (Key × V), ps = kx.map (fun kv => (kV kv.1, kv.2)) ∧ kx.map (·.1) = kvs.map (·.1) ∧ RdL K (msk H w) (kx.map (·.2)) (kvs.map (·.2))
  | [], [], _, _, _, _, h => by cases h; exact ⟨[], rfl, rfl, .nil⟩
  | [], _ :: _, _, _, _, hl, _ => by cases hl
  | _ :: _, [], _, _, _, hl, _ => by cases hl
  | (u, v) :: ps, (a, b) :: qs, kvs, τ, A, hl, h => by
    unfold keysOf at h
    split at h
    · next k l hk hr =>
      cases h
      have r1 := A.tm τ.length u (.p a) (by simp [dispT])
      have r2 := A.tm (τ.length + 1) v (.p b) (by simp [dispT])
      have A' : Abs0 K C w σ (τ ++ [(u, R.v (.p a))] ++ [(v, R.v (.p b))] ++ dispT ps qs) S H := by
        rw [List.append_assoc, List.append_assoc]; exact A
      obtain ⟨kx, e1, e2, e3⟩ := keys_rd A' (by simpa using hl) hr
      cases r1 with
      | p r1 =>
        cases r2 with
        | p r2 =>
          have := unK_rd r1 hk
          subst this
          exact ⟨(k, v) :: kx, by rw [e1]; rfl, by rw [List.map_cons, List.map_cons, e2], .cons r2 e3⟩
    · cases h
theorem merge_rd {N : Hp} : ∀ {more : List (Key × PyData)} {mx : List (Key × V)} {kvs : List (Key × PyData)} {kx : List (Key × V)}, mx.map (·.1) = more.map (·.1) → RdL K N (mx.map (·.2)) (more.map (·.2)) → kx.map (·.1) = kvs.map (·.1) → RdL K N (kx.map (·.2)) (kvs.map (·.2)) →
    (mergeK kx mx).map (·.1) = (mergeD kvs more).map (·.1) ∧ RdL K N ((mergeK kx mx).map (·.2)) ((mergeD kvs more).map (·.2))
  | [], [], _, _, _, _, h3, h4 => ⟨h3, h4⟩
  | [], _ :: _, _, _, h, _, _, _ => by cases h
  | _ :: _, [], _, _, h, _, _, _ => by cases h
  | p :: more, q :: mx, kvs, kx, h1, h2, h3, h4 => by
    rw [List.map_cons, List.map_cons] at h1 h2
    obtain ⟨g1, g2⟩ := List.cons.inj h1
    cases h2 with
    | cons r1 r2 =>
      obtain ⟨f1, f2⟩ := put_rd (k := q.1) r1 h3 h4
      have f1' : (putK kx q.1 q.2).map (·.1) = (put kvs p.1 p.2).map (·.1) := by rw [f1, g1]
      have f2' : RdL K N ((putK kx q.1 q.2).map (·.2)) ((put kvs p.1 p.2).map (·.2)) := by rw [g1] at f2 ⊢; exact f2
      show (mergeK (putK kx q.1 q.2) mx).map (·.1) = (mergeD (put kvs p.1 p.2) more).map (·.1) ∧ RdL K N ((mergeK (putK kx q.1 q.2) mx).map (·.2)) ((mergeD (put kvs p.1 p.2) more).map (·.2))
      exact merge_rd g2 r2 f1' f2'
theorem qe_dct {w : PTP} {keys : List (Option Expr)} {values : List Expr} (h : QPs X C pos keys values w) (hall : keys.all (·.isSome) = true := by rfl) (hl : keys.length = values.length := by rfl) (h0 : keys ≠ [] := by exact List.cons_ne_nil _ _) (h15 : keys.length ≤ 15 := by decide) :
    QE X C (.Dict keys values pos) (pDct w) := by
  obtain ⟨trs, h1, f1⟩ := h
  refine ⟨_, pe_disp h1 hall hl h0 h15, fun τ S σ H G Q A hp k p hp' => ?_⟩
  have A1 : Abs X.K C σ (τ ++ [(.ref p, .v (.od []))]) S (upd H p (.dK [])) := A.allocO hp' (.dK []) rfl fun w w' _ _ hw => .od hw upd_same rfl .nil
  refine f1 _ S σ _ _ _ A1 hp fun ps H2 qs S2 hl q2 A2 => ?_
  try dsimp only at q2
  split at q2
  · next kvs hk =>
    obtain ⟨w', A3⟩ := A2
    have r := A3.tm τ.length (.ref p) (.od []) (by simp)
    obtain ⟨kx, rfl, e2, e3⟩ := keys_rd A3 hl hk
    have hlen : kx.length = kvs.length := by
      have := congrArg List.length e2
      simpa using this
    cases r with
    | od g1 g2 g3 g4 =>
      rename_i kx0
      have : kx0 = [] := by simpa using g3
      subst this
      refine ⟨g2, kx, rfl, by rw [hlen]; exact q2.1, k _ _ _ _ q2.2 ?_⟩
      obtain ⟨m1, m2⟩ := merge_rd (kvs := []) (kx := []) e2 e3 rfl .nil
      have A4 := A3.mutT (j := τ.length) (a := p) (t := .od []) (t' := .od (mergeD [] kvs)) (o := .dK (mergeK [] kx)) (by simp) g1 rfl fun N ex => .od g1 upd_same m1 (m2.mono ex)
      rw [set_mid] at A4
      exact Abs.pop ⟨w', A4⟩
  · exact q2.elim
end
end PL
namespace PL
theorem ownV_of {C : PCx} {m p : List Bool} {vs : List Nat} (hM : C.mu = m) (hC : C.prot = p) (h : (vs.all fun v => !(m[v]? == some true) && !(p[v]? == some true)) = true) : OwnV C vs := by
  rw [List.all_eq_true] at h
  refine ⟨fun v hv => ?_, fun v hv => ?_⟩
  · have := h v hv
    rw [Bool.and_eq_true] at this
    rw [hM]
    simpa using this.1
  · have := h v hv
    rw [Bool.and_eq_true] at this
    rw [hC]
    simpa using this.2
end PL
namespace PL
open PySem L2
theorem qss_never {X : Cx} {C : PCx} : ∀ sts : List Stmt, QSs X C sts (fun _ _ => False)
  | [] => ⟨_, pss_nil, fun τ S σ H P D hn A hp L => hp.elim⟩
  | st :: sts => by
    obtain ⟨t1, g1, f1⟩ := qss_never (X := X) (C := C) sts
    exact ⟨_, pss_cons ps_never g1, fun τ S σ H P D hn A hp L => hp.elim⟩
end PL

set_option Elab.async false
set_option linter.all false
set_option maxRecDepth 100000
set_option maxHeartbeats 4000000
set_option autoImplicit false
/-! iterators: reversed, enumerate, zip, signs of a text -/
namespace PL
open PySem L2 RT
section
variable {X : Cx} {C : PCx} {K : PySem.W.Frag} {σ : St} {τ : Tmp} {S : Sl} {H : Hp} {a b e : Expr} {pa pb : PTE} {p pos : Pos}
theorem RdL.get' {N : Hp} {vs : List V} {ds : List PyData} (r : RdL K N vs ds) {i : Nat} {d : PyData} (h : ds[i]? = some d) : ∃ v, vs[i]? = some v ∧ Rd K N v d := r.get h
/-- a list that stays, at its temporary -/
theorem Abs0.lst {w : Own} {j : Nat} {v : V} {ds : List PyData} (A : Abs0 K C w σ τ S H) (h : τ[j]? = some (v, .v (.p (.list ds)))) : ∃ ad xs, v = .ref ad ∧ SqL K H ad xs ∧ RdL K (msk H w) xs ds := by
  have r := A.tm j v (.p (.list ds)) h
  cases r with
  | p r =>
    cases r with
    | lst q r => exact ⟨_, _, rfl, Evl.ex_l msk_le q, r⟩
theorem seq_rev {v : V} {ds : List PyData} {ad : Addr} (hv : v = .ref ad) : SeqOk K C (Itv K ad ds.length) [(v, .v (.p (.list ds)))] ds.reverse := fun τ τ' σ S H A => by
  obtain ⟨w, A0⟩ := id A
  obtain ⟨ad', xs, e, hq, r⟩ := A0.lst (j := τ.length) get_mid
  rw [hv] at e; cases e
  refine ⟨fun i d h => ?_, by rw [List.length_reverse]; exact Nat.le_refl _⟩
  have hi : i < ds.length := by
    have := (List.getElem?_eq_some_iff.mp h).1
    rwa [List.length_reverse] at this
  rw [List.getElem?_reverse hi] at h
  obtain ⟨x, hx, rx⟩ := r.get h
  refine ⟨⟨hi, _, x, hq, hx⟩, fun y H' hy => ?_⟩
  obtain ⟨rfl, hy⟩ := hy
  have := hy _ hq
  rw [hx] at this
  cases this
  exact ⟨w, A0.push rx⟩
theorem seq_revT {v : V} {ds : List PyData} {ad : Addr} (hv : v = .ref ad) : SeqOk K C (ItvT K ad ds.length) [(v, .v (.p (.tuple ds)))] ds.reverse := fun τ τ' σ S H A => by
  obtain ⟨w, A0⟩ := id A
  have r := A0.tm τ.length v (.p (.tuple ds)) get_mid
  cases r with
  | p r =>
    cases r with
    | tup q r =>
      cases hv
      have hq : SqT K H ad _ := Evl.ex_t msk_le q
      refine ⟨fun i d h => ?_, by rw [List.length_reverse]; exact Nat.le_refl _⟩
      have hi : i < ds.length := by
        have := (List.getElem?_eq_some_iff.mp h).1
        rwa [List.length_reverse] at this
      rw [List.getElem?_reverse hi] at h
      obtain ⟨x, hx, rx⟩ := r.get h
      refine ⟨⟨hi, _, x, hq, hx⟩, fun y H' hy => ?_⟩
      obtain ⟨rfl, hy⟩ := hy
      have := hy _ hq
      rw [hx] at this
      cases this
      exact ⟨w, A0.push rx⟩
def iRv (e : PTE) : PTI := fun S G => e S fun x S1 => match x with
  | .v t => t.fz = true ∧ (match t.dat with
    | .list ds => G ds.reverse S1
    | .tuple ds => G ds.reverse S1
    | _ => False)
  | _ => False
theorem qi_rev {tg : Expr} (hm : X.mg "reversed" = none) (ha : QE X C a pa) (hg : Gl X "reversed" := by rfl) (hs : starEach [a] X.env = (false, eval a X.env) :: starEach [] X.env := by rfl) : QI X C tg (.Call (.Name "reversed" p) [a] [] pos) (iRv pa) := by
  obtain ⟨ta, h1, f1⟩ := ha
  refine ⟨_, pi_revA hg hm h1 hs, fun τ S σ H G Rr A hp k => ?_⟩
  refine f1 τ S σ H _ _ A hp fun v H1 x S1 q1 A1 => ?_
  try dsimp only at q1
  split at q1
  · next t =>
    obtain ⟨hf, q1⟩ := q1
    have A2 := A1.fzTmp hf
    split at q1
    · next ds hds =>
      rw [hds] at A2
      obtain ⟨w, A0⟩ := id A2
      obtain ⟨ad, xs, rfl, hq, r⟩ := A0.lst (j := τ.length) get_snoc_last
      refine ⟨ad, xs, rfl, .inl ⟨hq, ?_⟩⟩
      rw [r.length]
      exact k _ H1 _ _ S1 (fun x hx => by simp at hx; subst hx; rfl) q1 A2 (seq_rev rfl)
    · next ds hds =>
      rw [hds] at A2
      obtain ⟨w, A0⟩ := id A2
      have r := A0.tm τ.length v (.p (.tuple ds)) get_snoc_last
      cases r with
      | p r =>
        cases r with
        | tup q r =>
          refine ⟨_, _, rfl, .inr ⟨Evl.ex_t msk_le q, ?_⟩⟩
          rw [r.length]
          exact k _ H1 _ _ S1 (fun x hx => by simp at hx; subst hx; rfl) q1 A2 (seq_revT rfl)
    · exact q1.elim
  · exact q1.elim
/-! ### enumerate, zip -/
def enumD (ds : List PyData) : List PyData := (List.range ds.length).zipWith (fun (i : Nat) d => .tuple [.int (i : Int), d]) ds
def zipD (ds es : List PyData) : List PyData := ds.zipWith (fun d e => .tuple [d, e]) es
theorem enumD_at {ds : List PyData} {i : Nat} {d : PyData} (h : (enumD ds)[i]? = some d) : ∃ d', ds[i]? = some d' ∧ d = .tuple [.int (i : Int), d'] := by
  unfold enumD at h
  rw [List.getElem?_zipWith] at h
  split at h
  · next a b h1 h2 =>
    cases h
    have := (List.getElem?_eq_some_iff.mp h1).1
    rw [List.length_range] at this
    rw [List.getElem?_range this] at h1
    cases h1
    exact ⟨b, h2, rfl⟩
  · cases h
theorem enumD_len (ds : List PyData) : (enumD ds).length = ds.length := by unfold enumD; simp
theorem zipD_at {ds es : List PyData} {i : Nat} {d : PyData} (h : (zipD ds es)[i]? = some d) : ∃ d' e', ds[i]? = some d' ∧ es[i]? = some e' ∧ d = .tuple [d', e'] := by
  unfold zipD at h
  rw [List.getElem?_zipWith] at h
  split at h
  · next a b h1 h2 => cases h; exact ⟨a, b, h1, h2, rfl⟩
  · cases h
theorem zipD_len (ds es : List PyData) : (zipD ds es).length = min ds.length es.length := by unfold zipD; simp
theorem seq_enum {v : V} {ds : List PyData} {ad : Addr} (hv : v = .ref ad) : SeqOk K C (Ite K ad) [(v, .v (.p (.list ds)))] (enumD ds) := fun τ τ' σ S H A => by
  obtain ⟨w, A0⟩ := id A
  obtain ⟨ad', xs, e, hq, r⟩ := A0.lst (j := τ.length) get_mid
  rw [hv] at e; cases e
  refine ⟨fun i d h => ?_, ⟨_, hq, by rw [enumD_len, r.length]; exact Nat.le_refl _⟩⟩
  obtain ⟨d', h', rfl⟩ := enumD_at h
  obtain ⟨x, hx, rx⟩ := r.get h'
  refine ⟨⟨_, x, hq, hx⟩, fun y H' hy => ?_⟩
  obtain ⟨T', x', rfl, hT, rfl, hy⟩ := hy
  have := hy _ hq
  rw [hx] at this
  cases this
  have ex : Evl.Ex H (upd H T' (.tup [.int (i : Nat), x])) := Evl.Ex.new hT
  have hw := A0.ow.free hT
  have me : Evl.Ex (msk H w) (msk (upd H T' (.tup [.int (i : Nat), x])) w) := msk_mono fun b u h1 h2 => ⟨h1, ex b u h2⟩
  exact ⟨w, (A0.grow ex).push (.tup (.inl (.inl (by rw [msk_none hw]; exact upd_same))) (.cons (.int _) (.cons (rx.mono me) .nil)))⟩
theorem seq_zip {v u : V} {ds es : List PyData} {ad bd : Addr} (hv : v = .ref ad) (hu : u = .ref bd) : SeqOk K C (Itz K ad bd) [(v, .v (.p (.list ds))), (u, .v (.p (.list es)))] (zipD ds es) := fun τ τ' σ S H A => by
  obtain ⟨w, A0⟩ := id A
  obtain ⟨ad', xs, e, hq, r⟩ := A0.lst (j := τ.length) (v := v) (ds := ds) (by simp)
  obtain ⟨bd', ys, e', hq', r'⟩ := A0.lst (j := τ.length + 1) (v := u) (ds := es) (by simp)
  rw [hv] at e; cases e
  rw [hu] at e'; cases e'
  refine ⟨fun i d h => ?_, ⟨_, _, hq, hq', by rw [zipD_len, r.length, r'.length]; omega⟩⟩
  obtain ⟨d1, d2, h1, h2, rfl⟩ := zipD_at h
  obtain ⟨x, hx, rx⟩ := r.get h1
  obtain ⟨z, hz, rz⟩ := r'.get h2
  refine ⟨⟨_, _, x, z, hq, hq', hx, hz⟩, fun y H' hy => ?_⟩
  obtain ⟨T', x', z', rfl, hT, rfl, hy, hy'⟩ := hy
  have := hy _ hq
  rw [hx] at this
  cases this
  have := hy' _ hq'
  rw [hz] at this
  cases this
  have ex : Evl.Ex H (upd H T' (.tup [x, z])) := Evl.Ex.new hT
  have hw := A0.ow.free hT
  have me : Evl.Ex (msk H w) (msk (upd H T' (.tup [x, z])) w) := msk_mono fun b u h1 h2 => ⟨h1, ex b u h2⟩
  exact ⟨w, (A0.grow ex).push (.tup (.inl (.inl (by rw [msk_none hw]; exact upd_same))) (.cons (rx.mono me) (.cons (rz.mono me) .nil)))⟩
def iEnu (e : PTE) : PTI := fun S G => e S fun x S1 => match x with
  | .v t => t.fz = true ∧ (match t.ls with
    | some ds => G (enumD ds) S1
    | none => False)
  | _ => False
def iZp (a b : PTE) : PTI := fun S G => a S fun x S1 => b S1 fun y S2 => match x, y with
  | .v (.p (.list ds)), .v (.p (.list es)) => G (zipD ds es) S2
  | _, _ => False
theorem qi_enum {elts : List Expr} {kk : Nat} {tpos : Pos} (hm : X.mg "enumerate" = none) (ha : QE X C a pa) (hg : Gl X "enumerate" := by rfl) (hs : starEach [a] X.env = [(false, eval a X.env)] := by rfl) : QI X C (.Tuple elts kk tpos) (.Call (.Name "enumerate" p) [a] [] pos) (iEnu pa) := by
  obtain ⟨ta, h1, f1⟩ := ha
  refine ⟨_, pi_enum hg hm (pa_cons h1 pa_nil hs) hs, fun τ S σ H G Rr A hp k => ?_⟩
  refine f1 τ S σ H _ _ A hp fun v H1 x S1 q1 A1 => ?_
  try dsimp only at q1
  split at q1
  · next t =>
    obtain ⟨hf, q1⟩ := q1
    split at q1
    · next ds hds =>
      have A2 := A1.fzTmp hf
      rw [ls_dat hds] at A2
      obtain ⟨w, A0⟩ := id A2
      obtain ⟨ad, xs, rfl, hq, r⟩ := A0.lst (j := τ.length) get_snoc_last
      exact ⟨ad, xs, rfl, hq, k _ H1 _ _ S1 (fun x hx => by simp at hx; subst hx; rfl) q1 A2 (seq_enum rfl)⟩
    · exact q1.elim
  · exact q1.elim
theorem qi_zip {elts : List Expr} {kk : Nat} {tpos : Pos} (hm : X.mg "zip" = none) (ha : QE X C a pa) (hb : QE X C b pb) (hg : Gl X "zip" := by rfl) (hs : starEach [a, b] X.env = (false, eval a X.env) :: starEach [b] X.env := by rfl) (hs2 : starEach [b] X.env = [(false, eval b X.env)] := by rfl)
    (hpl : (backTo pos (starEach [b] X.env)).any (·.1) = false := by rfl) : QI X C (.Tuple elts kk tpos) (.Call (.Name "zip" p) [a, b] [] pos) (iZp pa pb) := by
  obtain ⟨ta, h1, f1⟩ := ha
  obtain ⟨tb, h2, f2⟩ := hb
  refine ⟨_, pi_zip hg hm (pa_cons h1 (pa_cons h2 pa_nil hs2) hs) hs hpl, fun τ S σ H G Rr A hp k => ?_⟩
  refine f1 τ S σ H _ _ A hp fun v H1 x S1 q1 A1 => ?_
  refine f2 _ S1 σ H1 _ _ A1 q1 fun u H2 y S2 q2 A2 => ?_
  try dsimp only at q2
  split at q2
  · next ds es =>
    obtain ⟨w, A0⟩ := id A2
    obtain ⟨ad, xs, rfl, hq, r⟩ := A0.lst (j := τ.length) (v := v) (ds := ds) (by simp)
    obtain ⟨bd, ys, rfl, hq', r'⟩ := A0.lst (j := τ.length + 1) (v := u) (ds := es) (by simp)
    rw [List.append_assoc] at A2
    exact ⟨ad, bd, xs, ys, rfl, hq, hq', k _ H2 _ _ S2 (fun x hx => by simp at hx; rcases hx with rfl | rfl <;> rfl) q2 A2 (seq_zip rfl rfl)⟩
  · exact q2.elim
end
end PL

set_option Elab.async false
set_option linter.all false
set_option maxRecDepth 100000
set_option maxHeartbeats 4000000
set_option autoImplicit false
/-! slices; a range from its end -/
namespace PL
open PySem L2
abbrev PTO := Sl → (Option Int → Sl → Prop) → Prop
def oN : PTO := fun S G => G none S
def oS (e : PTE) : PTO := fun S G => e S fun x S1 => match x with
  | .v (.p (.int i)) => G (some i) S1
  | _ => False
def cutD (ds : List PyData) (lo hi : Option Int) : List PyData := (ds.drop (HT.sIx ds.length 0 lo)).take (HT.sIx ds.length ds.length hi - HT.sIx ds.length 0 lo)
/-- xs[lo:hi] -/
def pSl (e : PTE) (lo hi : PTO) : PTE := fun S G => e S fun x S1 => lo S1 fun l S2 => hi S2 fun h S3 => on1 S3 x fun t => match t.ls, t with
  | some ds, _ => G (.v (.ol (cutD ds l h))) S3
  | none, .p (.tuple ds) => ¬ (HT.sIx ds.length 0 l = 0 ∧ HT.sIx ds.length ds.length h = ds.length) ∧ G (.v (.p (.tuple (cutD ds l h)))) S3
  | none, .p (.str z) => z.length ≤ sizeLine ∧ G (.v (.p (.str (cutS z l h)))) S3
  | _, _ => False
section
variable {X : Cx} {C : PCx} {K : PySem.W.Frag} {σ : St} {τ : Tmp} {S : Sl} {H : Hp} {a b e : Expr} {pa pb : PTE} {p pos : Pos}
structure QO (X : Cx) (C : PCx) (e : Option Expr) (o : PTO) : Prop where
  ex : ∃ t, PO X e t ∧ ∀ (τ : Tmp) (S : Sl) (σ : St) (H : Hp) (G : Option Int → Sl → Prop) (Q : Option Int → Hp → Prop), Abs X.K C σ τ S H → o S G →
    (∀ i H' S', G i S' → Abs X.K C σ τ S' H' → Q i H') → t σ H Q
theorem qo_none : QO X C none oN := ⟨_, po_none, fun τ S σ H G Q A hp k => k none H S hp A⟩
theorem qo_some (h : QE X C e pa) : QO X C (some e) (oS pa) := by
  obtain ⟨t, h1, f1⟩ := h
  refine ⟨_, po_some h1, fun τ S σ H G Q A hp k => ?_⟩
  refine f1 τ S σ H _ _ A hp fun v H1 x S1 q1 A1 => ?_
  try dsimp only at q1
  split at q1
  · next i =>
    have r := A1.rd1 (d := .int i) rfl
    cases r
    exact ⟨i, rfl, k _ H1 S1 q1 A1.pop⟩
  · exact q1.elim
theorem RdL.cut {N : Hp} {vs : List V} {ds : List PyData} (r : RdL K N vs ds) (lo hi : Option Int) : RdL K N (cutV vs lo hi) (cutD ds lo hi) := by
  unfold cutV cutD
  rw [r.length]
  exact (r.drop _).take _
theorem Rd.tupAt {N : Hp} {v : V} {ds : List PyData} (r : Rd K N v (.tuple ds)) : ∃ ad xs, v = .ref ad ∧ SqT K N ad xs ∧ RdL K N xs ds := by
  cases r with
  | tup q r => exact ⟨_, _, rfl, q, r⟩
theorem qe_slice {lo hi : Option Expr} {ol oh : PTO} {p2 : Pos} (ha : QE X C a pa) (hl : QO X C lo ol) (hh : QO X C hi oh) : QE X C (.Subscript a (.Slice lo hi none p2) pos) (pSl pa ol oh) := by
  obtain ⟨ta, h1, f1⟩ := ha
  obtain ⟨tl, h2, f2⟩ := hl
  obtain ⟨th, h3, f3⟩ := hh
  refine ⟨_, pe_slice (sl_list.or (sl_tup.or sl_str)) h1 h2 h3, fun τ S σ H G Q A hp k => ?_⟩
  refine f1 τ S σ H _ _ A hp fun v H1 x S1 q1 A1 => ?_
  refine f2 _ S1 σ H1 _ _ A1 q1 fun l H2 S2 q2 A2 => ?_
  refine f3 _ S2 σ H2 _ _ A2 q2 fun h H3 S3 q3 A3 => ?_
  obtain ⟨t, ht, q3⟩ := on1_iff q3
  obtain ⟨w, A0⟩ := id A3
  obtain ⟨_, r1⟩ := A0.look get_snoc_last ht
  split at q3
  · next ds hds =>
    obtain ⟨ad, xs, rfl, q, r⟩ := r1.list hds msk_le
    exact .inl ⟨ad, xs, rfl, q, fun p hp => k _ _ _ _ q3 (A0.newL hp (r.cut l h))⟩
  · next ds hds =>
    cases r1 with
    | p r1 =>
      obtain ⟨ad, xs, rfl, q, r⟩ := r1.tupAt
      refine .inr (.inl ⟨ad, xs, rfl, Evl.ex_t msk_le q, by rw [r.length]; exact q3.1, fun p hp => k _ _ _ _ q3.2 ?_⟩)
      have ex : Evl.Ex H3 (upd H3 p (.tup (cutV xs l h))) := Evl.Ex.new hp
      have hw := A0.ow.free hp
      have me : Evl.Ex (msk H3 w) (msk (upd H3 p (.tup (cutV xs l h))) w) := msk_mono fun b u h1 h2 => ⟨h1, ex b u h2⟩
      have A' : Abs X.K C σ (τ ++ [(V.ref ad, x)] ++ [(.ref p, .v (.p (.tuple (cutD ds l h))))]) S3 (upd H3 p (.tup (cutV xs l h))) := ⟨w, (A0.grow ex).push (.tup (.inl (.inl (by rw [msk_none hw]; exact upd_same))) ((r.cut l h).mono me))⟩
      exact A'.sel
  · next z hz =>
    have r := A3.rd1 ht
    cases r
    exact .inr (.inr ⟨_, rfl, q3.1, k _ _ _ _ q3.2 (A3.ans1 fun N => .str _)⟩)
  · exact q3.elim
/-! ### reversed(range(..)) -/
def iRr1 (e : PTE) : PTI := fun S G => e S fun x S1 => match x with
  | .v (.p (.int n)) => (-(2 ^ 62) ≤ n ∧ n < 2 ^ 62) ∧ G (rng 0 n).reverse S1
  | _ => False
def iRr2 (a e : PTE) : PTI := fun S G => a S fun y S0 => e S0 fun x S1 => match y, x with
  | .v (.p (.int m)), .v (.p (.int n)) => (-(2 ^ 62) ≤ m ∧ m < 2 ^ 62 ∧ -(2 ^ 62) ≤ n ∧ n < 2 ^ 62) ∧ G (rng m n).reverse S1
  | _, _ => False
theorem seq_rr {lo hi : Int} : SeqOk K C (Itc (lo + (((hi - lo).toNat : Nat) : Int) - 1) (-1) (hi - lo).toNat) [] (rng lo hi).reverse := fun τ τ' σ S H A => by
  have hl : (rng lo hi).length = (hi - lo).toNat := by unfold rng; rw [List.length_map, List.length_range]
  refine ⟨fun i d h => ?_, by rw [List.length_reverse, hl]; exact Nat.le_refl _⟩
  have hi' : i < (rng lo hi).length := by
    have := (List.getElem?_eq_some_iff.mp h).1
    rwa [List.length_reverse] at this
  rw [List.getElem?_reverse hi'] at h
  rw [hl] at hi' h
  refine ⟨hi', fun x H' y => ?_⟩
  obtain ⟨rfl, rfl⟩ := y
  unfold rng at h
  rw [List.getElem?_map, List.getElem?_range (by omega)] at h
  cases h
  have e : lo + (((hi - lo).toNat : Nat) : Int) - 1 + (i : Int) * -1 = lo + (((hi - lo).toNat - 1 - i : Nat) : Int) := by omega
  rw [e]
  exact A.push fun w _ => .int _
theorem qi_rr1 {tg : Expr} {p2 pos2 : Pos} (hm : X.mg "reversed" = none) (hm2 : X.mg "range" = none) (ha : QE X C a pa) (hg : Gl X "reversed" := by rfl) (hg2 : Gl X "range" := by rfl) (na : starEach [a] X.env = (false, eval a X.env) :: starEach [] X.env := by rfl)
    (hs : starEach [.Call (.Name "range" p2) [a] [] pos2] X.env = (false, eval (.Call (.Name "range" p2) [a] [] pos2) X.env) :: starEach [] X.env := by rfl) : QI X C tg (.Call (.Name "reversed" p) [.Call (.Name "range" p2) [a] [] pos2] [] pos) (iRr1 pa) := by
  obtain ⟨ta, h1, f1⟩ := ha
  refine ⟨_, pi_revR hg hm (prg_1 hg2 hm2 h1 na) hs, fun τ S σ H G Rr A hp k => ?_⟩
  refine f1 τ S σ H _ _ A hp fun v H1 x S1 q1 A1 => ?_
  try dsimp only at q1
  split at q1
  · next n =>
    have r := A1.rd1 (d := .int n) rfl
    cases r
    refine ⟨n, rfl, by decide, by decide, q1.1.1, q1.1.2, ?_⟩
    exact k _ H1 [] (rng 0 n).reverse S1 (fun x hx => by simp at hx) q1.2 (by simpa using A1.pop) seq_rr
  · exact q1.elim
theorem qi_rr2 {tg : Expr} {p2 pos2 : Pos} (hm : X.mg "reversed" = none) (hm2 : X.mg "range" = none) (ha : QE X C a pa) (hb : QE X C b pb) (hg : Gl X "reversed" := by rfl) (hg2 : Gl X "range" := by rfl) (na : starEach [a, b] X.env = (false, eval a X.env) :: starEach [b] X.env := by rfl)
    (nb : starEach [b] X.env = (false, eval b X.env) :: starEach [] X.env := by rfl) (hpp : (backTo pos2 (starEach [b] X.env)).any (·.1) = false := by rfl)
    (hs : starEach [.Call (.Name "range" p2) [a, b] [] pos2] X.env = (false, eval (.Call (.Name "range" p2) [a, b] [] pos2) X.env) :: starEach [] X.env := by rfl) : QI X C tg (.Call (.Name "reversed" p) [.Call (.Name "range" p2) [a, b] [] pos2] [] pos) (iRr2 pa pb) := by
  obtain ⟨ta, h1, f1⟩ := ha
  obtain ⟨tb, h2, f2⟩ := hb
  refine ⟨_, pi_revR hg hm (prg_2 hg2 hm2 h1 h2 na nb hpp) hs, fun τ S σ H G Rr A hp k => ?_⟩
  refine f1 τ S σ H _ _ A hp fun v H1 x S1 q1 A1 => ?_
  refine f2 _ S1 σ H1 _ _ A1 q1 fun u H2 y S2 q2 A2 => ?_
  try dsimp only at q2
  split at q2
  · next m n =>
    have r2 := A2.rd1 (d := .int n) rfl
    have r1 := A2.rd2 (d := .int m) rfl
    cases r1; cases r2
    refine ⟨m, n, rfl, rfl, q2.1.1, q2.1.2.1, q2.1.2.2.1, q2.1.2.2.2, ?_⟩
    rw [List.append_assoc] at A2
    exact k _ H2 [] (rng m n).reverse S2 (fun x hx => by simp at hx) q2.2 (by simpa using A2.pop) seq_rr
  · exact q2.elim
end
end PL

set_option Elab.async false
set_option linter.all false
set_option maxRecDepth 100000
set_option maxHeartbeats 4000000
set_option autoImplicit false
/-! comprehensions over a list that a slot owns: the slot is given up meanwhile -/
namespace PL
open PySem L2
section
variable {K : PySem.W.Frag} {C : PCx} {w : Own} {σ : St} {τ : Tmp} {S : Sl} {H H' : Hp}
theorem Abs.untake {v : V} {t : T} {i : Nat} (A : Abs K C σ (τ ++ [(v, .v t)]) S H) (hv : σ[i]? = some (some v)) (hfl : ∀ k, t.kid k = none) : Abs K C σ τ (S.set i (some t)) H := by
  obtain ⟨w, A⟩ := A
  have e : ∀ b o, H b = some o → H b = some o := fun _ _ h => h
  have hiσ : i < σ.length := (List.getElem?_eq_some_iff.mp hv).1
  have hi : i < S.length := by rw [A.len]; exact hiσ
  refine ⟨fun b => (w b).bind (gTo τ.length i), A.ow.re gTo_ok, by rw [List.length_set]; exact A.len, fun k u h => ?_, fun j u t' h => ?_, fun j u y k h z => ?_, fun b j m h => ?_, fun b k m h => ?_, A.pr, TgOk.trans A.tg (fun j u k a q h => ⟨j, get_left h⟩) (fun j u k a q h t' ht hs => ?_) (msk_re e)⟩
  · by_cases hk : k = i
    · subst hk
      rw [List.getElem?_set_self hi] at h
      cases h
      refine ⟨v, hv, ?_⟩
      exact (A.tm τ.length v _ get_snoc_last).move (msk_re e) (mv_re (fun m => by simp [gTo]) e)
    · rw [List.getElem?_set_ne (Ne.symm hk)] at h
      obtain ⟨x, h1, h2⟩ := A.sl k u h
      exact ⟨x, h1, h2.move (msk_re e) (mv_re (fun m => by simp [gTo, hk]) e)⟩
  · have hj : j < τ.length := (List.getElem?_eq_some_iff.mp h).1
    exact (A.tm j u t' (get_left h)).move (msk_re e) (mv_re (fun m => by simp [gTo, Nat.ne_of_lt hj]) e)
  · exact A.tr j u y k (get_left h) z
  · obtain ⟨l', h1, h2⟩ := Option.bind_eq_some_iff.mp h
    match l', h2 with
    | (.t j', m'), h2 =>
      unfold gTo at h2
      dsimp only at h2
      split at h2
      · cases h2
      · cases h2
        have := A.tl b j m h1
        rw [List.length_append] at this
        simp at this
        omega
    | (.s j', m'), h2 =>
      unfold gTo at h2
      dsimp only at h2
      split at h2 <;> cases h2
  · obtain ⟨l', h1, h2⟩ := Option.bind_eq_some_iff.mp h
    match l', h2 with
    | (.t j', m'), h2 =>
      unfold gTo at h2
      dsimp only at h2
      split at h2
      · cases h2; exact ⟨t, by rw [List.getElem?_set_self hi]⟩
      · cases h2
    | (.s j', m'), h2 =>
      unfold gTo at h2
      dsimp only at h2
      split at h2
      · cases h2
      · cases h2
        rename_i hk
        rw [List.getElem?_set_ne (Ne.symm hk)]
        exact A.sz b k m h1
  · by_cases hk : k = i
    · subst hk
      rw [List.getElem?_set_self hi] at ht
      cases ht
      exact (at_flat hfl hs).elim
    · rw [List.getElem?_set_ne (Ne.symm hk)] at ht
      exact ⟨ht, rfl, mv_re (fun m => by simp [gTo, hk]) e⟩
/-- the list that grows, another temporary above it -/
theorem Abs.acc2 {D : Addr} {ds : List PyData} {v : V} {d : PyData} {z : V × R} (A : Abs K C σ (τ ++ [(.ref D, .v (.ol ds))] ++ [z] ++ [(v, .v (.p d))]) S H) :
    ∃ xs, H D = some (.lst xs) ∧ xs.length = ds.length ∧ Abs K C σ (τ ++ [(.ref D, .v (.ol (ds ++ [d])))] ++ [z]) S (upd H D (.lst (xs ++ [v]))) := by
  obtain ⟨w, A⟩ := A
  have r := A.tm τ.length (.ref D) (.ol ds) (by simp)
  have r1 := A.tm (τ.length + 2) v (.p d) (by simp)
  cases r with
  | ol h1 h2 r =>
    cases r1 with
    | p r1 =>
      refine ⟨_, h2, r.length, ?_⟩
      have A' := A.mutT (j := τ.length) (t := .ol ds) (t' := .ol (ds ++ [d])) (by simp) h1 rfl fun N ex => .ol h1 (upd_same (o := .lst _)) ((r.mono ex).append (.cons (r1.mono ex) .nil))
      have e : (τ ++ [(V.ref D, R.v (T.ol ds))] ++ [z] ++ [(v, R.v (T.p d))]).set τ.length (V.ref D, R.v (T.ol (ds ++ [d]))) = τ ++ [(V.ref D, R.v (T.ol (ds ++ [d])))] ++ [z] ++ [(v, R.v (T.p d))] := by
        rw [List.append_assoc, set_mid, List.append_assoc]
        simp
      rw [e] at A'
      exact Abs.pop ⟨w, A'⟩
theorem seq_own {v : V} {ds : List PyData} {ad : Addr} (hv : v = .ref ad) : SeqOk K C (Itl K ad) [(v, .v (.ol ds))] ds := fun τ τ' σ S H A => by
  obtain ⟨w, A0⟩ := id A
  have r := A0.tm τ.length v (.ol ds) get_mid
  cases r with
  | ol h1 h2 r =>
    cases hv
    have hq : SqL K H ad _ := .inl (.inl h2)
    refine ⟨fun i d h => ?_, _, hq, by rw [r.length]; exact Nat.le_refl _⟩
    obtain ⟨x, hx, rx⟩ := r.get h
    refine ⟨⟨_, x, hq, hx⟩, fun y H' hy => ?_⟩
    obtain ⟨rfl, hy⟩ := hy
    have := hy _ hq
    rw [hx] at this
    cases this
    exact ⟨w, A0.push rx⟩
end
/-- [e for g in xs if q], xs a list that slot i owns -/
def pLcO (i : Nat) (g : PTG) (q : PTT) (e : PTE) (vs : List Nat) : PTE := fun S G => match S[i]? with
  | some (some (.ol ds)) => ∃ W : Nat → List PyData → Sl → Prop, W 0 [] (wipeS (S.set i none) vs) ∧
    (∀ j d acc S, ds[j]? = some d → W j acc S → g d S fun S2 => q S2 fun b S3 => (b = true → e S3 fun y S4 => match y with
      | .v (.p d') => acc.length < sizeLine ∧ W (j + 1) (acc ++ [d']) (wipeS S4 vs)
      | _ => False) ∧ (b = false → W (j + 1) acc (wipeS S3 vs))) ∧
    (∀ acc S, W ds.length acc S → G (.v (.ol acc)) (S.set i (some (.ol ds))))
  | _ => False
section
variable {X : Cx} {C : PCx} {elt tg iter : Expr} {ifs : List Expr} {pe : PTE} {pos : Pos} {vs : List Nat}
theorem lc_allO {i : Nat} {g : PTG} {q : PTT} {scope : Scope} {own : List (Str × Nat)} (hv : OwnV C (own.map (·.2))) (hi : PE X iter (tVar i))
    (hg : ∀ z, QGb (blkX X scope z) C tg (own.map (·.2)) g) (hq : ∀ z, QTs (blkX X scope z) C ifs q) (he : ∀ z, QE (blkX X scope z) C elt pe) :
    ∃ wi gt tt te, PI X tg iter wi ∧ (∀ (s : Shared) (H : Hp) (C : Addr) (cl : List (Str × Addr)) (fp : List Addr), PG (X.blk s H scope (compEnvC scope cl C X.env) fp) tg gt) ∧
      (∀ (s : Shared) (H : Hp) (C : Addr) (cl : List (Str × Addr)) (fp : List Addr), PTs (X.blk s H scope (compEnvC scope cl C X.env) fp) ifs tt) ∧
      (∀ (s : Shared) (H : Hp) (C : Addr) (cl : List (Str × Addr)) (fp : List Addr), PE (X.blk s H scope (compEnvC scope cl C X.env) fp) elt te) ∧
      ∀ (τ : Tmp) (S : Sl) (σ : St) (H : Hp) (G : R → Sl → Prop) (Q : VK), Abs X.K C σ τ S H → pLcO i g q pe (own.map (·.2)) S G → (∀ v H' x S', G x S' → Abs X.K C σ (τ ++ [(v, x)]) S' H' → Q v H') → tLc wi gt tt te (own.map (·.2)) σ H Q := by
  have hg' := fun z => (hg z).ex
  have hq' := fun z => (hq z).ex
  have he' := fun z => (he z).ex
  obtain ⟨gt, hg'⟩ := Classical.skolem.mp hg'
  obtain ⟨tt, hq'⟩ := Classical.skolem.mp hq'
  obtain ⟨te, he'⟩ := Classical.skolem.mp he'
  refine ⟨_, fun v σ H Q => ∀ z, gt z v σ H Q, fun σ H Q => ∀ z, tt z σ H Q, fun σ H Q => ∀ z, te z σ H Q, pi_list hi,
    fun s H C' cl fp => ⟨fun pins s' σ H' x v Q I r h => (hg' (s, H, C', cl, fp)).1.run pins s' σ H' x v Q I r (h _)⟩, fun s H C' cl fp => ⟨fun pins s' σ H' Q I h => (hq' (s, H, C', cl, fp)).1.run pins s' σ H' Q I (h _)⟩,
    fun s H C' cl fp => ⟨fun pins s' σ H' Q I h => (he' (s, H, C', cl, fp)).1.run pins s' σ H' Q I (h _)⟩, ?_⟩
  intro τ S σ H G Q A hp k
  unfold pLcO at hp
  split at hp
  · next ds hs =>
    obtain ⟨W, w0, turn, last⟩ := hp
    obtain ⟨v, hσ, AT⟩ := A.take hs
    obtain ⟨ad, xs, rfl, hl⟩ : ∃ ad xs, v = .ref ad ∧ H ad = some (.lst xs) := by
      obtain ⟨w, A0⟩ := AT
      have r := A0.tm τ.length v (.ol ds) get_snoc_last
      cases r with
      | ol h1 h2 r => exact ⟨_, _, rfl, h2⟩
    refine ⟨.ref ad, hσ, ad, rfl, ⟨xs, .inl (.inl hl)⟩, ?_⟩
    intro D hD
    have A2 : Abs X.K C σ (τ ++ [(.ref D, .v (.ol []))]) S (upd H D (.lst [])) := A.allocO hD (.lst []) rfl fun w w' _ _ hw => .ol hw upd_same .nil
    obtain ⟨v', hσ', A3⟩ := A2.take hs
    rw [hσ] at hσ'
    cases hσ'
    have A4 := A3.wipe hv
    refine ⟨fun j m H => j + m = ds.length ∧ ∃ acc S, Abs X.K C (L2.wipe σ (own.map (·.2))) (τ ++ [(.ref D, .v (.ol acc))] ++ [(.ref ad, .v (.ol ds))]) S H ∧ W j acc S, ⟨ds.length, by simp, [], _, A4, w0⟩, ?_⟩
    rintro j m H ⟨him, acc, S, A, wi⟩
    have sq := seq_own (K := X.K) (C := C) (v := .ref ad) (ds := ds) rfl (τ ++ [(.ref D, .v (.ol acc))]) [] (L2.wipe σ (own.map (·.2))) S H (by rw [List.append_nil]; exact A)
    simp only [List.append_nil] at sq
    obtain ⟨sq1, sq2⟩ := sq
    by_cases h : j < ds.length
    · right
      obtain ⟨s1, s2⟩ := sq1 j ds[j] (List.getElem?_eq_getElem h)
      refine ⟨s1, fun H' => ∃ acc S, Abs X.K C (L2.wipe σ (own.map (·.2))) (τ ++ [(.ref D, .v (.ol acc))] ++ [(.ref ad, .v (.ol ds))]) S H' ∧ W (j + 1) acc S, fun H' h' => ⟨m - 1, by omega, by omega, h'⟩, fun x H' y z => ?_⟩
      refine (hg' z).2 _ S _ H' x ds[j] _ _ (s2 x H' y) (turn j _ acc S (List.getElem?_eq_getElem h) wi) fun σ2 S2 H2 hw A' q => ?_
      have hw : L2.wipe σ2 (own.map (·.2)) = L2.wipe σ (own.map (·.2)) := hw.trans wipe_idem
      refine ⟨hw, fun z' => (hq' z').2 _ S2 σ2 H2 _ _ A' q fun b H3 S3 q3 A3 => ?_⟩
      cases b with
      | false =>
        rw [if_neg Bool.false_ne_true]
        have A4 := A3.wipe hv
        rw [hw] at A4
        exact ⟨acc, _, A4, q3.2 rfl⟩
      | true =>
        rw [if_pos rfl]
        refine fun z'' => (he' z'').2 _ S3 σ2 H3 _ _ A3 (q3.1 rfl) fun z H4 y S4 q4 A4 => ?_
        try dsimp only at q4
        split at q4
        · next d' =>
          obtain ⟨xs, h1, h2, A5⟩ := A4.acc2
          have A6 := A5.wipe hv
          rw [hw] at A6
          exact ⟨xs, h1, by rw [h2]; exact q4.1, _, _, A6, q4.2⟩
        · exact q4.elim
    · left
      have e : j = ds.length := by omega
      subst e
      refine ⟨sq2, k _ H (.v (.ol acc)) _ (last acc S wi) ?_⟩
      exact (A.unwipe hv).untake hσ (fun _ => rfl)
  · exact hp.elim
theorem qe_lcO {i : Nat} {g : PTG} {q : PTT} {scope : Scope} (own : List (Str × Nat)) (hc : X.calm = true) (hN : X.N.Nodup) (ok : BlkOk X.N X.env.scope scope own) (hv : OwnV C (own.map (·.2))) (hi : PE X iter (tVar i))
    (hg : ∀ z, QGb (blkX X scope z) C tg (own.map (·.2)) g) (hq : ∀ z, QTs (blkX X scope z) C ifs q) (he : ∀ z, QE (blkX X scope z) C elt pe) (hs : ∀ x, foldedSetIterable iter X.env x = pure x := by intro _; rfl) :
    QE X C (.ListComp elt [⟨tg, iter, ifs, 0⟩] scope pos) (pLcO i g q pe (own.map (·.2))) := by
  obtain ⟨wi, gt, tt, te, h1, h2, h3, h4, h5⟩ := lc_allO hv hi hg hq he
  exact ⟨_, pe_lc (own := own) hc hN h1 ok h2 h3 h4 hs, h5⟩
theorem qs_setLcO {j : Nat} {i : Nat} {y : Str} {py spos : Pos} {g : PTG} {q : PTT} {scope : Scope} (own : List (Str × Nat)) (hc : X.calm = true) (hN : X.N.Nodup) (ok : BlkOk X.N X.env.scope scope own) (hv : OwnV C (own.map (·.2)))
    (hy : X.N[j]? = some y) (hyl : X.env.scope.names.lookup y = some .local) (hpr : C.prot[j]? ≠ some true)
    (hsw : swapsWith (.ListComp elt [⟨tg, iter, ifs, 0⟩] scope pos) (some (.Name y py)) spos.line X.env = pure true)
    (hi : PE X iter (tVar i)) (hg : ∀ z, QGb (blkX X scope z) C tg (own.map (·.2)) g) (hq : ∀ z, QTs (blkX X scope z) C ifs q) (he : ∀ z, QE (blkX X scope z) C elt pe) (hs : ∀ x, foldedSetIterable iter X.env x = pure x := by intro _; rfl) :
    QS X C (.Assign [.Name y py] (.ListComp elt [⟨tg, iter, ifs, 0⟩] scope pos) spos) (sSet j (pLcO i g q pe (own.map (·.2)))) := by
  obtain ⟨wi, gt, tt, te, h1, h2, h3, h4, h5⟩ := lc_allO hv hi hg hq he
  refine ⟨_, ps_setLc (own := own) hc hN hy hyl hsw h1 ok h2 h3 h4 hs, fun τ S σ H P D hn A hp L => ?_⟩
  refine h5 τ S σ H _ _ A hp fun v H1 x S1 q1 A1 => ?_
  try dsimp only at q1
  split at q1
  · exact L.nx _ _ H1 (A1.toSlot (hn.at _) hpr q1.1) q1.2
  · exact q1.elim
theorem qs_setLcOF {j : Nat} {i : Nat} {y : Str} {py spos : Pos} {g : PTG} {q : PTT} {scope : Scope} (own : List (Str × Nat)) (hc : X.calm = true) (hN : X.N.Nodup) (ok : BlkOk X.N X.env.scope scope own) (hv : OwnV C (own.map (·.2)))
    (hy : X.N[j]? = some y) (hyl : X.env.scope.names.lookup y = some .local) (hpr : C.prot[j]? ≠ some true)
    (hsw : swapsWith (.ListComp elt [⟨tg, iter, ifs, 0⟩] scope pos) (some (.Name y py)) spos.line X.env = pure true)
    (hi : PE X iter (tVar i)) (hg : ∀ z, QGb (blkX X scope z) C tg (own.map (·.2)) g) (hq : ∀ z, QTs (blkX X scope z) C ifs q) (he : ∀ z, QE (blkX X scope z) C elt pe) (hs : ∀ x, foldedSetIterable iter X.env x = pure x := by intro _; rfl) :
    QS X C (.Assign [.Name y py] (.ListComp elt [⟨tg, iter, ifs, 0⟩] scope pos) spos) (sSet j (pFz (pLcO i g q pe (own.map (·.2))))) := by
  obtain ⟨wi, gt, tt, te, h1, h2, h3, h4, h5⟩ := lc_allO hv hi hg hq he
  refine ⟨_, ps_setLc (own := own) hc hN hy hyl hsw h1 ok h2 h3 h4 hs, fun τ S σ H P D hn A hp L => ?_⟩
  have hp : pLcO i g q pe (own.map (·.2)) S (fun x S1 => match x with
    | .v t => t.fz = true ∧ (j < S1.length ∧ P.nx (S1.set j (some (.p t.dat))))
    | _ => False) := hp
  refine h5 τ S σ H _ _ A hp fun v H1 x S1 q1 A1 => ?_
  try dsimp only at q1
  split at q1
  · obtain ⟨q0, q1⟩ := q1
    have A2 := A1.fzTmp q0
    exact L.nx _ _ H1 (A2.toSlot (hn.at _) hpr q1.1) q1.2
  · exact q1.elim
end
end PL

set_option Elab.async false
set_option linter.all false
set_option maxRecDepth 100000
set_option maxHeartbeats 4000000
set_option autoImplicit false
/-! more rules -/
namespace PL
open PySem L2
section
variable {X : Cx} {C : PCx} {e a b c o : Expr} {es : List Expr} {pa pb pc po : PTE} {ta : PTA} {pos p : Pos} {K : PySem.W.Frag} {σ : St} {τ : Tmp} {S : Sl} {H : Hp} {x : Str} {fa : Addr} {fd : FuncData} {ps : List Str} {k : Nat} {f : FSp}
/-- f() -/
theorem qe_call0 (F : FnOk X.prog X.w X.K X.mg X.base CX0 k fa fd ps (lift X.K f)) (hr : Room k X.A) (hg : Gl X x) (hm : X.mg x = some (.ref fa)) (hk : PySem.W.keepIn X.K (.ref fa) = true) (hb : Binds X.K fd ps [])
    (hdb : (x == ("__debug__" : Str)) = false := by decide) : QE X C (.Call (.Name x p) [] [] pos) (pCall f aN) := by
  refine ⟨_, pe_call0 F hr hg hm hk hb .nil pass0 hdb, fun τ S σ H G Q A hp K => ?_⟩
  obtain ⟨w, A1⟩ := A
  have A2 : Abs0 X.K C w σ (τ ++ ([] : List V).zip ([] : List R)) S H := by simpa using A1
  obtain ⟨nd, q1⟩ := hp
  show lift X.K f ([] ++ []) H Q E0
  refine ⟨[], _, _, rfl, A2.preIn rfl rfl rfl nd, q1, fun r ts' g v H' w' P => ?_⟩
  exact K v H' _ _ g.2 ⟨_, A2.post rfl nd (fun i j e => args_slot (xs := []) (ts := []) rfl e) g.1 P⟩
theorem qe_callD0 {ps : List Str} (F : Def X.prog X.w X.K X.mg X.base k x ps f) (hr : Room k X.A) (hg : Gl X x) (hdb : (x == ("__debug__" : Str)) = false := by decide) : QE X C (.Call (.Name x p) [] [] pos) (pCall f aN) := by
  obtain ⟨fa, fd, h1, h2, h3, h4⟩ := F
  exact qe_call0 h1 hr hg h2 h3 h4 hdb
end
end PL
namespace PL
open PySem L2
section
variable {X : Cx} {C : PCx} {e a b c o : Expr} {es : List Expr} {pa pb pc po : PTE} {ta : PTA} {pos p : Pos} {K : PySem.W.Frag} {w : Own} {σ : St} {τ : Tmp} {S : Sl} {H : Hp} {id : String}
/-! ### parts of things of one's own -/
theorem Rp.kidsOf {N : Hp} {l : Lab} {v : V} {t : T} {ts : List T} (r : Rp K N H w l v t) (h : t.kids = some ts) (hN : Evl.Ex N H) :
    ∃ a xs, v = .ref a ∧ (SqL K H a xs ∨ SqT K H a xs) ∧ RpL K N H w l 0 xs ts ∧ (∀ k u, t.kid k = some u ↔ ts[k]? = some u) ∧ ∀ k u t', ts[k]? = some t' → xs[k]? = some u → Rp K N H w (l.1, k :: l.2) u t' → AtP K N H w l v t [k] u := by
  cases r with
  | tup q r => cases h; exact ⟨_, _, rfl, .inr (Evl.ex_t hN q), r, fun _ _ => Iff.rfl, fun k u t' h1 h2 h3 => .tup q r h2 h1 (.nil h3)⟩
  | oll q0 q r => cases h; exact ⟨_, _, rfl, .inl (Evl.sq_of q), r, fun _ _ => Iff.rfl, fun k u t' h1 h2 h3 => .oll q0 q r h2 h1 (.nil h3)⟩
  | p => cases h
  | ol => cases h
  | od => cases h
  | lk => cases h
  | ins => cases h
  | exc => cases h
  | exv => cases h
  | ot => cases h
theorem qe_ixP (hu : X.A.units + 1 < cLine) (ha : QE X C a pa) (hb : QE X C b pb) (hs : PlainIx b) : QE X C (.Subscript a b pos) (pIx pa pb) := by
  obtain ⟨ta, h1, f1⟩ := ha
  obtain ⟨tb, h2, f2⟩ := hb
  refine ⟨_, pe_ix (ix_seq.or (ix_dict hu)) h1 h2 hs, fun τ S σ H G Q A hp k => ?_⟩
  refine f1 τ S σ H _ _ A hp fun v H1 x S1 q1 A1 => ?_
  refine f2 _ S1 σ H1 _ _ A1 q1 fun u H2 y S2 q2 A2 => ?_
  obtain ⟨t, ht, q2⟩ := on1_iff q2
  obtain ⟨t', ht', q2⟩ := on1_iff q2
  split at q2
  · next ts z hk =>
    obtain ⟨j, hj, q2⟩ := q2
    have ru := A2.rd1 ht'
    cases ru
    obtain ⟨w, A0⟩ := id A2
    obtain ⟨l, r1⟩ := A0.look (j := τ.length) get_mid ht
    obtain ⟨ad, xs, rfl, hq, rl, hkid, hat⟩ := r1.kidsOf hk msk_le
    split at q2
    · next d hd =>
      obtain ⟨y1, hy1, ry⟩ := rl.get hd
      have hixv : atI xs z = some y1 := by
        unfold atI; rw [rl.length, hj]; exact hy1
      have fin : Q y1 H2 := by
        refine k _ H2 _ _ q2 ?_
        cases ry with
        | p ry =>
          have A' := A0.push ry
          rw [List.append_assoc τ] at A'
          exact Abs.sel ⟨w, A'⟩
      rcases hq with hq | hq
      · exact .inl (.inl ⟨ad, xs, z, y1, rfl, rfl, hq, hixv, fin⟩)
      · exact .inl (.inr (.inl ⟨ad, xs, z, y1, rfl, rfl, hq, hixv, fin⟩))
    · next t1 hne hd =>
      split at q2
      · next r hr =>
        have key : ∃ i kk q l0, r = .g i kk q ∧ C.mu[i]? = some true ∧ Rp X.K (msk H2 w) H2 w l0 (.ref ad) t ∧ ∀ y1, AtP X.K (msk H2 w) H2 w l0 (.ref ad) t [j] y1 → TgOk X.K C w σ [(y1, r)] S2 H2 := by
          have slot : ∀ i, ref0 x = some i → look S2 x = (S2[i]?).join → r = .g i j [] → ∃ i kk q l0, r = .g i kk q ∧ C.mu[i]? = some true ∧ Rp X.K (msk H2 w) H2 w l0 (.ref ad) t ∧ ∀ y1, AtP X.K (msk H2 w) H2 w l0 (.ref ad) t [j] y1 → TgOk X.K C w σ [(y1, r)] S2 H2 := by
            intro i h0 hl he
            obtain ⟨hs1, hmu⟩ := A0.tr τ.length (.ref ad) x i (by simp) h0
            have hS := join_some (hl.symm.trans ht)
            obtain ⟨u, hu1, hu2⟩ := A0.sl i t hS
            rw [hs1] at hu1; cases hu1
            refine ⟨i, j, [], _, he, hmu, hu2, fun y1 hat jj vv ii kk qq hg => ?_⟩
            cases jj with
            | succ n => simp at hg
            | zero =>
              simp only [List.getElem?_cons_zero, Option.some.injEq, Prod.mk.injEq] at hg
              obtain ⟨rfl, hg⟩ := hg
              rw [he] at hg
              cases hg
              refine ⟨hmu, fun t2 h2 _ => ?_⟩
              rw [hS] at h2; cases h2
              exact ⟨_, hs1, hat⟩
          cases x with
          | v t0 => cases hr
          | r i => exact slot i rfl rfl (Option.some.inj hr).symm
          | f i => exact slot i rfl rfl (Option.some.inj hr).symm
          | g i j0 q0 =>
            have he : r = .g i j0 (q0 ++ [j]) := (Option.some.inj hr).symm
            obtain ⟨t0, ht0, hat0⟩ := Option.bind_eq_some_iff.mp (show (S2[i]?).join.bind (T.at (j0 :: q0)) = some t from ht)
            have hS := join_some ht0
            obtain ⟨hmu, h5⟩ := A0.tg τ.length (.ref ad) i j0 q0 (by simp)
            obtain ⟨u0, hu0, hu1⟩ := h5 t0 hS (by rw [hat0]; rfl)
            obtain ⟨t', l', e1, e2, _, e4⟩ := hu1.ext
            rw [hat0] at e1; cases e1
            refine ⟨i, j0, q0 ++ [j], l', he, hmu, e2, fun y1 hat jj vv ii kk qq hg => ?_⟩
            cases jj with
            | succ n => simp at hg
            | zero =>
              simp only [List.getElem?_cons_zero, Option.some.injEq, Prod.mk.injEq] at hg
              obtain ⟨rfl, hg⟩ := hg
              rw [he] at hg
              cases hg
              refine ⟨hmu, fun t2 h2 _ => ?_⟩
              rw [hS] at h2; cases h2
              exact ⟨_, hu0, e4 _ _ hat⟩
        obtain ⟨i, kk, q, l0, rfl, hmu, r0, tg⟩ := key
        obtain ⟨ad', xs, e0, hq, rl, hkid, hat⟩ := r0.kidsOf hk msk_le
        cases e0
        obtain ⟨y1, hy1, ry⟩ := rl.get hd
        rw [Nat.zero_add] at ry
        have hixv : atI xs z = some y1 := by
          unfold atI; rw [rl.length, hj]; exact hy1
        have fin : Q y1 H2 := by
          refine k _ H2 _ _ q2 ?_
          have A' := A0.pushG (v := y1) (x := .g i kk q) (fun t e => by cases e) (fun i e => by cases e) (tg y1 (hat j y1 _ hd hy1 ry))
          rw [List.append_assoc τ] at A'
          exact Abs.sel ⟨w, A'⟩
        rcases hq with hq | hq
        · exact .inl (.inl ⟨ad, xs, z, y1, rfl, rfl, hq, hixv, fin⟩)
        · exact .inl (.inr (.inl ⟨ad, xs, z, y1, rfl, rfl, hq, hixv, fin⟩))
      · exact q2.elim
    · exact q2.elim
  · next hk => exact binS_ix _ _ _ _ _ _ _ _ _ _ _ _ A2 ht ht' q2 fun v' H' z g A' => k v' H' z S2 g A'
  · exact q2.elim
/-! ### a list within a slot's thing is changed -/
theorem Abs.setP {τ' : Tmp} {i k j : Nat} {q : List Nat} {v : V} {t : T} {ds : List PyData} (hn : NoR τ) (A : Abs K C σ (τ ++ τ') S H) (hj : τ'[j]? = some (v, .g i k q)) (hs : S[i]? = some (some t)) (ha : T.at (k :: q) t = some (.ol ds)) :
    ∃ a xs, v = .ref a ∧ H a = some (.lst xs) ∧ xs.length = ds.length ∧ ∀ xs' ds', (∀ w N, Abs0 K C w σ (τ ++ τ') S H → Evl.Ex (msk H w) N → RdL K N xs ds → RdL K N xs' ds') → Abs K C σ τ (S.set i (some (T.put (k :: q) (.ol ds') t))) (upd H a (.lst xs')) := by
  obtain ⟨w, A⟩ := A
  obtain ⟨hmu, h5⟩ := A.tg (τ.length + j) v i k q (by rw [List.getElem?_append_right (by omega)]; simpa using hj)
  obtain ⟨u0, hu0, hu1⟩ := h5 t hs (by rw [ha]; rfl)
  have e : ∀ b o, H b = some o → H b = some o := fun _ _ h => h
  have A' := A.popW
  have me : Evl.Ex (msk H w) (msk H fun b => (w b).bind (gPop τ.length)) := msk_re e
  have hu2 : AtP K (msk H fun b => (w b).bind (gPop τ.length)) H (fun b => (w b).bind (gPop τ.length)) (.s i, []) u0 t (k :: q) v := hu1.move me (mv_re (fun m => rfl) e)
  obtain ⟨a, m, xs, rfl, hw, hH, rd0, f⟩ := hu2.putL ha
  obtain ⟨a', m', xs0, e1, hw1, hH1, rd, _⟩ := hu1.putL ha
  cases e1
  rw [hH] at hH1; cases hH1
  refine ⟨a, xs, rfl, hH, rd.length, fun xs' ds' h => ⟨_, A'.mutP (fun jj vv ii kk qq z => ?_) (List.getElem?_eq_some_iff.mp hs).1 hw rfl (fun N eN => ?_) hu0⟩⟩
  · have := hn _ (List.mem_of_getElem? z)
    cases this
  · exact f xs' ds' N eN (h w N A (fun b o z => eN b o (me b o z)) (rd.mono fun b o z => eN b o (me b o z)))
/-- a method that hands back None, of a list within a slot's thing -/
def LstP (C : PCx) (K : PySem.W.Frag) (r : V → List V → Hp → VK → Prop) (op : LOp) : Prop := ∀ σ τ S H (i k : Nat) (q : List Nat) v vs xs ds t (G : List PyData → R → Prop) (Q : VK), NoR τ → Abs K C σ (τ ++ ([(v, .g i k q)] ++ vs.zip xs)) S H → vs.length = xs.length → S[i]? = some (some t) → T.at (k :: q) t = some (.ol ds) → op ds xs G →
  (∀ H' ds' z, G ds' z → Abs K C σ τ (S.set i (some (T.put (k :: q) (.ol ds') t))) H' → Q .non H') → r v vs H Q
theorem lstP_append {K : PySem.W.Frag} : LstP C K rAppend lAppend := by
  intro σ τ S H i k q v vs xs ds t G Q hn A hl hs ha op kk
  unfold lAppend at op
  split at op
  · next d =>
    obtain ⟨u, rfl⟩ : ∃ u, vs = [u] := by
      match vs, hl with
      | [u], _ => exact ⟨u, rfl⟩
    obtain ⟨a, ys, rfl, h1, h2, h3⟩ := A.setP hn (j := 0) rfl hs ha
    refine ⟨a, ys, u, rfl, rfl, h1, by rw [h2]; exact op.1, kk _ _ _ op.2 (h3 (ys ++ [u]) _ fun w N A0 ex r => ?_)⟩
    have r1 := A0.tm (τ.length + 1) u (.p d) (by simp)
    cases r1 with
    | p r1 => exact r.append (.cons (r1.mono ex) .nil)
  · exact op.elim
theorem lstP_rev {K : PySem.W.Frag} : LstP C K rReverse lRev := by
  intro σ τ S H i k q v vs xs ds t G Q hn A hl hs ha op kk
  unfold lRev at op
  split at op
  · have : vs = [] := List.length_eq_zero_iff.mp hl
    subst this
    obtain ⟨a, ys, rfl, h1, h2, h3⟩ := A.setP hn (j := 0) rfl hs ha
    exact ⟨a, ys, rfl, rfl, h1, kk _ _ _ op (h3 _ _ fun w N A0 ex r => r.reverse)⟩
  · exact op.elim
theorem lstP_clear {K : PySem.W.Frag} : LstP C K rClear lClear := by
  intro σ τ S H i k q v vs xs ds t G Q hn A hl hs ha op kk
  unfold lClear at op
  split at op
  · have : vs = [] := List.length_eq_zero_iff.mp hl
    subst this
    obtain ⟨a, ys, rfl, h1, h2, h3⟩ := A.setP hn (j := 0) rfl hs ha
    exact ⟨a, ys, rfl, rfl, h1, kk _ _ _ op (h3 _ _ fun w N A0 ex r => .nil)⟩
  · exact op.elim
def sPm (op : LOp) (o : PTE) (a : PTA) : PTS := fun D S => o S fun y S1 => match y with
  | .g i k q => (match S1[i]? with
    | some (some t1) => (match T.at (k :: q) t1 with
      | some (.ol _) => a S1 fun xs S2 => (match S2[i]? with
        | some (some t) => (match T.at (k :: q) t with
          | some (.ol ds) => op ds xs fun ds' _ => D.nx (S2.set i (some (T.put (k :: q) (.ol ds') t)))
          | _ => False)
        | _ => False)
      | _ => False)
    | _ => False)
  | _ => False
theorem qs_pm0 {name : Str} {apos cpos : Pos} {r : V → List V → Hp → VK → Prop} {op : LOp} (slot : Slot "list" name id) (hty : typeOf (.builtin id) = pure (.type "method_descriptor")) (hm : MtR X id r) (hs : LstP C X.K r op) (ho : QE X C o po)
    (hbase : attributeBase o name X.env (eval o X.env) = eval o X.env := by rfl) (hline : (apos.endLine == cpos.line) = true := by rfl) (hsw : swapsWith (.Call (.Attribute o name apos) [] [] cpos) none pos.line X.env = pure false := by rfl) : QS X C (.Expr (.Call (.Attribute o name apos) [] [] cpos) pos) (sPm op po aN) := by
  obtain ⟨to, go, fo⟩ := ho
  refine ⟨_, ps_expr (pe_bm0 PySem.F.plainAttrs_list slot hty hm go hbase hline) hsw, fun τ S σ H P D hn A hp L => ?_⟩
  refine fo τ S σ H _ _ A hp fun v H1 y S1 q1 A1 => ?_
  try dsimp only [aN] at q1
  split at q1
  · next i k q =>
    split at q1
    · next t1 ht1 =>
      split at q1
      · next ds1 hds1 =>
        obtain ⟨a, xs, rfl, h1, h2, h3⟩ := A1.setP hn (j := 0) rfl ht1 hds1
        simp only [ht1, hds1] at q1
        exact ⟨tyV_lst h1, hs σ τ S1 H1 i k q _ [] [] ds1 t1 _ _ hn (by simpa using A1) rfl ht1 hds1 q1 fun H' ds' z g A' => L.nx σ _ H' A' g⟩
      · exact q1.elim
    · exact q1.elim
  · exact q1.elim
theorem qs_pm {name : Str} {apos cpos : Pos} {r : V → List V → Hp → VK → Prop} {op : LOp} (slot : Slot "list" name id) (hty : typeOf (.builtin id) = pure (.type "method_descriptor")) (hm : MtR X id r) (hs : LstP C X.K r op) (ho : QE X C o po) (ha : QA X C (e :: es) ta)
    (hbase : attributeBase o name X.env (eval o X.env) = eval o X.env := by rfl)
    (hfew : ((backTo cpos (starEach (e :: es) X.env)).all (fun x => !x.1) && (backToKw cpos (keywordEach [] X.env)).all (fun x => x.1.isSome)
      && decide ((e :: es).length + ([] : List Keyword).length + (if ([] : List Keyword).isEmpty then 0 else 1) < 30)) = true := by rfl)
    (hline : (apos.endLine == cpos.line) = true := by rfl) (hst : starEach (e :: es) X.env = (false, eval e X.env) :: starEach es X.env := by rfl) (hplain : (backTo cpos (starEach es X.env)).any (·.1) = false := by rfl)
    (hsw : swapsWith (.Call (.Attribute o name apos) (e :: es) [] cpos) none pos.line X.env = pure false := by rfl) :
    QS X C (.Expr (.Call (.Attribute o name apos) (e :: es) [] cpos) pos) (sPm op po ta) := by
  obtain ⟨to, go, fo⟩ := ho
  obtain ⟨t1, g1, f1⟩ := ha
  refine ⟨_, ps_expr (pe_bm PySem.F.plainAttrs_list slot hty hm go g1 hbase hfew hline hst hplain) hsw, fun τ S σ H P D hn A hp L => ?_⟩
  refine fo τ S σ H _ _ A hp fun v H1 y S1 q1 A1 => ?_
  try dsimp only at q1
  split at q1
  · next i k q =>
    split at q1
    · next t1 ht1 =>
      split at q1
      · next ds1 hds1 =>
        obtain ⟨a, xs, rfl, h1, h2, h3⟩ := A1.setP hn (j := 0) rfl ht1 hds1
        refine ⟨tyV_lst h1, f1 _ S1 σ H1 _ _ A1 q1 fun vs H2 zs S2 hl q2 A2 => ?_⟩
        try dsimp only at q2
        split at q2
        · next t2 ht2 =>
          split at q2
          · next ds2 hds2 =>
            exact hs σ τ S2 H2 i k q _ vs zs ds2 t2 _ _ hn (by simpa [List.append_assoc] using A2) hl ht2 hds2 q2 fun H' ds' z g A' => L.nx σ _ H' A' g
          · exact q2.elim
        · exact q2.elim
      · exact q1.elim
    · exact q1.elim
  · exact q1.elim
end
end PL
namespace PL
open PySem L2
section
variable {X : Cx} {C : PCx} {e a b c o : Expr} {es : List Expr} {pa pb pc po : PTE} {ta : PTA} {pos p : Pos} {K : PySem.W.Frag} {w : Own} {σ : St} {τ : Tmp} {S : Sl} {H : Hp} {id : String}
/-! ### displays of things of one's own -/
def allT : List R → Option (List T)
  | [] => some []
  | .v t :: r => (allT r).map (t :: ·)
  | _ => none
theorem allT_get : ∀ {xs : List R} {ts : List T} {j : Nat}, allT xs = some ts → xs[j]? = (ts[j]?).map R.v
  | [], ts, j, h => by cases h; simp
  | x :: r, ts, j, h => by
    cases x with
    | v t =>
      obtain ⟨us, h1, rfl⟩ := Option.map_eq_some_iff.mp (show (allT r).map (t :: ·) = some ts from h)
      cases j with
      | zero => simp
      | succ j => simpa using allT_get (j := j) h1
    | r i => cases h
    | f i => cases h
    | g i _ _ => cases h
theorem allT_len : ∀ {xs : List R} {ts : List T}, allT xs = some ts → xs.length = ts.length
  | [], ts, h => by cases h; rfl
  | x :: r, ts, h => by
    cases x with
    | v t =>
      obtain ⟨us, h1, rfl⟩ := Option.map_eq_some_iff.mp (show (allT r).map (t :: ·) = some ts from h)
      rw [List.length_cons, List.length_cons, allT_len h1]
    | r i => cases h
    | f i => cases h
    | g i _ _ => cases h
theorem rpL_of {N : Hp} {l : Lab} : ∀ {k : Nat} {vs : List V} {ts : List T}, vs.length = ts.length → (∀ j v t, vs[j]? = some v → ts[j]? = some t → Rp K N H w (l.1, (k + j) :: l.2) v t) → RpL K N H w l k vs ts
  | _, [], [], _, _ => .nil
  | k, v :: vs, t :: ts, hl, h => .cons (h 0 v t rfl rfl) (rpL_of (by simpa using hl) fun j u s h1 h2 => by
      have := h (j + 1) u s (by simpa using h1) (by simpa using h2)
      rw [show k + 1 + j = k + (j + 1) by omega]; exact this)
  | _, [], _ :: _, hl, _ => by cases hl
  | _, _ :: _, [], hl, _ => by cases hl
def gTup (n : Nat) : Lab → Option Lab
  | (.t j, m) => if j < n then some (.t j, m) else some (.t n, m ++ [j - n])
  | l => some l
theorem gTup_ok {n : Nat} : GOk (gTup n) where
  x := fun m => rfl
  nx := fun l m h => by
    obtain ⟨r, m'⟩ := l
    cases r <;> first | rfl | (exfalso; unfold gTup at h; dsimp only at h; (repeat' split at h) <;> cases h)
  nr := fun l m h => by
    obtain ⟨r, m'⟩ := l
    cases r <;> first | rfl | (exfalso; unfold gTup at h; dsimp only at h; (repeat' split at h) <;> cases h)
theorem Abs0.gather {vs : List V} {xs : List R} {ts : List T} {p : Addr} {ob : HO} {tt : T} (own : Bool) (A : Abs0 K C w σ (τ ++ vs.zip xs) S H) (hl : vs.length = xs.length) (hts : allT xs = some ts) (hp : H p = none) (ho : own = true → ntup ob = true)
    (hR : ∀ w2, Evl.Ex (msk H w) (msk (upd H p ob) w2) → (w2 p = if own = true then some (.t τ.length, []) else none) → RpL K (msk (upd H p ob) w2) (upd H p ob) w2 (.t τ.length, []) 0 vs ts → Rp K (msk (upd H p ob) w2) (upd H p ob) w2 (.t τ.length, []) (.ref p) tt) :
    Abs K C σ (τ ++ [(.ref p, .v tt)]) S (upd H p ob) := by
  have ex : Evl.Ex H (upd H p ob) := Evl.Ex.new hp
  have hfree := A.ow.free hp
  let w2 : Own := fun b => if b = p then (if own = true then some (.t τ.length, []) else none) else (w b).bind (gTup τ.length)
  have w2p : w2 p = if own = true then some (.t τ.length, []) else none := if_pos rfl
  have w2n : ∀ b, b ≠ p → w2 b = (w b).bind (gTup τ.length) := fun b hb => if_neg hb
  have hne : ∀ {b : Addr} {l : Lab}, w b = some l → b ≠ p := fun {b l} h z => by rw [z, hfree] at h; cases h
  have hnH : ∀ {b : Addr} {u : HO}, H b = some u → b ≠ p := fun {b u} e z => by rw [z, hp] at e; cases e
  have me : Evl.Ex (msk H w) (msk (upd H p ob) w2) := msk_mono fun b u h1 h2 => ⟨by rw [w2n b (hnH h2), h1]; rfl, ex b u h2⟩
  have mv : ∀ (l l' : Lab), (∀ m, gTup τ.length (l.1, m ++ l.2) = some (l'.1, m ++ l'.2)) → Mv H (upd H p ob) w w2 l l' := fun l l' hg a m o e1 e2 => ⟨by rw [w2n a (hne e1), e1]; exact hg m, ex a o e2⟩
  have hlt := allT_len hts
  have kid : RpL K (msk (upd H p ob) w2) (upd H p ob) w2 (.t τ.length, []) 0 vs ts := rpL_of (hl.trans hlt) fun j v t h1 h2 => by
    have hx : xs[j]? = some (.v t) := by rw [allT_get hts, h2]; rfl
    refine (A.tm _ v t (at_zip h1 hx)).move me (mv _ _ fun m => ?_)
    have : ¬ τ.length + j < τ.length := by omega
    simp [gTup, this]
  refine ⟨w2, ⟨fun b o h1 h2 => ex _ _ (A.ow.fr b o h1 h2), fun b l h => ?_, fun b hb => ?_, fun b m h => ?_, fun b l h => ?_, fun b m h => ?_⟩, A.len, fun i t h => ?_, fun j u t h => ?_, fun j u y i h q => ?_, fun b j m h => ?_, fun b i m h => ?_, A.pr, TgOk.trans A.tg (fun j u i a q h => ?_) (fun j u i a q _ t h _ => ⟨h, rfl, mv _ _ fun m => rfl⟩) me⟩
  · by_cases hb : b = p
    · subst hb; exact .inr (A.ow.ent hp)
    · rw [w2n b hb] at h
      exact (A.ow.re gTup_ok).in0 b l h
  · obtain ⟨m, e1⟩ := (A.ow.re gTup_ok).fo b hb
    refine ⟨m, (w2n b fun z => ?_).trans e1⟩
    obtain ⟨l', h1, _⟩ := Option.bind_eq_some_iff.mp e1
    exact hne h1 z
  · by_cases hb : b = p
    · subst hb
      rw [w2p] at h
      split at h <;> cases h
    · rw [w2n b hb] at h
      exact (A.ow.re gTup_ok).fx b m h
  · by_cases hb : b = p
    · subst hb
      rw [w2p] at h
      split at h
      · next hw => exact ⟨ob, upd_same, ho hw⟩
      · cases h
    · rw [w2n b hb] at h
      obtain ⟨u, h1, h2⟩ := (A.ow.re gTup_ok).dom b l h
      exact ⟨u, ex _ _ h1, h2⟩
  · by_cases hb : b = p
    · subst hb
      rw [w2p] at h
      split at h <;> cases h
    · rw [w2n b hb] at h
      exact (A.ow.re gTup_ok).rl b m h
  · obtain ⟨u, h1, h2⟩ := A.sl i t h
    exact ⟨u, h1, h2.move me (mv _ _ fun m => rfl)⟩
  · have z := get_snoc h; clear h; rcases z with ⟨hj, h⟩ | ⟨rfl, h⟩
    · exact (A.tm j u t (get_left h)).move me (mv _ _ fun m => by simp [gTup, hj])
    · cases h
      exact hR w2 me w2p kid
  · have z := get_snoc h; clear h; rcases z with ⟨hj, h⟩ | ⟨rfl, h⟩
    · exact A.tr j u y i (get_left h) q
    · cases h; cases q
  · rw [List.length_append]
    by_cases hb : b = p
    · subst hb
      rw [w2p] at h
      split at h
      · cases h; simp
      · cases h
    · rw [w2n b hb] at h
      obtain ⟨l', h1, h2⟩ := Option.bind_eq_some_iff.mp h
      match l', h2 with
      | (.t j', m'), h2 =>
        unfold gTup at h2
        dsimp only at h2
        split at h2
        · cases h2; omega
        · cases h2; simp
  · by_cases hb : b = p
    · subst hb
      rw [w2p] at h
      split at h <;> cases h
    · rw [w2n b hb] at h
      obtain ⟨l', h1, h2⟩ := Option.bind_eq_some_iff.mp h
      match l', h2 with
      | (.s i', m'), h2 => cases h2; exact A.sz b _ _ h1
      | (.t j', m'), h2 =>
        unfold gTup at h2
        dsimp only at h2
        split at h2 <;> cases h2
  · have z := get_snoc h; clear h; rcases z with ⟨_, h⟩ | ⟨rfl, h⟩
    · exact ⟨j, get_left h⟩
    · cases h
def pTupT (a : PTA) : PTE := fun S G => a S fun xs S1 => match allT xs with
  | some ts => ts.length ≤ sizeLine ∧ G (.v (.tup ts)) S1
  | none => False
def pLstT (a : PTA) : PTE := fun S G => a S fun xs S1 => match allT xs with
  | some ts => ts.length ≤ sizeLine ∧ G (.v (.oll ts)) S1
  | none => False
theorem qe_tupT {x1} (h : QA X C es ta) : QE X C (.Tuple es x1 pos) (pTupT ta) := by
  obtain ⟨t1, h1, f1⟩ := h
  refine ⟨_, pe_tup h1, fun τ S σ H G Q A hp k => ?_⟩
  refine f1 τ S σ H _ _ A hp fun vs H1 xs S1 hl q1 A1 => ?_
  try dsimp only at q1
  split at q1
  · next ts hts =>
    refine ⟨by rw [hl, allT_len hts]; exact q1.1, fun p hp' => k _ _ _ _ q1.2 ?_⟩
    obtain ⟨w, A1⟩ := A1
    refine A1.gather false hl hts hp' (fun z => by cases z) fun w2 me hw2 r => .tup (.inl (.inl ?_)) r
    rw [msk_none hw2]; exact upd_same
  · exact q1.elim
theorem qe_lstT (h : QA X C es ta) : QE X C (.List es pos) (pLstT ta) := by
  obtain ⟨t1, h1, f1⟩ := h
  refine ⟨_, pe_lst h1, fun τ S σ H G Q A hp k => ?_⟩
  refine f1 τ S σ H _ _ A hp fun vs H1 xs S1 hl q1 A1 => ?_
  try dsimp only at q1
  split at q1
  · next ts hts =>
    refine ⟨by rw [hl, allT_len hts]; exact q1.1, fun p hp' => k _ _ _ _ q1.2 ?_⟩
    obtain ⟨w, A1⟩ := A1
    exact A1.gather true hl hts hp' (fun _ => rfl) fun w2 me hw2 r => .oll hw2 upd_same r
  · exact q1.elim
/-! ### a comprehension within a comprehension -/
theorem relab_free' {env : Env} : ∀ {names : List (Str × NameKind)} {x : Str}, (names.lookup x = some .cell ∨ names.lookup x = some .free) →
    (names.map fun (n, k) => if (k == NameKind.free && env.scope.kind == .function && env.kindOf n == some .cell) then (n, NameKind.cell) else (n, k)).lookup x = some .cell ∨
    (names.map fun (n, k) => if (k == NameKind.free && env.scope.kind == .function && env.kindOf n == some .cell) then (n, NameKind.cell) else (n, k)).lookup x = some .free
  | [], _, h => by simp at h
  | (n, k) :: r, x, h => by
    have ih := @relab_free' env r x
    show List.lookup x ((if (k == NameKind.free && env.scope.kind == .function && env.kindOf n == some .cell) = true then (n, NameKind.cell) else (n, k)) :: _) = _ ∨ List.lookup x ((if (k == NameKind.free && env.scope.kind == .function && env.kindOf n == some .cell) = true then (n, NameKind.cell) else (n, k)) :: _) = _
    cases hx : x == n with
    | true =>
      simp only [List.lookup_cons, hx] at h
      by_cases hc : (k == NameKind.free && env.scope.kind == .function && env.kindOf n == some .cell) = true
      · rw [if_pos hc]; simp [List.lookup_cons, hx]
      · rw [if_neg hc]
        simp only [List.lookup_cons, hx]
        exact h
    | false =>
      simp only [List.lookup_cons, hx] at h
      by_cases hc : (k == NameKind.free && env.scope.kind == .function && env.kindOf n == some .cell) = true
      · rw [if_pos hc]; simp only [List.lookup_cons, hx]; exact ih h
      · rw [if_neg hc]; simp only [List.lookup_cons, hx]; exact ih h
theorem qe_lcB {X0 : Cx} {scope0 : Scope} {z0 : Blk} {elt tg iter : Expr} {ifs : List Expr} {w : PTI} {g : PTG} {q : PTT} {pe : PTE} {scope : Scope} (own : List (Str × Nat)) (hc : X0.calm = true) (hN : X0.N.Nodup) (ok : BlkOk X0.N scope0 scope own) (hv : OwnV C (own.map (·.2))) (hi : QI (blkX X0 scope0 z0) C tg iter w)
    (hg : ∀ z, QGb (blkX (blkX X0 scope0 z0) scope z) C tg (own.map (·.2)) g) (hq : ∀ z, QTs (blkX (blkX X0 scope0 z0) scope z) C ifs q) (he : ∀ z, QE (blkX (blkX X0 scope0 z0) scope z) C elt pe) (hs : ∀ x, foldedSetIterable iter (blkX X0 scope0 z0).env x = pure x := by intro _; rfl) :
    QE (blkX X0 scope0 z0) C (.ListComp elt [⟨tg, iter, ifs, 0⟩] scope pos) (pLc w g q pe (own.map (·.2))) :=
  qe_lc (X := blkX X0 scope0 z0) own hc hN ⟨ok.kind, ok.uniq, ok.ix, fun y hy hf => relab_free' (ok.free y hy hf), ok.own⟩ hv hi hg hq he hs
end
end PL
namespace PL
open PySem L2
section
variable {X : Cx} {C : PCx} {e a b c o : Expr} {es : List Expr} {pa pb pc po pe : PTE} {ta : PTA} {pos p : Pos} {K : PySem.W.Frag} {w : Own} {σ : St} {τ : Tmp} {S : Sl} {H : Hp} {id : String}
/-! ### zip of lists or tuples -/
theorem Abs0.tpl {j : Nat} {v : V} {ds : List PyData} (A : Abs0 K C w σ τ S H) (h : τ[j]? = some (v, .v (.p (.tuple ds)))) : ∃ ad xs, v = .ref ad ∧ SqT K H ad xs ∧ RdL K (msk H w) xs ds := by
  have r := A.tm j v _ h
  cases r with
  | p r =>
    cases r with
    | tup q r => exact ⟨_, _, rfl, Evl.ex_t msk_le q, r⟩
theorem seq_zipT {v u : V} {ds es : List PyData} {ad bd : Addr} (hv : v = .ref ad) (hu : u = .ref bd) : SeqOk K C (RZ.ItzT K ad bd) [(v, .v (.p (.tuple ds))), (u, .v (.p (.tuple es)))] (zipD ds es) := fun τ τ' σ S H A => by
  obtain ⟨w, A0⟩ := id A
  obtain ⟨ad', xs, e, hq, r⟩ := A0.tpl (j := τ.length) (v := v) (ds := ds) (by simp)
  obtain ⟨bd', ys, e', hq', r'⟩ := A0.tpl (j := τ.length + 1) (v := u) (ds := es) (by simp)
  rw [hv] at e; cases e
  rw [hu] at e'; cases e'
  refine ⟨fun i d h => ?_, ⟨_, _, hq, hq', by rw [zipD_len, r.length, r'.length]; omega⟩⟩
  obtain ⟨d1, d2, h1, h2, rfl⟩ := zipD_at h
  obtain ⟨x, hx, rx⟩ := r.get h1
  obtain ⟨z, hz, rz⟩ := r'.get h2
  refine ⟨⟨_, _, x, z, hq, hq', hx, hz⟩, fun y H' hy => ?_⟩
  obtain ⟨T', x', z', rfl, hT, rfl, hy, hy'⟩ := hy
  have := hy _ hq
  rw [hx] at this
  cases this
  have := hy' _ hq'
  rw [hz] at this
  cases this
  have ex : Evl.Ex H (upd H T' (.tup [x, z])) := Evl.Ex.new hT
  have hw := A0.ow.free hT
  have me : Evl.Ex (msk H w) (msk (upd H T' (.tup [x, z])) w) := msk_mono fun b u h1 h2 => ⟨h1, ex b u h2⟩
  exact ⟨w, (A0.grow ex).push (.tup (.inl (.inl (by rw [msk_none hw]; exact upd_same))) (.cons (rx.mono me) (.cons (rz.mono me) .nil)))⟩
def iZpA (a b : PTE) : PTI := fun S G => a S fun x S1 => b S1 fun y S2 => match x, y with
  | .v (.p (.list ds)), .v (.p (.list es)) => G (zipD ds es) S2
  | .v (.p (.tuple ds)), .v (.p (.tuple es)) => G (zipD ds es) S2
  | _, _ => False
theorem qi_zipA {elts : List Expr} {kk : Nat} {tpos : Pos} (hm : X.mg "zip" = none) (ha : QE X C a pa) (hb : QE X C b pb) (hg : Gl X "zip" := by rfl) (hs : starEach [a, b] X.env = (false, eval a X.env) :: starEach [b] X.env := by rfl) (hs2 : starEach [b] X.env = [(false, eval b X.env)] := by rfl)
    (hpl : (backTo pos (starEach [b] X.env)).any (·.1) = false := by rfl) : QI X C (.Tuple elts kk tpos) (.Call (.Name "zip" p) [a, b] [] pos) (iZpA pa pb) := by
  obtain ⟨ta, h1, f1⟩ := ha
  obtain ⟨tb, h2, f2⟩ := hb
  refine ⟨_, RZ.pi_zipA hg hm (pa_cons h1 (pa_cons h2 pa_nil hs2) hs) hs hpl, fun τ S σ H G Rr A hp k => ?_⟩
  refine f1 τ S σ H _ _ A hp fun v H1 x S1 q1 A1 => ?_
  refine f2 _ S1 σ H1 _ _ A1 q1 fun u H2 y S2 q2 A2 => ?_
  try dsimp only at q2
  split at q2
  · next ds es =>
    obtain ⟨w, A0⟩ := id A2
    obtain ⟨ad, xs, rfl, hq, r⟩ := A0.lst (j := τ.length) (v := v) (ds := ds) (by simp)
    obtain ⟨bd, ys, rfl, hq', r'⟩ := A0.lst (j := τ.length + 1) (v := u) (ds := es) (by simp)
    rw [List.append_assoc] at A2
    exact ⟨ad, bd, xs, ys, rfl, .inl ⟨hq, hq', k _ H2 _ _ S2 (fun x hx => by simp at hx; rcases hx with rfl | rfl <;> rfl) q2 A2 (seq_zip rfl rfl)⟩⟩
  · next ds es =>
    obtain ⟨w, A0⟩ := id A2
    obtain ⟨ad, xs, rfl, hq, r⟩ := A0.tpl (j := τ.length) (v := v) (ds := ds) (by simp)
    obtain ⟨bd, ys, rfl, hq', r'⟩ := A0.tpl (j := τ.length + 1) (v := u) (ds := es) (by simp)
    rw [List.append_assoc] at A2
    exact ⟨ad, bd, xs, ys, rfl, .inr ⟨hq, hq', k _ H2 _ _ S2 (fun x hx => by simp at hx; rcases hx with rfl | rfl <;> rfl) q2 A2 (seq_zipT rfl rfl)⟩⟩
  · exact q2.elim
/-! ### ranges by steps -/
def rng3 (lo c : Int) (n : Nat) : List PyData := (List.range n).map fun (k : Nat) => .int (lo + (k : Int) * c)
theorem rng3_len (lo c : Int) (n : Nat) : (rng3 lo c n).length = n := by unfold rng3; simp
theorem rng3_at {lo c : Int} {n i : Nat} {d : PyData} (h : (rng3 lo c n)[i]? = some d) : d = .int (lo + (i : Int) * c) ∧ i < n := by
  unfold rng3 at h
  rw [List.getElem?_map] at h
  obtain ⟨k, h1, h2⟩ := Option.map_eq_some_iff.mp h
  have h3 := (List.getElem?_eq_some_iff.mp h1).1
  rw [List.length_range] at h3
  rw [List.getElem?_range h3] at h1
  cases h1
  exact ⟨h2.symm, h3⟩
theorem seq_rng3 {lo c : Int} {n : Nat} : SeqOk K C (Itc lo c n) [] (rng3 lo c n) := fun τ τ' σ S H A => by
  refine ⟨fun i d h => ?_, by rw [rng3_len]; exact Nat.le_refl _⟩
  obtain ⟨rfl, hi⟩ := rng3_at h
  refine ⟨hi, fun x H' y => ?_⟩
  obtain ⟨rfl, rfl⟩ := y
  exact A.push fun w _ => .int _
def iR3 (a b c : PTE) : PTI := fun S G => a S fun x S1 => b S1 fun y S2 => c S2 fun z S3 => match x, y, z with
  | .v (.p (.int i)), .v (.p (.int j)), .v (.p (.int c)) => ∃ n, RgC i j c n ∧ G (rng3 i c n) S3
  | _, _, _ => False
theorem qi_range3 {tg : Expr} (hm : X.mg "range" = none) (ha : QE X C a pa) (hb : QE X C b pb) (hc : QE X C c pc) (hg : Gl X "range" := by rfl) (hs : starEach [a, b, c] X.env = (false, eval a X.env) :: starEach [b, c] X.env := by rfl) (hs2 : starEach [b, c] X.env = (false, eval b X.env) :: starEach [c] X.env := by rfl) (hs3 : starEach [c] X.env = [(false, eval c X.env)] := by rfl)
    (hpl : (backTo pos (starEach [b, c] X.env)).any (·.1) = false := by rfl) : QI X C tg (.Call (.Name "range" p) [a, b, c] [] pos) (iR3 pa pb pc) := by
  obtain ⟨ta, h1, f1⟩ := ha
  obtain ⟨tb, h2, f2⟩ := hb
  obtain ⟨tc, h3, f3⟩ := hc
  refine ⟨_, pi_range3 hg hm (pa_cons h1 (pa_cons h2 (pa_cons h3 pa_nil hs3) hs2) hs) hs hpl, fun τ S σ H G Rr A hp k => ?_⟩
  refine f1 τ S σ H _ _ A hp fun v H1 x S1 q1 A1 => ?_
  refine f2 _ S1 σ H1 _ _ A1 q1 fun u H2 y S2 q2 A2 => ?_
  refine f3 _ S2 σ H2 _ _ A2 q2 fun r H3 z S3 q3 A3 => ?_
  try dsimp only at q3
  split at q3
  · next i j c' =>
    obtain ⟨n, hn, q3⟩ := q3
    obtain ⟨w, A0⟩ := id A3
    have r1 : Rd X.K (msk H3 w) v (.int i) := by
      cases A0.tm τ.length v (.p (.int i)) (by simp) with
      | p r => exact r
    have r2 : Rd X.K (msk H3 w) u (.int j) := by
      cases A0.tm (τ.length + 1) u (.p (.int j)) (by simp) with
      | p r => exact r
    have r3 : Rd X.K (msk H3 w) r (.int c') := by
      cases A0.tm (τ.length + 2) r (.p (.int c')) (by simp) with
      | p r => exact r
    cases r1; cases r2; cases r3
    refine ⟨i, j, c', n, rfl, hn, ?_⟩
    rw [List.append_assoc, List.append_assoc] at A3
    exact k _ H3 [] (rng3 i c' n) S3 (fun x hx => by simp at hx) q3 (by simpa using A3.pop) seq_rng3
  · exact q3.elim
/-! ### more methods -/
def lExt : LOp := fun ds xs G => match xs with
  | [.v (.ol es)] => ds.length + es.length ≤ sizeLine ∧ G (ds ++ es) (.v (.p .none))
  | _ => False
theorem lstS_ext {K : PySem.W.Frag} : LstS C K rExtend lExt := by
  intro σ τ S H i v vs xs ds G Q A hl hs op k
  unfold lExt at op
  split at op
  · next es =>
    obtain ⟨u, rfl⟩ : ∃ u, vs = [u] := by
      match vs, hl with
      | [u], _ => exact ⟨u, rfl⟩
    obtain ⟨w, A0⟩ := id A
    have own : ∀ w', Abs0 K C w' σ (τ ++ [(v, .r i)] ++ [u].zip [R.v (.ol es)]) S H → ∃ b zs, u = .ref b ∧ H b = some (.lst zs) ∧ RdL K (msk H w') zs es := fun w' A1 => by
      cases A1.tm (τ.length + 1) u (.ol es) (by simp) with
      | ol g1 g2 g3 => exact ⟨_, _, rfl, g2, g3⟩
    obtain ⟨b, zs, rfl, g2, g3⟩ := own w A0
    obtain ⟨a, ys, rfl, h1, h2, h3⟩ := A.setL (ds' := ds ++ es) hs A.recv
    refine ⟨a, b, ys, zs, rfl, rfl, h1, g2, by rw [h2, g3.length]; exact op.1, k _ _ _ _ op.2 ?_⟩
    have A' := h3 (ys ++ zs) fun w' N A1 ex r => by
      obtain ⟨b', zs', e, g2', g3'⟩ := own w' A1
      cases e
      rw [g2] at g2'; cases g2'
      exact r.append (g3'.mono ex)
    rw [List.append_assoc] at A'
    exact A'.pop.push fun w _ => .non
  · exact op.elim
theorem qe_ext {apos cpos : Pos} (ho : QE X C o po) (ha : QE X C e pe) (hbase : attributeBase o "extend" X.env (eval o X.env) = eval o X.env := by rfl)
    (hfew : ((backTo cpos (starEach [e] X.env)).all (fun x => !x.1) && (backToKw cpos (keywordEach [] X.env)).all (fun x => x.1.isSome)
      && decide (([e] : List Expr).length + ([] : List Keyword).length + (if ([] : List Keyword).isEmpty then 0 else 1) < 30)) = true := by rfl)
    (hline : (apos.endLine == cpos.line) = true := by rfl) (hst : starEach [e] X.env = [(false, eval e X.env)] := by rfl) : QE X C (.Call (.Attribute o "extend" apos) [e] [] cpos) (pMeth lExt po (aC pe aN)) :=
  qe_lm PySem.F.slot_list_extend PySem.F.type_list_extend mt_extend lstS_ext ho (qa_cons ha qa_nil hst) hbase hfew hline hst rfl
end
end PL
namespace PL
open PySem L2
section
variable {X : Cx} {C : PCx} {e a b c o l : Expr} {es : List Expr} {pa pb pc po pe : PTE} {ta : PTA} {pos p : Pos} {K : PySem.W.Frag} {w : Own} {σ : St} {τ : Tmp} {S : Sl} {H : Hp} {id : String}
/-! ### over a list or a tuple, as it comes -/
def iSeqA (K : PySem.W.Frag) (tl : TE) : TI := fun σ H R => tl σ H fun x H1 => ∃ a, x = .ref a ∧ (((∃ xs, SqL K H1 a xs) ∧ R (Itl K a) H1) ∨ ((∃ xs, SqT K H1 a xs) ∧ R (Itt K a) H1))
theorem pi_seqA {tg : Expr} {tl : TE} (hl : PE X l tl) : PI X tg l (iSeqA X.K tl) := by
  refine ⟨fun pp st sl hh Rr Iv hw => ?_⟩
  refine thn (hl.run pp st sl hh _ Iv hw) fun val st1 ⟨y, hh1, Iv1, rel, q⟩ => ?_
  obtain ⟨ad, rfl, q⟩ := q
  cases rel
  have fresh : ∀ b ∈ [st1.heap.objs.size], FpOk X pp hh1 b := fun b hb => by
    have : b = st1.heap.objs.size := by simpa using hb
    subst this
    exact Iv1.fpOk (Nat.le_refl _) (Iv1.hok.fresh (Nat.le_refl _))
  rcases q with ⟨⟨xs, hq⟩, q⟩ | ⟨⟨xs, hq⟩, q⟩
  · obtain ⟨items, _, isl, _⟩ := Iv1.list hq
    refine wpAny_pyIter_list isl.isList ?_
    exact ⟨_, [_], _, _, hh1, rfl,
      Iv1.kept (t' := st1.toks) (fun _ _ e => Heap.get?_push_of_some _ e), turn_list ad _, ⟨_, Heap.get?_push_size _ rfl, rfl, rfl⟩, fresh, q⟩
  · obtain ⟨items, _, ist, _⟩ := Iv1.tuple hq
    refine wpAny_pyIter_tuple (t := ad) (items := items.toArray) ist ?_
    exact ⟨_, [_], _, _, hh1, rfl,
      Iv1.kept (t' := st1.toks) (fun _ _ e => Heap.get?_push_of_some _ e), turn_tuple ad _, ⟨_, Heap.get?_push_size _ rfl, rfl, rfl⟩, fresh, q⟩
/-- .. frozen -/
theorem sq_dat {t : T} {ds : List PyData} (h : t.sq = some ds) : t.dat = .list ds ∨ t.dat = .tuple ds := by
  cases t with
  | p d => cases d <;> cases h <;> first | exact .inl rfl | exact .inr rfl
  | ol => cases h; exact .inl rfl
  | od => cases h
  | lk => cases h
  | tup => cases h
  | oll => cases h
  | ins => cases h
  | exc => cases h
  | exv => cases h
  | ot => cases h
theorem qi_sq {tg : Expr} (ha : QE X C a pa) : QI X C tg a (iSq pa) := by
  obtain ⟨ta, h1, f1⟩ := ha
  refine ⟨_, pi_seqA h1, fun τ S σ H G Rr A hp k => ?_⟩
  refine f1 τ S σ H _ _ A hp fun v H1 x S1 q1 A1 => ?_
  try dsimp only at q1
  split at q1
  · next t =>
    obtain ⟨hf, q1⟩ := q1
    split at q1
    · next ds hds =>
      have A2 := A1.fzTmp hf
      rcases sq_dat hds with e | e <;> rw [e] at A2
      · obtain ⟨w, A0⟩ := id A2
        obtain ⟨ad, xs, rfl, hq, r⟩ := A0.lst (j := τ.length) get_snoc_last
        exact ⟨_, rfl, .inl ⟨⟨_, hq⟩, k _ H1 _ ds S1 (fun x hx => by simp at hx; subst hx; rfl) q1 A2 (seq_list rfl)⟩⟩
      · obtain ⟨w, A0⟩ := id A2
        obtain ⟨ad, xs, rfl, hq, r⟩ := A0.tpl (j := τ.length) get_snoc_last
        exact ⟨_, rfl, .inr ⟨⟨_, hq⟩, k _ H1 _ ds S1 (fun x hx => by simp at hx; subst hx; rfl) q1 A2 (seq_tup rfl)⟩⟩
    · exact q1.elim
  · exact q1.elim
end
end PL
namespace PL
open PySem L2
section
variable {X : Cx} {C : PCx} {pos : Pos}
/-! ### whole numbers and texts of the module -/
theorem qe_globI {x : Str} {i : Int} (h : ∃ t, X.mg x = some (.int i t)) (hg : Gl X x) (hd : (x == ("__debug__" : Str)) = false := by decide) : QE X C (.Name x pos) (pC (.int i)) := by
  obtain ⟨t, hm⟩ := h
  exact qe_glob hg hm (show RelV (.int i) (.int i t) from by first | rfl | exact ⟨_, rfl⟩ | constructor) (fun _ _ => .int i) hd
theorem qe_globS {x z : Str} (h : ∃ t, X.mg x = some (.str z t)) (hg : Gl X x) (hd : (x == ("__debug__" : Str)) = false := by decide) : QE X C (.Name x pos) (pC (.str z)) := by
  obtain ⟨t, hm⟩ := h
  exact qe_glob hg hm (show RelV (.str z) (.str z t) from by first | rfl | exact ⟨_, rfl⟩ | constructor) (fun _ _ => .str z) hd
end
end PL
namespace PL
open PySem L2
section
variable {X : Cx} {C : PCx} {e : Expr} {es : List Expr} {pos p : Pos}
/-! ### a, b, .. = a list of one's own -/
def sAsgO (i n : Nat) (g : List PyData → Sl → (Sl → Prop) → Prop) : PTS := fun D S => match S[i]? with
  | some (some (.ol ds)) => ds.length = n ∧ g ds S D.nx
  | _ => False
theorem qs_asgO {g : List PyData → Sl → (Sl → Prop) → Prop} {i kk n : Nat} (hc : X.calm = true) (he : PE X e (tVar i)) (h : QGs X C es g) (hn : (assignEach es X.env).length = n := by rfl) (hst : (assignEach es X.env).findIdx? (·.1) = none := by rfl)
    (hs : swapsWithSole [.Tuple es kk p] e pos.line X.env = pure false := by rfl) (hw : swappedStores [.Tuple es kk p] e X.env = pure none := by rfl)
    (h1 : (assignEach [.Tuple es kk p] X.env).map (·.2) = [assign (.Tuple es kk p) X.env] := by rfl) : QS X C (.Assign [.Tuple es kk p] e pos) (sAsgO i n g) := by
  obtain ⟨t1, g1, f1⟩ := h
  refine ⟨_, ps_asg he (pg_lst hc g1 hn hst) hs hw h1, fun τ S σ H P D hnr A hp L => ?_⟩
  unfold sAsgO at hp
  split at hp
  · next ds hds =>
    obtain ⟨hl, hp⟩ := hp
    obtain ⟨w, A⟩ := A
    obtain ⟨v, hv, r⟩ := A.sl i _ hds
    cases r with
    | ol q1 q2 r =>
      exact ⟨_, hv, _, _, rfl, Evl.sq_of q2, r.length.trans hl, f1 τ S σ H _ ds _ _ hnr ⟨w, RdL.zip A r⟩ r.length hp fun σ' S' H' A' q => L.nx σ' S' H' A' q⟩
  · exact hp.elim
end
end PL

set_option Elab.async false
set_option linter.all false
set_option maxRecDepth 100000
set_option maxHeartbeats 4000000
set_option autoImplicit false
/-! list(zip(xs, ys)) of two lists as a value -/
namespace LZ
open PySem PyProof.Rows
section
variable {prog : Program} {w : World}
/-- what has been given so far: pairs, new ones, each at its own address -/
structure Prs (xs ys : Array Value) (lo : Nat) (ex : List Addr) (acc : Array Value) (h : Heap) : Prop where
  at_ : ∀ (j : Nat) (x : Value), acc[j]? = some x → ∃ (T : Addr) (a b : Value), x = .ref T ∧ IsPair h T a b ∧ xs[j]? = some a ∧ ys[j]? = some b ∧ T ∉ ex ∧ lo ≤ T
  nd : acc.toList.Nodup
theorem Prs.keep {xs ys : Array Value} {lo : Nat} {ex : List Addr} {acc : Array Value} {h h' : Heap} (p : Prs xs ys lo ex acc h) (k : ∀ b o, b ∉ ex → h.get? b = some o → h'.get? b = some o) : Prs xs ys lo ex acc h' :=
  ⟨fun j x e => by
    obtain ⟨T, a, b, h1, h2, h3, h4, h5, h6⟩ := p.at_ j x e
    exact ⟨T, a, b, h1, k _ _ h5 h2, h3, h4, h5, h6⟩, p.nd⟩
theorem Prs.push {xs ys : Array Value} {lo : Nat} {ex : List Addr} {acc : Array Value} {h : Heap} {T : Addr} {a b : Value} (p : Prs xs ys lo ex acc h) (hT : IsPair h T a b) (hx : xs[acc.size]? = some a) (hy : ys[acc.size]? = some b) (he : T ∉ ex) (hl : lo ≤ T) (hn : ∀ x ∈ acc.toList, x ≠ .ref T) : Prs xs ys lo ex (acc.push (.ref T)) h :=
  ⟨fun j x e => by
    rw [Array.getElem?_push] at e
    split at e
    · next hj =>
      cases e
      exact ⟨T, a, b, rfl, hT, by rw [hj]; exact hx, by rw [hj]; exact hy, he, hl⟩
    · exact p.at_ j x e, by
    rw [Array.toList_push, List.nodup_append]
    refine ⟨p.nd, by simp, fun x hx y hy => ?_⟩
    rw [List.mem_singleton.mp hy]
    exact hn x hx⟩
/-- a zip over two lists that is being drawn from while S is filled -/
structure ZS (z TI TO i1 i2 l1 l2 S : Addr) (xs ys : Array Value) (i : Nat) (h : Heap) : Prop where
  hTI : IsPair h TI (.ref i1) (.ref i2)
  h1 : h.IsListIter i1 l1 i
  h2 : h.IsListIter i2 l2 i
  hl1 : h.IsList l1 xs
  hl2 : h.IsList l2 ys
  hO : ∃ o, h.get? TO = some o
  hz : (IsZip h z TI TO .none ∧ ∃ a b, IsPair h TO a b) ∨ ∃ T f oT, IsZipHeld h z TI TO T f ∧ h.get? T = some oT ∧ T ≠ z ∧ T ≠ i1 ∧ T ≠ i2 ∧ T ≠ S
structure Off (z TI TO i1 i2 l1 l2 S : Addr) : Prop where
  z : S ≠ z
  TI : S ≠ TI
  TO : S ≠ TO
  i1 : S ≠ i1
  i2 : S ≠ i2
  l1 : S ≠ l1
  l2 : S ≠ l2
theorem ZS.keep {z TI TO i1 i2 l1 l2 S : Addr} {xs ys : Array Value} {i : Nat} {h h' : Heap} (d : Off z TI TO i1 i2 l1 l2 S) (p : ZS z TI TO i1 i2 l1 l2 S xs ys i h) (k : ∀ b o, b ≠ S → h.get? b = some o → h'.get? b = some o) : ZS z TI TO i1 i2 l1 l2 S xs ys i h' := by
  obtain ⟨hTI, h1, h2, hl1, hl2, ⟨oO, hO⟩, hz⟩ := p
  refine ⟨k _ _ (Ne.symm d.TI) hTI, h1.at fun o e => k _ o (Ne.symm d.i1) e, h2.at fun o e => k _ o (Ne.symm d.i2) e, hl1.at fun o e => k _ o (Ne.symm d.l1) e, hl2.at fun o e => k _ o (Ne.symm d.l2) e, ⟨oO, k _ _ (Ne.symm d.TO) hO⟩, ?_⟩
  rcases hz with ⟨hz, a, b, hTO⟩ | ⟨T, f, oT, hz, hT, r1, r2, r3, r4⟩
  · exact .inl ⟨k _ _ (Ne.symm d.z) hz, a, b, k _ _ (Ne.symm d.TO) hTO⟩
  · exact .inr ⟨T, f, oT, k _ _ (Ne.symm d.z) hz, k _ _ r4 hT, r1, r2, r3, r4⟩
theorem ZS.item {A : Around} {s : Shared} {E : Value → Shared → Prop} {z TI TO i1 i2 l1 l2 S : Addr} {xs ys : Array Value} {i : Nat} {Q : Option Value → Shared → Prop} (D : ZipApart z TI TO i1 i2 l1 l2) (st : ZS z TI TO i1 i2 l1 l2 S xs ys i s.heap) (hS : S < s.heap.objs.size) (hi : i < min xs.size ys.size)
    (hQ : ∀ a b h', xs[i]? = some a → ys[i]? = some b → IsPair h' s.heap.objs.size a b → s.heap.objs.size ∉ [S, z, TO, i1, i2] → ZS z TI TO i1 i2 l1 l2 S xs ys (i + 1) h' → (∀ c o, c ∉ [z, TO, i1, i2] → s.heap.get? c = some o → h'.get? c = some o) → h'.objs.size = s.heap.objs.size + 1 → Q (some (.ref s.heap.objs.size)) { s with heap := h' }) :
    wpAny (model prog w) A (pyNext (.ref z)) Q E s := by
  obtain ⟨hTI, h1, h2, hl1, hl2, ⟨oO, hO⟩, hz⟩ := st
  have hix : i < xs.size := Nat.lt_of_lt_of_le hi (Nat.min_le_left ..)
  have hiy : i < ys.size := Nat.lt_of_lt_of_le hi (Nat.min_le_right ..)
  have ex := Array.getElem?_eq_getElem hix
  have ey := Array.getElem?_eq_getElem hiy
  have lt : ∀ {c o}, s.heap.get? c = some o → s.heap.objs.size ≠ c := fun e => Nat.ne_of_gt (Heap.lt_size e)
  have n1 : s.heap.objs.size ≠ i1 := let ⟨_, e, _⟩ := h1; lt e
  have n2 : s.heap.objs.size ≠ i2 := let ⟨_, e, _⟩ := h2; lt e
  rcases hz with ⟨hz, a, b, hTO⟩ | ⟨T, f, oT, hz, hT, r1, r2, r3, r4⟩
  · refine wpAny_pyNext_zip_item D hz hTI hTO h1 h2 hl1 hl2 ex ey fun h' a1 a2 a3 a4 a5 a6 hk => ?_
    refine hQ _ _ h' ex ey a5 (by simp [Nat.ne_of_gt hS, lt hz, lt hTO, n1, n2]) ⟨hk _ _ D.TIz D.TITO D.TIi1 D.TIi2 hTI, a3, a4, hl1.at fun o e => hk _ o D.l1z D.l1TO D.l1i1 D.l1i2 e, hl2.at fun o e => hk _ o D.l2z D.l2TO D.l2i1 D.l2i2 e,
      ⟨_, a2⟩, .inr ⟨s.heap.objs.size, false, _, a1, a5, lt hz, n1, n2, Nat.ne_of_gt hS⟩⟩ (fun c o hc e => ?_) a6
    simp only [List.mem_cons, List.not_mem_nil, or_false, not_or] at hc
    exact hk c o hc.1 hc.2.1 hc.2.2.1 hc.2.2.2 e
  · refine wpAny_pyNext_zip_item_held D hz hT hTI h1 h2 hl1 hl2 ex ey fun h' a1 a3 a4 a5 a6 hk => ?_
    refine hQ _ _ h' ex ey a5 (by simp [Nat.ne_of_gt hS, lt hz, lt hO, n1, n2]) ⟨hk _ _ D.TIz D.TIi1 D.TIi2 hTI, a3, a4, hl1.at fun o e => hk _ o D.l1z D.l1i1 D.l1i2 e, hl2.at fun o e => hk _ o D.l2z D.l2i1 D.l2i2 e,
      ⟨_, hk _ _ D.TOz D.TOi1 D.TOi2 hO⟩, .inr ⟨T, true, oT, a1, hk _ _ r1 r2 r3 hT, r1, r2, r3, r4⟩⟩ (fun c o hc e => ?_) a6
    simp only [List.mem_cons, List.not_mem_nil, or_false, not_or] at hc
    exact hk c o hc.1 hc.2.2.1 hc.2.2.2 e
theorem ZS.done {A : Around} {s : Shared} {E : Value → Shared → Prop} {z TI TO i1 i2 l1 l2 S : Addr} {xs ys : Array Value} {Q : Option Value → Shared → Prop} (hh : A.handled = none) (D : ZipApart z TI TO i1 i2 l1 l2) (st : ZS z TI TO i1 i2 l1 l2 S xs ys (min xs.size ys.size) s.heap)
    (hQ : ∀ h', (∀ c o, c ∉ [z, TO, i1, i2] → s.heap.get? c = some o → h'.get? c = some o) → Q none { s with heap := h' }) :
    wpAny (model prog w) A (pyNext (.ref z)) Q E s := by
  obtain ⟨hTI, h1, h2, hl1, hl2, _, hz⟩ := st
  have hend : xs[min xs.size ys.size]? = none ∨ ys[min xs.size ys.size]? = none := by
    rcases Nat.le_total xs.size ys.size with h | h
    · exact .inl (Array.getElem?_eq_none (by rw [Nat.min_eq_left h]; exact Nat.le_refl _))
    · exact .inr (Array.getElem?_eq_none (by rw [Nat.min_eq_right h]; exact Nat.le_refl _))
  rcases hz with ⟨hz, a, b, hTO⟩ | ⟨T, f, oT, hz, hT, r1, r2, r3, r4⟩
  · exact wpAny_pyNext_zip_end hh D hz hTI hTO h1 h2 hl1 hl2 hend fun h' hk => hQ h' fun c o hc e => hk c o (fun x => hc (by simp [x])) (fun x => hc (by simp [x])) (fun x => hc (by simp [x])) (fun x => hc (by simp [x])) e
  · exact wpAny_pyNext_zip_end_held hh D hz hT hTI h1 h2 hl1 hl2 hend fun h' hk => hQ h' fun c o hc e => hk c o (fun x => hc (by simp [x])) (fun x => hc (by simp [x])) (fun x => hc (by simp [x])) e
/-- list.extend's loop over it -/
theorem loop {A : Around} {R : Result → Shared → Prop} {z TI TO i1 i2 l1 l2 S : Addr} {xs ys : Array Value} (hh : A.in1.handled = none) (D : ZipApart z TI TO i1 i2 l1 l2) (d : Off z TI TO i1 i2 l1 l2 S) (lo : Nat) (hn : min xs.size ys.size ≤ sizeLine) (res : Value) :
    ∀ (k i : Nat) (s : Shared) (acc : Array Value) (c : Nat), min xs.size ys.size - i = k → i ≤ min xs.size ys.size → ZS z TI TO i1 i2 l1 l2 S xs ys i s.heap → s.heap.get? S = some { cls := .type "list", dict := none, data := .seq acc c, slots := #[] } → acc.size = i → lo ≤ s.heap.objs.size → Prs xs ys lo [S, z, TO, i1, i2] acc s.heap →
    (∀ h' acc' c', (∀ b o, b ∉ [S, z, TO, i1, i2] → s.heap.get? b = some o → h'.get? b = some o) → h'.get? S = some { cls := .type "list", dict := none, data := .seq acc' c', slots := #[] } → acc'.size = min xs.size ys.size → Prs xs ys lo [S, z, TO, i1, i2] acc' h' → R (.ok (.ret res)) { s with heap := h' }) →
    codeAny (model prog w) A (.builtin "list.extend.loop" ⟨[.ref S, .ref z, res], []⟩) R s := by
  have hSw : S ∉ [z, TO, i1, i2] := by simp [d.z, d.TO, d.i1, d.i2]
  have hsub : ∀ c, c ∉ [S, z, TO, i1, i2] → c ∉ [z, TO, i1, i2] := fun c hc h => hc (List.mem_cons_of_mem _ h)
  intro k
  induction k with
  | zero =>
    intro i s acc c hk hi hst hS hsz hlo hp hR
    have hin : i = min xs.size ys.size := by omega
    subst hin
    refine codeAny_builtin F.entry_extend_loop ?_
    rw [Around.under_plainId F.plain_extend_loop _]
    show wpAny _ A.in1 (pyNext (.ref z) >>= _) _ _ s
    refine wpAny_bind (hst.done hh D fun h' hk => ?_)
    exact wpAny_pure (hR h' acc c (fun b o hb e => hk b o (hsub b hb) e) (hk _ _ hSw hS) hsz (hp.keep fun b o hb e => hk b o (hsub b hb) e))
  | succ k ih =>
    intro i s acc c hk hi hst hS hsz hlo hp hR
    have hlt : i < min xs.size ys.size := by omega
    refine codeAny_builtin F.entry_extend_loop ?_
    rw [Around.under_plainId F.plain_extend_loop _]
    show wpAny _ A.in1 (pyNext (.ref z) >>= _) _ _ s
    refine wpAny_bind (hst.item D (Heap.lt_size hS) hlt fun a b h' ea eb hT hTn st' hk' hsz' => ?_)
    have hS' := hk' S _ hSw hS
    show wpAny _ A.in1 (updateSeq S (·.push (.ref s.heap.objs.size)) >>= _) _ _ _
    refine wpAny_bind ?_
    have ho : ∀ b o, b ≠ S → h'.get? b = some o → (h'.update S (Obj.mapSeq (·.push (Value.ref s.heap.objs.size)))).get? b = some o := fun b o hb e => (Heap.get?_update_other _ _ (Ne.symm hb)).trans e
    have hp1 : Prs xs ys lo [S, z, TO, i1, i2] acc h' := hp.keep fun b o hb e => hk' b o (hsub b hb) e
    have hp2 : Prs xs ys lo [S, z, TO, i1, i2] (acc.push (.ref s.heap.objs.size)) h' := hp1.push hT (by rw [hsz]; exact ea) (by rw [hsz]; exact eb) hTn hlo fun x hx e => by
      obtain ⟨j, hj⟩ := List.getElem?_of_mem hx
      obtain ⟨T, a', b', h1, h2, _⟩ := hp.at_ j x (by rw [← Array.getElem?_toList]; exact hj)
      rw [h1] at e
      cases e
      exact absurd (Heap.lt_size h2) (Nat.lt_irrefl _)
    have hp3 := hp2.keep (h' := h'.update S (Obj.mapSeq (·.push (Value.ref s.heap.objs.size)))) fun b o hb e => ho b o (fun z => hb (by simp [z])) e
    refine wpAny_updateSeq hS' rfl (wpAny_pure ⟨plainId_quiet F.plain_extend_loop _, ih (i + 1) _ (acc.push (.ref s.heap.objs.size)) _ (by omega) hlt (st'.keep d ho) (Heap.get?_update_self _ hS' rfl) (by rw [Array.size_push, hsz]) ?_ hp3 fun h'' acc' c' hm hS'' hs'' hp'' => ?_⟩)
      (by rw [hsz]; omega) (by show (acc.push _).size ≤ sizeLine + 1; rw [Array.size_push, hsz]; omega)
    · show lo ≤ (h'.update S _).objs.size
      rw [Heap.size_update, hsz']; omega
    · exact hR h'' acc' c' (fun b o hb e => hm b o hb (ho b o (fun z => hb (by simp [z])) (hk' b o (hsub b hb) e))) hS'' hs'' hp''
end
end LZ
namespace LZ
open PySem PyProof.Rows
theorem no_len : typeLookup (.type "zip") "__len__" = pure none := am_miss_of_fast (by decide +kernel)
theorem no_hint : typeLookup (.type "zip") "__length_hint__" = pure none := am_miss_of_fast (by decide +kernel)
section
variable {prog : Program} {w : World} {A : Around} {s : Shared} {R : Result → Shared → Prop} {z TI TO i1 i2 l1 l2 S : Addr} {xs ys : Array Value} {lo : Nat}
theorem ext (hh : A.in1.handled = none) (D : ZipApart z TI TO i1 i2 l1 l2) (d : Off z TI TO i1 i2 l1 l2 S) (hn : min xs.size ys.size ≤ sizeLine) (res : Value) (c₀ : Nat)
    (hz : IsZip s.heap z TI TO .none) (hst : ZS z TI TO i1 i2 l1 l2 S xs ys 0 s.heap) (hS : s.heap.get? S = some { cls := .type "list", data := .seq #[] c₀ }) (hlo : lo ≤ s.heap.objs.size)
    (hR : ∀ h' acc' c', (∀ b o, b ∉ [S, z, TO, i1, i2] → s.heap.get? b = some o → h'.get? b = some o) → h'.get? S = some { cls := .type "list", dict := none, data := .seq acc' c', slots := #[] } → acc'.size = min xs.size ys.size → Prs xs ys lo [S, z, TO, i1, i2] acc' h' → R (.ok (.ret res)) { s with heap := h' }) :
    wpAny (model prog w) A.in1 (Builtin.List.listExtendWith (.ref S) (.ref z) res)
      (fun fin s' => match fin with | .done f => R (.ok f) s' | .again c' => c'.quiet = true ∧ codeAny (model prog w) A c' R s') (fun e s' => R (.error e) s') s := by
  unfold Builtin.List.listExtendWith
  refine wpAny_bind (wpAny_typeOf (T := "zip") ⟨_, hz, rfl⟩ ?_)
  have h1 : Builtin.List.listSameRef (.ref S) (.ref z) = false := by simp [Builtin.List.listSameRef, d.z]
  have h2 : (Value.type "zip" == Value.type "list") = false := by decide
  have h3 : (Value.type "zip" == Value.type "tuple") = false := by decide
  simp only [h1, h2, h3, Bool.or_false, Bool.false_eq_true, if_false]
  refine wpAny_bind (wpAny_pyIter_zip hz ?_)
  refine wpAny_bind (wpAny_holding ?_)
  unfold Builtin.List.listLengthHint
  refine wpAny_bind (wpAny_specialOf (T := "zip") ⟨_, hz, rfl⟩ no_len ?_)
  show wpAny _ A.in1 (specialOf (Value.ref z) (Str.ofString "__length_hint__") >>= _) _ _ _
  refine wpAny_bind (wpAny_specialOf (T := "zip") ⟨_, hz, rfl⟩ no_hint ?_)
  refine wpAny_pure ?_
  show wpAny _ A.in1 (rule "list.extend.makes-room" >>= fun _ => Builtin.List.listTouch (.ref S) >>= fun _ =>
    again (.builtin "list.extend.loop" ⟨[.ref S, .ref z, res], []⟩)) _ _ _
  refine wpAny_bind (wpAny_rule ?_)
  refine wpAny_bind ?_
  show wpAny _ A.in1 (updateSeq S (·.push .none) >>= fun _ => updateSeq S (·.pop)) _ _ _
  refine wpAny_bind (wpAny_updateSeq hS rfl ?_)
  have hS₂ := Heap.get?_update_self (Obj.mapSeq (·.push Value.none)) hS rfl
  refine wpAny_updateSeq (hz := by seq_fits) hS₂ rfl ?_
  have hS₃ := Heap.get?_update_self (Obj.mapSeq (·.pop)) hS₂ rfl
  have oth : ∀ b o, b ≠ S → s.heap.get? b = some o → ((s.heap.update S (Obj.mapSeq (·.push Value.none))).update S (Obj.mapSeq (·.pop))).get? b = some o :=
    fun b o hb e => (Heap.get?_update_other _ _ (Ne.symm hb)).trans ((Heap.get?_update_other _ _ (Ne.symm hb)).trans e)
  have hsz : ((s.heap.update S (Obj.mapSeq (·.push Value.none))).update S (Obj.mapSeq (·.pop))).objs.size = s.heap.objs.size := by rw [Heap.size_update, Heap.size_update]
  refine wpAny_pure ⟨plainId_quiet F.plain_extend_loop _, loop hh D d lo hn res (min xs.size ys.size) 0 _ #[] _ rfl (Nat.zero_le _) (hst.keep d oth) hS₃ rfl (by show lo ≤ ((s.heap.update S _).update S _).objs.size; rw [hsz]; exact hlo) ⟨fun j x e => by simp at e, by simp⟩ fun h' acc' c' hk hS' hs' hp' => ?_⟩
  exact hR h' acc' c' (fun b o hb e => hk b o hb (oth b o (fun q => hb (by simp [q])) e)) hS' hs' hp'
theorem init (hh : A.in1.handled = none) (D : ZipApart z TI TO i1 i2 l1 l2) (d : Off z TI TO i1 i2 l1 l2 S) (hn : min xs.size ys.size ≤ sizeLine)
    (hz : IsZip s.heap z TI TO .none) (hst : ZS z TI TO i1 i2 l1 l2 S xs ys 0 s.heap) (hS : s.heap.get? S = some { cls := .type "list", data := .seq #[] }) (hlo : lo ≤ s.heap.objs.size)
    (hR : ∀ h' acc' c', (∀ b o, b ∉ [S, z, TO, i1, i2] → s.heap.get? b = some o → h'.get? b = some o) → h'.get? S = some { cls := .type "list", dict := none, data := .seq acc' c', slots := #[] } → acc'.size = min xs.size ys.size → Prs xs ys lo [S, z, TO, i1, i2] acc' h' → R (.ok (.ret .none)) { s with heap := h' }) :
    wpAny (model prog w) A.in1 (Builtin.«list.__init__» ⟨[.ref S, .ref z], []⟩)
      (fun fin s' => match fin with | .done f => R (.ok f) s' | .again c' => c'.quiet = true ∧ codeAny (model prog w) A c' R s') (fun e s' => R (.error e) s') s := by
  show wpAny _ A.in1 (do let old ← Builtin.List.listItems (.ref S); Builtin.List.listUpdate (.ref S) (fun _ => #[]); letGo old.toList.reverse; Builtin.List.listExtendWith (.ref S) (.ref z) .none) _ _ s
  refine wpAny_bind ?_
  unfold Builtin.List.listItems
  refine wpAny_bind (wpAny_seqItems hS rfl (wpAny_pure ?_))
  show wpAny _ A.in1 (updateSeq S (fun _ => #[]) >>= fun _ => letGo (#[] : Array Value).toList.reverse >>= fun _ => Builtin.List.listExtendWith (.ref S) (.ref z) .none) _ _ s
  refine wpAny_bind (wpAny_updateSeq hS rfl ?_)
  have hS₂ := Heap.get?_update_self (Obj.mapSeq (fun _ => (#[] : Array Value))) hS rfl
  have oth : ∀ b o, b ≠ S → s.heap.get? b = some o → (s.heap.update S (Obj.mapSeq (fun _ => (#[] : Array Value)))).get? b = some o :=
    fun b o hb e => (Heap.get?_update_other _ _ (Ne.symm hb)).trans e
  refine wpAny_bind (wpAny_letGo ?_)
  refine ext hh D d hn .none _ (oth _ _ (Ne.symm d.z) hz) (hst.keep d oth) hS₂ (by show lo ≤ (s.heap.update S _).objs.size; rw [Heap.size_update]; exact hlo) fun h' acc' c' hk hS' hs' hp' => ?_
  exact hR h' acc' c' (fun b o hb e => hk b o hb (oth b o (fun q => hb (by simp [q])) e)) hS' hs' hp'
end
section
variable {prog : Program} {w : World} {A : Around} {E : Value → Shared → Prop} {s : Shared} {z TI TO i1 i2 l1 l2 : Addr} {xs ys : Array Value} {lo : Nat}
theorem call_list (hh : A.handled = none) (D : ZipApart z TI TO i1 i2 l1 l2) (hn : min xs.size ys.size ≤ sizeLine) {Q : Value → Shared → Prop}
    (hz : IsZip s.heap z TI TO .none) (hTO : IsPair s.heap TO .none .none) (hTI : IsPair s.heap TI (.ref i1) (.ref i2)) (h1 : s.heap.IsListIter i1 l1 0) (h2 : s.heap.IsListIter i2 l2 0) (hl1 : s.heap.IsList l1 xs) (hl2 : s.heap.IsList l2 ys) (hlo : lo ≤ s.heap.objs.size)
    (hQ : ∀ h' acc' c', (∀ b o, b ∉ [z, TO, i1, i2] → s.heap.get? b = some o → h'.get? b = some o) → h'.get? s.heap.objs.size = some { cls := .type "list", dict := none, data := .seq acc' c', slots := #[] } → acc'.size = min xs.size ys.size → Prs xs ys lo [s.heap.objs.size, z, TO, i1, i2] acc' h' → Q (.ref s.heap.objs.size) { s with heap := h' }) :
    wpAny (model prog w) A (call (.type "list") [.ref z]) Q E s := by
  have lt : ∀ {c o}, s.heap.get? c = some o → s.heap.objs.size ≠ c := fun e => Nat.ne_of_gt (Heap.lt_size e)
  have d : Off z TI TO i1 i2 l1 l2 s.heap.objs.size := ⟨lt hz, lt hTI, lt hTO, let ⟨_, e, _⟩ := h1; lt e, let ⟨_, e, _⟩ := h2; lt e, let ⟨_, e, _⟩ := hl1; lt e, let ⟨_, e, _⟩ := hl2; lt e⟩
  refine callType_codes (Q₁ := fun obj s₁ => obj = .ref s.heap.objs.size ∧ s₁ = { s with heap := s.heap.push { cls := .type "list", data := .seq #[] } }) F.called_list (F.typeCall_list_1 _) F.entry_list_init
    (code_list_new _ ⟨rfl, rfl⟩) fun obj s₁ h₁ => ?_
  obtain ⟨rfl, rfl⟩ := h₁
  have hS : (s.heap.push { cls := .type "list", data := .seq #[] }).get? s.heap.objs.size = some { cls := .type "list", data := .seq #[] } := Heap.get?_push_size _ rfl
  have k : ∀ b o, s.heap.get? b = some o → (s.heap.push { cls := .type "list", data := .seq #[] }).get? b = some o := fun b o e => Heap.get?_push_of_some _ e
  refine ⟨⟨_, hS, rfl⟩, F.args_list_init_2 _ _, init (A := A.in1) (s := { s with heap := s.heap.push { cls := .type "list", data := .seq #[] } }) hh D d hn (k _ _ hz) ⟨k _ _ hTI, h1.at fun o e => k _ o e, h2.at fun o e => k _ o e, hl1.at fun o e => k _ o e, hl2.at fun o e => k _ o e, ⟨_, k _ _ hTO⟩, .inl ⟨k _ _ hz, _, _, k _ _ hTO⟩⟩ hS (by show lo ≤ (s.heap.push _).objs.size; rw [Heap.size_push]; omega) fun h' acc' c' hk hS' hs' hp' => ?_⟩
  refine ⟨rfl, hQ h' acc' c' (fun b o hb e => ?_) hS' hs' hp'⟩
  refine hk b o (fun q => ?_) (k b o e)
  rcases List.mem_cons.mp q with q | q
  · exact lt e q.symm
  · exact hb q
end
end LZ
namespace PL
open PySem L2 PyProof.Rows
/-- tuples laid -/
def layT (H : Hp) : List Addr → List V → List V → Hp
  | p :: ps, x :: xs, y :: ys => layT (upd H p (.tup [x, y])) ps xs ys
  | _, _, _ => H
theorem layT_ex : ∀ {ps : List Addr} {H : Hp} {xs ys : List V}, ps.Nodup → (∀ p ∈ ps, H p = none) → Evl.Ex H (layT H ps xs ys)
  | [], _, _, _, _, _ => fun _ _ e => e
  | _ :: _, _, [], _, _, _ => fun _ _ e => e
  | _ :: _, _, _ :: _, [], _, _ => fun _ _ e => e
  | p :: ps, H, x :: xs, y :: ys, nd, h => fun a o e => by
    rw [List.nodup_cons] at nd
    have hn := h p List.mem_cons_self
    refine layT_ex (H := upd H p (.tup [x, y])) nd.2 (fun q hq => ?_) a o ?_
    · rw [upd_ne (fun z => nd.1 (by rw [← z]; exact hq))]; exact h q (List.mem_cons_of_mem _ hq)
    · rw [upd_ne (ne_of_none e hn)]; exact e
theorem layT_get : ∀ {ps : List Addr} {H : Hp} {xs ys : List V} {a : Addr} {o : HO}, layT H ps xs ys a = some o → H a = some o ∨ ∃ (j : Nat) (x y : V), ps[j]? = some a ∧ xs[j]? = some x ∧ ys[j]? = some y ∧ o = .tup [x, y]
  | [], _, _, _, _, _, e => .inl e
  | _ :: _, _, [], _, _, _, e => .inl e
  | _ :: _, _, _ :: _, [], _, _, e => .inl e
  | p :: ps, H, x :: xs, y :: ys, a, o, e => by
    rcases layT_get (ps := ps) (xs := xs) (ys := ys) e with h | ⟨j, x', y', h1, h2, h3, h4⟩
    · by_cases hp : a = p
      · subst hp
        rw [upd_same] at h
        cases h
        exact .inr ⟨0, x, y, rfl, rfl, rfl, rfl⟩
      · rw [upd_ne hp] at h; exact .inl h
    · exact .inr ⟨j + 1, x', y', by simpa using h1, by simpa using h2, by simpa using h3, h4⟩
theorem layT_at : ∀ {ps : List Addr} {H : Hp} {xs ys : List V} {j : Nat} {p : Addr} {x y : V}, ps.Nodup → (∀ p ∈ ps, H p = none) → ps[j]? = some p → xs[j]? = some x → ys[j]? = some y → layT H ps xs ys p = some (.tup [x, y])
  | [], _, _, _, _, _, _, _, _, _, h, _, _ => by simp at h
  | _ :: _, _, [], _, _, _, _, _, _, _, _, h, _ => by simp at h
  | _ :: _, _, _ :: _, [], _, _, _, _, _, _, _, _, h => by simp at h
  | p :: ps, H, x :: xs, y :: ys, 0, q, u, v, nd, hn, h1, h2, h3 => by
    simp at h1 h2 h3
    subst h1 h2 h3
    rw [List.nodup_cons] at nd
    refine layT_ex (H := upd H p (.tup [x, y])) nd.2 (fun q hq => ?_) _ _ upd_same
    rw [upd_ne (fun z => nd.1 (by rw [← z]; exact hq))]; exact hn q (List.mem_cons_of_mem _ hq)
  | p :: ps, H, x :: xs, y :: ys, j + 1, q, u, v, nd, hn, h1, h2, h3 => by
    rw [List.nodup_cons] at nd
    refine layT_at (H := upd H p (.tup [x, y])) nd.2 (fun q hq => ?_) (by simpa using h1) (by simpa using h2) (by simpa using h3)
    rw [upd_ne (fun z => nd.1 (by rw [← z]; exact hq))]; exact hn q (List.mem_cons_of_mem _ hq)
theorem un_grow {fs ex : List Addr} {H H' : Hp} {h h' : Heap} (k : ∀ b u, h.get? b = some u → h'.get? b = some u) (e : Evl.Ex H H') (fr : ∀ b o, h.get? b = some o → H b = none → H' b = none) : Un fs ex H H' h h' where
  keep := fun b u q _ _ _ => k b u q
  slot := fun b u q _ _ _ => ⟨u.slots, k b u q⟩
  free := fun b u q n _ => fr b u q n
  there := fun b u q _ => ⟨u, k b u q⟩
  tups := fun b xs q => e _ _ q
  frzs := fun b u xs q => e _ _ q
  tbls := fun b ps q => ⟨#[], by rw [e _ _ q]; simp⟩
/-- list(zip(xs, ys)) -/
def tLZ (K : PySem.W.Frag) (ta : TA) : TE := fun σ H Q => ta σ H fun vs H1 => ∃ a b xs ys, vs = [.ref a, .ref b] ∧ SqL K H1 a xs ∧ SqL K H1 b ys ∧
  ∀ (ps : List Addr) (H2 : Hp) (l : Addr), ps.length = min xs.length ys.length → Evl.Ex H1 H2 → (∀ (j : Nat) (p : Addr) (x y : V), ps[j]? = some p → xs[j]? = some x → ys[j]? = some y → H2 p = some (.tup [x, y])) → H2 l = none → Q (.ref l) (upd H2 l (.lst (ps.map V.ref)))

theorem prs_addrs {xs ys acc : Array Value} {lo : Nat} {ex : List Addr} {h : Heap} (p : LZ.Prs xs ys lo ex acc h) : ∃ ps : List Addr, acc.toList = ps.map Value.ref ∧ ps.Nodup ∧ ∀ (j : Nat) (q : Addr), ps[j]? = some q → lo ≤ q ∧ ∃ a b, IsPair h q a b ∧ xs[j]? = some a ∧ ys[j]? = some b := by
  obtain ⟨l⟩ := acc
  obtain ⟨h1, nd⟩ := p
  have hx : ∀ x ∈ l, ∃ T : Addr, x = .ref T := fun x hx => by
    obtain ⟨j, hj⟩ := List.getElem?_of_mem hx
    obtain ⟨T, _, _, e, _⟩ := h1 j x (by simpa using hj)
    exact ⟨T, e⟩
  have key : ∀ l : List Value, (∀ x ∈ l, ∃ T : Addr, x = .ref T) → ∃ ps : List Addr, l = ps.map Value.ref := by
    intro l
    induction l with
    | nil => intro _; exact ⟨[], rfl⟩
    | cons x l ih =>
      intro h
      obtain ⟨T, rfl⟩ := h x List.mem_cons_self
      obtain ⟨ps, rfl⟩ := ih fun y hy => h y (List.mem_cons_of_mem _ hy)
      exact ⟨T :: ps, rfl⟩
  obtain ⟨ps, rfl⟩ := key l hx
  refine ⟨ps, rfl, ?_, fun j q hq => ?_⟩
  · have nd' : (ps.map Value.ref).Nodup := nd
    exact (List.pairwise_map.mp nd').imp fun h z => h (by rw [z])
  · obtain ⟨T, a, b, e, h2, h3, h4, h5, h6⟩ := h1 j (.ref q) (by simp [hq])
    cases e
    exact ⟨h6, a, b, h2, h3, h4⟩
theorem pe_listZip {X : Cx} {e e2 : Expr} {ta : TA} {p p2 pos q : Pos} (hc : X.calm = true) (hg : Gl X "list") (hm : X.mg "list" = none) (hg2 : Gl X "zip") (hm2 : X.mg "zip" = none) (ha : PA X [e, e2] ta)
    (hs : starEach [e, e2] X.env = (false, eval e X.env) :: starEach [e2] X.env := by rfl) (hpl : (backTo q (starEach [e2] X.env)).any (·.1) = false := by rfl)
    (na : starEach [.Call (.Name "zip" p2) [e, e2] [] q] X.env = (false, eval (.Call (.Name "zip" p2) [e, e2] [] q) X.env) :: starEach [] X.env := by rfl) : PE X (.Call (.Name "list" p) [.Call (.Name "zip" p2) [e, e2] [] q] [] pos) (tLZ X.K ta) := by
  refine ⟨fun pins s σ H Q I h => ?_⟩
  refine Call_ (ld_blt I hg hm boot_list (PyProof.Rows.callWith_type1 (args_cons (Call_ (ld_blt I hg2 hm2 PyProof.Rows.boot_zip (PyProof.Rows.callWith_type1 (thn (ha.run q pins s σ H _ I h) fun us s1 ⟨vs, H1, I1, r1, q1⟩ => ?_) hs hpl))) na) na))
  obtain ⟨a, b, xs, ys, ex, hqx, hqy, q⟩ := q1
  subst ex
  cases r1 with
  | cons r rr =>
    cases rr with
    | cons r' rr =>
      cases rr
      cases r
      cases r'
      obtain ⟨its, rv, p1, z1⟩ := I1.list hqx
      obtain ⟨its2, rv2, p2, z2⟩ := I1.list hqy
      have la : a < s1.heap.objs.size := p1.lt
      have lb : b < s1.heap.objs.size := p2.lt
      refine call_zip_2 p1.isList p2.isList fun h' hz hTI hTO h1 h2 hsz hk => args_nil ?_
      have hn : min its.toArray.size its2.toArray.size ≤ sizeLine := by
        rw [List.size_toArray, List.size_toArray, ← rv.length]
        exact Nat.le_trans (Nat.min_le_left ..) z1
      refine LZ.call_list (lo := s1.heap.objs.size) (I1.ok.hd hc) (PySem.W.ktu_apart s1.heap.objs.size a b la lb) hn hz hTO hTI h1 h2 (p1.isList.at fun o e => hk _ o e) (p2.isList.at fun o e => hk _ o e) (by show _ ≤ h'.objs.size; omega) fun h'' acc' c' hk2 hS hs' hp' => ?_
      obtain ⟨ps, hps, nd, hat⟩ := prs_addrs hp'
      have hfr : ∀ p : Addr, s1.heap.objs.size ≤ p → H1 p = none := fun p hp => I1.hok.fresh hp
      have hpn : ∀ p ∈ ps, H1 p = none := fun p hp => by
        obtain ⟨j, hj⟩ := List.getElem?_of_mem hp
        exact hfr p (hat j p hj).1
      have keep : ∀ c o, s1.heap.get? c = some o → h''.get? c = some o := fun c o e => by
        have hlt := Heap.lt_size e
        refine hk2 c o (fun z => ?_) (hk c o e)
        have hne : ∀ k : Nat, c ≠ s1.heap.objs.size + k := fun k q => absurd (q ▸ hlt : s1.heap.objs.size + k < s1.heap.objs.size) (Nat.not_lt_of_le (Nat.le_add_right _ k))
        simp only [List.mem_cons, List.not_mem_nil, or_false] at z
        rcases z with z | z | z | z
        · exact hne 4 z
        · exact hne 3 z
        · exact hne 0 z
        · exact hne 1 z
      have hlen : ps.length = min xs.length ys.length := by
        have : acc'.toList.length = ps.length := by rw [hps, List.length_map]
        rw [Array.length_toList] at this
        rw [← this, hs', List.size_toArray, List.size_toArray, rv.length, rv2.length]
      have hex : Evl.Ex H1 (layT H1 ps xs ys) := layT_ex nd hpn
      have hl : layT H1 ps xs ys h'.objs.size = none := by
        cases e : layT H1 ps xs ys h'.objs.size with
        | none => rfl
        | some o =>
          rcases layT_get e with z | ⟨j, x, y, z, _⟩
          · have hlt : h'.objs.size < s1.heap.objs.size := I1.hok.lt z
            rw [hsz] at hlt
            exact absurd hlt (Nat.not_lt_of_le (Nat.le_add_right _ _))
          · obtain ⟨_, a', b', z', _⟩ := hat j _ z
            have q9 := (show h''.get? h'.objs.size = _ from z').symm.trans hS
            simp at q9
      have hex2 : Evl.Ex H1 (upd (layT H1 ps xs ys) h'.objs.size (.lst (ps.map V.ref))) := fun c o e => by
        rw [upd_ne (fun z => ?_)]
        · exact hex _ _ e
        · have := hex _ _ e
          rw [z, hl] at this
          cases this
      refine ⟨.ref h'.objs.size, upd (layT H1 ps xs ys) h'.objs.size (.lst (ps.map V.ref)), I1.un (t' := s1.toks) (un_grow keep hex2 fun c o e n => ?_) fun c o e => ?_, rfl, q ps _ _ hlen hex (fun j p x y e1 e2 e3 => layT_at nd hpn e1 e2 e3) hl⟩
      · have hlt := Heap.lt_size e
        rw [upd_ne (fun q9 => by
          have q8 : h'.objs.size < s1.heap.objs.size := q9 ▸ hlt
          rw [hsz] at q8
          exact absurd q8 (Nat.not_lt_of_le (Nat.le_add_right _ _)))]
        cases e' : layT H1 ps xs ys c with
        | none => rfl
        | some o' =>
          rcases layT_get e' with z | ⟨j, x, y, z, _⟩
          · rw [n] at z; cases z
          · exact absurd hlt (Nat.not_lt_of_le (hat j _ z).1)
      · by_cases hcl : c = h'.objs.size
        · subst hcl
          rw [upd_same] at e
          cases e
          refine ⟨by rw [List.length_map, hlen, rv.length]; exact Nat.le_trans (Nat.min_le_left ..) (by rw [← rv.length]; exact z1), ps.map Value.ref, c', ?_, ?_⟩
          · clear hat hs' hp' hps nd hpn hlen hex hl hex2 hS
            induction ps with
            | nil => exact .nil
            | cons p ps ih => exact .cons rfl ih
          · rw [← hps, Array.toArray_toList]; exact hS
        · rw [upd_ne hcl] at e
          rcases layT_get e with z | ⟨j, x, y, z1, z2, z3, rfl⟩
          · refine (I1.hok c o z).stay (fun b u _ q => keep b u q) (fun _ q => hex2 _ _ q) fun _ _ q => hex2 _ _ q
          · obtain ⟨_, a', b', hp, e1, e2⟩ := hat j _ z1
            obtain ⟨u1, hu1, ru1⟩ := rv.get z2
            obtain ⟨u2, hu2, ru2⟩ := rv2.get z3
            rw [show its.toArray[j]? = some u1 by simpa using hu1] at e1
            rw [show its2.toArray[j]? = some u2 by simpa using hu2] at e2
            cases e1; cases e2
            exact ⟨by show 2 ≤ sizeLine; decide, [_, _], .cons ru1 (.cons ru2 .nil), ⟨_, hp, rfl, _, rfl⟩⟩
theorem zip_rd {K : PySem.W.Frag} {N : Hp} : ∀ {ps : List Addr} {xs ys : List V} {ds es : List PyData}, ps.length = min xs.length ys.length → PL.RdL K N xs ds → PL.RdL K N ys es →
    (∀ (j : Nat) (p : Addr) (x y : V), ps[j]? = some p → xs[j]? = some x → ys[j]? = some y → N p = some (.tup [x, y])) → PL.RdL K N (ps.map V.ref) (zipD ds es)
  | ps, _, _, _, _, h, .nil, _, _ => by
    have e : ps = [] := List.eq_nil_of_length_eq_zero (by rw [h]; simp)
    subst e; exact .nil
  | ps, _, _, _, _, h, .cons _ _, .nil, _ => by
    have e : ps = [] := List.eq_nil_of_length_eq_zero (by rw [h]; simp)
    subst e; exact .nil
  | [], _, _, _, _, h, .cons _ _, .cons _ _, _ => by simp at h
  | p :: ps, _, _, _, _, h, .cons ra r1, .cons rb r2, hat => .cons (.tup (.inl (.inl (hat 0 p _ _ rfl rfl rfl))) (.cons ra (.cons rb .nil)))
      (zip_rd (by simp only [List.length_cons] at h; omega) r1 r2 fun j q x y e1 e2 e3 => hat (j + 1) q x y (by simpa using e1) (by simpa using e2) (by simpa using e3))
end PL
namespace PL
open PySem L2
section
variable {X : Cx} {C : PCx} {a b : Expr} {pa pb : PTE} {K : PySem.W.Frag} {w : Own} {σ : St} {τ : Tmp} {S : Sl} {H : Hp}
def pLZ (a b : PTE) : PTE := fun S G => a S fun x S1 => b S1 fun y S2 => on1 S2 x fun t => on1 S2 y fun u => match t.ls, u.ls with
  | some ds, some es => G (.v (.ol (zipD ds es))) S2
  | _, _ => False
theorem qe_listZip {p p2 pos q : Pos} (hc : X.calm = true) (hm : X.mg "list" = none) (hm2 : X.mg "zip" = none) (ha : QE X C a pa) (hb : QE X C b pb) (hg : Gl X "list" := by rfl) (hg2 : Gl X "zip" := by rfl)
    (hs : starEach [a, b] X.env = (false, eval a X.env) :: starEach [b] X.env := by rfl) (hs2 : starEach [b] X.env = [(false, eval b X.env)] := by rfl) (hpl : (backTo q (starEach [b] X.env)).any (·.1) = false := by rfl)
    (na : starEach [.Call (.Name "zip" p2) [a, b] [] q] X.env = (false, eval (.Call (.Name "zip" p2) [a, b] [] q) X.env) :: starEach [] X.env := by rfl) :
    QE X C (.Call (.Name "list" p) [.Call (.Name "zip" p2) [a, b] [] q] [] pos) (pLZ pa pb) := by
  obtain ⟨ta, h1, f1⟩ := ha
  obtain ⟨tb, h2, f2⟩ := hb
  refine ⟨_, pe_listZip hc hg hm hg2 hm2 (pa_cons h1 (pa_cons h2 pa_nil hs2) hs) hs hpl na, fun τ S σ H G Q A hp k => ?_⟩
  refine f1 τ S σ H _ _ A hp fun v H1 x S1 q1 A1 => ?_
  refine f2 _ S1 σ H1 _ _ A1 q1 fun u H2 y S2 q2 A2 => ?_
  obtain ⟨t, ht, q2⟩ := on1_iff q2
  obtain ⟨t', ht', q2⟩ := on1_iff q2
  split at q2
  · next ds es l1 l2 =>
    obtain ⟨w, A2⟩ := A2
    obtain ⟨ad, bd, xs, ys, rfl, rfl, g1, g2, r1, r2⟩ := A2.lists2 ht ht' l1 l2
    refine ⟨ad, bd, xs, ys, rfl, g1, g2, fun ps H3 l hlen ex hat hl => ?_⟩
    have A3 := A2.grow ex
    have me : Evl.Ex (msk H2 w) (msk H3 w) := msk_mono fun b u h1 h2 => ⟨h1, ex b u h2⟩
    refine k _ _ _ S2 q2 ?_
    rw [List.append_assoc] at A3
    refine A3.newL hl ?_
    have r1 := r1.mono me
    have r2 := r2.mono me
    have key : ∀ (j : Nat) (p : Addr) (x y : V), ps[j]? = some p → xs[j]? = some x → ys[j]? = some y → msk H3 w p = some (.tup [x, y]) := fun j p x y e1 e2 e3 => by
      have hh := hat j p x y e1 e2 e3
      have hw : w p = none := by
        cases e : w p with
        | none => rfl
        | some lb =>
          obtain ⟨o, ho, hn⟩ := A3.ow.dom _ _ e
          rw [hh] at ho
          cases ho
          cases hn
      rw [msk_none hw]; exact hh
    exact zip_rd (by rw [hlen]) r1 r2 key
  · exact q2.elim
end
end PL
namespace PL
/-! tests whose outcome is known -/
theorem bF {c : Bool} {A B : Prop} (h : c = false) (k : B) : (c = true → A) ∧ (c = false → B) := ⟨fun q => absurd q (by rw [h]; simp), fun _ => k⟩
theorem bT {c : Bool} {A B : Prop} (h : c = true) (k : A) : (c = true → A) ∧ (c = false → B) := ⟨fun _ => k, fun q => absurd q (by rw [h]; simp)⟩
theorem neS {p : Prop} [Decidable p] (h : p) : (true ^^ decide p) = false := by rw [decide_eq_true h]; rfl
theorem neN {p : Prop} [Decidable p] (h : ¬p) : (true ^^ decide p) = true := by rw [decide_eq_false h]; rfl
theorem eqS {p : Prop} [Decidable p] (h : p) : (false ^^ decide p) = true := by rw [decide_eq_true h]; rfl
theorem eqN {p : Prop} [Decidable p] (h : ¬p) : (false ^^ decide p) = false := by rw [decide_eq_false h]; rfl
end PL
namespace PL
open PySem L2
/-! for over a list that a parameter owns: the slot is given up meanwhile -/
def sForO (i : Nat) (g : PTG) (b : PTS) : PTS := fun D S => match S[i]? with
  | some (some (.ol ds)) => ∃ W : Nat → Sl → Prop, W 0 (S.set i none) ∧
    (∀ j d S, ds[j]? = some d → W j S → g d S fun S2 => b { D with nx := W (j + 1), ct := W (j + 1), bk := fun S' => D.nx (S'.set i (some (.ol ds))) } S2) ∧
    (∀ S, W ds.length S → D.nx (S.set i (some (.ol ds))))
  | _ => False
theorem qs_forO {X : Cx} {C : PCx} {tg iter : Expr} {s1 : List Stmt} {p1 : PTS} {pos : Pos} {i : Nat} {g : PTG} (hp : PassesOwn (model X.prog X.w) X.A X.env X.xe) (hc : X.calm = true) (hi : PE X iter (tVar i)) (hpr : C.prot[i]? = some true) (hg : QG X C tg g) (h1 : QSs X C s1 p1)
    (hs : ∀ x, foldedSetIterable iter X.env x = pure x := by intro _; rfl) : QS X C (.For tg iter s1 [] pos) (sForO i g p1) := by
  obtain ⟨tt, gt, ft⟩ := hg
  obtain ⟨t1, g1, f1⟩ := h1
  refine ⟨_, ps_for hp hc (pi_list hi) gt g1 hs, fun τ S σ H P D hn A hp L => ?_⟩
  unfold sForO at hp
  split at hp
  · next ds hsl =>
    obtain ⟨W, w0, turn, last⟩ := hp
    obtain ⟨v, hσ, AT⟩ := A.take hsl
    obtain ⟨ad, xs, rfl, hl⟩ : ∃ ad xs, v = .ref ad ∧ H ad = some (.lst xs) := by
      obtain ⟨w, A0⟩ := AT
      have r := A0.tm τ.length v (.ol ds) get_snoc_last
      cases r with
      | ol h1 h2 r => exact ⟨_, _, rfl, h2⟩
    have hv0 : C.vs0[i]?.map some = some (some (V.ref ad)) := by
      obtain ⟨w, A0⟩ := A
      rw [← A0.pr i hpr]; exact hσ
    have hne : NoR [(V.ref ad, R.v (T.ol ds))] := fun x hx => by rw [List.mem_singleton.mp hx]; rfl
    have back : ∀ σ' S' H', Abs X.K C σ' (τ ++ [(.ref ad, .v (.ol ds))]) S' H' → Abs X.K C σ' τ (S'.set i (some (.ol ds))) H' := fun σ' S' H' A' => by
      refine A'.untake ?_ (fun _ => rfl)
      obtain ⟨w, A0⟩ := A'
      rw [A0.pr i hpr]; exact hv0
    refine ⟨.ref ad, hσ, ad, rfl, ⟨xs, .inl (.inl hl)⟩, ?_⟩
    refine ⟨fun j m σ H => j + m = ds.length ∧ ∃ S, Abs X.K C σ (τ ++ [(.ref ad, .v (.ol ds))]) S H ∧ W j S, ⟨ds.length, by simp, _, AT, w0⟩, fun j m σ H ⟨him, S, A, wi⟩ => ?_⟩
    obtain ⟨sq1, sq2⟩ := seq_own (K := X.K) (C := C) (v := .ref ad) (ds := ds) rfl τ [] σ S H (by rw [List.append_nil]; exact A)
    simp only [List.append_nil] at sq1
    by_cases h : j < ds.length
    · right
      obtain ⟨s1, s2⟩ := sq1 j ds[j] (List.getElem?_eq_getElem h)
      refine ⟨s1, fun σ' H' => ∃ S, Abs X.K C σ' (τ ++ [(.ref ad, .v (.ol ds))]) S H' ∧ W (j + 1) S, fun σ' H' h' => ⟨m - 1, by omega, by omega, h'⟩, fun x H' y => ?_⟩
      refine ft (τ ++ [(.ref ad, .v (.ol ds))]) S σ H' x ds[j] _ _ (noR_app hn hne) (s2 x H' y) (turn j _ S (List.getElem?_eq_getElem h) wi) fun σ' S' H2 A' q => ?_
      exact f1 (τ ++ [(.ref ad, .v (.ol ds))]) S' σ' H2 _ _ (noR_app hn hne) A' q ⟨fun σ' S' H' A' q => ⟨S', A', q⟩, fun σ' S' H' A' q => L.nx σ' _ H' (back _ _ _ A') q, fun σ' S' H' A' q => ⟨S', A', q⟩, fun σ' v x S' H' A' q => L.rt σ' v x S' H' A'.sel q⟩
    · left
      have e : j = ds.length := by omega
      subst e
      exact ⟨sq2, L.nx σ _ H (back _ _ _ A) (last S wi)⟩
  · exact hp.elim
end PL
namespace PL
theorem pr_of {C : PCx} {l : List Bool} {i : Nat} (h : C.prot = l) (n : l[i]? = some true) : C.prot[i]? = some true := by rw [h]; exact n
end PL
namespace PL
open PySem L2 PyProof.Rows
/-- list(range(a, b, c)) -/
def rgV3 (i k : Int) (n : Nat) : List V := (List.range n).map fun (x : Nat) => V.int (i + (x : Int) * k)
def tLR3 (ta : TA) : TE := fun σ H Q => ta σ H fun vs H1 => ∃ i j k n, vs = [.int i, .int j, .int k] ∧ RgC i j k n ∧ n ≤ 2 ^ 24 ∧ ∀ q, H1 q = none → Q (.ref q) (upd H1 q (.lst (rgV3 i k n)))
theorem vals_rg3 {i k : Int} {n : Nat} {acc : Array Value} (h : ItemsOf (fun x v => ∃ t, v = .int (i + (x : Int) * k) t) acc n) : Vals (rgV3 i k n) acc.toList := by
  have e : acc.toList.length = n := by rw [Array.length_toList]; exact h.1
  unfold rgV3
  rw [← e]
  refine vals_of_get acc.toList _ fun j u hj => ?_
  obtain ⟨t, rfl⟩ := h.2 j u (by rw [← hj, Array.getElem?_toList])
  exact ⟨t, rfl⟩
theorem pe_listRg3 {X : Cx} {a b c : Expr} {ta : TA} {p p2 pos q : Pos} (hc : X.calm = true) (hg : Gl X "list") (hm : X.mg "list" = none) (hg2 : Gl X "range") (hm2 : X.mg "range" = none) (ha : PA X [a, b, c] ta)
    (hs : starEach [a, b, c] X.env = (false, eval a X.env) :: starEach [b, c] X.env := by rfl) (hpl : (backTo q (starEach [b, c] X.env)).any (·.1) = false := by rfl)
    (na : starEach [.Call (.Name "range" p2) [a, b, c] [] q] X.env = (false, eval (.Call (.Name "range" p2) [a, b, c] [] q) X.env) :: starEach [] X.env := by rfl) : PE X (.Call (.Name "list" p) [.Call (.Name "range" p2) [a, b, c] [] q] [] pos) (tLR3 ta) := by
  refine ⟨fun pins s σ H Q I h => ?_⟩
  refine Call_ (ld_blt I hg hm boot_list (PyProof.Rows.callWith_type1 (args_cons (Call_ (ld_blt I hg2 hm2 boot_range (PyProof.Rows.callWith_type1 (thn (ha.run q pins s σ H _ I h) fun us s1 ⟨vs, H1, I1, r1, q1⟩ => ?_) hs hpl))) na) na))
  obtain ⟨i, j, k, n, e, ⟨c0, c1, c2, c3⟩, hn, q⟩ := q1
  subst e
  cases r1 with
  | cons r rr =>
    cases rr with
    | cons r' rr =>
      cases rr with
      | cons r'' rr =>
        cases rr
        obtain ⟨t, rfl⟩ := r
        obtain ⟨t', rfl⟩ := r'
        obtain ⟨t'', rfl⟩ := r''
        refine call_range_3 c0 ?_ (.inl (PyProof.noPylong_small c1))
        refine args_nil ?_
        have I2 : Inv X pins σ H1 { s1 with heap := s1.heap.push { cls := .type "range", data := .fields #[.int i t, .int j t', .int k t''] } } := I1.kept (t' := s1.toks) fun b o e => Heap.get?_push_of_some _ e
        refine call_list_range (n := n) (I2.ok.hd hc) (IsRange.new _ _ _ _ _ _ _) c2 c3 hn fun h' tk acc c' hk e' hi => ?_
        refine ⟨.ref (s1.heap.push _).objs.size, upd H1 (s1.heap.push _).objs.size (.lst (rgV3 i k n)), I2.laid (t' := tk) hk (Nat.le_refl _) (show ObjOk X.prog X.w _ _ _ (.lst (rgV3 i k n)) from ⟨?_, acc.toList, c', vals_rg3 hi, ?_⟩), rfl, q _ (I2.hok.fresh (Nat.le_refl _))⟩
        · unfold rgV3
          rw [List.length_map, List.length_range, sizeLine_eq]; omega
        · rw [Array.toArray_toList]; exact e'
section
variable {X : Cx} {C : PCx} {a b c : Expr} {pa pb pc : PTE}
def pRgL3 (a b c : PTE) : PTE := fun S G => a S fun x S1 => b S1 fun y S2 => c S2 fun z S3 => match x, y, z with
  | .v (.p (.int i)), .v (.p (.int j)), .v (.p (.int k)) => ∃ n, RgC i j k n ∧ n ≤ 2 ^ 24 ∧ G (.v (.ol (rng3 i k n))) S3
  | _, _, _ => False
theorem rgV3_rd {K : PySem.W.Frag} {N : Hp} {i k : Int} {n : Nat} : PL.RdL K N (rgV3 i k n) (rng3 i k n) := by
  unfold rgV3 rng3
  induction (List.range n) with
  | nil => exact .nil
  | cons x l ih => exact .cons (.int _) ih
theorem qe_listR3 {p p2 pos pos2 : Pos} (hc : X.calm = true) (hm : X.mg "list" = none) (hm2 : X.mg "range" = none) (ha : QE X C a pa) (hb : QE X C b pb) (hcc : QE X C c pc) (hg : Gl X "list" := by rfl) (hg2 : Gl X "range" := by rfl)
    (hs : starEach [a, b, c] X.env = (false, eval a X.env) :: starEach [b, c] X.env := by rfl) (hs2 : starEach [b, c] X.env = (false, eval b X.env) :: starEach [c] X.env := by rfl) (hs3 : starEach [c] X.env = [(false, eval c X.env)] := by rfl)
    (hpl : (backTo pos2 (starEach [b, c] X.env)).any (·.1) = false := by rfl)
    (na : starEach [.Call (.Name "range" p2) [a, b, c] [] pos2] X.env = (false, eval (.Call (.Name "range" p2) [a, b, c] [] pos2) X.env) :: starEach [] X.env := by rfl) :
    QE X C (.Call (.Name "list" p) [.Call (.Name "range" p2) [a, b, c] [] pos2] [] pos) (pRgL3 pa pb pc) := by
  obtain ⟨ta, h1, f1⟩ := ha
  obtain ⟨tb, h2, f2⟩ := hb
  obtain ⟨tc, h3, f3⟩ := hcc
  refine ⟨_, pe_listRg3 hc hg hm hg2 hm2 (pa_cons h1 (pa_cons h2 (pa_cons h3 pa_nil hs3) hs2) hs) hs hpl na, fun τ S σ H G Q A hp k => ?_⟩
  refine f1 τ S σ H _ _ A hp fun v H1 x S1 q1 A1 => ?_
  refine f2 _ S1 σ H1 _ _ A1 q1 fun u H2 y S2 q2 A2 => ?_
  refine f3 _ S2 σ H2 _ _ A2 q2 fun t H3 z S3 q3 A3 => ?_
  try dsimp only at q3
  split at q3
  · next i j k' =>
    obtain ⟨n, hr, hn, g⟩ := q3
    obtain ⟨w, A0⟩ := A3
    have r1 := A0.tm τ.length v (.p (.int i)) (by simp)
    have r2 := A0.tm (τ.length + 1) u (.p (.int j)) (by simp)
    have r3 := A0.tm (τ.length + 2) t (.p (.int k')) (by simp)
    cases r1 with
    | p r1 => cases r2 with
      | p r2 => cases r3 with
        | p r3 =>
          cases r1; cases r2; cases r3
          refine ⟨i, j, k', n, rfl, hr, hn, fun q hq => k _ _ _ _ g ?_⟩
          rw [List.append_assoc, List.append_assoc] at A0
          exact A0.newL hq rgV3_rd
  · exact q3.elim
end
end PL

set_option Elab.async false
set_option linter.all false
set_option maxRecDepth 100000
set_option maxHeartbeats 4000000
set_option autoImplicit false
/-! errors: defs that raise, a clause that keeps the error, its class asked -/
namespace EX
open PySem PySem.Spec PyProof.Rows L2
section
variable {X : Cx} {pins : List (Addr × Obj)} {σ : L2.St} {H : Hp} {s : Shared}
/-- an object that stands is from here on tracked as an error -/
theorem adopt {a : Addr} {oe : Obj} {vs : Array Value} {cls : Value} (I : Inv X pins σ H s) (ha : s.heap.get? a = some oe) (hz : Zc cls none oe) (hd : oe.data = .fields vs) (na : H a = none)
    (n0 : X.s_0.heap.get? a = none) (nL : a ≠ X.env.locals) (nC : ∀ x c, X.env.cells.lookup x = some c → c ≠ a) (nP : ∀ p ∈ X.pn ++ pins, p.1 ≠ a) : Inv X pins σ (upd H a (PL.erO cls a)) s := by
  have ne : ∀ {b : Addr} {o : HO}, H b = some o → b ≠ a := fun {b o} e z => by rw [z, na] at e; cases e
  have up : ∀ {b : Addr} {o : HO}, H b = some o → upd H a (PL.erO cls a) b = some o := fun e => (upd_ne (ne e)).trans e
  have ne0 : ∀ {b : Addr} {o : Obj}, X.s_0.heap.get? b = some o → b ≠ a := fun e z => by rw [z, n0] at e; cases e
  exact {
    ok := I.ok
    os := I.os
    bare := I.bare
    base := ⟨I.base.keep, I.base.slot, fun b o e n hx => (upd_ne (ne0 e)).trans (I.base.free b o e n hx), I.base.there, fun b xs e => up (I.base.tups b xs e), fun b o u e => up (I.base.frzs b o u e), fun b ps e => by
      obtain ⟨m, q⟩ := I.base.tbls b ps e
      exact ⟨m, up q⟩⟩
    loc := I.loc
    cell := I.cell
    free := (upd_ne (Ne.symm nL)).trans I.free
    freeC := fun x c e => (upd_ne (nC x c e)).trans (I.freeC x c e)
    pin := fun p hp => by
      obtain ⟨p1, p2, p3⟩ := I.pin p hp
      exact ⟨p1, (upd_ne (nP p hp)).trans p2, p3⟩
    hok := fun b o e => by
      by_cases hb : b = a
      · subst hb
        rw [upd_same] at e
        cases e
        exact ⟨⟨oe, vs, ha, hz, hd⟩, ⟨oe, ha⟩, fun h1 h2 ⟨o1, v1, q1, q2⟩ k => ⟨o1, v1, k o1 q1, q2⟩⟩
      · rw [upd_ne hb] at e
        exact (I.hok b o e).stay (fun c u _ q => q) (fun c q => up q) fun c xs q => up q
    len := I.len }
end
/-- what a clause that keeps the error wishes: y = n, n being let go behind it -/
def wKeep (K : PySem.W.Frag) (c : Value) (i j : Nat) (D : Ends) : WX := fun cls d σ H => PySem.W.exmOne K cls c = some true ∧ d = none ∧ ∀ a, H a = none →
  D.nx (((σ.set i (some (.ref a))).set j (some (.ref a))).set i none) (upd H a (PL.erO cls a))
section
variable {X : Cx} {x n y : Str} {c : Value} {i j : Nat} {body : List Stmt} {np py pn pa pos pos' : Pos} {tb : WX → TS}
theorem ps_try_keep (hs : X.stack = X.env :: X.outer) (hf : X.env.frame = some X.env.locals) (hex : X.ex = []) (hN : X.N.Nodup) (hi : X.N[i]? = some n) (hln : X.env.kindOf n = some .local) (hj : X.N[j]? = some y) (hlj : Loc X.env.scope y)
    (hij : i ≠ j) (hv : Vis X.env.scope n) (hd1 : (n == ("__debug__" : Str)) = false) (hd2 : (n == ("__classdict__" : Str)) = false) (hc : Names X x c)
    (hsw : ∀ (a : Addr) (pn' : List (Addr × Obj)), swapsWith (.Name n pn) (some (.Name y py)) pa.line (X.suite a pn').env = pure false)
    (hfl : X.fn y = true ∨ X.env.scope.names.lookup y = some .local)
    (hb : ∀ (W : WX) (p : List (Addr × Obj)) (xe : Value → Shared → Prop), Takes (X.tr p xe) W → PassesOwn (model X.prog X.w) X.A X.env xe → PSs (X.tr p xe) body (tb W)) :
    PS X (.Try body [.ExceptHandler (some (.Name x np)) (some n) [.Assign [.Name y py] (.Name n pn) pa] pos'] [] [] pos) (fun D σ H => tb (wKeep X.K c i j D) D σ H) := by
  refine ⟨fun pins s σ H D I h => ?_⟩
  have ok := I.ok
  have frames : X.A.frames = some (X.env :: X.outer) := hs ▸ ok.frames
  refine wpAny_Try_except ?_
  have run := (hb (wKeep X.K c i j D) (X.pn ++ pins) (fun e s₁ => wpAny (model X.prog X.w) X.A (noteFrame e X.env) (fun _ s₂ => wpAny (model X.prog X.w) X.A (setFlight e none) (fun _ s₃ =>
    wpAny (model X.prog X.w) X.A (handleBy e X.env [.ExceptHandler (some (.Name x np)) (some n) [.Assign [.Name y py] (.Name n pn) pa] pos']) (SP X pins D) X.xe s₃) X.xe s₂) X.xe s₁) ?tk PassesOwn.looking).run [] s σ H D (I.toTry _) h
  case tk =>
    rintro u s' ⟨a, B, sI, pins', σ', H', cls, d, rfl, J0, nb, up, sky, na, os, ag, ex1, rfl, yes⟩
    have J : Inv X pins σ' H' sI := J0.ofTry ok
    rw [hs] at sky
    show wpAny (model X.prog X.w) X.A (noteFrame (.ref a) X.env) _ _ _
    refine Sky.land Zc.steady frames hf sky fun h3 fl3 up3 => ?_
    have J3 : Inv X pins σ' H' { s' with heap := h3 } := J.landed nb fl3.1 (up.trans up3) os ag
    obtain ⟨oe3, vs3, he3, hz3, hd3⟩ := fl3.there
    have off : ∀ L ∈ frs (X.env :: X.outer), a ≠ L := fun L hm z => by
      obtain ⟨_, o', e', hnf⟩ := fl3.2.2.1.mem hm
      rw [← z, he3] at e'
      cases e'
      exact hnf _ hd3
    have nL : a ≠ X.env.locals := off _ (List.mem_filterMap.mpr ⟨X.env, List.mem_cons_self, hf⟩)
    have nF : a ∉ X.fs := fun hm => by
      obtain ⟨e, he, q⟩ := List.mem_filterMap.mp hm
      exact off a (List.mem_filterMap.mpr ⟨e, List.mem_cons_of_mem _ he, q⟩) rfl
    have nI : sI.heap.get? a = none := by
      cases q : sI.heap.get? a with
      | none => rfl
      | some o =>
        have z := nb a o q (by rw [hs]; exact fun hm => off a hm rfl)
        rw [fl3.2.1] at z
        cases z
    have n0 : X.s_0.heap.get? a = none := by
      cases q : X.s_0.heap.get? a with
      | none => rfl
      | some o =>
        obtain ⟨o', z⟩ := J.base.there a o q (by rw [hex]; exact fun z => nomatch z)
        rw [nI] at z
        cases z
    have nP : ∀ p ∈ X.pn ++ pins, p.1 ≠ a := fun p hp z => by
      have q := (J.pin p hp).1
      rw [z, nI] at q
      cases q
    have nC : ∀ x c, X.env.cells.lookup x = some c → c ≠ a := fun x c e z => by
      obtain ⟨v, o, q, _⟩ := J.cell x c e
      rw [z, nI] at q
      cases q
    have S3 := J3.suite he3 hd3 na nL nF
    refine wpAny_handleBy_cons (codeAny_handlers_test ?_) (by intro q; cases q)
    have LT : PySem.W.Looks (model X.prog X.w) h3 (typeOf (.ref a)) cls := fun A Q E s k q => wpAny_typeOf_ref (k _ _ he3) (by rw [hz3.1]; exact q)
    have ask : ∀ {Q : Value → Shared → Prop} {E : Value → Shared → Prop}, Q c { s' with heap := h3 } → wpAny (model X.prog X.w) (X.A.mark (some (.ref a))) (eval (.Name x np) X.env) Q E { s' with heap := h3 } := fun {Q E} q => by
      obtain ⟨hg, hdbg, hm⟩ := hc
      rcases hm with hm | ⟨hm, hv, hnn⟩
      · exact ld_glob S3 hg hm q hdbg
      · exact ld_blt S3 hg hm hv q hnn hdbg
    refine ask ((PySem.W.exm_one (M := model X.prog X.w) J3.kIn LT ex1).here ?_)
    refine codeAny_handlers_suite_as ?_
    refine HandSPX.lands_againZ fl3 fun h4 fl4 up4 => ?_
    have J4 : Inv X pins σ' H' { s' with heap := h4 } := J.landed nb fl4.1 ((up.trans up3).trans up4) os ag
    obtain ⟨oe4, vs4, he4, hz4, hd4⟩ := fl4.there
    have S4 := J4.suite he4 hd4 na nL nF
    have hloc : Loc X.env.scope n := .inl hln
    refine store_ok (X := X.suite a ((a, oe4) :: (X.pn ++ pins))) S4 hN hi hloc (v := .ref a) rfl (fun s5 S5 => ?_) (.inr hln)
    have hiσ : i < σ'.length := by rw [J.len]; exact (List.getElem?_eq_some_iff.mp hi).1
    have st : PSs (X.suite a ((a, oe4) :: (X.pn ++ pins))) [.Assign [.Name y py] (.Name n pn) pa] _ := pss_one (ps_set hN hj hlj (pe_var hi hv hd1 hd2) (hsw a _) hfl)
    refine wpAny_mono (st.run [] s5 _ H' { nx := fun σ6 H6 => σ6 = (σ'.set i (some (.ref a))).set j (some (.ref a)) ∧ H6 = H', rt := fun _ _ => False } S5 ⟨.ref a, by rw [List.getElem?_set_self hiσ], rfl, rfl⟩) (fun f s6 hsp => ?_) (fun _ _ z => False.elim z)
    cases f with
    | next =>
      obtain ⟨σ6, H6, S6, rfl, rfl⟩ := hsp
      have at6 := (S6.pin (a, oe4) (List.mem_append_left _ List.mem_cons_self)).1
      have A6 : Inv X pins _ (upd H6 a (PL.erO cls a)) s6 := adopt (S6.unsuite ok) at6 hz4 hd4 na n0 nL nC nP
      exact gone_ok A6 hN hi hln fun s7 J7 => ⟨_, _, J7, yes a na⟩
    | brk => obtain ⟨_, _, _, z⟩ := hsp; exact z.elim
    | cont => obtain ⟨_, _, _, z⟩ := hsp; exact z.elim
    | ret u => obtain ⟨_, _, _, _, _, z⟩ := hsp; exact z.elim
  refine wpAny_mono run (fun f s1 hsp => ?_) fun e s1 he => he
  cases f with
  | next =>
    obtain ⟨σ', H', J', q⟩ := hsp
    exact wpAny_execs_nil ⟨σ', H', J'.ofTry ok, q⟩
  | brk =>
    obtain ⟨σ', H', J', q⟩ := hsp
    exact ⟨σ', H', J'.ofTry ok, q⟩
  | cont =>
    obtain ⟨σ', H', J', q⟩ := hsp
    exact ⟨σ', H', J'.ofTry ok, q⟩
  | ret u =>
    obtain ⟨v, σ', H', J', r, q⟩ := hsp
    exact ⟨v, σ', H', J'.ofTry ok, r, q⟩
end
/-- X(), X an own class of errors without an __init__ of its own -/
theorem pmk_own0 {X : Cx} {C : Addr} {bmB : List Value} {B newId initId : String} {x : Str} {p pos : Pos} (F : ExcBaseFacts B newId initId bmB) (q : PySem.W.excIn X.K C bmB newId = true) (gC : X.mg x = some (.ref C)) (kC : PySem.W.keepIn X.K (.ref C) = true)
    (r : Raises X (.ref C)) (hg : Gl X x) (hdb : (x == ("__debug__" : Str)) = false) : PMk X (.Call (.Name x p) [] [] pos) (fun _ H Q => Q (.ref C) none H) := by
  intro pins s σ H Q I h
  refine wpAny_Call_Name_kw (ld_glob I hg gC ?_ hdb)
  refine PySem.W.callWith_K0 I.kIn kC ?_
  show wpAny _ _ (call (.ref C) []) _ _ _
  obtain ⟨bm, N, nm, qn, bs, hdct, sn, sub, ab, col, dd, k0, k1, k2, k3, k5, mN, hC, hN, hni, T⟩ := exc_obj I.kIn q
  refine wpAny_call_exc_subT F T hC hN hni (fun h' e hm => ?_) (by show 0 ≤ sizeLine; exact Nat.zero_le _)
  exact mk_of I hm r h (I.hok.gone hm.new)
/-- isinstance(e, C), isinstance(e, (C1, C2, ..)), e an error that was kept -/
def rIsx (K : PySem.W.Frag) : List V → Hp → VK → Prop := fun xs H Q => ∃ (a D : Addr) (c : V) (u : Value) (b : Bool), xs = [.ref a, c] ∧ H a = some (PL.erO (.ref D) a) ∧ ExcC K D ∧ ClsV c u ∧ PySem.W.kitOne K (.ref D) u = some b ∧ Q (.bl b) H
def rIsxT (K : PySem.W.Frag) : List V → Hp → VK → Prop := fun xs H Q => ∃ (a D tp : Addr) (cs : List V) (us : List Value) (b : Bool), xs = [.ref a, .ref tp] ∧ H tp = some (.tup cs) ∧ H a = some (PL.erO (.ref D) a) ∧ ExcC K D ∧ Paired ClsV cs us ∧ PySem.W.kitAny K (.ref D) us = some b ∧ Q (.bl b) H
section
variable {X : Cx} {pins : List (Addr × Obj)} {σ : L2.St} {H : Hp} {s : Shared}
theorem instAt {a D : Addr} (I : Inv X pins σ H s) (h : H a = some (PL.erO (.ref D) a)) : ∃ oe, PySem.W.InstAt s.heap a oe D none := by
  obtain ⟨⟨oe, vs, hg, hz, hd⟩, _⟩ := I.hok a _ h
  refine ⟨oe, ?_⟩
  obtain ⟨oc, od, oda, osl⟩ := oe
  obtain ⟨h1, h2⟩ := hz
  dsimp only at h1 h2 hd
  subst h1 h2 hd
  exact ⟨hg, rfl, rfl, trivial⟩
theorem call_isx : CallR X (.builtin "isinstance") (rIsx X.K) := by
  intro pins s σ H xs us Q I r h
  obtain ⟨a, D, c, u, b, rfl, hH, C, k, e, q⟩ := h
  obtain ⟨u1, u2, rfl, r1, r2⟩ := vals2 r
  cases (show u1 = Value.ref a from r1)
  have e2 := k.eq r2
  subst e2
  obtain ⟨oe, J⟩ := instAt I hH
  exact PySem.W.kia_one (PySem.W.handS_kitx_exc C.hg C.hk C.hs C.hd C.ha C.hn C.ht C.hm) I.kIn J e (fun z => nomatch z) fun tk => ⟨.bl b, H, I.tok tk, rfl, q⟩
theorem call_isxT : CallR X (.builtin "isinstance") (rIsxT X.K) := by
  intro pins s σ H xs us Q I r h
  obtain ⟨a, D, tp, cs, ws, b, rfl, hT, hH, C, k, e, q⟩ := h
  obtain ⟨u1, u2, rfl, r1, r2⟩ := vals2 r
  cases (show u1 = Value.ref a from r1)
  cases (show u2 = Value.ref tp from r2)
  obtain ⟨oe, J⟩ := instAt I hH
  obtain ⟨_, its, rv, o, h1, h2, n, h3⟩ := (show ObjOk X.prog X.w H s.heap tp (.tup cs) from I.hok tp _ hT)
  have e3 := ClsV.all k rv
  subst e3
  obtain ⟨oc, od, dt, sl⟩ := o
  simp only at h2 h3
  subst h2 h3
  exact PySem.W.kia_tup (PySem.W.handS_kitx_exc C.hg C.hk C.hs C.hd C.ha C.hn C.ht C.hm) I.kIn J h1 e (fun z => nomatch z) fun tk => ⟨.bl b, H, I.tok tk, rfl, q⟩
end
end EX

set_option Elab.async false
set_option linter.all false
set_option maxRecDepth 100000
set_option maxHeartbeats 4000000
set_option autoImplicit false
/-! errors in the pure layer: what a def raises, what a clause hears -/
namespace PL
open PySem L2
open PyProof.Rows (envOfC)
/-- what becomes of an error, by its class's name, with what the slots hold then -/
abbrev Xi := Str → Sl → Prop
/-- what a def may do: hand something back, or raise -/
abbrev FSpX := List T → (T → List (Option T) → Prop) → (Str → List (Option T) → Prop) → Prop
def liftX (K : PySem.W.Frag) (f : FSpX) : Sp := fun vs H Q E => ∃ (ts : List T) (w : Own) (k : T → List (Option T) → Prop) (kx : Str → List (Option T) → Prop), vs.length = ts.length ∧ Pre K H w vs ts ∧ f ts k kx ∧
  (∀ r ts', k r ts' → ∀ v H' w', Post K H w vs ts' r v H' w' → Q v H') ∧ ∀ x ts', kx x ts' → ∀ H' w', Post K H w vs ts' (.p .none) .non H' w' → E (.ref (He.ga K x)) none H'
structure Lk (X : Cx) (C : PCx) (ξ : Xi) : Prop where
  ex : ∃ W : WX, Takes X W ∧ ∀ σ S H x, Abs X.K C σ [] S H → ξ x S → W (.ref (He.ga X.K x)) none σ H
def pCallX (f : FSpX) (ξ : Xi) (a : PTA) : PTE := fun S G => a S fun xs S1 => match args S1 xs with
  | some ts => if hasF xs = true then lent xs = [] ∧ f ts (fun r _ => r.im = true ∧ G (.v r) S1) (fun x _ => ξ x S1)
    else (lent xs).Nodup ∧ f ts (fun r ts' => flatB xs ts' = true ∧ G (.v r) (back xs ts' S1)) (fun x ts' => flatB xs ts' = true ∧ ξ x (back xs ts' S1))
  | none => False
section
variable {X : Cx} {C : PCx} {x : Str} {p pos : Pos} {e : Expr} {es : List Expr} {pa : PTA} {f : FSpX} {ξ : Xi} {k : Nat} {fa : Addr} {fd : FuncData} {ps : List Str}
theorem qe_callX (F : FnOk X.prog X.w X.K X.mg X.base (L2.CX X.prog X.w) k fa fd ps (liftX X.K f)) (lk : Lk X C ξ) (hr : Room k X.A) (hg : Gl X x) (hm : X.mg x = some (.ref fa)) (hk : PySem.W.keepIn X.K (.ref fa) = true) (hb : Binds X.K fd ps []) (ha : QA X C (e :: es) pa)
    (hdb : (x == ("__debug__" : Str)) = false := by decide) (he : starEach (e :: es) X.env = (false, eval e X.env) :: starEach es X.env := by rfl) (hpl : (backTo pos (starEach es X.env)).any (·.1) = false := by rfl) : QE X C (.Call (.Name x p) (e :: es) [] pos) (pCallX f ξ pa) := by
  obtain ⟨ta, h1, f1⟩ := ha
  obtain ⟨W, tk, hW⟩ := lk.ex
  refine ⟨_, pe_callS F hr hg hm hk hb (fun σ => passAt tk σ) h1 hdb he hpl, fun τ S σ H G Q A hp K => ?_⟩
  refine f1 τ S σ H _ _ A hp fun vs H1 xs S1 hl q1 A1 => ?_
  try dsimp only at q1
  split at q1
  · next ts hts =>
    obtain ⟨w, A1⟩ := A1
    split at q1
    · next hf =>
      obtain ⟨nl, q1⟩ := q1
      exact ⟨ts, _, _, _, hl.trans (args_len hts), A1.preInF hl hts nl, q1, fun r ts' g v H' w' P => K v H' _ _ g.2 ⟨_, A1.postF g.1 P⟩, fun x ts' g H' w' P => hW σ _ H' x (Abs.pop (τ := []) ⟨_, A1.postF rfl P⟩) g⟩
    · next hf =>
      obtain ⟨nd, q1⟩ := q1
      exact ⟨ts, _, _, _, hl.trans (args_len hts), A1.preIn hl hts (by simpa using hf) nd, q1, fun r ts' g v H' w' P => K v H' _ _ g.2 ⟨_, A1.post hl nd (fun i j e => args_slot hts e) g.1 P⟩,
        fun x ts' g H' w' P => hW σ _ H' x (Abs.pop (τ := []) ⟨_, A1.post hl nd (fun i j e => args_slot hts e) g.1 P⟩) g.2⟩
  · exact q1.elim
end
/-! ### raise -/
/-- what is known of a class of errors -/
structure ErrF (K : PySem.W.Frag) (mg : Str → Option Value) (x : Str) : Prop where
  gl : mg x = some (.ref (He.ga K x))
  ex : PySem.W.excIn K (He.ga K x) He.veBase "ValueError.__new__" = true
  kp : PySem.W.keepIn K (.ref (He.ga K x)) = true
  su : PySem.W.subIn K (.ref (He.ga K x)) (.type "BaseException") = some true
  ty : PySem.W.typeIn K (.ref (He.ga K x)) = some (.type "type")
theorem errF_of {K : PySem.W.Frag} {h : Heap} {mg : Str → Option Value} (X : K.In h) (G : h.Ns mainGlobals mg) {x : Str} (c : (He.Fa.glo x).ok K = true) (d : (He.Fa.exc x).ok K = true) : ErrF K mg x :=
  let ⟨d1, d2, d3, d4⟩ := He.exc_ok d
  ⟨He.glo_ok X G c, d1, d2, d3, d4⟩
def sRaise (ξ : Xi) (x : Str) : PTS := fun _ S => ξ x S
section
variable {X : Cx} {C : PCx} {x : Str} {p p2 pos pos' : Pos} {ξ : Xi}
theorem qs_raise0 (lk : Lk X C ξ) (F : ErrF X.K X.mg x) (hc : X.calm = true) (hg : Gl X x) (hdb : (x == ("__debug__" : Str)) = false) : QS X C (.Raise (some (.Call (.Name x p) [] [] pos)) none pos') (sRaise ξ x) := by
  obtain ⟨W, tk, hW⟩ := lk.ex
  exact ⟨_, ps_raise hc tk (EX.pmk_own0 PySem.F.excBase_ValueError F.ex F.gl F.kp (raises_own F.su F.ty) hg hdb), fun τ S σ H P D hn A hp L => hW σ S H x (Abs.pop (τ := []) A) hp⟩
theorem qs_raise1 {m : Str} {j : Nat} (lk : Lk X C ξ) (F : ErrF X.K X.mg x) (hc : X.calm = true) (hg : Gl X x) (hdb : (x == ("__debug__" : Str)) = false) : QS X C (.Raise (some (.Call (.Name x p) [.Constant (.str m) j p2] [] pos)) none pos') (sRaise ξ x) := by
  obtain ⟨W, tk, hW⟩ := lk.ex
  exact ⟨_, ps_raise hc tk (pmk_own PySem.F.excBase_ValueError F.ex F.gl F.kp (raises_own F.su F.ty) hg hdb), fun τ S σ H P D hn A hp L => hW σ S H x (Abs.pop (τ := []) A) hp⟩
end
/-! ### blocks in which a try may stand -/
theorem noR_nil : NoR [] := fun x hx => by cases hx
structure QSt (X : Cx) (C : PCx) (sts : List Stmt) (p : PTS) : Prop where
  ex : ∃ ts, PSs X sts ts ∧ ∀ (S : Sl) (σ : L2.St) (H : Hp) (P : PEnds) (D : Ends), Abs X.K C σ [] S H → p P S → Lf X.K C [] P D → ts D σ H
def sTryK (ys : List Str) (i j : Nat) (b : Xi → PTS) : PTS := fun D S => b (fun y S' => ys.contains y = true ∧ i < S'.length ∧ j < S'.length ∧ D.nx (((S'.set i (some (.exc y))).set j (some (.exc y))).set i none)) D S
section
variable {X : Cx} {C : PCx} {st : Stmt} {sts body : List Stmt} {p1 p2 : PTS}
theorem QSs.t (h : QSs X C sts p1) : QSt X C sts p1 := by
  obtain ⟨t, g, f⟩ := h
  exact ⟨t, g, fun S σ H P D A hp L => f [] S σ H P D noR_nil A hp L⟩
theorem qst_cons (h1 : QS X C st p1) (h2 : QSt X C sts p2) : QSt X C (st :: sts) (sSeq p1 p2) := by
  obtain ⟨t1, g1, f1⟩ := h1
  obtain ⟨t2, g2, f2⟩ := h2
  refine ⟨_, pss_cons g1 g2, fun S σ H P D A hp L => ?_⟩
  exact f1 [] S σ H _ _ noR_nil A hp ⟨fun σ' S' H' A' q => f2 S' σ' H' P D A' q L, L.bk, L.ct, L.rt⟩
theorem qst_cut (h1 : QS X C st p1) (h2 : QSt X C sts p2) : QSt X C (st :: sts) (sCut p1 p2) := by
  obtain ⟨t1, g1, f1⟩ := h1
  obtain ⟨t2, g2, f2⟩ := h2
  refine ⟨_, pss_cons g1 g2, fun S σ H P D A hp L => ?_⟩
  obtain ⟨W, q1, q2⟩ := hp
  exact f1 [] S σ H _ _ noR_nil A q1 ⟨fun σ' S' H' A' q => f2 S' σ' H' P D A' (q2 S' q) L, L.bk, L.ct, L.rt⟩
theorem ex_upd {H : Hp} {a : Addr} {o : HO} (h : H a = none) : Evl.Ex H (upd H a o) := fun b u e => (upd_ne (ne_of_none e h)).trans e
/-- an error that was kept, in slots i and j, then in j alone -/
theorem Abs.keepE {K : PySem.W.Frag} {σ : L2.St} {S : Sl} {H : Hp} {a : Addr} {y : Str} {i j : Nat} (A : Abs K C σ [] S H) (na : H a = none) (hi : i < S.length) (hj : j < S.length) (hmi : C.mu[i]? ≠ some true) (hpi : C.prot[i]? ≠ some true) (hpj : C.prot[j]? ≠ some true) :
    Abs K C (((σ.set i (some (.ref a))).set j (some (.ref a))).set i none) [] (((S.set i (some (.exc y))).set j (some (.exc y))).set i none) (upd H a (erO (.ref (He.ga K y)) a)) := by
  obtain ⟨w, A⟩ := A
  have hw := A.ow.free na
  have A1 := A.grow (ex_upd (o := erO (.ref (He.ga K y)) a) na)
  have rp : ∀ {w' : Own} {l : Lab}, w' a = none → Rp K (msk (upd H a (erO (.ref (He.ga K y)) a)) w') (upd H a (erO (.ref (He.ga K y)) a)) w' l (.ref a) (.exc y) := fun h => .exc (by rw [msk_none h]; exact upd_same)
  have A2 : Abs K C σ ([] ++ [(V.ref a, R.v (.exc y))] ++ [(V.ref a, R.v (.exc y))]) S _ := ⟨w, (A1.pushG (x := .v (.exc y)) (fun t e => by cases e; exact rp hw) (fun i e => by cases e) (tg_v fun i k q e => by cases e)).pushG (x := .v (.exc y)) (fun t e => by cases e; exact rp hw) (fun i e => by cases e) (tg_v fun i k q e => by cases e)⟩
  have A3 := A2.toSlot (i := i) (fun x hx => by simp at hx; subst hx; intro z; cases z) hpi hi
  have A4 := A3.toSlot (i := j) (fun x hx => by simp at hx) hpj (by rw [List.length_set]; exact hj)
  exact A4.wipe1 hmi hpi
variable {rest : List Stmt} {x n y : Str} {c : Value} {i j : Nat} {np py pn pa pos pos' : Pos} {b : Xi → PTS}
theorem qst_try (ys : List Str) (hs : X.stack = X.env :: X.outer) (hf : X.env.frame = some X.env.locals) (hex : X.ex = []) (hN : X.N.Nodup) (hi : X.N[i]? = some n) (hln : X.env.kindOf n = some .local) (hj : X.N[j]? = some y) (hlj : Loc X.env.scope y)
    (hij : i ≠ j) (hv : Vis X.env.scope n) (hd1 : (n == ("__debug__" : Str)) = false) (hd2 : (n == ("__classdict__" : Str)) = false) (hc : Names X x c)
    (hsw : ∀ (a : Addr) (pn' : List (Addr × Obj)), swapsWith (.Name n pn) (some (.Name y py)) pa.line (X.suite a pn').env = pure false) (hfl : X.fn y = true ∨ X.env.scope.names.lookup y = some .local)
    (hmi : C.mu[i]? ≠ some true) (hpi : C.prot[i]? ≠ some true) (hpj : C.prot[j]? ≠ some true) (hys : ∀ y, ys.contains y = true → PySem.W.exmOne X.K (.ref (He.ga X.K y)) c = some true)
    (hb : ∀ (p : List (Addr × Obj)) (xe : Value → Shared → Prop) (ξ : Xi), Lk (X.tr p xe) C ξ → QSs (X.tr p xe) C body (b ξ)) (h2 : QSt X C rest p2) :
    QSt X C (.Try body [.ExceptHandler (some (.Name x np)) (some n) [.Assign [.Name y py] (.Name n pn) pa] pos'] [] [] pos :: rest) (sSeq (sTryK ys i j b) p2) := by
  obtain ⟨t2, g2, f2⟩ := h2
  let tb : WX → TS := fun W D σ H => ∃ (S : Sl) (ξ : Xi) (P : PEnds), Abs X.K C σ [] S H ∧ (∀ σ S H x, Abs X.K C σ [] S H → ξ x S → W (.ref (He.ga X.K x)) none σ H) ∧ b ξ P S ∧ Lf X.K C [] P D
  have htb : ∀ (W : WX) (p : List (Addr × Obj)) (xe : Value → Shared → Prop), Takes (X.tr p xe) W → PassesOwn (model X.prog X.w) X.A X.env xe → PSs (X.tr p xe) body (tb W) := fun W p xe tk _ => by
    refine ⟨fun pins s σ H D I h => ?_⟩
    obtain ⟨S, ξ, P, A, hW, hp, L⟩ := h
    obtain ⟨t1, g1, f1⟩ := hb p xe ξ ⟨W, tk, hW⟩
    exact g1.run pins s σ H D I (f1 [] S σ H P D noR_nil A hp L)
  refine ⟨_, pss_cons (EX.ps_try_keep hs hf hex hN hi hln hj hlj hij hv hd1 hd2 hc hsw hfl htb) g2, fun S σ H P D A hp L => ?_⟩
  refine ⟨S, _, _, A, fun σ' S' H' y' A' q => ?_, hp, ⟨fun σ' S' H' A' q => f2 S' σ' H' P D A' q L, L.bk, L.ct, L.rt⟩⟩
  obtain ⟨q1, q2, q3, q4⟩ := q
  exact ⟨hys y' q1, rfl, fun a na => f2 _ _ _ P D (A'.keepE na q2 q3 hmi hpi hpj) q4 L⟩
end
/-! ### defs that raise -/
theorem fn_okX {K : PySem.W.Frag} {P : Program} {wd : World} {mg : Str → Option Value} {base : Heap} {x qual : Str} {st : Stmt} {f : Addr} {fd : FuncData} {N ps : List Str} {k : Nat} {sp : FSpX} {b : Xi → PTS} {prot mu : List Bool} (F : Fun K x qual st f fd) (Sc : FnScope N ps (defScope st))
    (hp : prot.length ≤ ps.length)
    (hbody : ∀ (cdv : Value) (A : Around) (outer : List Env) (s : Shared) (H : Hp) (E : XK) (C : PCx) (ξ : Xi), Room k (A.deeper (envOfC qual (defScope st) s.heap.objs.size f cdv)) → C.prot = prot → C.mu = mu →
      Lk (cxOf (L2.CX P wd) P wd K mg base N qual (defScope st) f cdv A outer s H E) C ξ → QSt (cxOf (L2.CX P wd) P wd K mg base N qual (defScope st) f cdv A outer s H E) C (defBody st) (b ξ))
    (hsp : ∀ ts K kx, sp ts K kx → ts.length = ps.length ∧ b (fun x S => kx x (post prot ts S)) (endsOf prot ts K) (start N.length ts)) : FnOk P wd K mg base (L2.CX P wd) (k + 1) f fd ps (liftX K sp) := by
  refine F.okX Sc (fun vs H Q E h => ?_) (fun cdv A outer s H vs Q E hr h => ?_)
  · obtain ⟨ts, w, kk, kx, hl, _, q, _⟩ := h
    exact hl.trans (hsp ts kk kx q).1
  · obtain ⟨ts, w, kk, kx, hl, Pr, q, hQ, hE⟩ := h
    obtain ⟨hts, hb⟩ := hsp ts kk kx q
    let C : PCx := ⟨H, fun b => ∃ l, w b = some l ∧ l.1 ≠ .x, fun b => ∃ m, w b = some (.x, m), vs, prot, mu⟩
    have lk : Lk (cxOf (L2.CX P wd) P wd K mg base N qual (defScope st) f cdv A outer s H E) C (fun x S => kx x (post prot ts S)) :=
      ⟨fun cls d _ H' => E cls d H', takes_of rfl rfl rfl rfl, fun σ S H' y A1 q1 => by
        obtain ⟨w'', A2⟩ := A1.push (v := .non) (d := .none) fun w _ => .non
        exact hE y _ q1 H' _ (postOf hl Pr rfl A2)⟩
    obtain ⟨tb, h1, f1⟩ := hbody cdv A outer s H E C _ hr rfl rfl lk
    have lt0 : ∀ {i : Nat} {t : T}, (start N.length ts)[i]? = some (some t) → ts[i]? = some t := fun {i t} h => by
      unfold start at h
      by_cases hi : i < ts.length
      · rw [List.getElem?_append_left (by rw [List.length_map]; exact hi), List.getElem?_map] at h
        obtain ⟨u, h2, h3⟩ := Option.map_eq_some_iff.mp h
        cases h3; exact h2
      · rw [List.getElem?_append_right (by rw [List.length_map]; omega), List.getElem?_replicate] at h
        split at h <;> cases h
    have A0 : Abs0 K C w (L2.start N vs) [] (start N.length ts) H := by
      refine ⟨⟨fun b o _ e => e, fun b l e => ?_, fun b e => e, fun b m e => ⟨m, e⟩, Pr.dom, fun b m e => ?_⟩, ?_, fun i t h => ?_, fun j v t h => by simp at h, fun j v x i h _ => by simp at h, fun b j m h => ?_, fun b i m h => ?_, fun i h => ?_, fun j v i k q h => by simp at h⟩
      · by_cases hx : l.1 = .x
        · exact .inl hx
        · exact .inr (.inl ⟨l, e, hx⟩)
      · rcases Pr.lb b _ e with z | ⟨j, m', t, z, _⟩
        · cases z
        · cases z
      · unfold start L2.start
        rw [List.length_append, List.length_append, List.length_map, List.length_map, List.length_replicate, List.length_replicate, hl]
      · have ht := lt0 h
        have hi : i < vs.length := by rw [hl]; exact (List.getElem?_eq_some_iff.mp ht).1
        refine ⟨vs[i], ?_, Pr.rp i _ t (List.getElem?_eq_getElem hi) ht⟩
        unfold L2.start
        rw [List.getElem?_append_left (by rw [List.length_map]; exact hi), List.getElem?_map, List.getElem?_eq_getElem hi]
        rfl
      · rcases Pr.lb b _ h with z | ⟨j', m', t, z, _⟩
        · cases z
        · cases z
      · rcases Pr.lb b _ h with z | ⟨j', m', t, z, ht⟩
        · cases z
        · cases z
          refine ⟨t, ?_⟩
          unfold start
          rw [List.getElem?_append_left (by rw [List.length_map]; exact (List.getElem?_eq_some_iff.mp ht).1), List.getElem?_map, ht]
          rfl
      · have hi : i < vs.length := by
          rw [hl, hts]
          exact Nat.lt_of_lt_of_le (List.getElem?_eq_some_iff.mp h).1 hp
        show (L2.start N vs)[i]? = vs[i]?.map some
        unfold L2.start
        rw [List.getElem?_append_left (by rw [List.length_map]; exact hi), List.getElem?_map]
    refine ⟨tb, h1, f1 _ _ H _ _ ⟨w, A0⟩ hb ⟨fun σ S H' A q => ?_, fun _ _ _ _ q => q.elim, fun _ _ _ _ q => q.elim, fun σ v x S H' A q => ?_⟩⟩
    · obtain ⟨w'', A1⟩ := A.push (v := .non) (d := .none) fun w _ => .non
      exact hQ _ _ q .non H' _ (postOf hl Pr rfl A1)
    · obtain ⟨t, rfl, q⟩ := q
      obtain ⟨w'', A1⟩ := A
      exact hQ _ _ q v H' _ (postOf hl Pr rfl A1)
structure DefX (P : Program) (w : World) (K : PySem.W.Frag) (mg : Str → Option Value) (base : Heap) (k : Nat) (x : Str) (ps : List Str) (sp : FSpX) : Prop where
  ex : ∃ (fa : Addr) (fd : FuncData), FnOk P w K mg base (L2.CX P w) k fa fd ps (liftX K sp) ∧ mg x = some (.ref fa) ∧ PySem.W.keepIn K (.ref fa) = true ∧ Binds K fd ps []
/-- where it raises nothing -/
abbrev noX (f : FSpX) : FSp := fun ts K => f ts K fun _ _ => False
theorem DefX.no {P : Program} {w : World} {K : PySem.W.Frag} {mg : Str → Option Value} {base : Heap} {k : Nat} {x : Str} {ps : List Str} {sp : FSpX} (D : DefX P w K mg base k x ps sp) : Def P w K mg base k x ps (noX sp) := by
  obtain ⟨fa, fd, h1, h2, h3, h4⟩ := D
  refine ⟨fa, fd, ⟨fun vs H Q E h => ?_, fun A outer s H args us vs Q E hr he hb hv h => ?_⟩, h2, h3, h4⟩
  · obtain ⟨ts, w, kk, hl, Pr, q, hQ⟩ := h
    exact h1.len vs H Q (fun _ _ _ => False) ⟨ts, w, kk, fun _ _ => False, hl, Pr, q, hQ, fun x ts' z => z.elim⟩
  · obtain ⟨ts, w, kk, hl, Pr, q, hQ⟩ := h
    refine codeAny_mono (h1.run A outer s H args us vs Q (fun _ _ _ => False) hr he hb hv ⟨ts, w, kk, fun _ _ => False, hl, Pr, q, hQ, fun x ts' z => z.elim⟩) fun r s' hq => ?_
    cases r with
    | error e =>
      obtain ⟨_, _, _, _, _, _, _, _, _, _, _, _, z⟩ := hq
      exact z.elim
    | ok fl =>
      cases fl with
      | ret u => exact hq
      | next => exact hq.elim
      | brk => exact hq.elim
      | cont => exact hq.elim
theorem qe_callDX {X : Cx} {C : PCx} {x : Str} {p pos : Pos} {e : Expr} {es : List Expr} {pa : PTA} {f : FSpX} {ξ : Xi} {k : Nat} {ps : List Str} (F : DefX X.prog X.w X.K X.mg X.base k x ps f) (lk : Lk X C ξ) (hr : Room k X.A) (hg : Gl X x) (ha : QA X C (e :: es) pa)
    (hdb : (x == ("__debug__" : Str)) = false := by decide) (he : starEach (e :: es) X.env = (false, eval e X.env) :: starEach es X.env := by rfl) (hpl : (backTo pos (starEach es X.env)).any (·.1) = false := by rfl) : QE X C (.Call (.Name x p) (e :: es) [] pos) (pCallX f ξ pa) := by
  obtain ⟨fa, fd, h1, h2, h3, h4⟩ := F
  exact qe_callX h1 lk hr hg h2 h3 h4 ha hdb he hpl
theorem At.defX {P : Program} {wd : World} {K : PySem.W.Frag} {mg : Str → Option Value} {base : Heap} {x : Str} {st : Stmt} {N ps : List Str} {k : Nat} {sp : FSpX} {b : Xi → PTS} {prot mu : List Bool} (F : At K mg x st ps) (Sc : FnScope N ps (defScope st))
    (hp : prot.length ≤ ps.length)
    (hbody : ∀ (f : Addr) (cdv : Value) (A : Around) (outer : List Env) (s : Shared) (H : Hp) (E : XK) (C : PCx) (ξ : Xi), Room k (A.deeper (PyProof.Rows.envOfC x (defScope st) s.heap.objs.size f cdv)) → C.prot = prot → C.mu = mu →
      Lk (cxOf (L2.CX P wd) P wd K mg base N x (defScope st) f cdv A outer s H E) C ξ → QSt (cxOf (L2.CX P wd) P wd K mg base N x (defScope st) f cdv A outer s H E) C (defBody st) (b ξ))
    (hsp : ∀ ts K kx, sp ts K kx → ts.length = ps.length ∧ b (fun x S => kx x (post prot ts S)) (endsOf prot ts K) (start N.length ts)) : DefX P wd K mg base (k + 1) x ps sp := by
  obtain ⟨f, fd, F, h1, h2⟩ := F
  exact ⟨f, fd, fn_okX F Sc hp (fun cdv A outer s H E C ξ => hbody f cdv A outer s H E C ξ) hsp, h1, F.kp, h2⟩
/-! ### isinstance of an error -/
def uIsX (fs : List (Str × Bool)) : UOp := fun t G => match t with
  | .exc y => ∃ b, fs.lookup y = some b ∧ G (.v (.p (.bool b)))
  | _ => False
structure PCs (X : Cx) (es : List Expr) (cs : List V) (us : List Value) : Prop where
  pa : PA X es (fun _ H Q => Q cs H)
  cl : Paired ClsV cs us
theorem pcs_nil {X : Cx} : PCs X [] [] [] := ⟨pa_nil, .nil⟩
theorem pcs_cons {X : Cx} {e : Expr} {es : List Expr} {c : V} {u : Value} {cs : List V} {us : List Value} (h : PE X e (tC c)) (k : ClsV c u) (r : PCs X es cs us) (hs : starEach (e :: es) X.env = (false, eval e X.env) :: starEach es X.env := by rfl) : PCs X (e :: es) (c :: cs) (u :: us) :=
  ⟨pa_cons h r.pa hs, .cons k r.cl⟩
theorem pe_cls {X : Cx} {x : Str} {pos : Pos} (hm : X.mg x = some (.ref (He.ga X.K x))) (hg : Gl X x := by rfl) (hd : (x == ("__debug__" : Str)) = false := by decide) : PE X (.Name x pos) (tC (.ref (He.ga X.K x))) := pe_glob hg hm rfl hd
section
variable {X : Cx} {C : PCx} {e : Expr} {pa : PTE} {p pT pos : Pos}
theorem Abs.excAt {K : PySem.W.Frag} {σ : L2.St} {τ : Tmp} {S : Sl} {H : Hp} {v : V} {x : R} {y : Str} (A : Abs K C σ (τ ++ [(v, x)]) S H) (h : look S x = some (.exc y)) : ∃ a, v = .ref a ∧ H a = some (erO (.ref (He.ga K y)) a) := by
  obtain ⟨w, A⟩ := A
  obtain ⟨_, r⟩ := A.look get_snoc_last h
  cases r with
  | exc q => exact ⟨_, rfl, msk_le _ _ q⟩
theorem qe_isX {n : Str} {c : V} {u : Value} (fs : List (Str × Bool)) (hm : X.mg "isinstance" = none) (ha : QE X C e pa) (hc : PE X (.Name n pT) (tC c)) (hk : ClsV c u) (hx : ∀ y b, fs.lookup y = some b → ExcC X.K (He.ga X.K y) ∧ PySem.W.kitOne X.K (.ref (He.ga X.K y)) u = some b)
    (hg : Gl X "isinstance" := by rfl) (he : starEach [e, .Name n pT] X.env = (false, eval e X.env) :: starEach [.Name n pT] X.env := by rfl) : QE X C (.Call (.Name "isinstance" p) [e, .Name n pT] [] pos) (pU (uIsX fs) pa) := by
  obtain ⟨ta, h1, f1⟩ := ha
  refine ⟨_, pe_callB EX.call_isx hg hm (by decide +kernel) (pa_cons h1 (pa_cons hc pa_nil rfl) he) (by decide) (by decide) he rfl, fun τ S σ H G Q A hp k => ?_⟩
  refine f1 τ S σ H _ _ A hp fun v H1 x S1 q1 A1 => ?_
  obtain ⟨t, ht, q1⟩ := on1_iff q1
  unfold uIsX at q1
  split at q1
  · next y =>
    obtain ⟨b, hb, q1⟩ := q1
    obtain ⟨k1, k2⟩ := hx y b hb
    obtain ⟨a, rfl, hH⟩ := A1.excAt ht
    exact ⟨a, _, c, u, b, rfl, hH, k1, hk, k2, k _ H1 _ S1 q1 (A1.ans1 fun N => .bl _)⟩
  · exact q1.elim
theorem qe_isXT {es : List Expr} {j : Nat} {cs : List V} {us : List Value} (fs : List (Str × Bool)) (hm : X.mg "isinstance" = none) (ha : QE X C e pa) (hc : PCs X es cs us) (hl : cs.length ≤ 1000) (hx : ∀ y b, fs.lookup y = some b → ExcC X.K (He.ga X.K y) ∧ PySem.W.kitAny X.K (.ref (He.ga X.K y)) us = some b)
    (hg : Gl X "isinstance" := by rfl) (he : starEach [e, .Tuple es j pT] X.env = (false, eval e X.env) :: starEach [.Tuple es j pT] X.env := by rfl) : QE X C (.Call (.Name "isinstance" p) [e, .Tuple es j pT] [] pos) (pU (uIsX fs) pa) := by
  obtain ⟨ta, h1, f1⟩ := ha
  refine ⟨_, pe_callB EX.call_isxT hg hm (by decide +kernel) (pa_cons h1 (pa_cons (pe_tup hc.pa) pa_nil rfl) he) (by decide) (by decide) he rfl, fun τ S σ H G Q A hp k => ?_⟩
  refine f1 τ S σ H _ _ A hp fun v H1 x S1 q1 A1 => ?_
  obtain ⟨t, ht, q1⟩ := on1_iff q1
  unfold uIsX at q1
  split at q1
  · next y =>
    obtain ⟨b, hb, q1⟩ := q1
    obtain ⟨k1, k2⟩ := hx y b hb
    obtain ⟨a, rfl, hH⟩ := A1.excAt ht
    refine ⟨Nat.le_of_lt (small1000 hl), fun tp htp => ?_⟩
    have ex := ex_upd (o := .tup cs) htp
    refine ⟨a, _, tp, cs, us, b, rfl, upd_same, ex _ _ hH, k1, hc.cl, k2, k _ _ _ S1 q1 ?_⟩
    obtain ⟨w, A2⟩ := A1
    exact Abs.ans1 ⟨w, A2.grow ex⟩ fun N => .bl _
  · exact q1.elim
end
end PL
namespace PL
open PySem L2
/-! ### more facts of the top -/
abbrev AlX : Type := He.AlD × Bool
def obsXG (n : Nat) (fa : List He.Fa) (fn : List He.DefD) (xb : PySem.W.Frag → Bool) (g : Addr → Option Obj) : AlX := (He.obsD fa fn (He.frG g (He.asD g n)), xb (He.frG g (He.asD g n)))
def hookX (n : Nat) (fa : List He.Fa) (fn : List He.DefD) (xb : PySem.W.Frag → Bool) : PySem.W.Hook where
  α := AlX
  obs := fun s => obsXG n fa fn xb s.heap.get?
  val := fun _ => (He.valD fn, true)
  says := fun _ h => ∃ K : PySem.W.Frag, K.In h ∧ He.SaysD fa fn K ∧ xb K = true
  of := fun _ _ e => ⟨_, He.frG_in, congrArg Prod.fst e, congrArg Prod.snd e⟩
  keeps := fun _ _ _ ⟨K, hK, c⟩ k => ⟨K, PySem.W.Frag.In.keeps hK k, c⟩
theorem obsXG_eq {n : Nat} {fa : List He.Fa} {fn : List He.DefD} {xb : PySem.W.Frag → Bool} {g : Addr → Option Obj} {s : Shared} (h : ∀ a, g a = s.heap.get? a) : obsXG n fa fn xb g = (hookX n fa fn xb).obs s := by
  have e : g = s.heap.get? := funext h
  rw [e]; rfl
/-- a class of errors whose instances isinstance may ask -/
def excB (K : PySem.W.Frag) (y : Str) : Bool := decide (PySem.W.findIn K (.ref (He.ga K y)) "__getattribute__" = some (some (.builtin "BaseException.__getattribute__"))) && (decide (PySem.W.findIn K (.ref (He.ga K y)) "__getattr__" = some none) &&
  (decide (PySem.W.subIn K (.ref (He.ga K y)) (.type "BaseException") = some true) && (PySem.W.hasDictIn K (He.ga K y) && (decide (PySem.W.findIn K (.ref (He.ga K y)) "__class__" = some (some (.builtin "object.__class__"))) &&
  (decide (PySem.W.specialIn K (.builtin "object.__class__") "__get__" = some (some (.builtin "getset_descriptor.__get__"))) && (decide (PySem.W.takesIn K (.builtin "object.__class__") = some true) && decide (PySem.W.mroIn K (He.ga K y) (.type "object") = some true)))))))
theorem excC_of {K : PySem.W.Frag} {y : Str} (h : excB K y = true) : ExcC K (He.ga K y) := by
  unfold excB at h
  simp only [Bool.and_eq_true, decide_eq_true_eq] at h
  obtain ⟨h1, h2, h3, h4, h5, h6, h7, h8⟩ := h
  exact ⟨h1, h2, h3, h4, h5, h6, h7, h8⟩
theorem lookup_mem {α β : Type} [BEq α] [LawfulBEq α] : ∀ {l : List (α × β)} {x : α} {b : β}, l.lookup x = some b → (x, b) ∈ l
  | [], _, _, h => by cases h
  | (y, c) :: l, x, b, h => by
    rw [List.lookup_cons] at h
    split at h
    · next e =>
      cases h
      rw [beq_iff_eq] at e
      rw [e]; exact List.mem_cons_self
    · exact List.mem_cons_of_mem _ (lookup_mem h)
/-- what a clause takes, how the errors answer -/
def exmB (K : PySem.W.Frag) (ys : List Str) (x : Str) : Bool := ys.all fun y => decide (PySem.W.exmOne K (.ref (He.ga K y)) (.ref (He.ga K x)) = some true)
theorem exm_of {K : PySem.W.Frag} {ys : List Str} {x : Str} (h : exmB K ys x = true) : ∀ y, ys.contains y = true → PySem.W.exmOne K (.ref (He.ga K y)) (.ref (He.ga K x)) = some true := fun y hy => by
  have := List.all_eq_true.mp h y (by simpa using hy)
  exact of_decide_eq_true this
def kit1B (K : PySem.W.Frag) (fs : List (Str × Bool)) (u : Value) : Bool := fs.all fun q => excB K q.1 && decide (PySem.W.kitOne K (.ref (He.ga K q.1)) u = some q.2)
theorem kit1_of {K : PySem.W.Frag} {fs : List (Str × Bool)} {u : Value} (h : kit1B K fs u = true) : ∀ y b, fs.lookup y = some b → ExcC K (He.ga K y) ∧ PySem.W.kitOne K (.ref (He.ga K y)) u = some b := fun y b e => by
  have := List.all_eq_true.mp h _ (lookup_mem e)
  rw [Bool.and_eq_true] at this
  exact ⟨excC_of this.1, of_decide_eq_true this.2⟩
def kitAB (K : PySem.W.Frag) (fs : List (Str × Bool)) (us : List Value) : Bool := fs.all fun q => excB K q.1 && decide (PySem.W.kitAny K (.ref (He.ga K q.1)) us = some q.2)
theorem kitA_of {K : PySem.W.Frag} {fs : List (Str × Bool)} {us : List Value} (h : kitAB K fs us = true) : ∀ y b, fs.lookup y = some b → ExcC K (He.ga K y) ∧ PySem.W.kitAny K (.ref (He.ga K y)) us = some b := fun y b e => by
  have := List.all_eq_true.mp h _ (lookup_mem e)
  rw [Bool.and_eq_true] at this
  exact ⟨excC_of this.1, of_decide_eq_true this.2⟩
theorem pe_bty {X : Cx} {x : Str} {T' : String} {pos : Pos} (hm : X.mg x = none) (hv : bootBuiltins x = some (.type T')) (hg : Gl X x := by rfl) (hn : x ≠ "__name__" := by decide) (hd : (x == ("__debug__" : Str)) = false := by decide) : PE X (.Name x pos) (tC (.ty T')) := pe_bltn hg hm hv rfl hn hd
theorem bA {a b : Bool} (h : (a && b) = true) : a = true ∧ b = true := by rwa [Bool.and_eq_true] at h
end PL

set_option Elab.async false
set_option linter.all false
set_option maxRecDepth 100000
set_option maxHeartbeats 4000000
set_option autoImplicit false
/-! more built-ins -/
namespace PL
open PySem L2
def mx3 (i j k : Int) : Int := if j > i then (if k > j then k else j) else (if k > i then k else i)
theorem call_max3i {X : Cx} (hc : X.calm = true) : CallR X (.builtin "max") (fun xs H Q => ∃ i j k, xs = [.int i, .int j, .int k] ∧ Q (.int (mx3 i j k)) H) := by
  intro pins s σ H xs us Q I r h
  obtain ⟨i, j, k, rfl, q⟩ := h
  cases r with
  | cons r1 r =>
    cases r with
    | cons r2 r =>
      cases r with
      | cons r3 r =>
        cases r
        obtain ⟨t1, rfl⟩ := r1
        obtain ⟨t2, rfl⟩ := r2
        obtain ⟨t3, rfl⟩ := r3
        refine PySem.max_three_ints (I.ok.hd hc) fun h' tk kk => ⟨_, H, I.kept kk, ?_, q⟩
        unfold mx3
        (repeat' split) <;> exact ⟨_, rfl⟩
def pMax3 (a b c : PTE) : PTE := fun S G => a S fun x S1 => b S1 fun y S2 => c S2 fun z S3 => match x, y, z with
  | .v (.p (.int i)), .v (.p (.int j)), .v (.p (.int k)) => G (.v (.p (.int (mx3 i j k)))) S3
  | _, _, _ => False
section
variable {X : Cx} {C : PCx} {a b c : Expr} {pa pb pc : PTE} {p pos : Pos}
theorem qe_max3 (hc : X.calm = true) (hm : X.mg "max" = none) (ha : QE X C a pa) (hb : QE X C b pb) (hcc : QE X C c pc) (hg : Gl X "max" := by rfl) (he : starEach [a, b, c] X.env = (false, eval a X.env) :: starEach [b, c] X.env := by rfl)
    (he2 : starEach [b, c] X.env = (false, eval b X.env) :: starEach [c] X.env := by rfl) (he3 : starEach [c] X.env = [(false, eval c X.env)] := by rfl) (hpl : (backTo pos (starEach [b, c] X.env)).any (·.1) = false := by rfl) :
    QE X C (.Call (.Name "max" p) [a, b, c] [] pos) (pMax3 pa pb pc) := by
  obtain ⟨ta, h1, f1⟩ := ha
  obtain ⟨tb, h2, f2⟩ := hb
  obtain ⟨tc, h3, f3⟩ := hcc
  refine ⟨_, pe_callB (call_max3i hc) hg hm (by decide +kernel) (pa_cons h1 (pa_cons h2 (pa_cons h3 pa_nil he3) he2) he) (by decide) (by decide) he hpl, fun τ S σ H G Q A hp k => ?_⟩
  refine f1 τ S σ H _ _ A hp fun v H1 x S1 q1 A1 => ?_
  refine f2 _ S1 σ H1 _ _ A1 q1 fun u H2 y S2 q2 A2 => ?_
  refine f3 _ S2 σ H2 _ _ A2 q2 fun w H3 z S3 q3 A3 => ?_
  try dsimp only at q3
  split at q3
  · next i j l =>
    have r3 := A3.rd1 (d := .int l) rfl
    have r2 := A3.rd2 (d := .int j) rfl
    have r1 : Rd X.K H3 v (.int i) := by
      obtain ⟨ww, A4⟩ := id A3
      have := A4.tm τ.length v (.p (.int i)) (by simp)
      cases this with
      | p r => exact r.mono msk_le
    cases r1; cases r2; cases r3
    refine ⟨i, j, l, rfl, k _ H3 _ S3 q3 ?_⟩
    rw [List.append_assoc, List.append_assoc] at A3
    exact A3.pop.push fun w _ => .int _
  · exact q3.elim
end
end PL

set_option Elab.async false
set_option linter.all false
set_option maxRecDepth 100000
set_option maxHeartbeats 4000000
set_option autoImplicit false
/-! slices, the whole of a tuple too -/
namespace PL
open PySem L2
def pSlW (e : PTE) (lo hi : PTO) : PTE := fun S G => e S fun x S1 => lo S1 fun l S2 => hi S2 fun h S3 => on1 S3 x fun t => match t.ls, t with
  | some ds, _ => G (.v (.ol (cutD ds l h))) S3
  | none, .p (.tuple ds) => G (.v (.p (.tuple (cutD ds l h)))) S3
  | none, .p (.str z) => z.length ≤ sizeLine ∧ G (.v (.p (.str (cutS z l h)))) S3
  | _, _ => False
theorem cutD_whole {ds : List PyData} {l h : Option Int} (w : HT.sIx ds.length 0 l = 0 ∧ HT.sIx ds.length ds.length h = ds.length) : cutD ds l h = ds := by
  unfold cutD
  rw [w.1, w.2, List.drop_zero, Nat.sub_zero, List.take_length]
section
variable {X : Cx} {C : PCx} {K : PySem.W.Frag} {σ : St} {τ : Tmp} {S : Sl} {H : Hp} {a b e : Expr} {pa pb : PTE} {p pos : Pos}
theorem qe_sliceW {lo hi : Option Expr} {ol oh : PTO} {p2 : Pos} (ha : QE X C a pa) (hl : QO X C lo ol) (hh : QO X C hi oh) : QE X C (.Subscript a (.Slice lo hi none p2) pos) (pSlW pa ol oh) := by
  obtain ⟨ta, h1, f1⟩ := ha
  obtain ⟨tl, h2, f2⟩ := hl
  obtain ⟨th, h3, f3⟩ := hh
  refine ⟨_, pe_slice (sl_list.or (sl_tupA.or sl_str)) h1 h2 h3, fun τ S σ H G Q A hp k => ?_⟩
  refine f1 τ S σ H _ _ A hp fun v H1 x S1 q1 A1 => ?_
  refine f2 _ S1 σ H1 _ _ A1 q1 fun l H2 S2 q2 A2 => ?_
  refine f3 _ S2 σ H2 _ _ A2 q2 fun h H3 S3 q3 A3 => ?_
  obtain ⟨t, ht, q3⟩ := on1_iff q3
  obtain ⟨w, A0⟩ := id A3
  obtain ⟨_, r1⟩ := A0.look get_snoc_last ht
  split at q3
  · next ds hds =>
    obtain ⟨ad, xs, rfl, q, r⟩ := r1.list hds msk_le
    exact .inl ⟨ad, xs, rfl, q, fun p hp => k _ _ _ _ q3 (A0.newL hp (r.cut l h))⟩
  · next ds hds =>
    cases r1 with
    | p r1 =>
      obtain ⟨ad, xs, rfl, q, r⟩ := r1.tupAt
      refine .inr (.inl ⟨ad, xs, rfl, Evl.ex_t msk_le q, fun hw => ?_, fun hw p hp => k _ _ _ _ q3 ?_⟩)
      · rw [r.length] at hw
        rw [cutD_whole hw] at q3
        refine k _ _ _ _ q3 ?_
        have A' : Abs X.K C σ (τ ++ [(V.ref ad, x)] ++ [(V.ref ad, .v (.p (.tuple ds)))]) S3 H3 := ⟨w, A0.push r1⟩
        exact A'.sel
      · have ex : Evl.Ex H3 (upd H3 p (.tup (cutV xs l h))) := Evl.Ex.new hp
        have hw := A0.ow.free hp
        have me : Evl.Ex (msk H3 w) (msk (upd H3 p (.tup (cutV xs l h))) w) := msk_mono fun b u h1 h2 => ⟨h1, ex b u h2⟩
        have A' : Abs X.K C σ (τ ++ [(V.ref ad, x)] ++ [(.ref p, .v (.p (.tuple (cutD ds l h))))]) S3 (upd H3 p (.tup (cutV xs l h))) := ⟨w, (A0.grow ex).push (.tup (.inl (.inl (by rw [msk_none hw]; exact upd_same))) ((r.cut l h).mono me))⟩
        exact A'.sel
  · next z hz =>
    have r := A3.rd1 ht
    cases r
    exact .inr (.inr ⟨_, rfl, q3.1, k _ _ _ _ q3.2 (A3.ans1 fun N => .str _)⟩)
  · exact q3.elim
/-- t + u, tuples -/
def bCatT : BOp := fun t u G => match t, u with
  | .p (.tuple a), .p (.tuple b) => a.length + b.length ≤ sizeLine ∧ G (.v (.p (.tuple (a ++ b))))
  | _, _ => False
theorem binS_catT : BinS C K (rCatA K) bCatT := by
  intro σ τ S H v x u y t t' G Q A h1 h2 op k
  unfold bCatT at op
  split at op
  · next a b =>
    obtain ⟨w, A0⟩ := id A
    have A0' := A0
    rw [List.append_assoc] at A0'
    obtain ⟨_, r1⟩ := A0'.look (j := τ.length) (v := v) (x := x) (by simp) h1
    obtain ⟨_, r2⟩ := A0.look get_snoc_last h2
    cases r1 with
    | p r1 =>
    cases r2 with
    | p r2 =>
    obtain ⟨ad, xs, rfl, q1, l1⟩ := r1.tupAt
    obtain ⟨bd, ys, rfl, q2, l2⟩ := r2.tupAt
    refine ⟨ad, bd, xs, ys, rfl, rfl, Evl.ex_t msk_le q1, Evl.ex_t msk_le q2, by rw [l1.length, l2.length]; exact op.1, fun e => ?_, fun e1 e2 => ?_, fun e1 e2 p hp => ?_⟩
    · have ea : a = [] := List.length_eq_zero_iff.mp (by rw [← l1.length, e]; rfl)
      subst ea
      refine k _ H (.v (.p (.tuple ([] ++ b)))) op.2 ?_
      have A' := A0.push r2
      rw [List.append_assoc τ] at A'
      exact Abs.sel ⟨w, A'⟩
    · have eb : b = [] := List.length_eq_zero_iff.mp (by rw [← l2.length, e2]; rfl)
      subst eb
      refine k _ H (.v (.p (.tuple (a ++ [])))) op.2 ?_
      rw [List.append_nil]
      have A' := A0.push r1
      rw [List.append_assoc τ] at A'
      exact Abs.sel ⟨w, A'⟩
    · refine k _ _ (.v (.p (.tuple (a ++ b)))) op.2 ?_
      have ex : Evl.Ex H (upd H p (.tup (xs ++ ys))) := Evl.Ex.new hp
      have hw := A0.ow.free hp
      have me : Evl.Ex (msk H w) (msk (upd H p (.tup (xs ++ ys))) w) := msk_mono fun b u h1 h2 => ⟨h1, ex b u h2⟩
      have A' := (A0.grow ex).push (v := .ref p) (d := .tuple (a ++ b)) (.tup (.inl (.inl (by rw [msk_none hw]; exact upd_same))) ((l1.mono me).append (l2.mono me)))
      rw [List.append_assoc τ] at A'
      exact Abs.sel ⟨w, A'⟩
  · exact op.elim
theorem qe_catT (ha : QE X C a pa) (hb : QE X C b pb) : QE X C (.BinOp a .Add b pos) (pB bCatT pa pb) := qe_bin op_catA binS_catT ha hb
/-- slot i's thing is frozen ahead of a statement -/
def sFzS (i : Nat) (p : PTS) : PTS := fun D S => match S[i]? with
  | some (some t) => t.fz = true ∧ p D (S.set i (some (.p t.dat)))
  | _ => False
theorem qs_fzS {st : Stmt} {ps : PTS} {i : Nat} (h : QS X C st ps) : QS X C st (sFzS i ps) := by
  obtain ⟨ts, h1, f1⟩ := h
  refine ⟨ts, h1, fun τ S σ H P D hn A hp L => ?_⟩
  unfold sFzS at hp
  split at hp
  · next t hs => exact f1 τ _ σ H P D hn (A.fzSlot hs hp.1) hp.2 L
  · exact hp.elim
end
end PL

set_option Elab.async false
set_option linter.all false
set_option maxRecDepth 100000
set_option maxHeartbeats 4000000
set_option autoImplicit false
/-! for k in d, d a dict that a slot owns: locked while the loop runs -/
namespace PL
open PySem L2
section
variable {C : PCx} {K : PySem.W.Frag} {σ : St} {τ : Tmp} {S : Sl} {H : Hp}
theorem Abs.lock (A : Abs K C σ τ S H) {i : Nat} {kvs : List (Key × D)} (hs : S[i]? = some (some (.od kvs))) : ∃ a kx, σ[i]? = some (some (.ref a)) ∧ H a = some (.dK kx) ∧
    ∀ o, Abs K C σ τ (S.set i (some (.lk a o kx kvs))) (upd H a (.frz o (.dK kx))) := by
  obtain ⟨w, A⟩ := A
  obtain ⟨u, hu, r⟩ := A.sl i _ hs
  cases r with
  | od h1 h2 h3 r =>
    exact ⟨_, _, hu, h2, fun o => ⟨w, A.mut (fun _ => rfl) (List.getElem?_eq_some_iff.mp hs).1 h1 rfl (fun N e => .lk h1 upd_same h3 (r.mono e)) hu⟩⟩
theorem Abs.locked (A : Abs K C σ τ S H) {i : Nat} {a : Addr} {o : Obj} {kx : List (Key × V)} {kvs : List (Key × D)} (hs : S[i]? = some (some (.lk a o kx kvs))) : H a = some (.frz o (.dK kx)) ∧ kx.map (·.1) = kvs.map (·.1) ∧
    Abs K C σ τ (S.set i (some (.od kvs))) (upd H a (.dK kx)) := by
  obtain ⟨w, A⟩ := A
  obtain ⟨u, hu, r⟩ := A.sl i _ hs
  cases r with
  | lk h1 h2 h3 r =>
    exact ⟨h2, h3, ⟨w, A.mut (fun _ => rfl) (List.getElem?_eq_some_iff.mp hs).1 h1 rfl (fun N e => .od h1 upd_same h3 (r.mono e)) hu⟩⟩
end
def sForK (i : Nat) (g : PTG) (p1 : PTS) : PTS := fun D S => match S[i]? with
  | some (some (.od kvs)) => ∀ (a : Addr) (o : Obj) (kx : List (Key × V)), ∃ W : Nat → Sl → Prop, W 0 (S.set i (some (.lk a o kx kvs))) ∧ (∀ j S', W j S' → S'[i]? = some (some (.lk a o kx kvs))) ∧
    (∀ j kv S', kvs[j]? = some kv → W j S' → g (kD kv.1) S' fun S2 => p1 { D with nx := W (j + 1), ct := W (j + 1), bk := fun S3 => S3[i]? = some (some (.lk a o kx kvs)) ∧ D.nx (S3.set i (some (.od kvs))), rt := fun x S3 => S3[i]? = some (some (.lk a o kx kvs)) ∧ D.rt x (S3.set i (some (.od kvs))) } S2) ∧
    (∀ S', W kvs.length S' → D.nx (S'.set i (some (.od kvs))))
  | _ => False
theorem qs_forK {X : Cx} {C : PCx} {tg iter : Expr} {s1 : List Stmt} {p1 : PTS} {pos : Pos} {i : Nat} {g : PTG} (hp : PassesOwn (model X.prog X.w) X.A X.env X.xe) (hc : X.calm = true) (hi : PE X iter (tVar i)) (hg : QG X C tg g) (h1 : QSs X C s1 p1)
    (hs : ∀ x, foldedSetIterable iter X.env x = pure x := by intro _; rfl) : QS X C (.For tg iter s1 [] pos) (sForK i g p1) := by
  obtain ⟨tt, gt, ft⟩ := hg
  obtain ⟨t1, g1, f1⟩ := h1
  refine ⟨_, ps_lock (ps_for hp hc (pi_keys hi) gt g1 hs), fun τ S σ H P D hn A hp L => ?_⟩
  unfold sForK at hp
  split at hp
  · next kvs hsl =>
    obtain ⟨a, kx, hσ, hH, lk⟩ := A.lock hsl
    refine ⟨a, .dK kx, hH, trivial, fun o => ?_⟩
    obtain ⟨W, w0, wk, turn, last⟩ := hp a o kx
    refine ⟨.ref a, hσ, a, o, rfl, .inl ⟨kx, upd_same, ?_⟩⟩
    refine ⟨fun j m σ H => j + m = kvs.length ∧ ∃ S, Abs X.K C σ τ S H ∧ W j S, ⟨kvs.length, by simp, _, lk o, w0⟩, fun j m σ H ⟨him, S, A, wj⟩ => ?_⟩
    obtain ⟨q1, q2, q3⟩ := A.locked (wk j S wj)
    have ql : kx.length = kvs.length := by
      have := congrArg List.length q2
      rwa [List.length_map, List.length_map] at this
    by_cases h : j < kvs.length
    · right
      refine ⟨⟨q1, by rw [ql]; exact h⟩, fun σ' H' => ∃ S, Abs X.K C σ' τ S H' ∧ W (j + 1) S, fun σ' H' h' => ⟨m - 1, by omega, by omega, h'⟩, fun x H' y => ?_⟩
      obtain ⟨rfl, k, v, hkv, rfl⟩ := y
      have hk : kvs[j]? = some kvs[j] := List.getElem?_eq_getElem h
      have ek : kvs[j].1 = k := by
        have := congrArg (·[j]?) q2
        rw [List.getElem?_map, List.getElem?_map, hkv, hk] at this
        exact (Option.some.inj this).symm
      have A' : Abs X.K C σ (τ ++ [(kV k, .v (.p (kD kvs[j].1)))]) S H' := A.push fun w _ => by
        rw [ek]
        cases k with
        | inl i => exact .int _
        | inr x => exact .str _
      refine ft τ S σ H' (kV k) (kD kvs[j].1) _ _ hn A' (turn j _ S hk wj) fun σ' S' H2 A' q => ?_
      refine f1 τ S' σ' H2 _ _ hn A' q ⟨fun σ' S' H' A' q => ⟨S', A', q⟩, fun σ' S' H' A' q => ?_, fun σ' S' H' A' q => ⟨S', A', q⟩, fun σ' v x S' H' A' q => ?_⟩
      · obtain ⟨u1, _, u3⟩ := A'.locked q.1
        exact ⟨u1, L.nx σ' _ _ u3 q.2⟩
      · obtain ⟨u1, _, u3⟩ := A'.locked q.1
        exact ⟨u1, L.rt σ' v x _ _ u3 q.2⟩
    · left
      have e : j = kvs.length := by omega
      subst e
      exact ⟨⟨q1, by rw [ql]; exact Nat.le_refl _⟩, q1, L.nx σ _ _ q3 (last S wj)⟩
  · exact hp.elim
end PL

set_option Elab.async false
set_option linter.all false
set_option autoImplicit false
/-! d.setdefault(k, x), d a dict that a slot owns -/
namespace PL
open PySem L2
def pSetd (o e x : PTE) : PTE := fun S G => o S fun y S1 => match y with
  | .r i => (match S1[i]? with
    | some (some (.od _)) => e S1 fun k S2 => x S2 fun z S3 => (match k, z with
      | .v (.p kd), .v (.p xd) => (match S3[i]? with
        | some (some (.od kvs)) => (match unK kd with
          | some key => kvs.length < sizeLine ∧ (∀ d0, valK kvs key = some d0 → G (.v (.p d0)) S3) ∧ (valK kvs key = none → G (.v (.p xd)) (S3.set i (some (.od (put kvs key xd)))))
          | none => False)
        | _ => False)
      | _, _ => False)
    | _ => False)
  | _ => False
section
variable {X : Cx} {C : PCx} {o e f : Expr} {po pe pf : PTE} {apos cpos : Pos} {K : PySem.W.Frag}
theorem qe_setd (ho : QE X C o po) (he : QE X C e pe) (hf : QE X C f pf)
    (hbase : attributeBase o "setdefault" X.env (eval o X.env) = eval o X.env := by rfl)
    (hfew : ((backTo cpos (starEach [e, f] X.env)).all (fun x => !x.1) && (backToKw cpos (keywordEach [] X.env)).all (fun x => x.1.isSome)
      && decide (([e, f] : List Expr).length + ([] : List Keyword).length + (if ([] : List Keyword).isEmpty then 0 else 1) < 30)) = true := by rfl)
    (hline : (apos.endLine == cpos.line) = true := by rfl) (htr : backTo cpos (starEach [e, f] X.env) = [(false, eval e X.env), (false, eval f X.env)] := by rfl) :
    QE X C (.Call (.Attribute o "setdefault" apos) [e, f] [] cpos) (pSetd po pe pf) := by
  obtain ⟨to, go, fo⟩ := ho
  obtain ⟨te, ge, fe⟩ := he
  obtain ⟨tf, gf, ff⟩ := hf
  refine ⟨_, pe_dsetd go ge gf ⟨hbase, hfew, hline, htr⟩, fun τ S σ H G Q A hp k => ?_⟩
  refine fo τ S σ H _ _ A hp fun v H1 y S1 q1 A1 => ?_
  try dsimp only at q1
  split at q1
  · next i =>
    have hσ : σ[i]? = some (some v) := by
      obtain ⟨ww, A0⟩ := A1
      exact (A0.tr τ.length v (.r i) i (by simp) rfl).1
    split at q1
    · next kvs0 hs0 =>
      obtain ⟨a, xs0, rfl, h1, h2, _⟩ := A1.setD (ds' := kvs0) hs0 hσ
      refine ⟨a, rfl, .inl ⟨_, .inl h1⟩, ?_⟩
      refine fe _ S1 σ H1 _ _ A1 q1 fun u H2 y S2 q2 A2 => ?_
      refine ff _ S2 σ H2 _ _ A2 q2 fun w H3 z S3 q3 A3 => ?_
      try dsimp only at q3
      split at q3
      · next kd xd =>
        split at q3
        · next kvs hs3 =>
          split at q3
          · next key hk =>
            obtain ⟨hl, q4, q5⟩ := q3
            have e2 := unK_rd (A3.rd2 rfl) hk
            subst e2
            obtain ⟨a', xs, e3, h3, h4, h5⟩ := A3.setD (ds' := put kvs key xd) hs3 hσ
            cases e3
            have hl' : xs.length = kvs.length := by
              have := congrArg List.length h4
              simpa using this
            obtain ⟨ww, A4⟩ := id A3
            have hd : ∀ (w' : Own) (N : Hp), Abs0 X.K C w' σ (τ ++ [(.ref a, .r i)] ++ [(kV key, .v (.p kd))] ++ [(w, .v (.p xd))]) S3 H3 → Evl.Ex (msk H3 w') N → Rd X.K N w xd := fun w' N A0 ex => by
              have r := A0.tm (τ.length + 2) w (.p xd) (by simp)
              cases r with
              | p r => exact r.mono ex
            obtain ⟨uu, hu, r⟩ := A4.sl i _ hs3
            rw [hσ] at hu; cases hu
            cases r with
            | od g1 g2 g3 r =>
              rw [h3] at g2
              cases g2
              refine ⟨xs, key, h3, rfl, by rw [hl']; exact hl, fun v0 hv0 => ?_, fun hn => ?_⟩
              · rcases valV_rd key g3 r with ⟨e1, _⟩ | ⟨v1, d1, e1, e2, e3⟩
                · rw [e1] at hv0; cases hv0
                · rw [e1] at hv0
                  cases hv0
                  refine k _ H3 _ S3 (q4 _ e2) ?_
                  have A' := A4.push e3
                  rw [List.append_assoc τ, List.append_assoc τ] at A'
                  exact Abs.sel ⟨ww, A'⟩
              · have hn2 : valK kvs key = none := by
                  rcases valV_rd key g3 r with ⟨_, e1⟩ | ⟨v1, d1, e1, _, _⟩
                  · exact e1
                  · rw [hn] at e1; cases e1
                refine k _ _ _ _ (q5 hn2) ?_
                have A' := h5 (putK xs key w) fun w' N A0 ex r => put_rd (hd w' N A0 ex) h4 r
                rw [List.append_assoc τ] at A'
                exact Abs.sel A'
          · exact q3.elim
        · exact q3.elim
      · exact q3.elim
    · exact q1.elim
  · exact q1.elim
end
end PL

set_option Elab.async false
set_option linter.all false
set_option maxRecDepth 100000
set_option maxHeartbeats 4000000
set_option autoImplicit false
/-! zip of two or three lists or tuples (printed by zipgen.py) -/
namespace ZK
open PySem PySem.Spec PyProof.Rows L2
/-- an iterator over a list (false) or a tuple (true) -/
def IA (t : Bool) (h : Heap) (it l : Addr) (i : Nat) : Prop := match t with
  | true => h.IsTupleIter it l i
  | false => h.IsListIter it l i
def SA (t : Bool) (h : Heap) (l : Addr) (xs : Array Value) : Prop := match t with
  | true => h.IsTuple l xs
  | false => h.IsList l xs
def SqK (t : Bool) (K : PySem.W.Frag) (H : Hp) (a : Addr) (xs : List V) : Prop := match t with
  | true => SqT K H a xs
  | false => SqL K H a xs
theorem IA.at {t : Bool} {h h' : Heap} {it l : Addr} {i : Nat} (x : IA t h it l i) (e : ∀ o, h.get? it = some o → h'.get? it = some o) : IA t h' it l i := by
  cases t
  · exact Heap.IsListIter.at x e
  · exact Heap.IsTupleIter.at x e
theorem SA.at {t : Bool} {h h' : Heap} {l : Addr} {xs : Array Value} (x : SA t h l xs) (e : ∀ o, h.get? l = some o → h'.get? l = some o) : SA t h' l xs := by
  cases t
  · exact Heap.IsList.at x e
  · exact Heap.IsTuple.at x e
theorem IA.get {t : Bool} {h : Heap} {it l : Addr} {i : Nat} (x : IA t h it l i) : ∃ o, h.get? it = some o ∧ o.data = .fields #[.ref l, .int i 0] := by
  cases t
  · obtain ⟨o, h1, _, h2⟩ := x; exact ⟨o, h1, h2⟩
  · obtain ⟨o, h1, _, h2⟩ := x; exact ⟨o, h1, h2⟩
theorem SA.lt {t : Bool} {h : Heap} {l : Addr} {xs : Array Value} (x : SA t h l xs) : l < h.objs.size := by
  cases t
  · obtain ⟨o, h1, _⟩ := x; exact Heap.lt_size h1
  · obtain ⟨o, h1, _⟩ := x; exact Heap.lt_size h1
def itO (t : Bool) (l : Addr) : Obj := { cls := .type (if t then "tuple_iterator" else "list_iterator"), data := .fields #[.ref l, .int 0 0] }
theorem itO_at {t : Bool} {h : Heap} {it l : Addr} (e : h.get? it = some (itO t l)) : IA t h it l 0 := by
  cases t
  · exact ⟨_, e, rfl, rfl⟩
  · exact ⟨_, e, rfl, rfl⟩
abbrev IsTp (h : Heap) (T : Addr) (ar : Array Value) : Prop := h.get? T = some { cls := .type "tuple", data := .seq ar }
section
variable {prog : Program} {w : World} {A : Around} {E : Value → Shared → Prop} {s : Shared}
theorem next_item {t : Bool} {it l : Addr} {i : Nat} {items : Array Value} {x : Value} {Q : Value → Shared → Prop} (hit : IA t s.heap it l i) (hl : SA t s.heap l items) (hx : items[i]? = some x)
    (hQ : ∀ h', IA t h' it l (i + 1) → Heap.SameBut it s.heap h' → Q x { s with heap := h' }) : wpAny (model prog w) A (Builtin.SmallTypes.nextOf (.ref it)) Q E s := by
  cases t
  · exact wpAny_nextOf_list_item hit hl hx hQ
  · exact RZ.nextOf_tuple_item hit hl hx hQ
theorem next_end {t : Bool} {it l : Addr} {i : Nat} {items : Array Value} {Q : Value → Shared → Prop} (hh : A.handled = none) (hit : IA t s.heap it l i) (hl : SA t s.heap l items) (hx : items[i]? = none)
    (hE : ∀ h' e, Heap.ExtBut it s.heap h' → (∃ o, h'.get? e = some o ∧ o.cls = .type "StopIteration") → E (.ref e) { s with heap := h' }) : wpAny (model prog w) A (Builtin.SmallTypes.nextOf (.ref it)) Q E s := by
  cases t
  · exact wpAny_nextOf_list_end hh hit hl hx hE
  · exact RZ.nextOf_tuple_end hh hit hl hx hE
theorem iter_k {t : Bool} {l : Addr} {items : Array Value} {Q : Value → Shared → Prop} (hl : SA t s.heap l items) (hQ : Q (.ref s.heap.objs.size) { s with heap := s.heap.push (itO t l) }) : wpAny (model prog w) A (pyIter (.ref l)) Q E s := by
  cases t
  · exact wpAny_pyIter_list hl hQ
  · exact wpAny_pyIter_tuple hl hQ
theorem upd_tp {T : Addr} {ar : Array Value} {x : Value} {k : Nat} {Q : Unit → Shared → Prop} (hT : IsTp s.heap T ar) (hs : ar.size ≤ 3)
    (h : ∀ h', IsTp h' T (ar.setIfInBounds k x) → Heap.SameBut T s.heap h' → Q () { s with heap := h' }) :
    wpAny (model prog w) A (updateSeq T (·.setIfInBounds k x)) Q E s := by
  have hz : (3 : Nat) ≤ sizeLine := by decide
  refine wpAny_updateSeq hT rfl (h _ ?_ (Heap.SameBut.update ..)) (Nat.le_trans hs hz) (by rw [Array.size_setIfInBounds]; exact Nat.le_succ_of_le (Nat.le_trans hs hz))
  show Heap.get? _ _ = _
  rw [Heap.get?_update_self _ hT rfl]
  simp [Obj.mapSeq]
end
theorem typeCall_zip_3 (a b c : Value) : checkTypeCall "zip" ⟨[a, b, c], []⟩ = pure () := by kernel_rfl
theorem newCall_zip_3 (a b c : Value) : checkBuiltinCall "zip.__new__" ⟨[.type "zip", a, b, c], []⟩ = pure () := by kernel_rfl
theorem args_object_init_4 (a b c d : Value) : argsOk "object.__init__" ⟨[a, b, c, d], []⟩ := by
  unfold argsOk; rw [signature?_of (id := "object.__init__") (n := ['_', '_', 't', 'i', 'n', 'i', '_', '_']) (o := ['t', 'c', 'e', 'j', 'b', 'o']) (by kernel_rfl) F.owner_object]; kernel_rfl
theorem inv_sq {X : Cx} {pins : List (Addr × Obj)} {σ : L2.St} {H : Hp} {s : Shared} {t : Bool} {a : Addr} {xs : List V} (I : Inv X pins σ H s) (h : SqK t X.K H a xs) : ∃ its : List Value, Vals xs its ∧ SA t s.heap a its.toArray ∧ xs.length ≤ sizeLine := by
  cases t
  · obtain ⟨its, r, p, l⟩ := I.list h
    exact ⟨its, r, p.isList, l⟩
  · obtain ⟨its, r, p, l⟩ := I.tuple h
    exact ⟨its, r, p, l⟩
theorem sq_inj {X : Cx} {pins : List (Addr × Obj)} {σ : L2.St} {H : Hp} {s : Shared} {t : Bool} {a : Addr} {xs ys : List V} (I : Inv X pins σ H s) (h : SqK t X.K H a xs) (h' : SqK t X.K H a ys) : xs = ys := by
  cases t
  · exact I.list_inj h h'
  · exact I.tuple_inj h h'

structure Ap2 (z TI TO i1 i2 l1 l2 : Addr) : Prop where
  zTI : z ≠ TI
  zTO : z ≠ TO
  zi1 : z ≠ i1
  zi2 : z ≠ i2
  TITO : TI ≠ TO
  TIi1 : TI ≠ i1
  TIi2 : TI ≠ i2
  TOi1 : TO ≠ i1
  TOi2 : TO ≠ i2
  i1i2 : i1 ≠ i2
  l1z : l1 ≠ z
  l1TO : l1 ≠ TO
  l1i1 : l1 ≠ i1
  l1i2 : l1 ≠ i2
  l2z : l2 ≠ z
  l2TO : l2 ≠ TO
  l2i1 : l2 ≠ i1
  l2i2 : l2 ≠ i2
section
variable {prog : Program} {w : World} {A : Around} {E : Value → Shared → Prop} {s : Shared}
theorem zip_item2 {t1 t2 : Bool} {z TI TO i1 i2 l1 l2 : Addr} {k : Nat} {xs1 xs2 : Array Value} {a1 a2 : Value} {x1 x2 : Value} {Q : Value → Shared → Prop} (D : Ap2 z TI TO i1 i2 l1 l2)
    (hz : IsZip s.heap z TI TO .none) (hTI : IsTp s.heap TI #[.ref i1, .ref i2]) (hTO : IsTp s.heap TO #[a1, a2])
    (h1 : IA t1 s.heap i1 l1 k) (h2 : IA t2 s.heap i2 l2 k) (hl1 : SA t1 s.heap l1 xs1) (hl2 : SA t2 s.heap l2 xs2) (hx1 : xs1[k]? = some x1) (hx2 : xs2[k]? = some x2)
    (hQ : ∀ h', IsZip h' z TI TO (rawInt s.heap.objs.size) → IsTp h' TO #[x1, x2] → IA t1 h' i1 l1 (k + 1) → IA t2 h' i2 l2 (k + 1) → IsTp h' s.heap.objs.size #[x1, x2] → h'.objs.size = s.heap.objs.size + 1 →
      (∀ c o, c ≠ z → c ≠ TO → c ≠ i1 → c ≠ i2 → s.heap.get? c = some o → h'.get? c = some o) → Q (.ref s.heap.objs.size) { s with heap := h' }) :
    wpAny (model prog w) A (Builtin.«zip.__next__» ⟨[.ref z], []⟩) (fun fin s' => ∃ v, fin = .done (.ret v) ∧ Q v s') E s := by
  obtain ⟨zTI, zTO, zi1, zi2, TITO, TIi1, TIi2, TOi1, TOi2, i1i2, l1z, l1TO, l1i1, l1i2, l2z, l2TO, l2i1, l2i2⟩ := D
  show wpAny _ _ (field (.ref z) 2 >>= _) _ _ _
  refine wpAny_bind (wpAny_field hz rfl (x := .bool false) rfl ?_)
  show wpAny _ _ (field (.ref z) 3 >>= _) _ _ _
  refine wpAny_bind (wpAny_field hz rfl (x := .ref TI) rfl ?_)
  refine wpAny_bind (wpAny_seqItems hTI rfl ?_)
  show wpAny _ _ (Builtin.SmallTypes.ownedTupleIsFree (.ref z) >>= _) _ _ _
  refine wpAny_bind ?_
  unfold Builtin.SmallTypes.ownedTupleIsFree
  refine wpAny_bind (wpAny_field hz rfl (x := .none) rfl (wpAny_pure ?_))
  simp only [if_true]
  refine wpAny_bind (wpAny_rule ?_)
  refine wpAny_bind (wpAny_field hz rfl (x := .ref TO) rfl ?_)
  refine wpAny_bind (wpAny_setField_rec hz (by simp) fun g1 hz1 s1 => ?_)
  replace hz1 : IsZip g1 z TI TO .ellipsis := hz1
  refine wpAny_bind ?_
  simp only [List.zipIdx_cons, List.zipIdx_nil, List.forIn_cons, List.forIn_nil]
  have k1 : ∀ c o, c ≠ z → s.heap.get? c = some o → g1.get? c = some o := fun c o c1 e => s1.extBut _ _ c1 e
  have TO1 : IsTp g1 TO #[a1, a2] := k1 _ _ (by first | assumption | (apply Ne.symm; assumption)) hTO
  refine wpAny_bind (wpAny_bind (wpAny_onRaise ?_))
  show wpAny _ _ (Builtin.SmallTypes.nextOf (.ref i1) >>= _) _ _ _
  refine wpAny_bind (next_item (h1.at fun o e => k1 _ o (by first | assumption | (apply Ne.symm; assumption)) e) (hl1.at fun o e => k1 _ o (by first | assumption | (apply Ne.symm; assumption)) e) hx1 fun g2 hi1 s2 => wpAny_pure ?_)
  have TO2 : IsTp g2 TO #[a1, a2] := s2.extBut _ _ (by first | assumption | (apply Ne.symm; assumption)) TO1
  refine wpAny_bind (wpAny_seqItems TO2 rfl ?_)
  refine wpAny_bind (upd_tp TO2 (by simp) fun g3 TO3 s3 => ?_)
  replace TO3 : IsTp g3 TO #[x1, a2] := TO3
  have k3 : ∀ c o, c ≠ z → c ≠ TO → c ≠ i1 →  s.heap.get? c = some o → g3.get? c = some o := fun c o c0 cT c1 e => s3.extBut _ _ cT (s2.extBut _ _ c1 (k1 c o c0 e))
  refine wpAny_bind (wpAny_letGo (wpAny_pure ?_))
  refine wpAny_bind (wpAny_bind (wpAny_onRaise ?_))
  show wpAny _ _ (Builtin.SmallTypes.nextOf (.ref i2) >>= _) _ _ _
  refine wpAny_bind (next_item (h2.at fun o e => k3 _ o (by first | assumption | (apply Ne.symm; assumption)) (by first | assumption | (apply Ne.symm; assumption)) (by first | assumption | (apply Ne.symm; assumption)) e) (hl2.at fun o e => k3 _ o (by first | assumption | (apply Ne.symm; assumption)) (by first | assumption | (apply Ne.symm; assumption)) (by first | assumption | (apply Ne.symm; assumption)) e) hx2 fun g4 hi2 s4 => wpAny_pure ?_)
  have TO4 : IsTp g4 TO #[x1, a2] := s4.extBut _ _ (by first | assumption | (apply Ne.symm; assumption)) TO3
  refine wpAny_bind (wpAny_seqItems TO4 rfl ?_)
  refine wpAny_bind (upd_tp TO4 (by simp) fun g5 TO5 s5 => ?_)
  replace TO5 : IsTp g5 TO #[x1, x2] := TO5
  have k5 : ∀ c o, c ≠ z → c ≠ TO → c ≠ i1 → c ≠ i2 →  s.heap.get? c = some o → g5.get? c = some o := fun c o c0 cT c1 c2 e => s5.extBut _ _ cT (s4.extBut _ _ c2 (k3 c o c0 cT c1 e))
  refine wpAny_bind (wpAny_letGo (wpAny_pure (wpAny_pure ?_)))
  refine wpAny_bind (wpAny_seqItems TO5 rfl ?_)
  refine wpAny_bind (wpAny_newTuple ?_)
  have hsz : g5.objs.size = s.heap.objs.size := by rw [s5.1, s4.1, s3.1, s2.1, s1.1]
  have hzm : IsZip g5 z TI TO .ellipsis := s5.extBut _ _ (by first | assumption | (apply Ne.symm; assumption)) (s4.extBut _ _ (by first | assumption | (apply Ne.symm; assumption)) (s3.extBut _ _ (by first | assumption | (apply Ne.symm; assumption)) (s2.extBut _ _ (by first | assumption | (apply Ne.symm; assumption)) (hz1))))
  have hj1 : IA t1 g5 i1 l1 (k + 1) := hi1.at fun o e => (s5.extBut _ _ (by first | assumption | (apply Ne.symm; assumption)) (s4.extBut _ _ (by first | assumption | (apply Ne.symm; assumption)) (s3.extBut _ _ (by first | assumption | (apply Ne.symm; assumption)) e)))
  have hj2 : IA t2 g5 i2 l2 (k + 1) := hi2.at fun o e => (s5.extBut _ _ (by first | assumption | (apply Ne.symm; assumption)) e)
  have hzlt : z < g5.objs.size := Heap.lt_size hzm
  show wpAny _ _ (Builtin.SmallTypes.ownedTupleHandOut (.ref z) (.ref g5.objs.size) >>= _) _ _ _
  refine wpAny_bind ?_
  unfold Builtin.SmallTypes.ownedTupleHandOut
  have hz6 : IsZip (g5.push { cls := .type "tuple", data := .seq #[x1, x2] }) z TI TO .ellipsis := Heap.get?_push_of_some _ hzm
  refine wpAny_bind (wpAny_setField_rec hz6 (by simp) fun h7 hz7 s7' => ?_)
  replace hz7 : IsZip h7 z TI TO (rawInt g5.objs.size) := hz7
  refine wpAny_setField_rec hz7 (by simp) fun h8 hz8 s8' => ?_
  replace hz8 : IsZip h8 z TI TO (rawInt g5.objs.size) := hz8
  have up : ∀ c o, c ≠ z → g5.get? c = some o → h8.get? c = some o := fun c o c1 e => s8'.extBut _ _ c1 (s7'.extBut _ _ c1 (Heap.get?_push_of_some _ e))
  have hT8 : IsTp h8 g5.objs.size #[x1, x2] := s8'.extBut _ _ (Nat.ne_of_gt hzlt) (s7'.extBut _ _ (Nat.ne_of_gt hzlt) (Heap.get?_push_size _ rfl))
  have z8 : h8.objs.size = g5.objs.size + 1 := by rw [s8'.1, s7'.1, Heap.size_push]
  rw [hsz] at hz8 hT8 z8
  refine wpAny_pure ⟨_, rfl, ?_⟩
  show Q (.ref g5.objs.size) _
  rw [hsz]
  exact hQ h8 hz8 (up _ _ (by first | assumption | (apply Ne.symm; assumption)) TO5) (hj1.at fun o e => up _ o (by first | assumption | (apply Ne.symm; assumption)) e) (hj2.at fun o e => up _ o (by first | assumption | (apply Ne.symm; assumption)) e) hT8 z8 fun c o c0 cT c1 c2 e => up c o c0 (k5 c o c0 cT c1 c2 e)
theorem zip_end2 {t1 t2 : Bool} {z TI TO i1 i2 l1 l2 : Addr} {k : Nat} {xs1 xs2 : Array Value} {a1 a2 : Value} {Q : Fin → Shared → Prop} (hh : A.handled = none) (D : Ap2 z TI TO i1 i2 l1 l2)
    (hz : IsZip s.heap z TI TO .none) (hTI : IsTp s.heap TI #[.ref i1, .ref i2]) (hTO : IsTp s.heap TO #[a1, a2])
    (h1 : IA t1 s.heap i1 l1 k) (h2 : IA t2 s.heap i2 l2 k) (hl1 : SA t1 s.heap l1 xs1) (hl2 : SA t2 s.heap l2 xs2) (hend : xs1[k]? = none ∨ xs2[k]? = none)
    (hE : ∀ h' e, (∀ c o, c ≠ z → c ≠ TO → c ≠ i1 → c ≠ i2 → s.heap.get? c = some o → h'.get? c = some o) → (∃ o, h'.get? e = some o ∧ o.cls = .type "StopIteration") → E (.ref e) { s with heap := h' }) :
    wpAny (model prog w) A (Builtin.«zip.__next__» ⟨[.ref z], []⟩) Q E s := by
  obtain ⟨zTI, zTO, zi1, zi2, TITO, TIi1, TIi2, TOi1, TOi2, i1i2, l1z, l1TO, l1i1, l1i2, l2z, l2TO, l2i1, l2i2⟩ := D
  show wpAny _ _ (field (.ref z) 2 >>= _) _ _ _
  refine wpAny_bind (wpAny_field hz rfl (x := .bool false) rfl ?_)
  show wpAny _ _ (field (.ref z) 3 >>= _) _ _ _
  refine wpAny_bind (wpAny_field hz rfl (x := .ref TI) rfl ?_)
  refine wpAny_bind (wpAny_seqItems hTI rfl ?_)
  show wpAny _ _ (Builtin.SmallTypes.ownedTupleIsFree (.ref z) >>= _) _ _ _
  refine wpAny_bind ?_
  unfold Builtin.SmallTypes.ownedTupleIsFree
  refine wpAny_bind (wpAny_field hz rfl (x := .none) rfl (wpAny_pure ?_))
  simp only [if_true]
  refine wpAny_bind (wpAny_rule ?_)
  refine wpAny_bind (wpAny_field hz rfl (x := .ref TO) rfl ?_)
  refine wpAny_bind (wpAny_setField_rec hz (by simp) fun g1 hz1 s1 => ?_)
  replace hz1 : IsZip g1 z TI TO .ellipsis := hz1
  refine wpAny_bind ?_
  simp only [List.zipIdx_cons, List.zipIdx_nil, List.forIn_cons, List.forIn_nil]
  have k1 : ∀ c o, c ≠ z → s.heap.get? c = some o → g1.get? c = some o := fun c o c1 e => s1.extBut _ _ c1 e
  have TO1 : IsTp g1 TO #[a1, a2] := k1 _ _ (by first | assumption | (apply Ne.symm; assumption)) hTO
  refine wpAny_bind (wpAny_bind (wpAny_onRaise ?_))
  show wpAny _ _ (Builtin.SmallTypes.nextOf (.ref i1) >>= _) _ _ _
  cases hx1 : xs1[k]? with
  | none =>
    refine wpAny_bind (next_end hh (h1.at fun o e => k1 _ o (by first | assumption | (apply Ne.symm; assumption)) e) (hl1.at fun o e => k1 _ o (by first | assumption | (apply Ne.symm; assumption)) e) hx1 fun h2 e s2 he => ?_)
    obtain ⟨oe, hoe, hce⟩ := he
    have hz2 : IsZip h2 z TI TO .ellipsis := s2 _ _ (by first | assumption | (apply Ne.symm; assumption)) hz1
    have hez : e ≠ z := fun x => by subst x; rw [hz2] at hoe; cases hoe; simp at hce
    refine wpAny_setField_rec hz2 (by simp) fun h3 _ s3 => hE h3 e (fun c o c0 cT c1 c2 x => s3.extBut _ _ c0 (s2 _ _ c1 (k1 c o c0 x))) ⟨oe, s3.extBut _ _ hez hoe, hce⟩
  | some x1 =>
    refine wpAny_bind (next_item (h1.at fun o e => k1 _ o (by first | assumption | (apply Ne.symm; assumption)) e) (hl1.at fun o e => k1 _ o (by first | assumption | (apply Ne.symm; assumption)) e) hx1 fun g2 hi1 r2 => wpAny_pure ?_)
    have TO2 : IsTp g2 TO #[a1, a2] := r2.extBut _ _ (by first | assumption | (apply Ne.symm; assumption)) TO1
    refine wpAny_bind (wpAny_seqItems TO2 rfl ?_)
    refine wpAny_bind (upd_tp TO2 (by simp) fun g3 TO3 r3 => ?_)
    replace TO3 : IsTp g3 TO #[x1, a2] := TO3
    have k3 : ∀ c o, c ≠ z → c ≠ TO → c ≠ i1 →  s.heap.get? c = some o → g3.get? c = some o := fun c o c0 cT c1 e => r3.extBut _ _ cT (r2.extBut _ _ c1 (k1 c o c0 e))
    refine wpAny_bind (wpAny_letGo (wpAny_pure ?_))
    refine wpAny_bind (wpAny_bind (wpAny_onRaise ?_))
    show wpAny _ _ (Builtin.SmallTypes.nextOf (.ref i2) >>= _) _ _ _
    have hxl : xs2[k]? = none := by
      simp only [hx1, reduceCtorEq, false_or] at hend
      exact hend
    refine wpAny_bind (next_end hh (h2.at fun o e => k3 _ o (by first | assumption | (apply Ne.symm; assumption)) (by first | assumption | (apply Ne.symm; assumption)) (by first | assumption | (apply Ne.symm; assumption)) e) (hl2.at fun o e => k3 _ o (by first | assumption | (apply Ne.symm; assumption)) (by first | assumption | (apply Ne.symm; assumption)) (by first | assumption | (apply Ne.symm; assumption)) e) hxl fun h2 e s2 he => ?_)
    obtain ⟨oe, hoe, hce⟩ := he
    have hz2 : IsZip h2 z TI TO .ellipsis := s2 _ _ (by first | assumption | (apply Ne.symm; assumption)) (r3.extBut _ _ (by first | assumption | (apply Ne.symm; assumption)) (r2.extBut _ _ (by first | assumption | (apply Ne.symm; assumption)) hz1))
    have hez : e ≠ z := fun x => by subst x; rw [hz2] at hoe; cases hoe; simp at hce
    refine wpAny_setField_rec hz2 (by simp) fun h3 _ s3 => hE h3 e (fun c o c0 cT c1 c2 x => s3.extBut _ _ c0 (s2 _ _ c2 (k3 c o c0 cT c1 x))) ⟨oe, s3.extBut _ _ hez hoe, hce⟩
theorem py_item2 {t1 t2 : Bool} {z TI TO i1 i2 l1 l2 : Addr} {k : Nat} {xs1 xs2 : Array Value} {a1 a2 : Value} {x1 x2 : Value} {Q : Option Value → Shared → Prop} (D : Ap2 z TI TO i1 i2 l1 l2)
    (hz : IsZip s.heap z TI TO .none) (hTI : IsTp s.heap TI #[.ref i1, .ref i2]) (hTO : IsTp s.heap TO #[a1, a2])
    (h1 : IA t1 s.heap i1 l1 k) (h2 : IA t2 s.heap i2 l2 k) (hl1 : SA t1 s.heap l1 xs1) (hl2 : SA t2 s.heap l2 xs2) (hx1 : xs1[k]? = some x1) (hx2 : xs2[k]? = some x2)
    (hQ : ∀ h', IsZip h' z TI TO (rawInt s.heap.objs.size) → IsTp h' TO #[x1, x2] → IA t1 h' i1 l1 (k + 1) → IA t2 h' i2 l2 (k + 1) → IsTp h' s.heap.objs.size #[x1, x2] → h'.objs.size = s.heap.objs.size + 1 →
      (∀ c o, c ≠ z → c ≠ TO → c ≠ i1 → c ≠ i2 → s.heap.get? c = some o → h'.get? c = some o) → Q (some (.ref s.heap.objs.size)) { s with heap := h' }) : wpAny (model prog w) A (pyNext (.ref z)) Q E s := by
  have hT : s.TypeIs (.ref z) "zip" := ⟨_, hz, rfl⟩
  unfold pyNext
  exact wpAny_bind (wpAny_attempt (wpAny_callSpecial?_slot (name := Str.ofString "__next__") hT F.slot_zip_next
    (wpAny_call_entry F.slot_zip_next hT F.entry_zip_next
      (zip_item2 D hz hTI hTO h1 h2 hl1 hl2 hx1 hx2 fun h' b0 b1 b2 b3 b4 b5 b6 => wpAny_pure (hQ h' b0 b1 b2 b3 b4 b5 b6)) (F.args_zip_next_1 _))))
theorem py_end2 {t1 t2 : Bool} {z TI TO i1 i2 l1 l2 : Addr} {k : Nat} {xs1 xs2 : Array Value} {a1 a2 : Value} {Q : Option Value → Shared → Prop} (hh : A.handled = none) (D : Ap2 z TI TO i1 i2 l1 l2)
    (hz : IsZip s.heap z TI TO .none) (hTI : IsTp s.heap TI #[.ref i1, .ref i2]) (hTO : IsTp s.heap TO #[a1, a2])
    (h1 : IA t1 s.heap i1 l1 k) (h2 : IA t2 s.heap i2 l2 k) (hl1 : SA t1 s.heap l1 xs1) (hl2 : SA t2 s.heap l2 xs2) (hend : xs1[k]? = none ∨ xs2[k]? = none)
    (hQ : ∀ h', (∀ c o, c ≠ z → c ≠ TO → c ≠ i1 → c ≠ i2 → s.heap.get? c = some o → h'.get? c = some o) → Q none { s with heap := h' }) : wpAny (model prog w) A (pyNext (.ref z)) Q E s := by
  have hT : s.TypeIs (.ref z) "zip" := ⟨_, hz, rfl⟩
  unfold pyNext
  refine wpAny_bind (wpAny_attempt (wpAny_callSpecial?_slot (name := Str.ofString "__next__") hT F.slot_zip_next
    (wpAny_call_entry F.slot_zip_next hT F.entry_zip_next (zip_end2 hh D hz hTI hTO h1 h2 hl1 hl2 hend fun h' e hk he => ?_) (F.args_zip_next_1 _))))
  obtain ⟨o, ho, hc⟩ := he
  refine wpAny_bind (wpAny_isInstance (T := "StopIteration") (b := true) ⟨o, ho, hc⟩ isSubtype_stop ?_)
  exact wpAny_pure (hQ _ hk)
end
abbrev zH2_1 (h : Heap) (t1 : Bool) (l1 : Addr) : Heap := Heap.push h (itO t1 l1)
abbrev zH2_2 (h : Heap) (t1 : Bool) (l1 : Addr) (t2 : Bool) (l2 : Addr) : Heap := Heap.push (zH2_1 h t1 l1) (itO t2 l2)
abbrev zH2_3 (h : Heap) (t1 : Bool) (l1 : Addr) (t2 : Bool) (l2 : Addr) : Heap := Heap.push (zH2_2 h t1 l1 t2 l2) { cls := .type "tuple", data := .seq #[.ref h.objs.size, .ref (zH2_1 h t1 l1).objs.size] }
abbrev zH2_4 (h : Heap) (t1 : Bool) (l1 : Addr) (t2 : Bool) (l2 : Addr) : Heap := Heap.push (zH2_3 h t1 l1 t2 l2) { cls := .type "tuple", data := .seq #[.none, .none] }
abbrev zH2_5 (h : Heap) (t1 : Bool) (l1 : Addr) (t2 : Bool) (l2 : Addr) : Heap := Heap.push (zH2_4 h t1 l1 t2 l2) { cls := .type "zip", data := .fields #[.none, .bool false, .bool false, .ref (zH2_2 h t1 l1 t2 l2).objs.size, .ref (zH2_3 h t1 l1 t2 l2).objs.size] }
theorem meets_zip2 (t1 : Bool) (l1 : Addr) (t2 : Bool) (l2 : Addr) (xs1 : Array Value) (xs2 : Array Value) :
    Meets (Builtin.«zip.__new__» ⟨[.type "zip", .ref l1, .ref l2], []⟩) (fun _ R s => SA t1 s.heap l1 xs1 ∧ SA t2 s.heap l2 xs2 ∧
      R (.ok (.ret (.ref (zH2_4 s.heap t1 l1 t2 l2).objs.size))) { s with heap := zH2_5 s.heap t1 l1 t2 l2 }) :=
  .of_wp fun prog w A R s h => by
    obtain ⟨hp, g, d, tk, os⟩ := s; obtain ⟨hl1, hl2, h⟩ := h
    have hsub := sub_zip
    have hL1 : SA t1 (Shared.heap ⟨hp, g, d, tk, os⟩) l1 xs1 := hl1.at fun o e => e
    have hL2 : SA t2 (Shared.heap ⟨(Heap.push hp (itO t1 l1)), g, d, tk, os⟩) l2 xs2 := hl2.at fun o e => (Heap.get?_push_of_some _ e)
    wp_walk using iter_k hL1, iter_k hL2
    exact ⟨_, rfl, h⟩
section
variable {prog : Program} {w : World} {A : Around} {E : Value → Shared → Prop} {s : Shared}
theorem call_zip2 {t1 t2 : Bool} {l1 l2 : Addr} {xs1 xs2 : Array Value} {Q : Value → Shared → Prop} (hl1 : SA t1 s.heap l1 xs1) (hl2 : SA t2 s.heap l2 xs2)
    (h : ∀ h', IsZip h' (s.heap.objs.size + 4) (s.heap.objs.size + 2) (s.heap.objs.size + 3) .none → IsTp h' (s.heap.objs.size + 2) #[.ref s.heap.objs.size, .ref (s.heap.objs.size + 1)] → IsTp h' (s.heap.objs.size + 3) #[.none, .none] → IA t1 h' s.heap.objs.size l1 0 → IA t2 h' (s.heap.objs.size + 1) l2 0 → h'.objs.size = s.heap.objs.size + 5 →
      (∀ c o, s.heap.get? c = some o → h'.get? c = some o) → Q (.ref (s.heap.objs.size + 4)) { s with heap := h' }) :
    wpAny (model prog w) A (call (.type "zip") [.ref l1, .ref l2]) Q E s := by
  refine callType_new F.called_zip (by decide) (F.typeCall_zip_2 _ _) (F.newCall_zip_2 _ _) (fun obj => F.args_object_init_3 obj _ _) F.entry_zip_new
    (meets_zip2 t1 l1 t2 l2 xs1 xs2) ⟨hl1, hl2, ?_⟩
  have z1 : (zH2_1 s.heap t1 l1).objs.size = s.heap.objs.size + 1 := Heap.size_push ..
  have z2 : (zH2_2 s.heap t1 l1 t2 l2).objs.size = s.heap.objs.size + 2 := by rw [Heap.size_push, z1]
  have z3 : (zH2_3 s.heap t1 l1 t2 l2).objs.size = s.heap.objs.size + 3 := by rw [Heap.size_push, z2]
  have z4 : (zH2_4 s.heap t1 l1 t2 l2).objs.size = s.heap.objs.size + 4 := by rw [Heap.size_push, z3]
  have z5 : (zH2_5 s.heap t1 l1 t2 l2).objs.size = s.heap.objs.size + 5 := by rw [Heap.size_push, z4]
  have g5 : (zH2_5 s.heap t1 l1 t2 l2).get? (zH2_4 s.heap t1 l1 t2 l2).objs.size = some _ := Heap.get?_push_size _ rfl
  have g4 : (zH2_5 s.heap t1 l1 t2 l2).get? (zH2_3 s.heap t1 l1 t2 l2).objs.size = some _ := Heap.get?_push_of_some _ (Heap.get?_push_size _ rfl)
  have g3 : (zH2_5 s.heap t1 l1 t2 l2).get? (zH2_2 s.heap t1 l1 t2 l2).objs.size = some _ := Heap.get?_push_of_some _ (Heap.get?_push_of_some _ (Heap.get?_push_size _ rfl))
  have g2 : (zH2_5 s.heap t1 l1 t2 l2).get? (zH2_1 s.heap t1 l1).objs.size = some _ := Heap.get?_push_of_some _ (Heap.get?_push_of_some _ (Heap.get?_push_of_some _ (Heap.get?_push_size _ rfl)))
  have g1 : (zH2_5 s.heap t1 l1 t2 l2).get? s.heap.objs.size = some _ := Heap.get?_push_of_some _ (Heap.get?_push_of_some _ (Heap.get?_push_of_some _ (Heap.get?_push_of_some _ (Heap.get?_push_size _ rfl))))
  show _ ∧ _
  rw [z2, z3, z4] at g5
  rw [z3] at g4
  rw [z1, z2] at g3
  rw [z1] at g2
  rw [z4]
  exact ⟨⟨_, g5, rfl⟩, h _ g5 g3 g4 (itO_at g1) (itO_at g2) z5 fun c o x => (Heap.get?_push_of_some _ (Heap.get?_push_of_some _ (Heap.get?_push_of_some _ (Heap.get?_push_of_some _ (Heap.get?_push_of_some _ x)))))⟩
end
theorem ap2 (I l1 l2 : Nat) (h1 : l1 < I) (h2 : l2 < I) : Ap2 (I + 4) (I + 2) (I + 3) I (I + 1) l1 l2 := by
  constructor <;> (refine PySem.W.neN ?_; omega)
/-- what stands there at each turn, the items in new tuples -/
def It2 (K : PySem.W.Frag) (t1 t2 : Bool) (l1 l2 : Addr) : It :=
  ⟨fun i H => ∃ (xs1 xs2 : List V) (x1 x2 : V), SqK t1 K H l1 xs1 ∧ SqK t2 K H l2 xs2 ∧ xs1[i]? = some x1 ∧ xs2[i]? = some x2,
    fun i H v H' => ∃ T x1 x2, v = .ref T ∧ H T = none ∧ H' = upd H T (.tup [x1, x2]) ∧ (∀ xs, SqK t1 K H l1 xs → xs[i]? = some x1) ∧ (∀ xs, SqK t2 K H l2 xs → xs[i]? = some x2),
    fun i H => ∃ xs1 xs2 : List V, SqK t1 K H l1 xs1 ∧ SqK t2 K H l2 xs2 ∧ (xs1.length ≤ i ∨ xs2.length ≤ i)⟩
theorem turn2 {P : Program} {w : World} {K : PySem.W.Frag} {elts : List Expr} {kk : Nat} {tpos : Pos} {t1 t2 : Bool} {l1 l2 z TI TO i1 i2 : Addr} (D : Ap2 z TI TO i1 i2 l1 l2) :
    Turn P w K (.Tuple elts kk tpos) (It2 K t1 t2 l1 l2) [z, TI, TO, i1, i2] z (fun i h => IsZip h z TI TO .none ∧ IsTp h TI #[.ref i1, .ref i2] ∧ (∃ a1 a2, IsTp h TO #[a1, a2]) ∧ IA t1 h i1 l1 i ∧ IA t2 h i2 l2 i) where
  mem := by simp
  obj := fun i h st c hc => by
    obtain ⟨hz, hTI, ⟨a1, a2, hTO⟩, h1, h2⟩ := st
    have e' : c = z ∨ c = TI ∨ c = TO ∨ c = i1 ∨ c = i2 := by simpa using hc
    rcases e' with q | q | q | q | q
    · rw [q]; exact ⟨_, hz, fun v q => nomatch q⟩
    · rw [q]; exact ⟨_, hTI, fun v q => nomatch q⟩
    · rw [q]; exact ⟨_, hTO, fun v q => nomatch q⟩
    · obtain ⟨o1, e1, d1⟩ := h1.get
      rw [q]; exact ⟨o1, e1, fun v q => by rw [d1] at q; cases q⟩
    · obtain ⟨o1, e1, d1⟩ := h2.get
      rw [q]; exact ⟨o1, e1, fun v q => by rw [d1] at q; cases q⟩
  keep := fun i h h' st k => by
    obtain ⟨hz, hTI, ⟨a1, a2, hTO⟩, h1, h2⟩ := st
    exact ⟨k z (by simp) _ hz, k TI (by simp) _ hTI, ⟨a1, a2, k TO (by simp) _ hTO⟩, h1.at fun o q => k i1 (by simp) o q, h2.at fun o q => k i2 (by simp) o q⟩
  item := by
    intro X hP hw hK hc i pins s σ H E I hf st hg
    subst hP hw hK
    obtain ⟨hz, hTI, ⟨a1, a2, hTO⟩, h1, h2⟩ := st
    obtain ⟨xs1, xs2, x1, x2, hq1, hq2, hx1, hx2⟩ := hg
    obtain ⟨its1, rv1, p1, _⟩ := inv_sq I hq1
    obtain ⟨its2, rv2, p2, _⟩ := inv_sq I hq2
    obtain ⟨u1, hu1, ru1⟩ := rv1.get hx1
    obtain ⟨u2, hu2, ru2⟩ := rv2.get hx2
    have hzl : z < s.heap.objs.size := Heap.lt_size hz
    refine py_item2 D hz hTI hTO h1 h2 p1 p2 (x1 := u1) (x2 := u2) (by simpa using hu1) (by simpa using hu2) fun h' z' TO' h1' h2' hT hsz hk => ?_
    refine ⟨_, rfl, wpAny_letOwnedTupleGo_zip (s := { s with heap := h' }) z' fun h'' z'' sb => ?_⟩
    have hT2 : h''.get? s.heap.objs.size = some { cls := .type "tuple", data := .seq #[u1, u2] } := (sb.2 _ (Nat.ne_of_gt hzl)).trans hT
    have new : ObjOk X.prog X.w (upd H s.heap.objs.size (.tup [x1, x2])) h'' s.heap.objs.size (.tup [x1, x2]) :=
      ⟨by show 2 ≤ sizeLine; decide, [u1, u2], .cons ru1 (.cons ru2 .nil), ⟨_, hT2, rfl, _, rfl⟩⟩
    have I1 : Inv X pins σ (upd H s.heap.objs.size (.tup [x1, x2])) { s with heap := h'' } :=
      I.turnedNew (t' := s.toks) (ch := [z, TI, TO, i1, i2]) (fun c o hb q => (sb.2 c (fun q' => hb (by simp [q']))).trans (hk c o (fun q' => hb (by simp [q'])) (fun q' => hb (by simp [q'])) (fun q' => hb (by simp [q'])) (fun q' => hb (by simp [q'])) q)) hf (Nat.le_refl _) new
    refine ⟨.ref s.heap.objs.size, _, I1, rfl, ⟨_, x1, x2, rfl, I.hok.fresh (Nat.le_refl _), rfl, fun l hl => by rw [sq_inj I hl hq1]; exact hx1, fun l hl => by rw [sq_inj I hl hq2]; exact hx2⟩, ⟨z'', ?_, ⟨u1, u2, ?_⟩, ?_, ?_⟩, fun c hcm => ?_⟩
    · obtain ⟨zTI, zTO, zi1, zi2, TITO, TIi1, TIi2, TOi1, TOi2, i1i2, l1z, l1TO, l1i1, l1i2, l2z, l2TO, l2i1, l2i2⟩ := D
      exact (sb.2 _ (by first | assumption | (apply Ne.symm; assumption))).trans (hk _ _ (by first | assumption | (apply Ne.symm; assumption)) (by first | assumption | (apply Ne.symm; assumption)) (by first | assumption | (apply Ne.symm; assumption)) (by first | assumption | (apply Ne.symm; assumption)) hTI)
    · obtain ⟨zTI, zTO, zi1, zi2, TITO, TIi1, TIi2, TOi1, TOi2, i1i2, l1z, l1TO, l1i1, l1i2, l2z, l2TO, l2i1, l2i2⟩ := D
      exact (sb.2 _ (by first | assumption | (apply Ne.symm; assumption))).trans TO'
    · obtain ⟨zTI, zTO, zi1, zi2, TITO, TIi1, TIi2, TOi1, TOi2, i1i2, l1z, l1TO, l1i1, l1i2, l2z, l2TO, l2i1, l2i2⟩ := D
      exact h1'.at fun o q => (sb.2 _ (by first | assumption | (apply Ne.symm; assumption))).trans q
    · obtain ⟨zTI, zTO, zi1, zi2, TITO, TIi1, TIi2, TOi1, TOi2, i1i2, l1z, l1TO, l1i1, l1i2, l2z, l2TO, l2i1, l2i2⟩ := D
      exact h2'.at fun o q => (sb.2 _ (by first | assumption | (apply Ne.symm; assumption))).trans q
    · have hlt : c < s.heap.objs.size := by
        have e' : c = z ∨ c = TI ∨ c = TO ∨ c = i1 ∨ c = i2 := by simpa using hcm
        rcases e' with q | q | q | q | q
        · rw [q]; exact hzl
        · rw [q]; exact Heap.lt_size hTI
        · rw [q]; exact Heap.lt_size hTO
        · rw [q]; obtain ⟨_, e1, _⟩ := h1.get; exact Heap.lt_size e1
        · rw [q]; obtain ⟨_, e1, _⟩ := h2.get; exact Heap.lt_size e1
      rw [upd_ne (Nat.ne_of_lt hlt)]
      exact (hf c hcm).1
  done := by
    intro X hP hw hK hc i pins s σ H E I hf st hg
    subst hP hw hK
    obtain ⟨hz, hTI, ⟨a1, a2, hTO⟩, h1, h2⟩ := st
    obtain ⟨xs1, xs2, hq1, hq2, hend⟩ := hg
    obtain ⟨its1, rv1, p1, _⟩ := inv_sq I hq1
    have len1 := rv1.length
    obtain ⟨its2, rv2, p2, _⟩ := inv_sq I hq2
    have len2 := rv2.length
    have he : its1.toArray[i]? = none ∨ its2.toArray[i]? = none := by
      rcases hend with q | q
      · have e : its1.toArray[i]? = none := by simp; omega
        simp [e]
      · have e : its2.toArray[i]? = none := by simp; omega
        simp [e]
    exact py_end2 (I.ok.hd hc) D hz hTI hTO h1 h2 p1 p2 he fun h' hk => ⟨rfl, I.turnedL (t' := s.toks) (ch := [z, TI, TO, i1, i2]) (fun c o hb q =>
      hk c o (fun q' => hb (by simp [q'])) (fun q' => hb (by simp [q'])) (fun q' => hb (by simp [q'])) (fun q' => hb (by simp [q'])) q) hf⟩
  self := fun A i s Q E st h => wpAny_pyIter_zip st.1 h
def iZk2 (K : PySem.W.Frag) (ta : TA) : TI := fun σ H R => ta σ H fun vs H1 => ∃ (t1 t2 : Bool) (l1 l2 : Addr) (xs1 xs2 : List V), vs = [.ref l1, .ref l2] ∧ SqK t1 K H1 l1 xs1 ∧ SqK t2 K H1 l2 xs2 ∧ R (It2 K t1 t2 l1 l2) H1
theorem pi_zk2 {X : Cx} {e1 e2 : Expr} {ta : TA} {p pos tpos : Pos} {elts : List Expr} {kk : Nat} (hg : Gl X "zip") (hm : X.mg "zip" = none) (ha : PA X [e1, e2] ta)
    (hs : starEach [e1, e2] X.env = (false, eval e1 X.env) :: starEach [e2] X.env := by rfl) (hpl : (backTo pos (starEach [e2] X.env)).any (·.1) = false := by rfl) :
    PI X (.Tuple elts kk tpos) (.Call (.Name "zip" p) [e1, e2] [] pos) (iZk2 X.K ta) := by
  refine ⟨fun pins s σ H R I h => ?_⟩
  refine Call_ (ld_blt I hg hm PyProof.Rows.boot_zip (PyProof.Rows.callWith_type1 (thn (ha.run pos pins s σ H _ I h) fun us s1 ⟨vs, H1, I1, r1, q1⟩ => ?_) hs hpl))
  obtain ⟨t1, t2, l1, l2, xs1, xs2, ex, hq1, hq2, q⟩ := q1
  subst ex
  cases r1 with
  | cons ra1 rb1 =>
    cases rb1 with
    | cons ra2 rb2 =>
      cases rb2
      cases ra1
      cases ra2
      have fresh : ∀ c, c ∈ [s1.heap.objs.size + 4, s1.heap.objs.size + 2, s1.heap.objs.size + 3, s1.heap.objs.size, s1.heap.objs.size + 1] → FpOk X pins H1 c := fun c hcm => by
        have hle : s1.heap.objs.size ≤ c := by
          simp only [List.mem_cons, List.not_mem_nil, or_false] at hcm
          omega
        exact I1.fpOk hle (I1.hok.fresh hle)
      obtain ⟨its1, rv1, p1, _⟩ := inv_sq I1 hq1
      obtain ⟨its2, rv2, p2, _⟩ := inv_sq I1 hq2
      refine call_zip2 p1 p2 fun h' hz hTI hTO h1 h2 hsz hk => wpAny_pyIter_zip hz ?_
      have I2 : Inv X pins σ H1 { s1 with heap := h' } := I1.kept (t' := s1.toks) hk
      exact ⟨s1.heap.objs.size + 4, [s1.heap.objs.size + 4, s1.heap.objs.size + 2, s1.heap.objs.size + 3, s1.heap.objs.size, s1.heap.objs.size + 1], _, _, H1, rfl, I2, turn2 (ap2 s1.heap.objs.size l1 l2 p1.lt p2.lt), ⟨hz, hTI, ⟨_, _, hTO⟩, h1, h2⟩, fresh, q⟩
structure Ap3 (z TI TO i1 i2 i3 l1 l2 l3 : Addr) : Prop where
  zTI : z ≠ TI
  zTO : z ≠ TO
  zi1 : z ≠ i1
  zi2 : z ≠ i2
  zi3 : z ≠ i3
  TITO : TI ≠ TO
  TIi1 : TI ≠ i1
  TIi2 : TI ≠ i2
  TIi3 : TI ≠ i3
  TOi1 : TO ≠ i1
  TOi2 : TO ≠ i2
  TOi3 : TO ≠ i3
  i1i2 : i1 ≠ i2
  i1i3 : i1 ≠ i3
  i2i3 : i2 ≠ i3
  l1z : l1 ≠ z
  l1TO : l1 ≠ TO
  l1i1 : l1 ≠ i1
  l1i2 : l1 ≠ i2
  l1i3 : l1 ≠ i3
  l2z : l2 ≠ z
  l2TO : l2 ≠ TO
  l2i1 : l2 ≠ i1
  l2i2 : l2 ≠ i2
  l2i3 : l2 ≠ i3
  l3z : l3 ≠ z
  l3TO : l3 ≠ TO
  l3i1 : l3 ≠ i1
  l3i2 : l3 ≠ i2
  l3i3 : l3 ≠ i3
section
variable {prog : Program} {w : World} {A : Around} {E : Value → Shared → Prop} {s : Shared}
theorem zip_item3 {t1 t2 t3 : Bool} {z TI TO i1 i2 i3 l1 l2 l3 : Addr} {k : Nat} {xs1 xs2 xs3 : Array Value} {a1 a2 a3 : Value} {x1 x2 x3 : Value} {Q : Value → Shared → Prop} (D : Ap3 z TI TO i1 i2 i3 l1 l2 l3)
    (hz : IsZip s.heap z TI TO .none) (hTI : IsTp s.heap TI #[.ref i1, .ref i2, .ref i3]) (hTO : IsTp s.heap TO #[a1, a2, a3])
    (h1 : IA t1 s.heap i1 l1 k) (h2 : IA t2 s.heap i2 l2 k) (h3 : IA t3 s.heap i3 l3 k) (hl1 : SA t1 s.heap l1 xs1) (hl2 : SA t2 s.heap l2 xs2) (hl3 : SA t3 s.heap l3 xs3) (hx1 : xs1[k]? = some x1) (hx2 : xs2[k]? = some x2) (hx3 : xs3[k]? = some x3)
    (hQ : ∀ h', IsZip h' z TI TO (rawInt s.heap.objs.size) → IsTp h' TO #[x1, x2, x3] → IA t1 h' i1 l1 (k + 1) → IA t2 h' i2 l2 (k + 1) → IA t3 h' i3 l3 (k + 1) → IsTp h' s.heap.objs.size #[x1, x2, x3] → h'.objs.size = s.heap.objs.size + 1 →
      (∀ c o, c ≠ z → c ≠ TO → c ≠ i1 → c ≠ i2 → c ≠ i3 → s.heap.get? c = some o → h'.get? c = some o) → Q (.ref s.heap.objs.size) { s with heap := h' }) :
    wpAny (model prog w) A (Builtin.«zip.__next__» ⟨[.ref z], []⟩) (fun fin s' => ∃ v, fin = .done (.ret v) ∧ Q v s') E s := by
  obtain ⟨zTI, zTO, zi1, zi2, zi3, TITO, TIi1, TIi2, TIi3, TOi1, TOi2, TOi3, i1i2, i1i3, i2i3, l1z, l1TO, l1i1, l1i2, l1i3, l2z, l2TO, l2i1, l2i2, l2i3, l3z, l3TO, l3i1, l3i2, l3i3⟩ := D
  show wpAny _ _ (field (.ref z) 2 >>= _) _ _ _
  refine wpAny_bind (wpAny_field hz rfl (x := .bool false) rfl ?_)
  show wpAny _ _ (field (.ref z) 3 >>= _) _ _ _
  refine wpAny_bind (wpAny_field hz rfl (x := .ref TI) rfl ?_)
  refine wpAny_bind (wpAny_seqItems hTI rfl ?_)
  show wpAny _ _ (Builtin.SmallTypes.ownedTupleIsFree (.ref z) >>= _) _ _ _
  refine wpAny_bind ?_
  unfold Builtin.SmallTypes.ownedTupleIsFree
  refine wpAny_bind (wpAny_field hz rfl (x := .none) rfl (wpAny_pure ?_))
  simp only [if_true]
  refine wpAny_bind (wpAny_rule ?_)
  refine wpAny_bind (wpAny_field hz rfl (x := .ref TO) rfl ?_)
  refine wpAny_bind (wpAny_setField_rec hz (by simp) fun g1 hz1 s1 => ?_)
  replace hz1 : IsZip g1 z TI TO .ellipsis := hz1
  refine wpAny_bind ?_
  simp only [List.zipIdx_cons, List.zipIdx_nil, List.forIn_cons, List.forIn_nil]
  have k1 : ∀ c o, c ≠ z → s.heap.get? c = some o → g1.get? c = some o := fun c o c1 e => s1.extBut _ _ c1 e
  have TO1 : IsTp g1 TO #[a1, a2, a3] := k1 _ _ (by first | assumption | (apply Ne.symm; assumption)) hTO
  refine wpAny_bind (wpAny_bind (wpAny_onRaise ?_))
  show wpAny _ _ (Builtin.SmallTypes.nextOf (.ref i1) >>= _) _ _ _
  refine wpAny_bind (next_item (h1.at fun o e => k1 _ o (by first | assumption | (apply Ne.symm; assumption)) e) (hl1.at fun o e => k1 _ o (by first | assumption | (apply Ne.symm; assumption)) e) hx1 fun g2 hi1 s2 => wpAny_pure ?_)
  have TO2 : IsTp g2 TO #[a1, a2, a3] := s2.extBut _ _ (by first | assumption | (apply Ne.symm; assumption)) TO1
  refine wpAny_bind (wpAny_seqItems TO2 rfl ?_)
  refine wpAny_bind (upd_tp TO2 (by simp) fun g3 TO3 s3 => ?_)
  replace TO3 : IsTp g3 TO #[x1, a2, a3] := TO3
  have k3 : ∀ c o, c ≠ z → c ≠ TO → c ≠ i1 →  s.heap.get? c = some o → g3.get? c = some o := fun c o c0 cT c1 e => s3.extBut _ _ cT (s2.extBut _ _ c1 (k1 c o c0 e))
  refine wpAny_bind (wpAny_letGo (wpAny_pure ?_))
  refine wpAny_bind (wpAny_bind (wpAny_onRaise ?_))
  show wpAny _ _ (Builtin.SmallTypes.nextOf (.ref i2) >>= _) _ _ _
  refine wpAny_bind (next_item (h2.at fun o e => k3 _ o (by first | assumption | (apply Ne.symm; assumption)) (by first | assumption | (apply Ne.symm; assumption)) (by first | assumption | (apply Ne.symm; assumption)) e) (hl2.at fun o e => k3 _ o (by first | assumption | (apply Ne.symm; assumption)) (by first | assumption | (apply Ne.symm; assumption)) (by first | assumption | (apply Ne.symm; assumption)) e) hx2 fun g4 hi2 s4 => wpAny_pure ?_)
  have TO4 : IsTp g4 TO #[x1, a2, a3] := s4.extBut _ _ (by first | assumption | (apply Ne.symm; assumption)) TO3
  refine wpAny_bind (wpAny_seqItems TO4 rfl ?_)
  refine wpAny_bind (upd_tp TO4 (by simp) fun g5 TO5 s5 => ?_)
  replace TO5 : IsTp g5 TO #[x1, x2, a3] := TO5
  have k5 : ∀ c o, c ≠ z → c ≠ TO → c ≠ i1 → c ≠ i2 →  s.heap.get? c = some o → g5.get? c = some o := fun c o c0 cT c1 c2 e => s5.extBut _ _ cT (s4.extBut _ _ c2 (k3 c o c0 cT c1 e))
  refine wpAny_bind (wpAny_letGo (wpAny_pure ?_))
  refine wpAny_bind (wpAny_bind (wpAny_onRaise ?_))
  show wpAny _ _ (Builtin.SmallTypes.nextOf (.ref i3) >>= _) _ _ _
  refine wpAny_bind (next_item (h3.at fun o e => k5 _ o (by first | assumption | (apply Ne.symm; assumption)) (by first | assumption | (apply Ne.symm; assumption)) (by first | assumption | (apply Ne.symm; assumption)) (by first | assumption | (apply Ne.symm; assumption)) e) (hl3.at fun o e => k5 _ o (by first | assumption | (apply Ne.symm; assumption)) (by first | assumption | (apply Ne.symm; assumption)) (by first | assumption | (apply Ne.symm; assumption)) (by first | assumption | (apply Ne.symm; assumption)) e) hx3 fun g6 hi3 s6 => wpAny_pure ?_)
  have TO6 : IsTp g6 TO #[x1, x2, a3] := s6.extBut _ _ (by first | assumption | (apply Ne.symm; assumption)) TO5
  refine wpAny_bind (wpAny_seqItems TO6 rfl ?_)
  refine wpAny_bind (upd_tp TO6 (by simp) fun g7 TO7 s7 => ?_)
  replace TO7 : IsTp g7 TO #[x1, x2, x3] := TO7
  have k7 : ∀ c o, c ≠ z → c ≠ TO → c ≠ i1 → c ≠ i2 → c ≠ i3 →  s.heap.get? c = some o → g7.get? c = some o := fun c o c0 cT c1 c2 c3 e => s7.extBut _ _ cT (s6.extBut _ _ c3 (k5 c o c0 cT c1 c2 e))
  refine wpAny_bind (wpAny_letGo (wpAny_pure (wpAny_pure ?_)))
  refine wpAny_bind (wpAny_seqItems TO7 rfl ?_)
  refine wpAny_bind (wpAny_newTuple ?_)
  have hsz : g7.objs.size = s.heap.objs.size := by rw [s7.1, s6.1, s5.1, s4.1, s3.1, s2.1, s1.1]
  have hzm : IsZip g7 z TI TO .ellipsis := s7.extBut _ _ (by first | assumption | (apply Ne.symm; assumption)) (s6.extBut _ _ (by first | assumption | (apply Ne.symm; assumption)) (s5.extBut _ _ (by first | assumption | (apply Ne.symm; assumption)) (s4.extBut _ _ (by first | assumption | (apply Ne.symm; assumption)) (s3.extBut _ _ (by first | assumption | (apply Ne.symm; assumption)) (s2.extBut _ _ (by first | assumption | (apply Ne.symm; assumption)) (hz1))))))
  have hj1 : IA t1 g7 i1 l1 (k + 1) := hi1.at fun o e => (s7.extBut _ _ (by first | assumption | (apply Ne.symm; assumption)) (s6.extBut _ _ (by first | assumption | (apply Ne.symm; assumption)) (s5.extBut _ _ (by first | assumption | (apply Ne.symm; assumption)) (s4.extBut _ _ (by first | assumption | (apply Ne.symm; assumption)) (s3.extBut _ _ (by first | assumption | (apply Ne.symm; assumption)) e)))))
  have hj2 : IA t2 g7 i2 l2 (k + 1) := hi2.at fun o e => (s7.extBut _ _ (by first | assumption | (apply Ne.symm; assumption)) (s6.extBut _ _ (by first | assumption | (apply Ne.symm; assumption)) (s5.extBut _ _ (by first | assumption | (apply Ne.symm; assumption)) e)))
  have hj3 : IA t3 g7 i3 l3 (k + 1) := hi3.at fun o e => (s7.extBut _ _ (by first | assumption | (apply Ne.symm; assumption)) e)
  have hzlt : z < g7.objs.size := Heap.lt_size hzm
  show wpAny _ _ (Builtin.SmallTypes.ownedTupleHandOut (.ref z) (.ref g7.objs.size) >>= _) _ _ _
  refine wpAny_bind ?_
  unfold Builtin.SmallTypes.ownedTupleHandOut
  have hz6 : IsZip (g7.push { cls := .type "tuple", data := .seq #[x1, x2, x3] }) z TI TO .ellipsis := Heap.get?_push_of_some _ hzm
  refine wpAny_bind (wpAny_setField_rec hz6 (by simp) fun h7 hz7 s7' => ?_)
  replace hz7 : IsZip h7 z TI TO (rawInt g7.objs.size) := hz7
  refine wpAny_setField_rec hz7 (by simp) fun h8 hz8 s8' => ?_
  replace hz8 : IsZip h8 z TI TO (rawInt g7.objs.size) := hz8
  have up : ∀ c o, c ≠ z → g7.get? c = some o → h8.get? c = some o := fun c o c1 e => s8'.extBut _ _ c1 (s7'.extBut _ _ c1 (Heap.get?_push_of_some _ e))
  have hT8 : IsTp h8 g7.objs.size #[x1, x2, x3] := s8'.extBut _ _ (Nat.ne_of_gt hzlt) (s7'.extBut _ _ (Nat.ne_of_gt hzlt) (Heap.get?_push_size _ rfl))
  have z8 : h8.objs.size = g7.objs.size + 1 := by rw [s8'.1, s7'.1, Heap.size_push]
  rw [hsz] at hz8 hT8 z8
  refine wpAny_pure ⟨_, rfl, ?_⟩
  show Q (.ref g7.objs.size) _
  rw [hsz]
  exact hQ h8 hz8 (up _ _ (by first | assumption | (apply Ne.symm; assumption)) TO7) (hj1.at fun o e => up _ o (by first | assumption | (apply Ne.symm; assumption)) e) (hj2.at fun o e => up _ o (by first | assumption | (apply Ne.symm; assumption)) e) (hj3.at fun o e => up _ o (by first | assumption | (apply Ne.symm; assumption)) e) hT8 z8 fun c o c0 cT c1 c2 c3 e => up c o c0 (k7 c o c0 cT c1 c2 c3 e)
theorem zip_end3 {t1 t2 t3 : Bool} {z TI TO i1 i2 i3 l1 l2 l3 : Addr} {k : Nat} {xs1 xs2 xs3 : Array Value} {a1 a2 a3 : Value} {Q : Fin → Shared → Prop} (hh : A.handled = none) (D : Ap3 z TI TO i1 i2 i3 l1 l2 l3)
    (hz : IsZip s.heap z TI TO .none) (hTI : IsTp s.heap TI #[.ref i1, .ref i2, .ref i3]) (hTO : IsTp s.heap TO #[a1, a2, a3])
    (h1 : IA t1 s.heap i1 l1 k) (h2 : IA t2 s.heap i2 l2 k) (h3 : IA t3 s.heap i3 l3 k) (hl1 : SA t1 s.heap l1 xs1) (hl2 : SA t2 s.heap l2 xs2) (hl3 : SA t3 s.heap l3 xs3) (hend : xs1[k]? = none ∨ xs2[k]? = none ∨ xs3[k]? = none)
    (hE : ∀ h' e, (∀ c o, c ≠ z → c ≠ TO → c ≠ i1 → c ≠ i2 → c ≠ i3 → s.heap.get? c = some o → h'.get? c = some o) → (∃ o, h'.get? e = some o ∧ o.cls = .type "StopIteration") → E (.ref e) { s with heap := h' }) :
    wpAny (model prog w) A (Builtin.«zip.__next__» ⟨[.ref z], []⟩) Q E s := by
  obtain ⟨zTI, zTO, zi1, zi2, zi3, TITO, TIi1, TIi2, TIi3, TOi1, TOi2, TOi3, i1i2, i1i3, i2i3, l1z, l1TO, l1i1, l1i2, l1i3, l2z, l2TO, l2i1, l2i2, l2i3, l3z, l3TO, l3i1, l3i2, l3i3⟩ := D
  show wpAny _ _ (field (.ref z) 2 >>= _) _ _ _
  refine wpAny_bind (wpAny_field hz rfl (x := .bool false) rfl ?_)
  show wpAny _ _ (field (.ref z) 3 >>= _) _ _ _
  refine wpAny_bind (wpAny_field hz rfl (x := .ref TI) rfl ?_)
  refine wpAny_bind (wpAny_seqItems hTI rfl ?_)
  show wpAny _ _ (Builtin.SmallTypes.ownedTupleIsFree (.ref z) >>= _) _ _ _
  refine wpAny_bind ?_
  unfold Builtin.SmallTypes.ownedTupleIsFree
  refine wpAny_bind (wpAny_field hz rfl (x := .none) rfl (wpAny_pure ?_))
  simp only [if_true]
  refine wpAny_bind (wpAny_rule ?_)
  refine wpAny_bind (wpAny_field hz rfl (x := .ref TO) rfl ?_)
  refine wpAny_bind (wpAny_setField_rec hz (by simp) fun g1 hz1 s1 => ?_)
  replace hz1 : IsZip g1 z TI TO .ellipsis := hz1
  refine wpAny_bind ?_
  simp only [List.zipIdx_cons, List.zipIdx_nil, List.forIn_cons, List.forIn_nil]
  have k1 : ∀ c o, c ≠ z → s.heap.get? c = some o → g1.get? c = some o := fun c o c1 e => s1.extBut _ _ c1 e
  have TO1 : IsTp g1 TO #[a1, a2, a3] := k1 _ _ (by first | assumption | (apply Ne.symm; assumption)) hTO
  refine wpAny_bind (wpAny_bind (wpAny_onRaise ?_))
  show wpAny _ _ (Builtin.SmallTypes.nextOf (.ref i1) >>= _) _ _ _
  cases hx1 : xs1[k]? with
  | none =>
    refine wpAny_bind (next_end hh (h1.at fun o e => k1 _ o (by first | assumption | (apply Ne.symm; assumption)) e) (hl1.at fun o e => k1 _ o (by first | assumption | (apply Ne.symm; assumption)) e) hx1 fun h2 e s2 he => ?_)
    obtain ⟨oe, hoe, hce⟩ := he
    have hz2 : IsZip h2 z TI TO .ellipsis := s2 _ _ (by first | assumption | (apply Ne.symm; assumption)) hz1
    have hez : e ≠ z := fun x => by subst x; rw [hz2] at hoe; cases hoe; simp at hce
    refine wpAny_setField_rec hz2 (by simp) fun h3 _ s3 => hE h3 e (fun c o c0 cT c1 c2 c3 x => s3.extBut _ _ c0 (s2 _ _ c1 (k1 c o c0 x))) ⟨oe, s3.extBut _ _ hez hoe, hce⟩
  | some x1 =>
    refine wpAny_bind (next_item (h1.at fun o e => k1 _ o (by first | assumption | (apply Ne.symm; assumption)) e) (hl1.at fun o e => k1 _ o (by first | assumption | (apply Ne.symm; assumption)) e) hx1 fun g2 hi1 r2 => wpAny_pure ?_)
    have TO2 : IsTp g2 TO #[a1, a2, a3] := r2.extBut _ _ (by first | assumption | (apply Ne.symm; assumption)) TO1
    refine wpAny_bind (wpAny_seqItems TO2 rfl ?_)
    refine wpAny_bind (upd_tp TO2 (by simp) fun g3 TO3 r3 => ?_)
    replace TO3 : IsTp g3 TO #[x1, a2, a3] := TO3
    have k3 : ∀ c o, c ≠ z → c ≠ TO → c ≠ i1 →  s.heap.get? c = some o → g3.get? c = some o := fun c o c0 cT c1 e => r3.extBut _ _ cT (r2.extBut _ _ c1 (k1 c o c0 e))
    refine wpAny_bind (wpAny_letGo (wpAny_pure ?_))
    refine wpAny_bind (wpAny_bind (wpAny_onRaise ?_))
    show wpAny _ _ (Builtin.SmallTypes.nextOf (.ref i2) >>= _) _ _ _
    cases hx2 : xs2[k]? with
    | none =>
      refine wpAny_bind (next_end hh (h2.at fun o e => k3 _ o (by first | assumption | (apply Ne.symm; assumption)) (by first | assumption | (apply Ne.symm; assumption)) (by first | assumption | (apply Ne.symm; assumption)) e) (hl2.at fun o e => k3 _ o (by first | assumption | (apply Ne.symm; assumption)) (by first | assumption | (apply Ne.symm; assumption)) (by first | assumption | (apply Ne.symm; assumption)) e) hx2 fun h2 e s2 he => ?_)
      obtain ⟨oe, hoe, hce⟩ := he
      have hz2 : IsZip h2 z TI TO .ellipsis := s2 _ _ (by first | assumption | (apply Ne.symm; assumption)) (r3.extBut _ _ (by first | assumption | (apply Ne.symm; assumption)) (r2.extBut _ _ (by first | assumption | (apply Ne.symm; assumption)) hz1))
      have hez : e ≠ z := fun x => by subst x; rw [hz2] at hoe; cases hoe; simp at hce
      refine wpAny_setField_rec hz2 (by simp) fun h3 _ s3 => hE h3 e (fun c o c0 cT c1 c2 c3 x => s3.extBut _ _ c0 (s2 _ _ c2 (k3 c o c0 cT c1 x))) ⟨oe, s3.extBut _ _ hez hoe, hce⟩
    | some x2 =>
      refine wpAny_bind (next_item (h2.at fun o e => k3 _ o (by first | assumption | (apply Ne.symm; assumption)) (by first | assumption | (apply Ne.symm; assumption)) (by first | assumption | (apply Ne.symm; assumption)) e) (hl2.at fun o e => k3 _ o (by first | assumption | (apply Ne.symm; assumption)) (by first | assumption | (apply Ne.symm; assumption)) (by first | assumption | (apply Ne.symm; assumption)) e) hx2 fun g4 hi2 r4 => wpAny_pure ?_)
      have TO4 : IsTp g4 TO #[x1, a2, a3] := r4.extBut _ _ (by first | assumption | (apply Ne.symm; assumption)) TO3
      refine wpAny_bind (wpAny_seqItems TO4 rfl ?_)
      refine wpAny_bind (upd_tp TO4 (by simp) fun g5 TO5 r5 => ?_)
      replace TO5 : IsTp g5 TO #[x1, x2, a3] := TO5
      have k5 : ∀ c o, c ≠ z → c ≠ TO → c ≠ i1 → c ≠ i2 →  s.heap.get? c = some o → g5.get? c = some o := fun c o c0 cT c1 c2 e => r5.extBut _ _ cT (r4.extBut _ _ c2 (k3 c o c0 cT c1 e))
      refine wpAny_bind (wpAny_letGo (wpAny_pure ?_))
      refine wpAny_bind (wpAny_bind (wpAny_onRaise ?_))
      show wpAny _ _ (Builtin.SmallTypes.nextOf (.ref i3) >>= _) _ _ _
      have hxl : xs3[k]? = none := by
        simp only [hx1, hx2, reduceCtorEq, false_or] at hend
        exact hend
      refine wpAny_bind (next_end hh (h3.at fun o e => k5 _ o (by first | assumption | (apply Ne.symm; assumption)) (by first | assumption | (apply Ne.symm; assumption)) (by first | assumption | (apply Ne.symm; assumption)) (by first | assumption | (apply Ne.symm; assumption)) e) (hl3.at fun o e => k5 _ o (by first | assumption | (apply Ne.symm; assumption)) (by first | assumption | (apply Ne.symm; assumption)) (by first | assumption | (apply Ne.symm; assumption)) (by first | assumption | (apply Ne.symm; assumption)) e) hxl fun h2 e s2 he => ?_)
      obtain ⟨oe, hoe, hce⟩ := he
      have hz2 : IsZip h2 z TI TO .ellipsis := s2 _ _ (by first | assumption | (apply Ne.symm; assumption)) (r5.extBut _ _ (by first | assumption | (apply Ne.symm; assumption)) (r4.extBut _ _ (by first | assumption | (apply Ne.symm; assumption)) (r3.extBut _ _ (by first | assumption | (apply Ne.symm; assumption)) (r2.extBut _ _ (by first | assumption | (apply Ne.symm; assumption)) hz1))))
      have hez : e ≠ z := fun x => by subst x; rw [hz2] at hoe; cases hoe; simp at hce
      refine wpAny_setField_rec hz2 (by simp) fun h3 _ s3 => hE h3 e (fun c o c0 cT c1 c2 c3 x => s3.extBut _ _ c0 (s2 _ _ c3 (k5 c o c0 cT c1 c2 x))) ⟨oe, s3.extBut _ _ hez hoe, hce⟩
theorem py_item3 {t1 t2 t3 : Bool} {z TI TO i1 i2 i3 l1 l2 l3 : Addr} {k : Nat} {xs1 xs2 xs3 : Array Value} {a1 a2 a3 : Value} {x1 x2 x3 : Value} {Q : Option Value → Shared → Prop} (D : Ap3 z TI TO i1 i2 i3 l1 l2 l3)
    (hz : IsZip s.heap z TI TO .none) (hTI : IsTp s.heap TI #[.ref i1, .ref i2, .ref i3]) (hTO : IsTp s.heap TO #[a1, a2, a3])
    (h1 : IA t1 s.heap i1 l1 k) (h2 : IA t2 s.heap i2 l2 k) (h3 : IA t3 s.heap i3 l3 k) (hl1 : SA t1 s.heap l1 xs1) (hl2 : SA t2 s.heap l2 xs2) (hl3 : SA t3 s.heap l3 xs3) (hx1 : xs1[k]? = some x1) (hx2 : xs2[k]? = some x2) (hx3 : xs3[k]? = some x3)
    (hQ : ∀ h', IsZip h' z TI TO (rawInt s.heap.objs.size) → IsTp h' TO #[x1, x2, x3] → IA t1 h' i1 l1 (k + 1) → IA t2 h' i2 l2 (k + 1) → IA t3 h' i3 l3 (k + 1) → IsTp h' s.heap.objs.size #[x1, x2, x3] → h'.objs.size = s.heap.objs.size + 1 →
      (∀ c o, c ≠ z → c ≠ TO → c ≠ i1 → c ≠ i2 → c ≠ i3 → s.heap.get? c = some o → h'.get? c = some o) → Q (some (.ref s.heap.objs.size)) { s with heap := h' }) : wpAny (model prog w) A (pyNext (.ref z)) Q E s := by
  have hT : s.TypeIs (.ref z) "zip" := ⟨_, hz, rfl⟩
  unfold pyNext
  exact wpAny_bind (wpAny_attempt (wpAny_callSpecial?_slot (name := Str.ofString "__next__") hT F.slot_zip_next
    (wpAny_call_entry F.slot_zip_next hT F.entry_zip_next
      (zip_item3 D hz hTI hTO h1 h2 h3 hl1 hl2 hl3 hx1 hx2 hx3 fun h' b0 b1 b2 b3 b4 b5 b6 b7 => wpAny_pure (hQ h' b0 b1 b2 b3 b4 b5 b6 b7)) (F.args_zip_next_1 _))))
theorem py_end3 {t1 t2 t3 : Bool} {z TI TO i1 i2 i3 l1 l2 l3 : Addr} {k : Nat} {xs1 xs2 xs3 : Array Value} {a1 a2 a3 : Value} {Q : Option Value → Shared → Prop} (hh : A.handled = none) (D : Ap3 z TI TO i1 i2 i3 l1 l2 l3)
    (hz : IsZip s.heap z TI TO .none) (hTI : IsTp s.heap TI #[.ref i1, .ref i2, .ref i3]) (hTO : IsTp s.heap TO #[a1, a2, a3])
    (h1 : IA t1 s.heap i1 l1 k) (h2 : IA t2 s.heap i2 l2 k) (h3 : IA t3 s.heap i3 l3 k) (hl1 : SA t1 s.heap l1 xs1) (hl2 : SA t2 s.heap l2 xs2) (hl3 : SA t3 s.heap l3 xs3) (hend : xs1[k]? = none ∨ xs2[k]? = none ∨ xs3[k]? = none)
    (hQ : ∀ h', (∀ c o, c ≠ z → c ≠ TO → c ≠ i1 → c ≠ i2 → c ≠ i3 → s.heap.get? c = some o → h'.get? c = some o) → Q none { s with heap := h' }) : wpAny (model prog w) A (pyNext (.ref z)) Q E s := by
  have hT : s.TypeIs (.ref z) "zip" := ⟨_, hz, rfl⟩
  unfold pyNext
  refine wpAny_bind (wpAny_attempt (wpAny_callSpecial?_slot (name := Str.ofString "__next__") hT F.slot_zip_next
    (wpAny_call_entry F.slot_zip_next hT F.entry_zip_next (zip_end3 hh D hz hTI hTO h1 h2 h3 hl1 hl2 hl3 hend fun h' e hk he => ?_) (F.args_zip_next_1 _))))
  obtain ⟨o, ho, hc⟩ := he
  refine wpAny_bind (wpAny_isInstance (T := "StopIteration") (b := true) ⟨o, ho, hc⟩ isSubtype_stop ?_)
  exact wpAny_pure (hQ _ hk)
end
abbrev zH3_1 (h : Heap) (t1 : Bool) (l1 : Addr) : Heap := Heap.push h (itO t1 l1)
abbrev zH3_2 (h : Heap) (t1 : Bool) (l1 : Addr) (t2 : Bool) (l2 : Addr) : Heap := Heap.push (zH3_1 h t1 l1) (itO t2 l2)
abbrev zH3_3 (h : Heap) (t1 : Bool) (l1 : Addr) (t2 : Bool) (l2 : Addr) (t3 : Bool) (l3 : Addr) : Heap := Heap.push (zH3_2 h t1 l1 t2 l2) (itO t3 l3)
abbrev zH3_4 (h : Heap) (t1 : Bool) (l1 : Addr) (t2 : Bool) (l2 : Addr) (t3 : Bool) (l3 : Addr) : Heap := Heap.push (zH3_3 h t1 l1 t2 l2 t3 l3) { cls := .type "tuple", data := .seq #[.ref h.objs.size, .ref (zH3_1 h t1 l1).objs.size, .ref (zH3_2 h t1 l1 t2 l2).objs.size] }
abbrev zH3_5 (h : Heap) (t1 : Bool) (l1 : Addr) (t2 : Bool) (l2 : Addr) (t3 : Bool) (l3 : Addr) : Heap := Heap.push (zH3_4 h t1 l1 t2 l2 t3 l3) { cls := .type "tuple", data := .seq #[.none, .none, .none] }
abbrev zH3_6 (h : Heap) (t1 : Bool) (l1 : Addr) (t2 : Bool) (l2 : Addr) (t3 : Bool) (l3 : Addr) : Heap := Heap.push (zH3_5 h t1 l1 t2 l2 t3 l3) { cls := .type "zip", data := .fields #[.none, .bool false, .bool false, .ref (zH3_3 h t1 l1 t2 l2 t3 l3).objs.size, .ref (zH3_4 h t1 l1 t2 l2 t3 l3).objs.size] }
theorem meets_zip3 (t1 : Bool) (l1 : Addr) (t2 : Bool) (l2 : Addr) (t3 : Bool) (l3 : Addr) (xs1 : Array Value) (xs2 : Array Value) (xs3 : Array Value) :
    Meets (Builtin.«zip.__new__» ⟨[.type "zip", .ref l1, .ref l2, .ref l3], []⟩) (fun _ R s => SA t1 s.heap l1 xs1 ∧ SA t2 s.heap l2 xs2 ∧ SA t3 s.heap l3 xs3 ∧
      R (.ok (.ret (.ref (zH3_5 s.heap t1 l1 t2 l2 t3 l3).objs.size))) { s with heap := zH3_6 s.heap t1 l1 t2 l2 t3 l3 }) :=
  .of_wp fun prog w A R s h => by
    obtain ⟨hp, g, d, tk, os⟩ := s; obtain ⟨hl1, hl2, hl3, h⟩ := h
    have hsub := sub_zip
    have hL1 : SA t1 (Shared.heap ⟨hp, g, d, tk, os⟩) l1 xs1 := hl1.at fun o e => e
    have hL2 : SA t2 (Shared.heap ⟨(Heap.push hp (itO t1 l1)), g, d, tk, os⟩) l2 xs2 := hl2.at fun o e => (Heap.get?_push_of_some _ e)
    have hL3 : SA t3 (Shared.heap ⟨(Heap.push (Heap.push hp (itO t1 l1)) (itO t2 l2)), g, d, tk, os⟩) l3 xs3 := hl3.at fun o e => (Heap.get?_push_of_some _ (Heap.get?_push_of_some _ e))
    wp_walk using iter_k hL1, iter_k hL2, iter_k hL3
    exact ⟨_, rfl, h⟩
section
variable {prog : Program} {w : World} {A : Around} {E : Value → Shared → Prop} {s : Shared}
theorem call_zip3 {t1 t2 t3 : Bool} {l1 l2 l3 : Addr} {xs1 xs2 xs3 : Array Value} {Q : Value → Shared → Prop} (hl1 : SA t1 s.heap l1 xs1) (hl2 : SA t2 s.heap l2 xs2) (hl3 : SA t3 s.heap l3 xs3)
    (h : ∀ h', IsZip h' (s.heap.objs.size + 5) (s.heap.objs.size + 3) (s.heap.objs.size + 4) .none → IsTp h' (s.heap.objs.size + 3) #[.ref s.heap.objs.size, .ref (s.heap.objs.size + 1), .ref (s.heap.objs.size + 2)] → IsTp h' (s.heap.objs.size + 4) #[.none, .none, .none] → IA t1 h' s.heap.objs.size l1 0 → IA t2 h' (s.heap.objs.size + 1) l2 0 → IA t3 h' (s.heap.objs.size + 2) l3 0 → h'.objs.size = s.heap.objs.size + 6 →
      (∀ c o, s.heap.get? c = some o → h'.get? c = some o) → Q (.ref (s.heap.objs.size + 5)) { s with heap := h' }) :
    wpAny (model prog w) A (call (.type "zip") [.ref l1, .ref l2, .ref l3]) Q E s := by
  refine callType_new F.called_zip (by decide) (typeCall_zip_3 _ _ _) (newCall_zip_3 _ _ _) (fun obj => args_object_init_4 obj _ _ _) F.entry_zip_new
    (meets_zip3 t1 l1 t2 l2 t3 l3 xs1 xs2 xs3) ⟨hl1, hl2, hl3, ?_⟩
  have z1 : (zH3_1 s.heap t1 l1).objs.size = s.heap.objs.size + 1 := Heap.size_push ..
  have z2 : (zH3_2 s.heap t1 l1 t2 l2).objs.size = s.heap.objs.size + 2 := by rw [Heap.size_push, z1]
  have z3 : (zH3_3 s.heap t1 l1 t2 l2 t3 l3).objs.size = s.heap.objs.size + 3 := by rw [Heap.size_push, z2]
  have z4 : (zH3_4 s.heap t1 l1 t2 l2 t3 l3).objs.size = s.heap.objs.size + 4 := by rw [Heap.size_push, z3]
  have z5 : (zH3_5 s.heap t1 l1 t2 l2 t3 l3).objs.size = s.heap.objs.size + 5 := by rw [Heap.size_push, z4]
  have z6 : (zH3_6 s.heap t1 l1 t2 l2 t3 l3).objs.size = s.heap.objs.size + 6 := by rw [Heap.size_push, z5]
  have g6 : (zH3_6 s.heap t1 l1 t2 l2 t3 l3).get? (zH3_5 s.heap t1 l1 t2 l2 t3 l3).objs.size = some _ := Heap.get?_push_size _ rfl
  have g5 : (zH3_6 s.heap t1 l1 t2 l2 t3 l3).get? (zH3_4 s.heap t1 l1 t2 l2 t3 l3).objs.size = some _ := Heap.get?_push_of_some _ (Heap.get?_push_size _ rfl)
  have g4 : (zH3_6 s.heap t1 l1 t2 l2 t3 l3).get? (zH3_3 s.heap t1 l1 t2 l2 t3 l3).objs.size = some _ := Heap.get?_push_of_some _ (Heap.get?_push_of_some _ (Heap.get?_push_size _ rfl))
  have g3 : (zH3_6 s.heap t1 l1 t2 l2 t3 l3).get? (zH3_2 s.heap t1 l1 t2 l2).objs.size = some _ := Heap.get?_push_of_some _ (Heap.get?_push_of_some _ (Heap.get?_push_of_some _ (Heap.get?_push_size _ rfl)))
  have g2 : (zH3_6 s.heap t1 l1 t2 l2 t3 l3).get? (zH3_1 s.heap t1 l1).objs.size = some _ := Heap.get?_push_of_some _ (Heap.get?_push_of_some _ (Heap.get?_push_of_some _ (Heap.get?_push_of_some _ (Heap.get?_push_size _ rfl))))
  have g1 : (zH3_6 s.heap t1 l1 t2 l2 t3 l3).get? s.heap.objs.size = some _ := Heap.get?_push_of_some _ (Heap.get?_push_of_some _ (Heap.get?_push_of_some _ (Heap.get?_push_of_some _ (Heap.get?_push_of_some _ (Heap.get?_push_size _ rfl)))))
  show _ ∧ _
  rw [z3, z4, z5] at g6
  rw [z4] at g5
  rw [z1, z2, z3] at g4
  rw [z1] at g2
  rw [z2] at g3
  rw [z5]
  exact ⟨⟨_, g6, rfl⟩, h _ g6 g4 g5 (itO_at g1) (itO_at g2) (itO_at g3) z6 fun c o x => (Heap.get?_push_of_some _ (Heap.get?_push_of_some _ (Heap.get?_push_of_some _ (Heap.get?_push_of_some _ (Heap.get?_push_of_some _ (Heap.get?_push_of_some _ x))))))⟩
end
theorem ap3 (I l1 l2 l3 : Nat) (h1 : l1 < I) (h2 : l2 < I) (h3 : l3 < I) : Ap3 (I + 5) (I + 3) (I + 4) I (I + 1) (I + 2) l1 l2 l3 := by
  constructor <;> (refine PySem.W.neN ?_; omega)
/-- what stands there at each turn, the items in new tuples -/
def It3 (K : PySem.W.Frag) (t1 t2 t3 : Bool) (l1 l2 l3 : Addr) : It :=
  ⟨fun i H => ∃ (xs1 xs2 xs3 : List V) (x1 x2 x3 : V), SqK t1 K H l1 xs1 ∧ SqK t2 K H l2 xs2 ∧ SqK t3 K H l3 xs3 ∧ xs1[i]? = some x1 ∧ xs2[i]? = some x2 ∧ xs3[i]? = some x3,
    fun i H v H' => ∃ T x1 x2 x3, v = .ref T ∧ H T = none ∧ H' = upd H T (.tup [x1, x2, x3]) ∧ (∀ xs, SqK t1 K H l1 xs → xs[i]? = some x1) ∧ (∀ xs, SqK t2 K H l2 xs → xs[i]? = some x2) ∧ (∀ xs, SqK t3 K H l3 xs → xs[i]? = some x3),
    fun i H => ∃ xs1 xs2 xs3 : List V, SqK t1 K H l1 xs1 ∧ SqK t2 K H l2 xs2 ∧ SqK t3 K H l3 xs3 ∧ (xs1.length ≤ i ∨ xs2.length ≤ i ∨ xs3.length ≤ i)⟩
theorem turn3 {P : Program} {w : World} {K : PySem.W.Frag} {elts : List Expr} {kk : Nat} {tpos : Pos} {t1 t2 t3 : Bool} {l1 l2 l3 z TI TO i1 i2 i3 : Addr} (D : Ap3 z TI TO i1 i2 i3 l1 l2 l3) :
    Turn P w K (.Tuple elts kk tpos) (It3 K t1 t2 t3 l1 l2 l3) [z, TI, TO, i1, i2, i3] z (fun i h => IsZip h z TI TO .none ∧ IsTp h TI #[.ref i1, .ref i2, .ref i3] ∧ (∃ a1 a2 a3, IsTp h TO #[a1, a2, a3]) ∧ IA t1 h i1 l1 i ∧ IA t2 h i2 l2 i ∧ IA t3 h i3 l3 i) where
  mem := by simp
  obj := fun i h st c hc => by
    obtain ⟨hz, hTI, ⟨a1, a2, a3, hTO⟩, h1, h2, h3⟩ := st
    have e' : c = z ∨ c = TI ∨ c = TO ∨ c = i1 ∨ c = i2 ∨ c = i3 := by simpa using hc
    rcases e' with q | q | q | q | q | q
    · rw [q]; exact ⟨_, hz, fun v q => nomatch q⟩
    · rw [q]; exact ⟨_, hTI, fun v q => nomatch q⟩
    · rw [q]; exact ⟨_, hTO, fun v q => nomatch q⟩
    · obtain ⟨o1, e1, d1⟩ := h1.get
      rw [q]; exact ⟨o1, e1, fun v q => by rw [d1] at q; cases q⟩
    · obtain ⟨o1, e1, d1⟩ := h2.get
      rw [q]; exact ⟨o1, e1, fun v q => by rw [d1] at q; cases q⟩
    · obtain ⟨o1, e1, d1⟩ := h3.get
      rw [q]; exact ⟨o1, e1, fun v q => by rw [d1] at q; cases q⟩
  keep := fun i h h' st k => by
    obtain ⟨hz, hTI, ⟨a1, a2, a3, hTO⟩, h1, h2, h3⟩ := st
    exact ⟨k z (by simp) _ hz, k TI (by simp) _ hTI, ⟨a1, a2, a3, k TO (by simp) _ hTO⟩, h1.at fun o q => k i1 (by simp) o q, h2.at fun o q => k i2 (by simp) o q, h3.at fun o q => k i3 (by simp) o q⟩
  item := by
    intro X hP hw hK hc i pins s σ H E I hf st hg
    subst hP hw hK
    obtain ⟨hz, hTI, ⟨a1, a2, a3, hTO⟩, h1, h2, h3⟩ := st
    obtain ⟨xs1, xs2, xs3, x1, x2, x3, hq1, hq2, hq3, hx1, hx2, hx3⟩ := hg
    obtain ⟨its1, rv1, p1, _⟩ := inv_sq I hq1
    obtain ⟨its2, rv2, p2, _⟩ := inv_sq I hq2
    obtain ⟨its3, rv3, p3, _⟩ := inv_sq I hq3
    obtain ⟨u1, hu1, ru1⟩ := rv1.get hx1
    obtain ⟨u2, hu2, ru2⟩ := rv2.get hx2
    obtain ⟨u3, hu3, ru3⟩ := rv3.get hx3
    have hzl : z < s.heap.objs.size := Heap.lt_size hz
    refine py_item3 D hz hTI hTO h1 h2 h3 p1 p2 p3 (x1 := u1) (x2 := u2) (x3 := u3) (by simpa using hu1) (by simpa using hu2) (by simpa using hu3) fun h' z' TO' h1' h2' h3' hT hsz hk => ?_
    refine ⟨_, rfl, wpAny_letOwnedTupleGo_zip (s := { s with heap := h' }) z' fun h'' z'' sb => ?_⟩
    have hT2 : h''.get? s.heap.objs.size = some { cls := .type "tuple", data := .seq #[u1, u2, u3] } := (sb.2 _ (Nat.ne_of_gt hzl)).trans hT
    have new : ObjOk X.prog X.w (upd H s.heap.objs.size (.tup [x1, x2, x3])) h'' s.heap.objs.size (.tup [x1, x2, x3]) :=
      ⟨by show 3 ≤ sizeLine; decide, [u1, u2, u3], .cons ru1 (.cons ru2 (.cons ru3 .nil)), ⟨_, hT2, rfl, _, rfl⟩⟩
    have I1 : Inv X pins σ (upd H s.heap.objs.size (.tup [x1, x2, x3])) { s with heap := h'' } :=
      I.turnedNew (t' := s.toks) (ch := [z, TI, TO, i1, i2, i3]) (fun c o hb q => (sb.2 c (fun q' => hb (by simp [q']))).trans (hk c o (fun q' => hb (by simp [q'])) (fun q' => hb (by simp [q'])) (fun q' => hb (by simp [q'])) (fun q' => hb (by simp [q'])) (fun q' => hb (by simp [q'])) q)) hf (Nat.le_refl _) new
    refine ⟨.ref s.heap.objs.size, _, I1, rfl, ⟨_, x1, x2, x3, rfl, I.hok.fresh (Nat.le_refl _), rfl, fun l hl => by rw [sq_inj I hl hq1]; exact hx1, fun l hl => by rw [sq_inj I hl hq2]; exact hx2, fun l hl => by rw [sq_inj I hl hq3]; exact hx3⟩, ⟨z'', ?_, ⟨u1, u2, u3, ?_⟩, ?_, ?_, ?_⟩, fun c hcm => ?_⟩
    · obtain ⟨zTI, zTO, zi1, zi2, zi3, TITO, TIi1, TIi2, TIi3, TOi1, TOi2, TOi3, i1i2, i1i3, i2i3, l1z, l1TO, l1i1, l1i2, l1i3, l2z, l2TO, l2i1, l2i2, l2i3, l3z, l3TO, l3i1, l3i2, l3i3⟩ := D
      exact (sb.2 _ (by first | assumption | (apply Ne.symm; assumption))).trans (hk _ _ (by first | assumption | (apply Ne.symm; assumption)) (by first | assumption | (apply Ne.symm; assumption)) (by first | assumption | (apply Ne.symm; assumption)) (by first | assumption | (apply Ne.symm; assumption)) (by first | assumption | (apply Ne.symm; assumption)) hTI)
    · obtain ⟨zTI, zTO, zi1, zi2, zi3, TITO, TIi1, TIi2, TIi3, TOi1, TOi2, TOi3, i1i2, i1i3, i2i3, l1z, l1TO, l1i1, l1i2, l1i3, l2z, l2TO, l2i1, l2i2, l2i3, l3z, l3TO, l3i1, l3i2, l3i3⟩ := D
      exact (sb.2 _ (by first | assumption | (apply Ne.symm; assumption))).trans TO'
    · obtain ⟨zTI, zTO, zi1, zi2, zi3, TITO, TIi1, TIi2, TIi3, TOi1, TOi2, TOi3, i1i2, i1i3, i2i3, l1z, l1TO, l1i1, l1i2, l1i3, l2z, l2TO, l2i1, l2i2, l2i3, l3z, l3TO, l3i1, l3i2, l3i3⟩ := D
      exact h1'.at fun o q => (sb.2 _ (by first | assumption | (apply Ne.symm; assumption))).trans q
    · obtain ⟨zTI, zTO, zi1, zi2, zi3, TITO, TIi1, TIi2, TIi3, TOi1, TOi2, TOi3, i1i2, i1i3, i2i3, l1z, l1TO, l1i1, l1i2, l1i3, l2z, l2TO, l2i1, l2i2, l2i3, l3z, l3TO, l3i1, l3i2, l3i3⟩ := D
      exact h2'.at fun o q => (sb.2 _ (by first | assumption | (apply Ne.symm; assumption))).trans q
    · obtain ⟨zTI, zTO, zi1, zi2, zi3, TITO, TIi1, TIi2, TIi3, TOi1, TOi2, TOi3, i1i2, i1i3, i2i3, l1z, l1TO, l1i1, l1i2, l1i3, l2z, l2TO, l2i1, l2i2, l2i3, l3z, l3TO, l3i1, l3i2, l3i3⟩ := D
      exact h3'.at fun o q => (sb.2 _ (by first | assumption | (apply Ne.symm; assumption))).trans q
    · have hlt : c < s.heap.objs.size := by
        have e' : c = z ∨ c = TI ∨ c = TO ∨ c = i1 ∨ c = i2 ∨ c = i3 := by simpa using hcm
        rcases e' with q | q | q | q | q | q
        · rw [q]; exact hzl
        · rw [q]; exact Heap.lt_size hTI
        · rw [q]; exact Heap.lt_size hTO
        · rw [q]; obtain ⟨_, e1, _⟩ := h1.get; exact Heap.lt_size e1
        · rw [q]; obtain ⟨_, e1, _⟩ := h2.get; exact Heap.lt_size e1
        · rw [q]; obtain ⟨_, e1, _⟩ := h3.get; exact Heap.lt_size e1
      rw [upd_ne (Nat.ne_of_lt hlt)]
      exact (hf c hcm).1
  done := by
    intro X hP hw hK hc i pins s σ H E I hf st hg
    subst hP hw hK
    obtain ⟨hz, hTI, ⟨a1, a2, a3, hTO⟩, h1, h2, h3⟩ := st
    obtain ⟨xs1, xs2, xs3, hq1, hq2, hq3, hend⟩ := hg
    obtain ⟨its1, rv1, p1, _⟩ := inv_sq I hq1
    have len1 := rv1.length
    obtain ⟨its2, rv2, p2, _⟩ := inv_sq I hq2
    have len2 := rv2.length
    obtain ⟨its3, rv3, p3, _⟩ := inv_sq I hq3
    have len3 := rv3.length
    have he : its1.toArray[i]? = none ∨ its2.toArray[i]? = none ∨ its3.toArray[i]? = none := by
      rcases hend with q | q | q
      · have e : its1.toArray[i]? = none := by simp; omega
        simp [e]
      · have e : its2.toArray[i]? = none := by simp; omega
        simp [e]
      · have e : its3.toArray[i]? = none := by simp; omega
        simp [e]
    exact py_end3 (I.ok.hd hc) D hz hTI hTO h1 h2 h3 p1 p2 p3 he fun h' hk => ⟨rfl, I.turnedL (t' := s.toks) (ch := [z, TI, TO, i1, i2, i3]) (fun c o hb q =>
      hk c o (fun q' => hb (by simp [q'])) (fun q' => hb (by simp [q'])) (fun q' => hb (by simp [q'])) (fun q' => hb (by simp [q'])) (fun q' => hb (by simp [q'])) q) hf⟩
  self := fun A i s Q E st h => wpAny_pyIter_zip st.1 h
def iZk3 (K : PySem.W.Frag) (ta : TA) : TI := fun σ H R => ta σ H fun vs H1 => ∃ (t1 t2 t3 : Bool) (l1 l2 l3 : Addr) (xs1 xs2 xs3 : List V), vs = [.ref l1, .ref l2, .ref l3] ∧ SqK t1 K H1 l1 xs1 ∧ SqK t2 K H1 l2 xs2 ∧ SqK t3 K H1 l3 xs3 ∧ R (It3 K t1 t2 t3 l1 l2 l3) H1
theorem pi_zk3 {X : Cx} {e1 e2 e3 : Expr} {ta : TA} {p pos tpos : Pos} {elts : List Expr} {kk : Nat} (hg : Gl X "zip") (hm : X.mg "zip" = none) (ha : PA X [e1, e2, e3] ta)
    (hs : starEach [e1, e2, e3] X.env = (false, eval e1 X.env) :: starEach [e2, e3] X.env := by rfl) (hpl : (backTo pos (starEach [e2, e3] X.env)).any (·.1) = false := by rfl) :
    PI X (.Tuple elts kk tpos) (.Call (.Name "zip" p) [e1, e2, e3] [] pos) (iZk3 X.K ta) := by
  refine ⟨fun pins s σ H R I h => ?_⟩
  refine Call_ (ld_blt I hg hm PyProof.Rows.boot_zip (PyProof.Rows.callWith_type1 (thn (ha.run pos pins s σ H _ I h) fun us s1 ⟨vs, H1, I1, r1, q1⟩ => ?_) hs hpl))
  obtain ⟨t1, t2, t3, l1, l2, l3, xs1, xs2, xs3, ex, hq1, hq2, hq3, q⟩ := q1
  subst ex
  cases r1 with
  | cons ra1 rb1 =>
    cases rb1 with
    | cons ra2 rb2 =>
      cases rb2 with
      | cons ra3 rb3 =>
        cases rb3
        cases ra1
        cases ra2
        cases ra3
        have fresh : ∀ c, c ∈ [s1.heap.objs.size + 5, s1.heap.objs.size + 3, s1.heap.objs.size + 4, s1.heap.objs.size, s1.heap.objs.size + 1, s1.heap.objs.size + 2] → FpOk X pins H1 c := fun c hcm => by
          have hle : s1.heap.objs.size ≤ c := by
            simp only [List.mem_cons, List.not_mem_nil, or_false] at hcm
            omega
          exact I1.fpOk hle (I1.hok.fresh hle)
        obtain ⟨its1, rv1, p1, _⟩ := inv_sq I1 hq1
        obtain ⟨its2, rv2, p2, _⟩ := inv_sq I1 hq2
        obtain ⟨its3, rv3, p3, _⟩ := inv_sq I1 hq3
        refine call_zip3 p1 p2 p3 fun h' hz hTI hTO h1 h2 h3 hsz hk => wpAny_pyIter_zip hz ?_
        have I2 : Inv X pins σ H1 { s1 with heap := h' } := I1.kept (t' := s1.toks) hk
        exact ⟨s1.heap.objs.size + 5, [s1.heap.objs.size + 5, s1.heap.objs.size + 3, s1.heap.objs.size + 4, s1.heap.objs.size, s1.heap.objs.size + 1, s1.heap.objs.size + 2], _, _, H1, rfl, I2, turn3 (ap3 s1.heap.objs.size l1 l2 l3 p1.lt p2.lt p3.lt), ⟨hz, hTI, ⟨_, _, _, hTO⟩, h1, h2, h3⟩, fresh, q⟩
end ZK

set_option Elab.async false
set_option linter.all false
set_option maxRecDepth 100000
set_option maxHeartbeats 4000000
set_option autoImplicit false
/-! zip of two or three lists or tuples, kinds mixed: the rules -/
namespace PL
open PySem L2
section
variable {X : Cx} {C : PCx} {e a b c o : Expr} {es : List Expr} {pa pb pc po pe : PTE} {ta : PTA} {pos p : Pos} {K : PySem.W.Frag} {w : Own} {σ : St} {τ : Tmp} {S : Sl} {H : Hp} {id : String}
def sqD : PyData → Option (Bool × List PyData)
  | .list ds => some (false, ds)
  | .tuple ds => some (true, ds)
  | _ => none
theorem Abs0.sqk {j : Nat} {v : V} {d : PyData} {t : Bool} {ds : List PyData} (A : Abs0 K C w σ τ S H) (h : τ[j]? = some (v, .v (.p d))) (hd : sqD d = some (t, ds)) : ∃ ad xs, v = .ref ad ∧ ZK.SqK t K H ad xs ∧ RdL K (msk H w) xs ds := by
  cases d <;> cases hd
  · obtain ⟨ad, xs, h1, h2, h3⟩ := A.lst h
    exact ⟨ad, xs, h1, h2, h3⟩
  · obtain ⟨ad, xs, h1, h2, h3⟩ := A.tpl h
    exact ⟨ad, xs, h1, h2, h3⟩
theorem seq_zk2 {v u : V} {d e : PyData} {t t' : Bool} {ds es : List PyData} {ad bd : Addr} (hd : sqD d = some (t, ds)) (he : sqD e = some (t', es)) (hv : v = .ref ad) (hu : u = .ref bd) : SeqOk K C (ZK.It2 K t t' ad bd) [(v, .v (.p d)), (u, .v (.p e))] (zipD ds es) := fun τ τ' σ S H A => by
  obtain ⟨w, A0⟩ := id A
  obtain ⟨ad', xs, e1, hq, r⟩ := A0.sqk (j := τ.length) (v := v) (d := d) (by simp) hd
  obtain ⟨bd', ys, e2, hq', r'⟩ := A0.sqk (j := τ.length + 1) (v := u) (d := e) (by simp) he
  rw [hv] at e1; cases e1
  rw [hu] at e2; cases e2
  refine ⟨fun i d h => ?_, ⟨_, _, hq, hq', by rw [zipD_len, r.length, r'.length]; omega⟩⟩
  obtain ⟨d1, d2, h1, h2, rfl⟩ := zipD_at h
  obtain ⟨x, hx, rx⟩ := r.get h1
  obtain ⟨z, hz, rz⟩ := r'.get h2
  refine ⟨⟨_, _, x, z, hq, hq', hx, hz⟩, fun y H' hy => ?_⟩
  obtain ⟨T', x', z', rfl, hT, rfl, hy, hy'⟩ := hy
  have := hy _ hq
  rw [hx] at this
  cases this
  have := hy' _ hq'
  rw [hz] at this
  cases this
  have ex : Evl.Ex H (upd H T' (.tup [x, z])) := Evl.Ex.new hT
  have hw := A0.ow.free hT
  have me : Evl.Ex (msk H w) (msk (upd H T' (.tup [x, z])) w) := msk_mono fun b u h1 h2 => ⟨h1, ex b u h2⟩
  exact ⟨w, (A0.grow ex).push (.tup (.inl (.inl (by rw [msk_none hw]; exact upd_same))) (.cons (rx.mono me) (.cons (rz.mono me) .nil)))⟩
def iZpM (a b : PTE) : PTI := fun S G => a S fun x S1 => b S1 fun y S2 => match x, y with
  | .v (.p d), .v (.p e) => match sqD d, sqD e with
    | some (_, ds), some (_, es) => G (zipD ds es) S2
    | _, _ => False
  | _, _ => False
theorem qi_zipM {elts : List Expr} {kk : Nat} {tpos : Pos} (hm : X.mg "zip" = none) (ha : QE X C a pa) (hb : QE X C b pb) (hg : Gl X "zip" := by rfl) (hs : starEach [a, b] X.env = (false, eval a X.env) :: starEach [b] X.env := by rfl) (hs2 : starEach [b] X.env = [(false, eval b X.env)] := by rfl)
    (hpl : (backTo pos (starEach [b] X.env)).any (·.1) = false := by rfl) : QI X C (.Tuple elts kk tpos) (.Call (.Name "zip" p) [a, b] [] pos) (iZpM pa pb) := by
  obtain ⟨ta, h1, f1⟩ := ha
  obtain ⟨tb, h2, f2⟩ := hb
  refine ⟨_, ZK.pi_zk2 hg hm (pa_cons h1 (pa_cons h2 pa_nil hs2) hs) hs hpl, fun τ S σ H G Rr A hp k => ?_⟩
  refine f1 τ S σ H _ _ A hp fun v H1 x S1 q1 A1 => ?_
  refine f2 _ S1 σ H1 _ _ A1 q1 fun u H2 y S2 q2 A2 => ?_
  try dsimp only at q2
  split at q2
  · next d e =>
    split at q2
    · next t ds t' es hd he =>
      obtain ⟨w, A0⟩ := id A2
      obtain ⟨ad, xs, rfl, hq, r⟩ := A0.sqk (j := τ.length) (v := v) (d := d) (by simp) hd
      obtain ⟨bd, ys, rfl, hq', r'⟩ := A0.sqk (j := τ.length + 1) (v := u) (d := e) (by simp) he
      rw [List.append_assoc] at A2
      exact ⟨t, t', ad, bd, xs, ys, rfl, hq, hq', k _ H2 _ _ S2 (fun x hx => by simp at hx; rcases hx with rfl | rfl <;> rfl) q2 A2 (seq_zk2 hd he rfl rfl)⟩
    · exact q2.elim
  · exact q2.elim
/-! ### three -/
def zip3D (ds es fs : List PyData) : List PyData := (ds.zip (es.zip fs)).map fun q => .tuple [q.1, q.2.1, q.2.2]
theorem zip3D_len (ds es fs : List PyData) : (zip3D ds es fs).length = min ds.length (min es.length fs.length) := by unfold zip3D; rw [List.length_map, List.length_zip, List.length_zip]
theorem zip3D_at {ds es fs : List PyData} {i : Nat} {d : PyData} (h : (zip3D ds es fs)[i]? = some d) : ∃ x y z, ds[i]? = some x ∧ es[i]? = some y ∧ fs[i]? = some z ∧ d = .tuple [x, y, z] := by
  unfold zip3D at h
  rw [List.getElem?_map] at h
  obtain ⟨⟨x, y, z⟩, h1, rfl⟩ := Option.map_eq_some_iff.mp h
  rw [List.getElem?_zip_eq_some, List.getElem?_zip_eq_some] at h1
  exact ⟨x, y, z, h1.1, h1.2.1, h1.2.2, rfl⟩
theorem seq_zk3 {v1 v2 v3 : V} {d1 d2 d3 : PyData} {t1 t2 t3 : Bool} {ds es fs : List PyData} {l1 l2 l3 : Addr} (hd1 : sqD d1 = some (t1, ds)) (hd2 : sqD d2 = some (t2, es)) (hd3 : sqD d3 = some (t3, fs)) (hv1 : v1 = .ref l1) (hv2 : v2 = .ref l2) (hv3 : v3 = .ref l3) :
    SeqOk K C (ZK.It3 K t1 t2 t3 l1 l2 l3) [(v1, .v (.p d1)), (v2, .v (.p d2)), (v3, .v (.p d3))] (zip3D ds es fs) := fun τ τ' σ S H A => by
  obtain ⟨w, A0⟩ := id A
  obtain ⟨a1, xs, e1, hq1, r1⟩ := A0.sqk (j := τ.length) (v := v1) (d := d1) (by simp) hd1
  obtain ⟨a2, ys, e2, hq2, r2⟩ := A0.sqk (j := τ.length + 1) (v := v2) (d := d2) (by simp) hd2
  obtain ⟨a3, zs, e3, hq3, r3⟩ := A0.sqk (j := τ.length + 2) (v := v3) (d := d3) (by simp) hd3
  rw [hv1] at e1; cases e1
  rw [hv2] at e2; cases e2
  rw [hv3] at e3; cases e3
  refine ⟨fun i d h => ?_, ⟨_, _, _, hq1, hq2, hq3, by rw [zip3D_len, r1.length, r2.length, r3.length]; omega⟩⟩
  obtain ⟨x0, y0, z0, h1, h2, h3, rfl⟩ := zip3D_at h
  obtain ⟨x, hx, rx⟩ := r1.get h1
  obtain ⟨y, hy, ry⟩ := r2.get h2
  obtain ⟨z, hz, rz⟩ := r3.get h3
  refine ⟨⟨_, _, _, x, y, z, hq1, hq2, hq3, hx, hy, hz⟩, fun q H' hh => ?_⟩
  obtain ⟨T', x', y', z', rfl, hT, rfl, g1, g2, g3⟩ := hh
  have := g1 _ hq1
  rw [hx] at this
  cases this
  have := g2 _ hq2
  rw [hy] at this
  cases this
  have := g3 _ hq3
  rw [hz] at this
  cases this
  have ex : Evl.Ex H (upd H T' (.tup [x, y, z])) := Evl.Ex.new hT
  have hw := A0.ow.free hT
  have me : Evl.Ex (msk H w) (msk (upd H T' (.tup [x, y, z])) w) := msk_mono fun b u h1 h2 => ⟨h1, ex b u h2⟩
  exact ⟨w, (A0.grow ex).push (.tup (.inl (.inl (by rw [msk_none hw]; exact upd_same))) (.cons (rx.mono me) (.cons (ry.mono me) (.cons (rz.mono me) .nil))))⟩
def iZp3 (a b c : PTE) : PTI := fun S G => a S fun x S1 => b S1 fun y S2 => c S2 fun z S3 => match x, y, z with
  | .v (.p d), .v (.p e), .v (.p f) => match sqD d, sqD e, sqD f with
    | some (_, ds), some (_, es), some (_, fs) => G (zip3D ds es fs) S3
    | _, _, _ => False
  | _, _, _ => False
theorem qi_zip3 {elts : List Expr} {kk : Nat} {tpos : Pos} (hm : X.mg "zip" = none) (ha : QE X C a pa) (hb : QE X C b pb) (hc : QE X C c pc) (hg : Gl X "zip" := by rfl) (hs : starEach [a, b, c] X.env = (false, eval a X.env) :: starEach [b, c] X.env := by rfl) (hs2 : starEach [b, c] X.env = (false, eval b X.env) :: starEach [c] X.env := by rfl)
    (hs3 : starEach [c] X.env = [(false, eval c X.env)] := by rfl) (hpl : (backTo pos (starEach [b, c] X.env)).any (·.1) = false := by rfl) : QI X C (.Tuple elts kk tpos) (.Call (.Name "zip" p) [a, b, c] [] pos) (iZp3 pa pb pc) := by
  obtain ⟨ta, h1, f1⟩ := ha
  obtain ⟨tb, h2, f2⟩ := hb
  obtain ⟨tc, h3, f3⟩ := hc
  refine ⟨_, ZK.pi_zk3 hg hm (pa_cons h1 (pa_cons h2 (pa_cons h3 pa_nil hs3) hs2) hs) hs hpl, fun τ S σ H G Rr A hp k => ?_⟩
  refine f1 τ S σ H _ _ A hp fun v H1 x S1 q1 A1 => ?_
  refine f2 _ S1 σ H1 _ _ A1 q1 fun u H2 y S2 q2 A2 => ?_
  refine f3 _ S2 σ H2 _ _ A2 q2 fun u3 H3 z S3 q3 A3 => ?_
  try dsimp only at q3
  split at q3
  · next d e f =>
    split at q3
    · next t ds t' es t'' fs hd he hf =>
      obtain ⟨w, A0⟩ := id A3
      obtain ⟨ad, xs, rfl, hq, r⟩ := A0.sqk (j := τ.length) (v := v) (d := d) (by simp) hd
      obtain ⟨bd, ys, rfl, hq', r'⟩ := A0.sqk (j := τ.length + 1) (v := u) (d := e) (by simp) he
      obtain ⟨cd, zs, rfl, hq'', r''⟩ := A0.sqk (j := τ.length + 2) (v := u3) (d := f) (by simp) hf
      rw [List.append_assoc, List.append_assoc] at A3
      exact ⟨t, t', t'', ad, bd, cd, xs, ys, zs, rfl, hq, hq', hq'', k _ H3 _ _ S3 (fun x hx => by simp at hx; rcases hx with rfl | rfl | rfl <;> rfl) q3 A3 (seq_zk3 hd he hf rfl rfl rfl)⟩
    · exact q3.elim
  · exact q3.elim
end
end PL

set_option Elab.async false
set_option linter.all false
set_option maxRecDepth 100000
set_option maxHeartbeats 4000000
set_option autoImplicit false
/-! sorted(set(xs)), xs a list or a tuple of ints -/
namespace SS
open PySem PySem.Spec PyProof.Rows L2
theorem intsAre_of : ∀ {ns : List Int} {us : List Value}, Vals (ns.map V.int) us → IntsAre us ns
  | [], _, .nil => .nil
  | n :: ns, _, .cons r t => by
    obtain ⟨k, rfl⟩ := r
    exact .cons n k (intsAre_of t)
section
variable {P : Program} {w : World} {A : Around} {E : Value → Shared → Prop} {s : Shared}
theorem call_set_listI {l : Addr} {items : Array Value} (ns : List Int) {Q : Value → Shared → Prop} (hh : A.handled = none) (hl : s.heap.IsList l items) (hit : IntsAre items.toList ns) (hb : ns.length + 1 < scanBound)
    (h : ∀ (h' : Heap) (tk c : Nat), SetR w h' s.heap.objs.size (fun j => decide (j ∈ ns)) c → c ≤ ns.length → (∀ b o, s.heap.get? b = some o → h'.get? b = some o) → Q (.ref s.heap.objs.size) { s with heap := h', toks := tk }) :
    wpAny (model P w) A (call (.type "set") [.ref l]) Q E s := by
  have hn : items.size = ns.length := by
    have q := IntsAre.length hit
    rwa [Array.length_toList] at q
  obtain ⟨c, tl, hmro⟩ := F.called_set.mro
  have hmade := F.called_set.made
  have hsub := F.called_set.sub
  refine wpAny_call (codeAny_of_tree ?_)
  show wpAny _ _ (callAny (.type "set") _) _ _ _
  refine wpAny_pure ⟨Code.quiet_builtin _ (by decide +kernel), codeAny_builtin F.entry_type_call ?_⟩
  rw [Around.under_plain (weight_type_call_type "set" [.ref l] []) rfl]
  have h1 := F.called_set.notType
  have h2 := F.called_set.canCreate
  have hct := F.typeCall_set_1 (.ref l)
  repeat (any_goals (first | assumption | wp_step))
  generalize hO : ({ cls := .type "set", dict := none, data := .set #[] 0 (.fresh 0 0 (!w.params.followText "set-order")) } : Obj) = O
  refine codeAny_mono (code_set_led1 (.ref l) (E := E) (Q₁ := fun obj s₁ => obj = .ref s.heap.objs.size ∧ s₁ = { s with heap := s.heap.push O }) (by rw [hO]; exact ⟨rfl, rfl⟩)) fun r s₁ hr => ?_
  cases r with
  | error e => exact hr
  | ok fl =>
    cases fl with
    | ret obj =>
      obtain ⟨rfl, rfl⟩ := hr
      have hS : (s.heap.push O).get? s.heap.objs.size = some O := Heap.get?_push_size _ (by rw [← hO]; rfl)
      have hT : Shared.TypeIs { s with heap := s.heap.push O } (.ref s.heap.objs.size) "set" := ⟨_, hS, by rw [← hO]⟩
      have hli := F.called_set.init.lookup
      have hbi := F.called_set.init.bind (.ref s.heap.objs.size)
      repeat (any_goals (first | assumption | wp_step))
      refine codeAny_mono (codeAny_call_builtin (R := wants (fun r s₂ => r = .none ∧ ∃ h' tk c, s₂ = { s with heap := h', toks := tk } ∧ SetR w h' s.heap.objs.size (fun j => decide (j ∈ ns)) c ∧ c ≤ ns.length ∧
          (∀ b o, s.heap.get? b = some o → h'.get? b = some o)) E) F.called_set.init.plain F.entry_set_init (check_set_init_1 hT ?_)) fun r₂ s₂ hr₂ => ?_
      · obtain ⟨ol, hol, hcl, nl, hdl⟩ := hl
        obtain ⟨ocls, odict, odata, oslots⟩ := ol
        simp only at hcl hdl
        subst hcl; subst hdl
        have hol' : (s.heap.push O).get? l = some { cls := .type "list", dict := odict, data := .seq items nl, slots := oslots } := Heap.get?_push_of_some _ hol
        have hsls := F.sub_list_set
        have hslf := F.sub_list_frozenset
        have hne : (Value.type "list" == Value.type "dict") = false := by decide
        have hl1 : (s.heap.push O).IsList l items := ⟨_, hol', rfl, nl, rfl⟩
        subst hO
        unfold Builtin.«set.__init__» noKeywords Builtin.Frozenset.updateFrom
        generalize hPI : pyIter = PI
        wp_walk
        subst hPI
        refine wpAny_pyIter_list hl1 ?_
        refine wpAny_bind (wpAny_runValue ?_)
        generalize hO : ({ cls := .type "set", dict := none, data := .set #[] 0 (.fresh 0 0 (!w.params.followText "set-order")) } : Obj) = O at *
        have hlS : l < s.heap.objs.size := Heap.lt_size hol
        have hh3 : A.in1.in1.in1.handled = none := by simp [hh]
        have sz : (s.heap.push O).objs.size = s.heap.objs.size + 1 := Heap.size_push ..
        have hneI : l ≠ (s.heap.push O).objs.size := by rw [sz]; exact Nat.ne_of_lt (Nat.lt_succ_of_lt hlS)
        have hSf : s.heap.objs.size ∉ [(s.heap.push O).objs.size, l] := by
          rw [sz]; simp only [List.mem_cons, List.not_mem_nil, or_false, not_or]
          exact ⟨Nat.ne_of_lt (Nat.lt_succ_self _), Nat.ne_of_gt hlS⟩
        have hval : ∀ (i : Nat) (v : Value), items[i]? = some v → ∃ k t, ns[i]? = some k ∧ v = .int k t := fun i v hv => by
          have hi : i < ns.length := by rw [← hn]; exact (Array.getElem?_eq_some_iff.mp hv).1
          obtain ⟨t, e⟩ := IntsAre.int_at hit i v (by rw [Array.getElem?_toList]; exact hv)
          exact ⟨ns[i], t, List.getElem?_eq_getElem hi, by rw [e, List.getD_eq_getElem?_getD, List.getElem?_eq_getElem hi]; rfl⟩
        refine set_update_ints ((Walks.list hh3 _ l hneI items).toS) s.heap.objs.size hSf ns hn hb hval (items.size - 0) 0 _ (by omega) (Nat.zero_le _)
          ⟨⟨_, Heap.get?_push_size _ rfl, rfl, rfl⟩, (hl1.push _)⟩ ⟨0, Nat.le_refl 0, setR_new_at (by rw [hO]; exact Heap.get?_push_of_some _ hS)⟩ fun s' c' hm hc' hS' => ?_
        obtain ⟨h', g2, d', tk', os'⟩ := s'
        have eg : g2 = s.gens := hm.gens
        have ed : d' = s.drawn := hm.drawn
        have eo : os' = s.os := hm.os
        subst eg; subst ed; subst eo
        show wpAny _ _ _ _ _ _
        refine wpAny_pure ?_
        show wpAny _ _ (ret Value.none) _ _ _
        rw [hn] at hc'
        refine wpAny_pure ⟨rfl, h', tk', c', rfl, hS', hc', fun b o e => ?_⟩
        have hb0 : b < s.heap.objs.size := Heap.lt_size e
        refine hm.heap b o ?_ (Heap.get?_push_of_some _ (Heap.get?_push_of_some _ e))
        rw [sz]
        simp only [List.mem_cons, List.not_mem_nil, or_false, not_or]
        exact ⟨Nat.ne_of_lt hb0, Nat.ne_of_lt (Nat.lt_succ_of_lt hb0)⟩
      · cases r₂ with
        | error e => exact hr₂
        | ok fl₂ =>
          cases fl₂ with
          | ret r =>
            obtain ⟨rfl, h', tk, c', rfl, hS', hc', hk'⟩ := hr₂
            repeat (any_goals (first | assumption | wp_step))
            exact h _ _ _ hS' hc' hk'
          | _ => exact hr₂.elim
    | _ => exact hr.elim
end
def tSS (K : PySem.W.Frag) (ta : TE) : TE := fun σ H Q => ta σ H fun x H1 => ∃ (l : Addr) (ns : List Int), x = .ref l ∧ (SqL K H1 l (ns.map V.int) ∨ SqT K H1 l (ns.map V.int)) ∧ ns.length ≤ 4000 ∧ (∀ ks : List Int, ks.Nodup → (∀ k, k ∈ ks ↔ k ∈ ns) → ks.length < 64) ∧
  ∀ (ms : List Int) (p : Addr), ms.Pairwise (· < ·) → (∀ k, k ∈ ms ↔ k ∈ ns) → H1 p = none → Q (.ref p) (upd H1 p (.lst (ms.map V.int)))
theorem pe_sortedSet {X : Cx} {a : Expr} {ta : TE} {p p2 q pos : Pos} (hc : X.calm = true) (hg : Gl X "sorted") (hm : X.mg "sorted" = none) (hg2 : Gl X "set") (hm2 : X.mg "set" = none) (ha : PE X a ta)
    (na : starEach [a] X.env = (false, eval a X.env) :: starEach [] X.env := by rfl) : PE X (.Call (.Name "sorted" p) [.Call (.Name "set" p2) [a] [] q] [] pos) (tSS X.K ta) := by
  refine ⟨fun pins s σ H Q I h => ?_⟩
  refine Call_ (ld_blt I hg hm (show bootBuiltins "sorted" = some (.builtin "sorted") by decide +kernel) ?_)
  refine callWith_builtin1 (args_cons ?_ rfl) rfl rfl
  refine Call_ (ld_blt I hg2 hm2 boot_set ?_)
  refine callWith_type1 (args_cons (thn (ha.run pins s σ H _ I h) fun v s1 ⟨x, H1, I1, r1, q1⟩ => args_nil ?_) na) na rfl
  obtain ⟨l, ns, rfl, hq, hl, h64, q1⟩ := q1
  cases r1
  have hd := I1.ok.hd hc
  have fin : ∀ (s2 : Shared) (b : Addr) (c : Nat), SetR X.w s2.heap b (fun j => decide (j ∈ ns)) c → Inv X pins σ H1 s2 →
      wpAny (model X.prog X.w) X.A (call (.builtin "sorted") [.ref b]) (EP X pins σ Q) X.xe s2 := fun s2 b c R1 I2 => by
    have hc64 : c < 64 := by
      obtain ⟨o, es, ep, t, ho, hex, hdt, g, nd, hm3, hb, hf, hn, hr, hl2⟩ := id R1
      have := h64 (es.toList.map keyOf) nd fun k => by rw [← hm3 k, decide_eq_true_eq]
      rw [List.length_map, Array.length_toList, hn] at this
      exact this
    refine sorted_set R1 hd hc64 fun s' p out c ns' k g o hp hg hi hs hm hl => ?_
    have hlen : (ns'.map V.int).length ≤ sizeLine := by rw [List.length_map, hl, sizeLine_eq]; omega
    have hn : H1 p = none := I2.hok.fresh hp
    have J : Inv X pins σ (upd H1 p (.lst (ns'.map V.int))) { s2 with heap := s'.heap, gens := s'.gens, drawn := s'.drawn, toks := s'.toks } :=
      I2.call (ch := []) (Un.laid k hp hn) (I2.hok.laid k hp ⟨hlen, out.toList, _, vals_of_ints hi, hg⟩) (by rw [g]; exact I2.bare) (fun _ z => nomatch z)
    have e : s' = { s2 with heap := s'.heap, gens := s'.gens, drawn := s'.drawn, toks := s'.toks } := by
      cases s'
      cases s2
      cases o
      rfl
    rw [e]
    exact ⟨.ref p, _, J, rfl, q1 ns' p hs (fun k => by rw [hm k, decide_eq_true_eq]) hn⟩
  rcases hq with hq | hq
  · obtain ⟨its, r, pl, hz⟩ := I1.list hq
    exact call_set_listI ns hd pl.isList (by simpa using intsAre_of r) (by unfold scanBound; omega) fun h' tk c R1 _ kp => args_nil (fin _ _ c R1 (I1.kept kp))
  · obtain ⟨its, r, pl, hz⟩ := I1.tuple hq
    exact call_set_tupI ns hd pl (by simpa using intsAre_of r) (by unfold scanBound; omega) fun h' tk c R1 _ kp => args_nil (fin _ _ c R1 (I1.kept kp))
end SS
namespace PL
open PySem L2
section
variable {X : Cx} {C : PCx} {e a b c o : Expr} {pa : PTE} {p p2 q pos : Pos}
/-- sorted(set(xs)) -/
def uSortedSet : UOp := fun t G => match t.sq with
  | some ds => ∃ ns : List Int, ds = ns.map PyData.int ∧ ns.length ≤ 4000 ∧ (∀ ks : List Int, ks.Nodup → (∀ k, k ∈ ks ↔ k ∈ ns) → ks.length < 64) ∧
    ∀ ms : List Int, ms.Pairwise (· < ·) → (∀ k, k ∈ ms ↔ k ∈ ns) → G (.v (.ol (ms.map PyData.int)))
  | none => False
theorem qe_sortedSet (hc : X.calm = true) (hm : X.mg "sorted" = none) (hm2 : X.mg "set" = none) (ha : QE X C e pa) (hg : Gl X "sorted" := by rfl) (hg2 : Gl X "set" := by rfl) (he : starEach [e] X.env = [(false, eval e X.env)] := by rfl) :
    QE X C (.Call (.Name "sorted" p) [.Call (.Name "set" p2) [e] [] q] [] pos) (pU uSortedSet pa) := by
  obtain ⟨ta, h1, f1⟩ := ha
  refine ⟨_, SS.pe_sortedSet hc hg hm hg2 hm2 h1 he, fun τ S σ H G Q A hp k => ?_⟩
  refine f1 τ S σ H _ _ A hp fun v H1 x S1 q1 A1 => ?_
  obtain ⟨t, ht, q1⟩ := on1_iff q1
  unfold uSortedSet at q1
  split at q1
  · next ds hds =>
    obtain ⟨ns, rfl, hl, h64, q1⟩ := q1
    obtain ⟨w, A0⟩ := id A1
    obtain ⟨_, r1⟩ := A0.look get_snoc_last ht
    obtain ⟨ad, xs, rfl, q, r⟩ := r1.seq hds msk_le
    rw [r.ints] at q
    exact ⟨ad, ns, rfl, q, hl, h64, fun ms p hs hm hp => k _ _ _ _ (q1 ms hs hm) (A0.newL hp (RdL.of_ints ms))⟩
  · exact q1.elim
end
end PL

set_option Elab.async false
set_option linter.all false
set_option maxRecDepth 100000
set_option maxHeartbeats 4000000
set_option autoImplicit false
/-! len(set(xs)), xs a list of ints or of tuples of ints -/
namespace SS
open PySem PySem.Spec PyProof.Rows L2
def tLS (K : PySem.W.Frag) (ta : TE) : TE := fun σ H Q => ta σ H fun x H1 => (∃ (l : Addr) (ns : List Int), x = .ref l ∧ (SqL K H1 l (ns.map V.int) ∨ SqT K H1 l (ns.map V.int)) ∧ ns.length ≤ 4000 ∧ ∀ ks : List Int, ks.Nodup → (∀ k, k ∈ ks ↔ k ∈ ns) → Q (.int (ks.length : Nat)) H1) ∨
  ∃ (l : Addr) (ks : List (Addr × List Int)), x = .ref l ∧ SqL K H1 l (ks.map fun p => V.ref p.1) ∧ (∀ p ∈ ks, SqT K H1 p.1 (p.2.map V.int)) ∧ ks.length < 64 ∧ ∀ L : List (List Int), L.Nodup → (∀ k, k ∈ L ↔ k ∈ ks.map (·.2)) → Q (.int (L.length : Nat)) H1
theorem pe_lenSet {X : Cx} {a : Expr} {ta : TE} {p p2 q pos : Pos} (hc : X.calm = true) (hu : X.A.units + 64 < cLine) (hg : Gl X "len") (hm : X.mg "len" = none) (hg2 : Gl X "set") (hm2 : X.mg "set" = none) (ha : PE X a ta)
    (na : starEach [a] X.env = (false, eval a X.env) :: starEach [] X.env := by rfl) : PE X (.Call (.Name "len" p) [.Call (.Name "set" p2) [a] [] q] [] pos) (tLS X.K ta) := by
  refine ⟨fun pins s σ H Q I h => ?_⟩
  refine Call_ (ld_blt I hg hm PySem.boot_len ?_)
  refine callWith_builtin1 (args_cons ?_ rfl) rfl rfl
  refine Call_ (ld_blt I hg2 hm2 boot_set ?_)
  refine callWith_type1 (args_cons (thn (ha.run pins s σ H _ I h) fun v s1 ⟨x, H1, I1, r1, q1⟩ => args_nil ?_) na) na rfl
  have hd := I1.ok.hd hc
  rcases q1 with ⟨l, ns, rfl, hq, hl, q1⟩ | ⟨l, ks, rfl, hq, hk, hl, q1⟩
  · cases r1
    have fin : ∀ (s2 : Shared) (b : Addr) (c : Nat), SetR X.w s2.heap b (fun j => decide (j ∈ ns)) c → c ≤ ns.length → Inv X pins σ H1 s2 →
        wpAny (model X.prog X.w) X.A (call (.builtin "len") [.ref b]) (EP X pins σ Q) X.xe s2 := fun s2 b c R1 hcl I2 => by
      obtain ⟨o, es, ep, t, ho, hex, hdt, g, nd, hm3, hb, hf, hn, hr, hl2⟩ := id R1
      refine call_len_set ho hex hdt hf (by rw [hn] <;> omega) ⟨.int es.size, H1, I2.tok _, ⟨_, rfl⟩, ?_⟩
      have := q1 (es.toList.map keyOf) nd fun k => by rw [← hm3 k, decide_eq_true_eq]
      rwa [List.length_map, Array.length_toList] at this
    rcases hq with hq | hq
    · obtain ⟨its, r, pl, hz⟩ := I1.list hq
      exact call_set_listI ns hd pl.isList (by simpa using intsAre_of r) (by unfold scanBound; omega) fun h' tk c R1 hcl kp => args_nil (fin _ _ c R1 hcl (I1.kept kp))
    · obtain ⟨its, r, pl, hz⟩ := I1.tuple hq
      exact call_set_tupI ns hd pl (by simpa using intsAre_of r) (by unfold scanBound; omega) fun h' tk c R1 hcl kp => args_nil (fin _ _ c R1 hcl (I1.kept kp))
  · cases r1
    obtain ⟨its, rv, pl, hz⟩ := I1.list hq
    refine call_set_tups (P := X.prog) (w := X.w) ks hd pl.isList (by simpa using refs_of_vals rv) (fun p hp => I1.isT (hk p hp)) hl (by omega) fun h' tk L es ep t R g k => args_nil ?_
    have I2 : Inv X pins σ H1 { s1 with heap := h', toks := tk } := I1.kept k
    obtain ⟨o, ho, hex, hdt⟩ := R.ob
    have hsz := R.size (s := { s1 with heap := h', toks := tk })
    have hfew := R.few
    refine call_len_set ho hex hdt (R.fits (s := { s1 with heap := h', toks := tk })) (by rw [hsz] <;> omega) ⟨.int es.size, H1, I2.tok _, ⟨_, rfl⟩, ?_⟩
    have := q1 (L.map (·.2)) R.nd fun x => by
      constructor
      · intro hx
        obtain ⟨p, hp, rfl⟩ := List.mem_map.mp hx
        exact List.mem_map.mpr ⟨p, List.mem_of_mem_take (g.sub p hp), rfl⟩
      · intro hx
        obtain ⟨p, hp, rfl⟩ := List.mem_map.mp hx
        exact g.all p (by rw [List.take_length]; exact hp)
    rwa [List.length_map, ← hsz] at this
end SS
namespace PL
open PySem L2
/-- a tuple of ints as data -/
def tuI (l : List Int) : PyData := .tuple (l.map .int)
theorem tups_of {K : PySem.W.Frag} {N : Hp} : ∀ {ns : List (List Int)} {xs : List V}, RdL K N xs (ns.map tuI) → ∃ ks : List (Addr × List Int), xs = (ks.map fun p => V.ref p.1) ∧ ks.map (·.2) = ns ∧ ∀ p ∈ ks, SqT K N p.1 (p.2.map V.int)
  | [], _, .nil => ⟨[], rfl, rfl, fun p hp => by cases hp⟩
  | n :: ns, _, .cons r t => by
    obtain ⟨ks, rfl, e, h⟩ := tups_of t
    cases r with
    | @tup a ys _ q r =>
      rw [r.ints] at q
      refine ⟨(a, n) :: ks, rfl, by rw [List.map_cons, e], fun p hp => ?_⟩
      rcases List.mem_cons.mp hp with rfl | hp
      · exact q
      · exact h p hp
def uLenSet : UOp := fun t G => match t.sq with
  | some ds => (∃ ns : List Int, ds = ns.map PyData.int ∧ ns.length ≤ 4000 ∧ ∀ ks : List Int, ks.Nodup → (∀ k, k ∈ ks ↔ k ∈ ns) → G (.v (.p (.int (ks.length : Nat))))) ∨
    (t.ls = some ds ∧ ∃ ns : List (List Int), ds = ns.map tuI ∧ ns.length < 64 ∧ ∀ ks : List (List Int), ks.Nodup → (∀ k, k ∈ ks ↔ k ∈ ns) → G (.v (.p (.int (ks.length : Nat)))))
  | none => False
section
variable {X : Cx} {C : PCx} {e a b c o : Expr} {pa : PTE} {p p2 q pos : Pos}
theorem qe_lenSet {k0 : Nat} (hr : Room k0 X.A) (hc : X.calm = true) (hm : X.mg "len" = none) (hm2 : X.mg "set" = none) (ha : QE X C e pa) (hg : Gl X "len" := by rfl) (hg2 : Gl X "set" := by rfl) (he : starEach [e] X.env = [(false, eval e X.env)] := by rfl) :
    QE X C (.Call (.Name "len" p) [.Call (.Name "set" p2) [e] [] q] [] pos) (pU uLenSet pa) := by
  obtain ⟨ta, h1, f1⟩ := ha
  refine ⟨_, SS.pe_lenSet hc (by have := hr.un; omega) hg hm hg2 hm2 h1 he, fun τ S σ H G Q A hp k => ?_⟩
  refine f1 τ S σ H _ _ A hp fun v H1 x S1 q1 A1 => ?_
  obtain ⟨t, ht, q1⟩ := on1_iff q1
  unfold uLenSet at q1
  split at q1
  · next ds hds =>
    obtain ⟨w, A0⟩ := id A1
    obtain ⟨_, r1⟩ := A0.look get_snoc_last ht
    rcases q1 with ⟨ns, rfl, hl, q1⟩ | ⟨hL, ns, rfl, hl, q1⟩
    · obtain ⟨ad, xs, rfl, q, r⟩ := r1.seq hds msk_le
      rw [r.ints] at q
      exact .inl ⟨ad, ns, rfl, q, hl, fun ks hn hk => k _ _ _ _ (q1 ks hn hk) (A1.ans1 fun N => .int _)⟩
    · obtain ⟨ad, xs, rfl, q, r⟩ := r1.list hL msk_le
      obtain ⟨ks, rfl, e, h⟩ := tups_of r
      refine .inr ⟨ad, ks, rfl, q, fun p hp => Evl.ex_t msk_le (h p hp), by rw [← List.length_map (f := (·.2)), e]; exact hl, fun L hn hk => ?_⟩
      rw [e] at hk
      exact k _ _ _ _ (q1 L hn hk) (A1.ans1 fun N => .int _)
  · exact q1.elim
end
end PL

set_option Elab.async false
set_option linter.all false
set_option maxRecDepth 100000
set_option maxHeartbeats 4000000
set_option autoImplicit false
/-! dicts whose keys are tuples of ints, objects of one's own: machine half -/
namespace DT
open PySem PySem.Spec PyProof.Rows L2 PL
abbrev KX := List (List Int × Addr × V)
abbrev KR (p : List Int × Addr × V) (q : List Int × Addr × Value) : Prop := p.1 = q.1 ∧ p.2.1 = q.2.1 ∧ RelV p.2.2 q.2.2
/-- what is told by a key -/
def valX (kx : KX) (k : List Int) : Option V := (kx.find? fun x => decide (x.1 = k)).map (·.2.2)
/-- a value put by a key whose tuple is at b -/
def putX (kx : KX) (k : List Int) (b : Addr) (v : V) : KX := if (valX kx k).isSome then kx.map (fun x => if x.1 = k then (x.1, x.2.1, v) else x) else kx ++ [(k, b, v)]
theorem KR.val {kx : KX} {xs : List (List Int × Addr × Value)} (r : Paired KR kx xs) (k : List Int) : RelO (valX kx k) ((atKey xs k).map (·.2)) := by
  unfold valX atKey
  induction r with
  | nil => exact True.intro
  | @cons p q ps qs h t ih =>
    rw [List.find?_cons, List.find?_cons, ← h.1]
    by_cases c : p.1 = k
    · simp only [c, decide_true]
      exact h.2.2
    · simp only [c, decide_false]
      exact ih
theorem KR.put {kx : KX} {xs : List (List Int × Addr × Value)} (r : Paired KR kx xs) (k : List Int) {b : Addr} {v : V} {u : Value} (rv : RelV v u) : Paired KR (putX kx k b v) (storedH xs k b u) := by
  have hs : (valX kx k).isSome = (atKey xs k).isSome := by
    have := (KR.val r k).isSome_eq
    rwa [Option.isSome_map] at this
  unfold putX storedH
  rw [hs]
  by_cases c : (atKey xs k).isSome = true
  · rw [if_pos c, if_pos c]
    clear hs c
    induction r with
    | nil => exact .nil
    | @cons p q ps qs h t ih =>
      rw [List.map_cons, List.map_cons]
      refine .cons ?_ ih
      unfold putAt
      rw [← h.1]
      by_cases c : p.1 = k
      · rw [if_pos c, if_pos c]; exact ⟨rfl, h.2.1, rv⟩
      · rw [if_neg c, if_neg c]; exact ⟨h.1, h.2.1, h.2.2⟩
  · rw [if_neg c, if_neg c]
    exact Paired.snoc r ⟨rfl, rfl, rv⟩
theorem putX_len (kx : KX) (k : List Int) (b : Addr) (v : V) : (putX kx k b v).length ≤ kx.length + 1 := by
  unfold putX
  split
  · rw [List.length_map]; omega
  · rw [List.length_append]; exact Nat.le_refl _
theorem mem_pair {kx : KX} {xs : List (List Int × Addr × Value)} (r : Paired KR kx xs) : ∀ x ∈ xs, ∃ p ∈ kx, KR p x := by
  induction r with
  | nil => intro x hx; cases hx
  | cons h t ih =>
    intro x hx
    rcases List.mem_cons.mp hx with rfl | hx
    · exact ⟨_, List.mem_cons_self, h⟩
    · obtain ⟨p, hp, q⟩ := ih x hx
      exact ⟨p, List.mem_cons_of_mem _ hp, q⟩
theorem entry_any (P P' : Program) (w w' : World) (x : List Int × Addr × Value) : entryOfKey (tupleKind (intKind P w)) x = entryOfKey (tupleKind (intKind P' w')) x := rfl
section
variable {X : Cx} {pins : List (Addr × Obj)} {σ : L2.St} {H : Hp} {s : Shared} {a b : Addr} {kx : KX} {k : List Int} {A : Around} {E : Value → Shared → Prop}
theorem opened (I : Inv X pins σ H s) (e : H a = some (dTo kx a)) (hk : ∀ x ∈ kx, SqT X.K H x.2.1 (x.1.map V.int)) :
    kx.length ≤ sizeLine ∧ (a == sysModules) = false ∧ ∃ xs, Paired KR kx xs ∧ s.heap.DictOfH (TK X.prog X.w) a xs := by
  obtain ⟨⟨hl, hd, xs, rel, o, es, ep, h1, h2, h3, h4, h5⟩, _, _⟩ := (show ObjOk X.prog X.w H s.heap a (dTo kx a) from I.hok a _ e)
  refine ⟨hl, hd, xs, rel, o, es, ep, h1, h2, h3, h4 _ _, fun x hx => ?_, h5⟩
  obtain ⟨p, hp, q1, q2, _⟩ := mem_pair rel x hx
  have := I.isT (hk p hp)
  rw [q1, q2] at this
  exact this
theorem getItem_ok {Q : Value → Shared → Prop} {v : V} (hu : A.units + 1 < cLine) (I : Inv X pins σ H s) (e : H a = some (dTo kx a)) (hk : ∀ x ∈ kx, SqT X.K H x.2.1 (x.1.map V.int)) (hb : SqT X.K H b (k.map V.int)) (l : valX kx k = some v)
    (h : ∀ w' s', Inv X pins σ H s' → RelV v w' → Q w' s') : wpAny (model X.prog X.w) A (getItem (.ref a) (.ref b)) Q E s := by
  obtain ⟨z, hd, xs, rel, dd⟩ := opened I e hk
  obtain ⟨w', hw, rw'⟩ := RelO.some_of (v := v) (o := (atKey xs k).map (·.2)) (by rw [← l]; exact KR.val rel k)
  obtain ⟨p, hp, hp2⟩ := Option.map_eq_some_iff.mp hw
  refine wpAny_getItem_heap (tupleKind_room_in1 hu) (I.isT hb) dd hp ?_
  rw [hp2]
  exact h w' _ (I.tok _) rw'
theorem in_ok {Q : Value → Shared → Prop} (hu : A.units + 1 < cLine) (I : Inv X pins σ H s) (e : H a = some (dTo kx a)) (hk : ∀ x ∈ kx, SqT X.K H x.2.1 (x.1.map V.int)) (hb : SqT X.K H b (k.map V.int))
    (h : ∀ s', Inv X pins σ H s' → Q (.bool (valX kx k).isSome) s') : wpAny (model X.prog X.w) A (compareOp .In (.ref b) (.ref a)) Q E s := by
  obtain ⟨z, hd, xs, rel, dd⟩ := opened I e hk
  refine wpAny_in_heap (tupleKind_room_in1 hu) (I.isT hb) hd dd ?_
  have q := (KR.val rel k).isSome_eq
  rw [Option.isSome_map] at q
  rw [← q]
  exact h _ (I.tok _)
theorem notIn_ok {Q : Value → Shared → Prop} (hu : A.units + 1 < cLine) (I : Inv X pins σ H s) (e : H a = some (dTo kx a)) (hk : ∀ x ∈ kx, SqT X.K H x.2.1 (x.1.map V.int)) (hb : SqT X.K H b (k.map V.int))
    (h : ∀ s', Inv X pins σ H s' → Q (.bool (!(valX kx k).isSome)) s') : wpAny (model X.prog X.w) A (compareOp .NotIn (.ref b) (.ref a)) Q E s := by
  obtain ⟨z, hd, xs, rel, dd⟩ := opened I e hk
  refine wpAny_notIn_heap (tupleKind_room_in1 hu) (I.isT hb) hd dd ?_
  have q := (KR.val rel k).isSome_eq
  rw [Option.isSome_map] at q
  rw [← q]
  exact h _ (I.tok _)
theorem typeIs (I : Inv X pins σ H s) (e : H a = some (dTo kx a)) (hk : ∀ x ∈ kx, SqT X.K H x.2.1 (x.1.map V.int)) : s.TypeIs (.ref a) "dict" := by
  obtain ⟨_, _, xs, _, dd⟩ := opened I e hk
  exact dd.typeIs
theorem setItem_ok {Q : Unit → Shared → Prop} {v : V} {r : Value} (hu : A.units + 1 < cLine) (I : Inv X pins σ H s) (e : H a = some (dTo kx a)) (hk : ∀ x ∈ kx, SqT X.K H x.2.1 (x.1.map V.int)) (hb : SqT X.K H b (k.map V.int)) (rv : RelV v r) (hsz : kx.length < sizeLine)
    (h : ∀ s', Inv X pins σ (upd H a (dTo (putX kx k b v) a)) s' → Q () s') : wpAny (model X.prog X.w) A (setItem (.ref a) (.ref b) r) Q E s := by
  obtain ⟨z, hd, xs, rel, dd⟩ := opened I e hk
  have hz : xs.length ≤ sizeLine := by rw [← Paired.length rel]; exact z
  refine wpAny_setItem_heap (hsz := hz) (tupleKind_room_in1 hu) (I.isT hb) dd fun h' dd' hs => h _ ?_
  obtain ⟨q, es, ep, hq, h2, h3, h4, _, h5⟩ := dd'
  refine d_write I (by rw [e]; exact True.intro) hs ⟨q, hq⟩ ⟨⟨?_, hd, _, KR.put rel k rv, q, es, ep, hq, h2, h3, fun P w => h4.trans (List.map_congr_left fun x _ => entry_any _ _ _ _ x), h5⟩, ⟨q, hq⟩, ?_⟩
  · have := putX_len kx k b v
    omega
  · rintro h1 h2 ⟨l1, l2, ys, l3, o, es, ep, l4, l5, l6, l7, l8⟩ m
    exact ⟨l1, l2, ys, l3, o, es, ep, m _ l4, l5, l6, l7, l8⟩
/-- {}, to have such keys -/
def tNew : TE := fun _ H Q => ∀ p, H p = none → Q (.ref p) (upd H p (dTo [] p))
theorem pe_new {pos : Pos} : PE X (.Dict [] [] pos) tNew := ⟨fun pins s σ H Q I h =>
  wpAny_Dict_empty ⟨.ref s.heap.objs.size, _, I.laid (a := s.heap.objs.size) (o := dTo [] s.heap.objs.size) (t' := s.toks) (fun _ _ q => Heap.get?_push_of_some _ q) (Nat.le_refl _)
    ⟨⟨Nat.zero_le _, beq_eq_false_iff_ne.mpr (Ne.symm (Nat.ne_of_lt I.big)), [], .nil, _, #[], 0, Heap.get?_push_size _ rfl, ⟨rfl, rfl, rfl⟩, rfl, fun _ _ => rfl, List.nodup_nil⟩, ⟨_, Heap.get?_push_size _ rfl⟩, by
      rintro h1 h2 ⟨l1, l2, ys, l3, o, es, ep, l4, l5, l6, l7, l8⟩ m
      exact ⟨l1, l2, ys, l3, o, es, ep, m _ l4, l5, l6, l7, l8⟩⟩, rfl, h _ (I.hok.fresh (Nat.le_refl _))⟩⟩
end
end DT

set_option Elab.async false
set_option linter.all false
set_option maxRecDepth 100000
set_option maxHeartbeats 4000000
set_option autoImplicit false
/-! dicts whose keys are tuples of ints: the layer's rules -/
namespace PL
open PySem L2
open DT (valX putX)
def keyT : PyData → Option (List Int)
  | .tuple ds => allI ds
  | _ => none
theorem key_rd {K : PySem.W.Frag} {N : Hp} {v : V} {d : PyData} {k : List Int} (r : Rd K N v d) (h : keyT d = some k) : ∃ b, v = .ref b ∧ SqT K N b (k.map V.int) := by
  cases r with
  | tup q r =>
    have e := allI_eq (show allI _ = some k from h)
    subst e
    rw [r.ints] at q
    exact ⟨_, rfl, q⟩
  | _ => cases h
def valO (kvs : List (List Int × D)) (k : List Int) : Option D := (kvs.find? fun x => decide (x.1 = k)).map (·.2)
def putO (kvs : List (List Int × D)) (k : List Int) (d : D) : List (List Int × D) := if (valO kvs k).isSome then kvs.map (fun x => if x.1 = k then (x.1, d) else x) else kvs ++ [(k, d)]
theorem val_rdO {K : PySem.W.Frag} {N : Hp} {k : List Int} : ∀ {kx : List (List Int × Addr × V)} {kvs : List (List Int × D)}, kx.map (·.1) = kvs.map (·.1) → RdL K N (kx.map (·.2.2)) (kvs.map (·.2)) →
    (valX kx k = none ∧ valO kvs k = none) ∨ ∃ v d, valX kx k = some v ∧ valO kvs k = some d ∧ Rd K N v d
  | [], [], _, _ => .inl ⟨rfl, rfl⟩
  | p :: kx, q :: kvs, h, r => by
    have h1 : p.1 = q.1 := (List.cons.inj h).1
    have h2 := (List.cons.inj h).2
    have r : RdL K N (p.2.2 :: kx.map (·.2.2)) (q.2 :: kvs.map (·.2)) := r
    cases r with
    | cons r t =>
      unfold valX valO
      rw [List.find?_cons, List.find?_cons, ← h1]
      by_cases c : p.1 = k
      · simp only [c, decide_true]
        exact .inr ⟨_, _, rfl, rfl, r⟩
      · simp only [c, decide_false]
        exact val_rdO h2 t
  | [], _ :: _, h, _ => by cases h
  | _ :: _, [], h, _ => by cases h
theorem put_rdO {K : PySem.W.Frag} {N : Hp} {k : List Int} {b : Addr} {v : V} {d : D} (r : Rd K N v d) {kx : List (List Int × Addr × V)} {kvs : List (List Int × D)} (h1 : kx.map (·.1) = kvs.map (·.1)) (h2 : RdL K N (kx.map (·.2.2)) (kvs.map (·.2))) :
    (putX kx k b v).map (·.1) = (putO kvs k d).map (·.1) ∧ RdL K N ((putX kx k b v).map (·.2.2)) ((putO kvs k d).map (·.2)) := by
  have hs : (valX kx k).isSome = (valO kvs k).isSome := by
    rcases val_rdO (k := k) h1 h2 with ⟨a, c⟩ | ⟨_, _, a, c, _⟩ <;> rw [a, c] <;> rfl
  unfold putX putO
  rw [hs]
  by_cases c : (valO kvs k).isSome = true
  · rw [if_pos c, if_pos c]
    clear hs c
    induction kx generalizing kvs with
    | nil =>
      cases kvs with
      | nil => exact ⟨rfl, .nil⟩
      | cons q t => cases h1
    | cons p kx ih =>
      cases kvs with
      | nil => cases h1
      | cons q kvs =>
        have e1 : p.1 = q.1 := (List.cons.inj h1).1
        have h2 : RdL K N (p.2.2 :: kx.map (·.2.2)) (q.2 :: kvs.map (·.2)) := h2
        cases h2 with
        | cons rr t =>
          obtain ⟨i1, i2⟩ := ih (List.cons.inj h1).2 t
          rw [List.map_cons, List.map_cons, List.map_cons, List.map_cons, List.map_cons, List.map_cons]
          by_cases c : p.1 = k
          · rw [if_pos c, if_pos (e1 ▸ c)]
            exact ⟨by rw [i1]; show p.1 :: _ = q.1 :: _; rw [e1], .cons r i2⟩
          · rw [if_neg c, if_neg (e1 ▸ c)]
            exact ⟨by rw [i1, e1], .cons rr i2⟩
  · rw [if_neg c, if_neg c, List.map_append, List.map_append, List.map_append, List.map_append, h1]
    refine ⟨rfl, ?_⟩
    exact RdL.append h2 (.cons r .nil)
theorem put_key {K : PySem.W.Frag} {N : Hp} {k : List Int} {b : Addr} {v : V} {kx : List (List Int × Addr × V)} (hk : ∀ x ∈ kx, SqT K N x.2.1 (x.1.map V.int)) (hb : SqT K N b (k.map V.int)) : ∀ x ∈ putX kx k b v, SqT K N x.2.1 (x.1.map V.int) := by
  unfold putX
  intro x hx
  split at hx
  · obtain ⟨y, hy, rfl⟩ := List.mem_map.mp hx
    by_cases c : y.1 = k
    · rw [if_pos c]; exact hk y hy
    · rw [if_neg c]; exact hk y hy
  · rcases List.mem_append.mp hx with hx | hx
    · exact hk x hx
    · rw [List.mem_singleton.mp hx]; exact hb
/-- key in d -/
def cInO (neg : Bool) : BOp := fun t u G => match t, u with
  | .p d, .ot kvs => (match keyT d with
    | some k => G (.v (.p (.bool (nxor neg (valO kvs k).isSome))))
    | none => False)
  | _, _ => False
/-- d[key] -/
def bIxO : BOp := fun t u G => match t, u with
  | .ot kvs, .p d => (match keyT d with
    | some k => ∃ e, valO kvs k = some e ∧ G (.v (.p e))
    | none => False)
  | _, _ => False
/-- {}, to have such keys -/
def pDctO : PTE := fun S G => G (.v (.ot [])) S
/-- d[key] = v -/
def sSetIxO (o e v : PTE) : PTS := fun D S => v S fun x S1 => o S1 fun y S2 => e S2 fun k S3 => match x, y, k with
  | .v (.p d), .r i, .v (.p k) => (match S3[i]? with
    | some (some (.ot kvs)) => (match keyT k with
      | some k => kvs.length < sizeLine ∧ D.nx (S3.set i (some (.ot (putO kvs k d))))
      | none => False)
    | _ => False)
  | _, _, _ => False
section
variable {X : Cx} {C : PCx} {e a b c o v : Expr} {pa pb pc po pe pv : PTE} {x : Str} {p pos : Pos} {K : PySem.W.Frag}
def rInO (K : PySem.W.Frag) (neg : Bool) : R2 := fun y x H Q => ∃ (a b : Addr) (kx : List (List Int × Addr × V)) (k : List Int), x = .ref a ∧ y = .ref b ∧ H a = some (dTo kx a) ∧ (∀ x ∈ kx, SqT K H x.2.1 (x.1.map V.int)) ∧ SqT K H b (k.map V.int) ∧ Q (.bl (nxor neg (valX kx k).isSome)) H
theorem op_inO (hu : X.A.units + 1 < cLine) : OpR X (compareOp .In) (rInO X.K false) := by
  intro pins s σ H y x v u Q I ry rx h
  obtain ⟨a, b, kx, k, rfl, rfl, e, hk, hb, q⟩ := h
  cases rx
  cases ry
  exact DT.in_ok hu I e hk hb fun s3 I3 => ⟨.bl (valX kx k).isSome, H, I3, rfl, q⟩
theorem op_niO (hu : X.A.units + 1 < cLine) : OpR X (compareOp .NotIn) (rInO X.K true) := by
  intro pins s σ H y x v u Q I ry rx h
  obtain ⟨a, b, kx, k, rfl, rfl, e, hk, hb, q⟩ := h
  cases rx
  cases ry
  exact DT.notIn_ok hu I e hk hb fun s3 I3 => ⟨.bl (!(valX kx k).isSome), H, I3, rfl, q⟩
theorem binS_inO {neg : Bool} : BinS C K (rInO K neg) (cInO neg) := by
  intro σ τ S H v x u y t t' G Q A h1 h2 op k
  unfold cInO at op
  split at op
  · next d kvs =>
    split at op
    · next key hk =>
      obtain ⟨w, A0⟩ := id A
      obtain ⟨_, r2⟩ := A0.look get_snoc_last h2
      have rd : Rd K H v d := A.rd2 h1
      obtain ⟨b, rfl, hb⟩ := key_rd rd hk
      cases r2 with
      | ot w1 h3 h4 h5 h6 =>
        have hs : ∀ kx : List (List Int × Addr × V), kx.map (·.1) = kvs.map (·.1) → RdL K (msk H w) (kx.map (·.2.2)) (kvs.map (·.2)) → (valX kx key).isSome = (valO kvs key).isSome := fun kx a1 a2 => by
          rcases val_rdO (k := key) a1 a2 with ⟨a, c⟩ | ⟨_, _, a, c, _⟩ <;> rw [a, c] <;> rfl
        refine ⟨_, b, _, key, rfl, rfl, h3, fun x hx => Evl.ex_t msk_le (h5 x hx), hb, ?_⟩
        rw [hs _ h4 h6]
        exact k _ H _ op (A.ans2 fun N => .bl _)
    · exact op.elim
  · exact op.elim
theorem qe_inO {k : Nat} (hr : Room k X.A) (ha : QE X C a pa) (hb : QE X C b pb) (hm : behindInMarks .In b = false := by rfl) : QE X C (.Compare a [.In] [b] pos) (pB (cInO false) pa pb) := qe_cmp (op_inO (hu_of hr)) binS_inO ha hb hm
theorem qe_niO {k : Nat} (hr : Room k X.A) (ha : QE X C a pa) (hb : QE X C b pb) (hm : behindInMarks .NotIn b = false := by rfl) : QE X C (.Compare a [.NotIn] [b] pos) (pB (cInO true) pa pb) := qe_cmp (op_niO (hu_of hr)) binS_inO ha hb hm
theorem qt_inO {k : Nat} (hr : Room k X.A) (ha : QE X C a pa) (hb : QE X C b pb) (hm : behindInMarks .In b = false := by rfl) : QT X C (.Compare a [.In] [b] pos) (qV (pB (cInO false) pa pb)) := qt_cmp (op_inO (hu_of hr)) binS_inO ha hb hm
theorem qt_niO {k : Nat} (hr : Room k X.A) (ha : QE X C a pa) (hb : QE X C b pb) (hm : behindInMarks .NotIn b = false := by rfl) : QT X C (.Compare a [.NotIn] [b] pos) (qV (pB (cInO true) pa pb)) := qt_cmp (op_niO (hu_of hr)) binS_inO ha hb hm
def rIxO (K : PySem.W.Frag) : R2 := fun x y H Q => ∃ (a b : Addr) (kx : List (List Int × Addr × V)) (k : List Int) (z : V), x = .ref a ∧ y = .ref b ∧ H a = some (dTo kx a) ∧ (∀ x ∈ kx, SqT K H x.2.1 (x.1.map V.int)) ∧ SqT K H b (k.map V.int) ∧ valX kx k = some z ∧ Q z H
theorem ix_dictO (hu : X.A.units + 1 < cLine) : IxR X (rIxO X.K) := by
  intro value slice pins s σ H x y v u Q I rx ry h hs
  obtain ⟨a, b, kx, k, z, rfl, rfl, e, hk, hb, hv, q⟩ := h
  cases rx
  cases ry
  exact PyProof.Rows.tail_any (DT.typeIs I e hk) slot_dict_getitem.lookup (DT.getItem_ok hu I e hk hb hv fun w' s' I' r' => ⟨z, H, I', r', q⟩) hs
theorem binS_ixO : BinS C K (rIxO K) bIxO := by
  intro σ τ S H v x u y t t' G Q A h1 h2 op k
  unfold bIxO at op
  split at op
  · next kvs d =>
    split at op
    · next key hk =>
      obtain ⟨e, he, op⟩ := op
      have rd : Rd K H u d := A.rd1 h2
      obtain ⟨w, A0⟩ := A
      obtain ⟨_, r1⟩ := A0.look (j := τ.length) get_mid h1
      obtain ⟨b, rfl, hb⟩ := key_rd rd hk
      cases r1 with
      | ot w1 h3 h4 h5 h6 =>
        rcases val_rdO (k := key) h4 h6 with ⟨_, c⟩ | ⟨z, e', c1, c2, c3⟩
        · rw [c] at he; cases he
        · rw [c2] at he
          cases he
          have A' := A0.push c3
          rw [List.append_assoc τ] at A'
          exact ⟨_, b, _, key, z, rfl, rfl, h3, fun x hx => Evl.ex_t msk_le (h5 x hx), hb, c1, k _ H _ op (Abs.sel ⟨w, A'⟩)⟩
    · exact op.elim
  · exact op.elim
theorem qe_ixO (hu : X.A.units + 1 < cLine) (ha : QE X C a pa) (hb : QE X C b pb) (hs : PlainIx b) : QE X C (.Subscript a b pos) (pB bIxO pa pb) := by
  obtain ⟨ta, h1, f1⟩ := ha
  obtain ⟨tb, h2, f2⟩ := hb
  refine ⟨_, pe_ix (ix_dictO hu) h1 h2 hs, fun τ S σ H G Q A hp k => ?_⟩
  refine f1 τ S σ H _ _ A hp fun v H1 x S1 q1 A1 => ?_
  refine f2 _ S1 σ H1 _ _ A1 q1 fun u H2 y S2 q2 A2 => ?_
  obtain ⟨t, ht, q2⟩ := on1_iff q2
  obtain ⟨t', ht', q2⟩ := on1_iff q2
  exact binS_ixO _ _ _ _ _ _ _ _ _ _ _ _ A2 ht ht' q2 fun v' H' z g A' => k v' H' z S2 g A'
theorem qe_dnewO : QE X C (.Dict [] [] pos) pDctO := ⟨_, DT.pe_new, fun τ S σ H G Q A hp k p hp' => k _ _ _ _ hp (A.allocO hp' (dTo [] p) rfl fun w w' _ _ hw => .ot hw upd_same rfl (fun x hx => by cases hx) .nil)⟩
theorem set_dictO (hu : X.A.units + 1 < cLine) : PSet X (fun o i v H Q => ∃ (a b : Addr) (kx : List (List Int × Addr × V)) (k : List Int), o = .ref a ∧ i = .ref b ∧ H a = some (dTo kx a) ∧ (∀ x ∈ kx, SqT X.K H x.2.1 (x.1.map V.int)) ∧ SqT X.K H b (k.map V.int) ∧ kx.length < sizeLine ∧ Q (upd H a (dTo (putX kx k b v) a))) := by
  intro pins s σ H o i v ov iv u Q I ro ri rv h
  obtain ⟨a, b, kx, k, rfl, rfl, e, hk, hb, hz, q⟩ := h
  cases ro
  cases ri
  exact DT.setItem_ok hu I e hk hb rv hz fun s' I' => ⟨_, I', q⟩
theorem qs_setixO (hu : X.A.units + 1 < cLine) (hv : QE X C v pv) (ho : QE X C o po) (hi : QE X C e pe)
    (ha : ∀ u, assign (.Subscript o e p) X.env u = (do
      let ov ← holding [u] (eval o X.env)
      let iv ← holding [u, ov] (eval e X.env)
      standAt p
      holding [u, ov, iv] (setItem ov iv u)
      release [u, ov, iv] []) := by intro _; rfl)
    (hs : swapsWithSole [.Subscript o e p] v pos.line X.env = pure false := by rfl) (hw : swappedStores [.Subscript o e p] v X.env = pure none := by rfl)
    (h1 : (assignEach [.Subscript o e p] X.env).map (·.2) = [assign (.Subscript o e p) X.env] := by rfl) : QS X C (.Assign [.Subscript o e p] v pos) (sSetIxO po pe pv) := by
  obtain ⟨tv, gv, fv⟩ := hv
  obtain ⟨to, go, fo⟩ := ho
  obtain ⟨ti, gi, fi⟩ := hi
  refine ⟨_, ps_asg gv (pg_sub go gi (set_dictO hu) ha) hs hw h1, fun τ S σ H P D hn A hp L => ?_⟩
  refine fv τ S σ H _ _ A hp fun z H1 x S1 q1 A1 => ?_
  refine fo _ S1 σ H1 _ _ A1 q1 fun u H2 y S2 q2 A2 => ?_
  refine fi _ S2 σ H2 _ _ A2 q2 fun k H3 w S3 q3 A3 => ?_
  try dsimp only at q3
  split at q3
  · next d i kd =>
    have hσ : σ[i]? = some (some u) := by
      obtain ⟨ww, A0⟩ := A3
      exact (A0.tr (τ.length + 1) u (.r i) i (by simp) rfl).1
    have fin : ∀ {S' H'}, Abs X.K C σ (τ ++ [(z, .v (.p d))] ++ [(u, .r i)] ++ [(k, .v (.p kd))]) S' H' → P.nx S' → D.nx σ H' := fun A' q => by
      rw [List.append_assoc, List.append_assoc] at A'
      exact L.nx σ _ _ A'.pop q
    split at q3
    · next kvs hs' =>
      split at q3
      · next key hk =>
        obtain ⟨hl, q3⟩ := q3
        obtain ⟨ww, A0⟩ := A3
        obtain ⟨uu, huu, r⟩ := A0.sl i _ hs'
        rw [hσ] at huu; cases huu
        have rz := A0.tm τ.length z (.p d) (by simp)
        have rkd := A0.tm (τ.length + 2) k (.p kd) (by simp)
        cases rz with
        | p rz =>
        cases rkd with
        | p rkd =>
        obtain ⟨b, rfl, hb⟩ := key_rd rkd hk
        cases r with
        | @ot _ ad kx _ w1 h3 h4 h5 h6 =>
          have hl' : kx.length = kvs.length := by
            have := congrArg List.length h4
            simpa using this
          refine ⟨ad, b, kx, key, rfl, rfl, h3, fun x hx => Evl.ex_t msk_le (h5 x hx), Evl.ex_t msk_le hb, by rw [hl']; exact hl, fin (S' := S3.set i (some (.ot (putO kvs key d)))) ⟨ww, A0.mut (fun _ => rfl) (List.getElem?_eq_some_iff.mp hs').1 w1 rfl (fun N ex => ?_) hσ⟩ q3⟩
          obtain ⟨p1, p2⟩ := put_rdO (k := key) (b := b) (rz.mono ex) h4 (h6.mono ex)
          exact .ot w1 upd_same p1 (put_key (fun x hx => Evl.ex_t ex (h5 x hx)) (Evl.ex_t ex hb)) p2
      · exact q3.elim
    · exact q3.elim
  · exact q3.elim
end
end PL

set_option Elab.async false
set_option linter.all false
set_option maxRecDepth 100000
set_option maxHeartbeats 4000000
set_option autoImplicit false
/-! sorted(list of tuples or lists), any number of them -/
namespace PL
open PySem PySem.Spec L2
open PySem.W (AllAlike Sortable dataLe EachIs sorted_data alike dataLt)
def srtD (ds : List D) : List D := ds.mergeSort (dataLe false fun d => d)
def rSrtD (K : PySem.W.Frag) : List V → Hp → VK → Prop := fun vs H Q => ∃ (a : Addr) (xs : List V) (ds : List D) (N : Hp), vs = [V.ref a] ∧ SqL K H a xs ∧ Evl.Ex N H ∧ RdL K N xs ds ∧ PyData.canLayAll0 ds = true ∧ AllAlike ds ∧ Sortable ds ∧ (∀ d ∈ ds, d.depth ≤ 60) ∧
  ∀ (ys : List V) (p : Addr), RdL K N ys (srtD ds) → H p = none → Q (.ref p) (upd H p (.lst ys))
section
variable {X : Cx}
theorem each_vals {R : V → D → Prop} : ∀ {xs : List V} {us : List Value} {ds : List D}, Vals xs us → EachIs R xs ds → EachIs (fun u d => ∃ x, RelV x u ∧ R x d) us ds
  | _, _, _, .nil, .nil => .nil
  | _, _, _, .cons r1 r2, .cons e1 e2 => .cons ⟨_, r1, e1⟩ (each_vals r2 e2)
theorem each_rdl {K : PySem.W.Frag} {N : Hp} : ∀ {xs : List V} {ds : List D}, RdL K N xs ds → EachIs (Rd K N) xs ds
  | _, _, .nil => .nil
  | _, _, .cons r rs => .cons r (each_rdl rs)
theorem back_vals {K : PySem.W.Frag} {N : Hp} : ∀ {us : List Value} {ds : List D}, EachIs (fun u d => ∃ x, RelV x u ∧ Rd K N x d) us ds → ∃ ys, Vals ys us ∧ RdL K N ys ds
  | _, _, .nil => ⟨[], .nil, .nil⟩
  | _, _, .cons ⟨x, h1, h2⟩ t => by
    obtain ⟨ys, h3, h4⟩ := back_vals t
    exact ⟨x :: ys, .cons h1 h3, .cons h2 h4⟩
theorem lay_mem : ∀ {ds : List D} {d : D}, PyData.canLayAll0 ds = true → d ∈ ds → d.canLay0 = true
  | x :: ds, d, h, hm => by
    have h : (x.canLay0 && PyData.canLayAll0 ds) = true := h
    rw [Bool.and_eq_true] at h
    rcases List.mem_cons.mp hm with rfl | hm
    · exact h.1
    · exact lay_mem h.2 hm
theorem each_mem' {α β : Type} {R : α → β → Prop} : ∀ {as : List α} {bs : List β}, EachIs R as bs → EachIs (fun a b => R a b ∧ b ∈ bs) as bs
  | _, _, .nil => .nil
  | _, _, .cons h t => .cons ⟨h, List.mem_cons_self⟩ ((each_mem' t).mono fun _ _ q => ⟨q.1, List.mem_cons_of_mem _ q.2⟩)
theorem cr_srtD (hu : X.A.units + 64 < cLine) : CallR X (.builtin "sorted") (rSrtD X.K) := by
  intro pins s σ H vs us Q I rv0 h
  obtain ⟨a, xs, ds, N, rfl, hs, hN, rd, c1, c2, c3, c4, q⟩ := h
  obtain ⟨its, rvs, hls, hzs⟩ := I.list hs
  rw [Vals.ref1 rv0]
  have ex := each_vals rvs (each_rdl rd)
  have er : EachIs (fun v (d : D) => ∃ as, Reads s.heap v d as) its ds := (each_mem' ex).mono fun u d z => by
    obtain ⟨⟨x, h1, h2⟩, hm⟩ := z
    exact Dp.reads I d x u ((h2.mono hN).dp (lay_mem c1 hm)) h1
  have em : ds.map (fun d => d) = ds := List.map_id' ds
  refine sorted_data (R := fun u d => ∃ x, RelV x u ∧ Rd X.K N x d) (enc := fun d => d) hls.isList ex er (by rw [em]; exact c2) (by rw [em]; exact c3) (by rw [← rd.length]; exact hzs) (fun d hd => by have := c4 d hd; omega) fun out h1 h2 => ?_
  obtain ⟨ys, r1, r2⟩ := back_vals h2
  obtain ⟨ep, hep⟩ := PyProof.Rows.sortedAll_at s.heap its out.toArray
  have hly : ys.length ≤ sizeLine := by rw [r1.length, h1, ← rd.length]; exact hzs
  refine ⟨.ref _, upd H (s.heap.objs.size + 1) (.lst ys), ?_, rfl, q ys _ r2 (I.hok.fresh (Nat.le_succ _))⟩
  exact I.laid (t' := s.toks) (fun _ _ e => PyProof.Rows.sortedAll_old e) (Nat.le_succ _) ⟨hly, out, ep, r1, hep⟩
end
def uSrtD : UOp := fun t G => match t.ls with
  | some ds => PyData.canLayAll0 ds = true ∧ AllAlike ds ∧ Sortable ds ∧ (∀ d ∈ ds, d.depth ≤ 60) ∧ G (.v (.ol (srtD ds)))
  | none => False
section
variable {X : Cx} {C : PCx} {K : PySem.W.Frag} {e : Expr} {pa : PTE} {p pos : Pos}
theorem uniS_srtD : UniS C K (fun v => rSrtD K [v]) uSrtD := by
  intro σ τ S H v x t G Q A h1 op k
  unfold uSrtD at op
  obtain ⟨w, A0⟩ := id A
  obtain ⟨_, r1⟩ := A0.look get_snoc_last h1
  split at op
  · next ds hds =>
    obtain ⟨c1, c2, c3, c4, op⟩ := op
    obtain ⟨a, xs, rfl, q, r⟩ := r1.list hds msk_le
    exact ⟨a, xs, ds, _, rfl, q, msk_le, r, c1, c2, c3, c4, fun ys p hr hp => k _ _ _ op (A0.newL hp hr)⟩
  · exact op.elim
theorem qe_srtD {k : Nat} (hr : Room k X.A) (hm : X.mg "sorted" = none) (ha : QE X C e pa) (hg : Gl X "sorted" := by rfl) (he : starEach [e] X.env = [(false, eval e X.env)] := by rfl) : QE X C (.Call (.Name "sorted" p) [e] [] pos) (pU uSrtD pa) :=
  qe_B1 (cr_srtD hr.units) uniS_srtD hg hm (by decide +kernel) ha (he := he)
end
end PL

set_option Elab.async false
set_option linter.all false
set_option autoImplicit false
/-! sorted lists of tuples of whole numbers -/
namespace PL
open PySem L2
open PySem.W (AllAlike Sortable dataLe dataLt rowLt dataLt_tuple dataLt_ints alike alikeAll alike_ints depth_ints)
/-- a tuple of whole numbers -/
def tupI (xs : List Int) : PyData := .tuple (xs.map PyData.int)
theorem lay_intsU : ∀ xs : List Int, PyData.canLayAll0 (xs.map PyData.int) = true
  | [] => rfl
  | x :: xs => by
    have := lay_intsU xs
    show (true && PyData.canLayAll0 (xs.map PyData.int)) = true
    rw [this]; rfl
theorem lay_tupsU : ∀ l : List (List Int), PyData.canLayAll0 (l.map tupI) = true
  | [] => rfl
  | x :: l => by
    have := lay_tupsU l
    show (PyData.canLayAll0 (x.map PyData.int) && PyData.canLayAll0 (l.map tupI)) = true
    rw [this, lay_intsU]; rfl
theorem alike_tups (l : List (List Int)) : AllAlike (l.map tupI) := .of fun a b => by
  show alike (.tuple (a.map PyData.int)) (.tuple (b.map PyData.int)) = true
  rw [alike]
  exact alike_ints a b
theorem sortable_tups {l : List (List Int)} (h : ∀ x ∈ l, x ≠ []) : Sortable (l.map tupI) := .inl fun d hd => by
  obtain ⟨b, hb, rfl⟩ := List.mem_map.mp hd
  cases b with
  | nil => exact absurd rfl (h _ hb)
  | cons y r => exact ⟨_, _, rfl⟩
theorem depth_tups {l : List (List Int)} : ∀ d ∈ l.map tupI, d.depth ≤ 60 := fun d hd => by
  obtain ⟨b, hb, rfl⟩ := List.mem_map.mp hd
  show PyData.depth (.tuple (b.map PyData.int)) ≤ 60
  rw [PyData.depth, PySem.W.depth_ints]
  decide
def leR (p q : List Int) : Bool := decide (p ≤ q)
theorem dataLe_tups : dataLe false tupI = leR := by
  funext p q
  show (!dataLt (.tuple (q.map .int)) (.tuple (p.map .int))) = _
  rw [dataLt_tuple]
  show (!rowLt (q.map .int) (p.map .int)) = _
  rw [dataLt_ints]
  unfold leR
  by_cases h : q < p
  · have h' : ¬ p ≤ q := fun r => List.not_lt.mpr r h
    simp [h, h']
  · have h' : p ≤ q := List.not_lt.mp h
    simp [h, h']
theorem srtD_tups (l : List (List Int)) : srtD (l.map tupI) = (l.mergeSort leR).map tupI := by
  unfold srtD
  rw [← dataLe_tups]
  exact (List.map_mergeSort (f := tupI) (r := dataLe false tupI) (s := dataLe false fun d => d) (fun a _ b _ => rfl)).symm
theorem leR_perm {l r : List (List Int)} (h : l.Perm r) : l.mergeSort leR = r.mergeSort leR := by
  have tr : ∀ a b c : List Int, leR a b = true → leR b c = true → leR a c = true := fun a b c h1 h2 => decide_eq_true (List.le_trans (of_decide_eq_true h1) (of_decide_eq_true h2))
  have tt : ∀ a b : List Int, (leR a b || leR b a) = true := fun a b => by
    rcases List.le_total a b with z | z
    · rw [show leR a b = true from decide_eq_true z]; rfl
    · rw [show leR b a = true from decide_eq_true z, Bool.or_true]
  refine List.Perm.eq_of_pairwise (le := fun a b => leR a b = true) (fun a b _ _ h1 h2 => List.le_antisymm (of_decide_eq_true h1) (of_decide_eq_true h2)) ?_ ?_ ?_
  · exact List.pairwise_mergeSort tr tt _
  · exact List.pairwise_mergeSort tr tt _
  · exact ((List.mergeSort_perm _ _).trans h).trans (List.mergeSort_perm _ _).symm
theorem srtD_perm {l r : List (List Int)} (h : l.Perm r) : srtD (l.map tupI) = srtD (r.map tupI) := by rw [srtD_tups, srtD_tups, leR_perm h]
theorem srtD_len (l : List (List Int)) : (srtD (l.map tupI)).length = l.length := by
  rw [srtD_tups, List.length_map, (List.mergeSort_perm _ _).length_eq]
end PL

set_option Elab.async false
set_option linter.all false
set_option maxRecDepth 100000
set_option maxHeartbeats 4000000
set_option autoImplicit false
/-! sorted(d), d a dict whose keys are tuples of ints -/
namespace PL
open PySem PySem.Spec PyProof.Rows L2
open PySem.W (AllAlike Sortable dataLe EachIs alike dataLt)
def rSrtO (K : PySem.W.Frag) : List V → Hp → VK → Prop := fun vs H Q => ∃ (a : Addr) (kx : List (List Int × Addr × V)) (N : Hp), vs = [V.ref a] ∧ H a = some (dTo kx a) ∧ Evl.Ex N H ∧ (∀ x ∈ kx, SqT K N x.2.1 (x.1.map V.int)) ∧
  (∀ x ∈ kx, x.1 ≠ []) ∧ ∀ (ys : List V) (p : Addr), RdL K N ys (srtD ((kx.map (·.1)).map tupI)) → H p = none → Q (.ref p) (upd H p (.lst ys))
theorem each_idx {α β : Type} {R : α → β → Prop} : ∀ {as : List α} {bs : List β}, as.length = bs.length → (∀ (i : Nat) (a : α) (b : β), as[i]? = some a → bs[i]? = some b → R a b) → EachIs R as bs
  | [], [], _, _ => .nil
  | a :: as, b :: bs, h, k => .cons (k 0 a b rfl rfl) (each_idx (by simpa using h) fun i x y h1 h2 => k (i + 1) x y (by simpa using h1) (by simpa using h2))
  | [], _ :: _, h, _ => by simp at h
  | _ :: _, [], h, _ => by simp at h
section
variable {X : Cx}
theorem rd_tupI {K : PySem.W.Frag} {N : Hp} {b : Addr} {k : List Int} (h : SqT K N b (k.map V.int)) : Rd K N (.ref b) (tupI k) := .tup h (RdL.of_ints k)
theorem call_sortedDO (hcalm : X.calm = true) (hu : X.A.units + 64 < cLine) : CallR X (.builtin "sorted") (rSrtO X.K) := by
  intro pins s σ H vs us Q I rv0 h
  obtain ⟨a, kx, N, rfl, hd, hN, hk, hne, q⟩ := h
  rw [Vals.ref1 rv0]
  obtain ⟨hl, lo, xs, rel, o, es, ep, g1, g2, g3, g4, g5⟩ := (show ObjOk X.prog X.w H s.heap a (dTo kx a) from I.hok a _ hd).1
  have hraw : s.heap.DictRaw a es ep := ⟨o, g1, g2, g3⟩
  have hes : es.toList = xs.map (entryOfKey (tupleKind (intKind X.prog X.w))) := g4 _ _
  have hxl : xs.length = kx.length := (Paired.length rel).symm
  have hel : es.size = kx.length := by
    rw [← Array.length_toList, hes, List.length_map, hxl]
  refine Calls.call_function_entry PyProof.Rows.kind_sorted PyProof.Rows.plain_sorted PyProof.Rows.entry_sorted (PyProof.Rows.args_sorted1 _) ?_
  unfold Builtin.«sorted»
  refine wpAny_bind (m := checkCount "sorted" 1 1 _) (wpAny_pure ?_)
  refine wpAny_bind (PySem.W.kdu_collect (A := X.A.in1) (PySem.KdlSrc.rawDict lo) (I.ok.hd hcalm) hraw (by rw [hel]; exact hl) fun h' tk acc hk2 hacc => ?_)
  have hal : acc.toList.length = kx.length := by rw [Array.length_toList, hacc.1, hel]
  have I1 : Inv X pins σ H { s with heap := h', toks := tk } := I.kept hk2
  have e : EachIs (fun u d => ∃ x, RelV x u ∧ Rd X.K N x d) acc.toList ((kx.map (·.1)).map tupI) := each_idx (by rw [hal, List.length_map, List.length_map]) fun i u d h1 h2 => by
    obtain ⟨hi, rfl⟩ := hacc.2 i u (by rw [← Array.getElem?_toList]; exact h1)
    rw [List.map_map, List.getElem?_map] at h2
    obtain ⟨x, h3, rfl⟩ := Option.map_eq_some_iff.mp h2
    have hz : es.toList[i]? = some es[i] := by rw [Array.getElem?_toList]; exact Array.getElem?_eq_getElem hi
    rw [hes, List.getElem?_map] at hz
    obtain ⟨y, hy, hz⟩ := Option.map_eq_some_iff.mp hz
    have hxy : x.2.1 = y.2.1 := by
      obtain ⟨y', hy', r⟩ := L2.DX.pget rel hy
      rw [h3] at hy'
      cases hy'
      exact r.2.1
    refine ⟨.ref x.2.1, ?_, rd_tupI (hk x (List.mem_of_getElem? h3))⟩
    rw [← hz, hxy]
    rfl
  have hL : acc.toList.length ≤ sizeLine := by rw [hal]; exact hl
  refine wpAny_bind (wpAny_newList ?_ hL)
  have hoL : (h'.push (seqObj "list" acc.toList.toArray 0)).get? h'.objs.size = some (seqObj "list" acc.toList.toArray 0) := Heap.get?_push_size _ rfl
  show wpAny _ _ _ _ _ { s with heap := h'.push (seqObj "list" acc.toList.toArray 0), toks := tk }
  have hne2 : ∀ x ∈ kx.map (·.1), x ≠ [] := fun x hx => by
    obtain ⟨y, hy, rfl⟩ := List.mem_map.mp hx
    exact hne y hy
  have em : ((kx.map (·.1)).map tupI).map (fun d => d) = (kx.map (·.1)).map tupI := List.map_id' _
  have er : EachIs (fun v (d : D) => ∃ as, Reads h' v d as) acc.toList ((kx.map (·.1)).map tupI) := (each_mem' e).mono fun u d z => by
    obtain ⟨⟨x, h1, h2⟩, hm⟩ := z
    exact Dp.reads I1 d x u ((h2.mono hN).dp (lay_mem (lay_tupsU _) hm)) h1
  have er' : EachIs (fun v (d : D) => ∃ as, Reads (PySem.W.sortingHeap (h'.push (seqObj "list" acc.toList.toArray 0)) h'.objs.size acc.toList) v d as) acc.toList ((kx.map (·.1)).map tupI) := er.mono fun _ _ ⟨as, r⟩ =>
    ⟨as, PyProof.Rows.Reads.keeps (fun b o q => PySem.W.sortingHeap_old (Nat.ne_of_lt (Heap.lt_size q)) (Heap.get?_push_of_some _ q)) r⟩
  refine wpAny_bind (wpAny_holding (wpAny_call_entry PyProof.Rows.slot_list_sort ⟨_, hoL, rfl⟩ PyProof.Rows.entry_list_sort
    (PySem.W.list_sort_vals (κ := PySem.W.dataKind (PySem.W.sortingHeap (h'.push (seqObj "list" acc.toList.toArray 0)) h'.objs.size acc.toList) ((kx.map (·.1)).map tupI)) hoL
      (PySem.W.SortsAt.data (s := { s with heap := PySem.W.sortingHeap (h'.push (seqObj "list" acc.toList.toArray 0)) h'.objs.size acc.toList, toks := tk }) er' (alike_tups _) (sortable_tups hne2) (fun d hd => by have := depth_tups d hd; show X.A.units + 1 + 1 + d.depth < cLine; omega)) hL ⟨_, rfl, ?_⟩) (PyProof.Rows.args_list_sort _)))
  obtain ⟨ys, r1, r2⟩ := back_vals (PySem.W.sortVals_data (enc := fun d => d) false e (by exact er') (by rw [em]; exact alike_tups _))
  rw [em] at r1
  obtain ⟨e', he'⟩ := PyProof.Rows.sortedHeap_at (vs := acc.toList) (out := (PySem.W.sortVals (PySem.W.dataKind (PySem.W.sortingHeap (h'.push (seqObj "list" acc.toList.toArray 0)) h'.objs.size acc.toList) ((kx.map (·.1)).map tupI)) false acc.toList acc.toList).toArray) hoL
  have hlen : ys.length ≤ sizeLine := by
    rw [r1.length, PySem.W.sortVals_length false rfl]; exact hL
  refine wpAny_pure ⟨_, rfl, .ref h'.objs.size, upd H h'.objs.size (.lst ys), I1.laid (t' := tk) (fun b u e => ?_) (Nat.le_refl _)
    (show ObjOk X.prog X.w _ _ _ (.lst ys) from ⟨hlen, _, e', r1, he'⟩), rfl, q ys _ r2 (I1.hok.fresh (Nat.le_refl _))⟩
  have hb : b < h'.objs.size := Heap.lt_size e
  show (sortedHeap _ _ _ _).get? b = _
  rw [PyProof.Rows.sortedHeap_old (Nat.ne_of_lt hb) (by rw [size_push']; exact Nat.lt_succ_of_lt hb)]
  exact Heap.get?_push_of_some _ e
end
/-- sorted(d), keys tuples of ints -/
def uSrtO : UOp := fun t G => match t with
  | .ot kvs => (∀ x ∈ kvs, x.1 ≠ []) ∧ G (.v (.ol (srtD ((kvs.map (·.1)).map tupI))))
  | _ => False
section
variable {X : Cx} {C : PCx} {K : PySem.W.Frag} {e : Expr} {pa : PTE} {p pos : Pos}
theorem uniS_srtO : UniS C K (fun v => rSrtO K [v]) uSrtO := by
  intro σ τ S H v x t G Q A h1 op k
  unfold uSrtO at op
  obtain ⟨w, A0⟩ := id A
  obtain ⟨_, r1⟩ := A0.look get_snoc_last h1
  split at op
  · next kvs =>
    obtain ⟨hne, op⟩ := op
    cases r1 with
    | @ot _ a kx _ g1 g2 g3 g4 g5 =>
      refine ⟨a, kx, _, rfl, g2, msk_le, g4, fun x hx => ?_, fun ys p hr hp => k _ _ _ op (A0.newL hp (by rw [← g3]; exact hr))⟩
      have hm : x.1 ∈ kvs.map (·.1) := by rw [← g3]; exact List.mem_map_of_mem hx
      obtain ⟨y, hy, e⟩ := List.mem_map.mp hm
      rw [← e]
      exact hne y hy
  · exact op.elim
theorem qe_srtO {k : Nat} (hc : X.calm = true) (hr : Room k X.A) (hm : X.mg "sorted" = none) (ha : QE X C e pa) (hg : Gl X "sorted" := by rfl) (he : starEach [e] X.env = [(false, eval e X.env)] := by rfl) : QE X C (.Call (.Name "sorted" p) [e] [] pos) (pU uSrtO pa) :=
  qe_B1 (call_sortedDO hc hr.units) uniS_srtO hg hm (by decide +kernel) ha (he := he)
end
end PL

set_option Elab.async false
set_option linter.all false
set_option maxRecDepth 100000
set_option maxHeartbeats 4000000
set_option autoImplicit false
/-! sorted(t), t a tuple of fewer than 64 ints -/
namespace PL
open PySem PySem.Spec PyProof.Rows L2
def rSortedTI (K : PySem.W.Frag) : List V → Hp → VK → Prop := fun xs H Q => ∃ (a : Addr) (ks : List Int), xs = [.ref a] ∧ SqT K H a (ks.map V.int) ∧ ks.length < 64 ∧
    ∀ (ys : List Int) (p : Addr), ys.Perm ks → ys.Pairwise (· ≤ ·) → H p = none → Q (.ref p) (upd H p (.lst (ys.map V.int)))
theorem call_sortedTI {X : Cx} : CallR X (.builtin "sorted") (rSortedTI X.K) := by
  intro pins s σ H xs us Q I r q
  obtain ⟨a, ks, rfl, hq, h64, q⟩ := q
  rw [Vals.ref1 r]
  obtain ⟨its, rv, ⟨o, ho, hc, n, hd⟩, _⟩ := I.tuple hq
  have hS0 : IntsAre its ks := ints_of_vals rv
  have hal : its.length = ks.length := by
    have := rv.length
    rw [List.length_map] at this
    exact this.symm
  refine Calls.call_function_entry PyProof.Rows.kind_sorted PyProof.Rows.plain_sorted PyProof.Rows.entry_sorted (PyProof.Rows.args_sorted1 _) ?_
  unfold Builtin.«sorted»
  refine wpAny_bind (m := checkCount "sorted" 1 1 _) (wpAny_pure ?_)
  refine wpAny_bind (wpAny_collect_seq (A := X.A.in1) a (.inr rfl) ho hc hd (fun h' hk => ?_) (by rw [List.size_toArray, hal, sizeLine_eq]; omega))
  have I1 : Inv X pins σ H { s with heap := h' } := I.kept (t' := s.toks) hk
  have hal2 : its.toArray.toList.length = ks.length := by simpa using hal
  refine wpAny_bind (wpAny_newList ?_ (by rw [hal2, sizeLine_eq]; omega))
  have hoL : (h'.push (seqObj "list" its.toArray.toList.toArray 0)).get? h'.objs.size = some (seqObj "list" its.toArray.toList.toArray 0) := Heap.get?_push_size _ rfl
  show wpAny _ _ _ _ _ { s with heap := h'.push (seqObj "list" its.toArray.toList.toArray 0) }
  refine wpAny_bind (wpAny_holding (wpAny_call_entry PyProof.Rows.slot_list_sort ⟨_, hoL, rfl⟩ PyProof.Rows.entry_list_sort
    (PyProof.Rows.list_sort_tree (s := { s with heap := h'.push (seqObj "list" its.toArray.toList.toArray 0) }) hoL (by simpa using hS0) (by rw [hal2]; exact h64) fun out ys g1 g2 g3 => ⟨_, rfl, ?_⟩) (PyProof.Rows.args_list_sort _)))
  obtain ⟨e', he'⟩ := PyProof.Rows.sortedHeap_at (vs := its.toArray.toList) (out := out) hoL
  have hlen : (ys.map V.int).length ≤ sizeLine := by
    rw [List.length_map, g2.length_eq]
    exact Nat.le_trans (Nat.le_of_lt h64) (by decide)
  refine wpAny_pure ⟨_, rfl, .ref h'.objs.size, upd H h'.objs.size (.lst (ys.map V.int)), I1.laid (t' := s.toks) (fun b u e => ?_) (Nat.le_refl _)
    (show ObjOk X.prog X.w _ _ _ (.lst (ys.map V.int)) from ⟨hlen, out.toList, e', vals_of_ints g1, by rw [Array.toArray_toList]; exact he'⟩), rfl, q ys _ g2 g3 (I1.hok.fresh (Nat.le_refl _))⟩
  have hb : b < h'.objs.size := Heap.lt_size e
  rw [PyProof.Rows.sortedHeap_old (Nat.ne_of_lt hb) (by rw [size_push']; exact Nat.lt_succ_of_lt hb)]
  exact Heap.get?_push_of_some _ e
def uSortedT : UOp := fun t G => match t with
  | .p (.tuple ds) => ∃ ns, allI ds = some ns ∧ ns.length < 64 ∧ ∀ l : List Int, l.Perm ns → l.Pairwise (· ≤ ·) → G (.v (.ol (l.map .int)))
  | _ => False
section
variable {X : Cx} {C : PCx} {K : PySem.W.Frag} {e : Expr} {pa : PTE} {p pos : Pos}
theorem uniS_sortedT : UniS C K (fun v H Q => rSortedTI K [v] H Q) uSortedT := by
  intro σ τ S H v x t G Q A h1 op k
  unfold uSortedT at op
  split at op
  · next ds =>
    obtain ⟨ns, hi, hl, op⟩ := op
    obtain ⟨w, A0⟩ := id A
    obtain ⟨_, r1⟩ := A0.look get_snoc_last h1
    cases r1 with
    | p r =>
      cases r with
      | tup q r =>
        have e := allI_eq hi
        subst e
        rw [r.ints] at q
        refine ⟨_, ns, rfl, Evl.ex_t msk_le q, hl, fun ns' p h1 h2 hp => k _ _ _ (op ns' h1 h2) ?_⟩
        exact A0.newL hp (RdL.of_ints ns')
  · exact op.elim
theorem qe_sortedT (hm : X.mg "sorted" = none) (ha : QE X C e pa) (hg : Gl X "sorted" := by rfl) (he : starEach [e] X.env = [(false, eval e X.env)] := by rfl) : QE X C (.Call (.Name "sorted" p) [e] [] pos) (pU uSortedT pa) :=
  qe_B1 call_sortedTI uniS_sortedT hg hm (by decide +kernel) ha (he := he)
end
end PL

set_option Elab.async false
set_option linter.all false
set_option maxRecDepth 100000
set_option maxHeartbeats 4000000
set_option autoImplicit false
/-! comprehensions over the keys of a dict that a slot owns -/
namespace PL
open PySem L2
/-- [e for g in d if q], d a dict that slot i owns: locked while it is walked -/
def pLcK (i : Nat) (g : PTG) (q : PTT) (e : PTE) (vs : List Nat) : PTE := fun S G => match S[i]? with
  | some (some (.od kvs)) => ∀ (a : Addr) (o : Obj) (kx : List (Key × V)), ∃ W : Nat → List PyData → Sl → Prop, W 0 [] (wipeS (S.set i (some (.lk a o kx kvs))) vs) ∧ (∀ j acc S', W j acc S' → S'[i]? = some (some (.lk a o kx kvs))) ∧
    (∀ j kv acc S', kvs[j]? = some kv → W j acc S' → g (kD kv.1) S' fun S2 => q S2 fun b S3 => (b = true → e S3 fun y S4 => match y with
      | .v (.p d') => acc.length < sizeLine ∧ W (j + 1) (acc ++ [d']) (wipeS S4 vs)
      | _ => False) ∧ (b = false → W (j + 1) acc (wipeS S3 vs))) ∧
    (∀ acc S', W kvs.length acc S' → G (.v (.ol acc)) (S'.set i (some (.od kvs))))
  | _ => False
section
variable {X : Cx} {C : PCx} {elt tg iter : Expr} {ifs : List Expr} {pe : PTE} {pos : Pos} {vs : List Nat}
theorem qe_lcK {i : Nat} {g : PTG} {q : PTT} {scope : Scope} (own : List (Str × Nat)) (hc : X.calm = true) (hN : X.N.Nodup) (ok : BlkOk X.N X.env.scope scope own) (hv : OwnV C (own.map (·.2))) (hi : PE X iter (tVar i))
    (hg : ∀ z, QGb (blkX X scope z) C tg (own.map (·.2)) g) (hq : ∀ z, QTs (blkX X scope z) C ifs q) (he : ∀ z, QE (blkX X scope z) C elt pe) (hs : ∀ x, foldedSetIterable iter X.env x = pure x := by intro _; rfl) :
    QE X C (.ListComp elt [⟨tg, iter, ifs, 0⟩] scope pos) (pLcK i g q pe (own.map (·.2))) := by
  have hg' := fun z => (hg z).ex
  have hq' := fun z => (hq z).ex
  have he' := fun z => (he z).ex
  obtain ⟨gt, hg'⟩ := Classical.skolem.mp hg'
  obtain ⟨tt, hq'⟩ := Classical.skolem.mp hq'
  obtain ⟨te, he'⟩ := Classical.skolem.mp he'
  refine ⟨_, pe_lock (pe_lc (own := own) (g := fun v σ H Q => ∀ z, gt z v σ H Q) (tt := fun σ H Q => ∀ z, tt z σ H Q) (te := fun σ H Q => ∀ z, te z σ H Q) hc hN (pi_keys hi) ok
    (fun s H C' cl fp => ⟨fun pins s' σ H' x v Q I r h => (hg' (s, H, C', cl, fp)).1.run pins s' σ H' x v Q I r (h _)⟩) (fun s H C' cl fp => ⟨fun pins s' σ H' Q I h => (hq' (s, H, C', cl, fp)).1.run pins s' σ H' Q I (h _)⟩)
    (fun s H C' cl fp => ⟨fun pins s' σ H' Q I h => (he' (s, H, C', cl, fp)).1.run pins s' σ H' Q I (h _)⟩) hs), fun τ S σ H G Q A hp k => ?_⟩
  unfold pLcK at hp
  split at hp
  · next kvs hsl =>
    obtain ⟨a, kx, hσ, hH, lk⟩ := A.lock hsl
    refine ⟨a, .dK kx, hH, trivial, fun o => ?_⟩
    obtain ⟨W, w0, wk, turn, last⟩ := hp a o kx
    refine ⟨.ref a, hσ, a, o, rfl, .inl ⟨kx, upd_same, ?_⟩⟩
    intro D hD
    have A2 : Abs X.K C σ (τ ++ [(.ref D, .v (.ol []))]) _ _ := (lk o).allocO hD (.lst []) rfl fun w w' _ _ hw => .ol hw upd_same .nil
    have A3 := A2.wipe hv
    refine ⟨fun j m H => j + m = kvs.length ∧ ∃ acc S, Abs X.K C (L2.wipe σ (own.map (·.2))) (τ ++ [(.ref D, .v (.ol acc))]) S H ∧ W j acc S, ⟨kvs.length, by simp, [], _, A3, w0⟩, ?_⟩
    rintro j m H ⟨him, acc, S, A, wj⟩
    obtain ⟨q1, q2, q3⟩ := A.locked (wk j acc S wj)
    have ql : kx.length = kvs.length := by
      have := congrArg List.length q2
      rwa [List.length_map, List.length_map] at this
    by_cases h : j < kvs.length
    · right
      refine ⟨⟨q1, by rw [ql]; exact h⟩, fun H' => ∃ acc S, Abs X.K C (L2.wipe σ (own.map (·.2))) (τ ++ [(.ref D, .v (.ol acc))]) S H' ∧ W (j + 1) acc S, fun H' h' => ⟨m - 1, by omega, by omega, h'⟩, fun x H' y z => ?_⟩
      obtain ⟨rfl, k', v, hkv, rfl⟩ := y
      have hk : kvs[j]? = some kvs[j] := List.getElem?_eq_getElem h
      have ek : kvs[j].1 = k' := by
        have := congrArg (·[j]?) q2
        rw [List.getElem?_map, List.getElem?_map, hkv, hk] at this
        exact (Option.some.inj this).symm
      have A' : Abs X.K C (L2.wipe σ (own.map (·.2))) (τ ++ [(.ref D, .v (.ol acc))] ++ [(kV k', .v (.p (kD kvs[j].1)))]) S H' := A.push fun w _ => by
        rw [ek]
        cases k' with
        | inl i => exact .int _
        | inr x => exact .str _
      refine (hg' z).2 _ S _ H' (kV k') (kD kvs[j].1) _ _ A' (turn j _ acc S hk wj) fun σ2 S2 H2 hw A' q => ?_
      have hw : L2.wipe σ2 (own.map (·.2)) = L2.wipe σ (own.map (·.2)) := hw.trans wipe_idem
      refine ⟨hw, fun z' => (hq' z').2 _ S2 σ2 H2 _ _ A' q fun b H3 S3 q3 A3 => ?_⟩
      cases b with
      | false =>
        rw [if_neg Bool.false_ne_true]
        have A4 := A3.wipe hv
        rw [hw] at A4
        exact ⟨acc, _, A4, q3.2 rfl⟩
      | true =>
        rw [if_pos rfl]
        refine fun z'' => (he' z'').2 _ S3 σ2 H3 _ _ A3 (q3.1 rfl) fun z H4 y S4 q4 A4 => ?_
        try dsimp only at q4
        split at q4
        · next d' =>
          obtain ⟨xs, h1, h2, A5⟩ := A4.acc
          have A6 := A5.wipe hv
          rw [hw] at A6
          exact ⟨xs, h1, by rw [h2]; exact q4.1, _, _, A6, q4.2⟩
        · exact q4.elim
    · left
      have e : j = kvs.length := by omega
      subst e
      have A' := A.unwipe hv
      obtain ⟨u1, _, u3⟩ := A'.locked (wk _ acc S wj)
      exact ⟨⟨q1, by rw [ql]; exact Nat.le_refl _⟩, u1, k _ _ (.v (.ol acc)) _ (last acc S wj) u3⟩
  · exact hp.elim
end
end PL

set_option Elab.async false
set_option linter.all false
set_option maxRecDepth 100000
set_option maxHeartbeats 4000000
set_option autoImplicit false
/-! what recurs: pens -/
namespace PL
open PySem L2
abbrev pen (g a : Int) (ns : List Int) : T := .ol [.int g, .int a, .list (ns.map PyData.int)]
def wPick (c1 m1 k1 t1 f1 p1 m2 t2 p2 dv : Int) : PTS := sSeq (sIf (qV (pB cGt (pB bIx (pV 0) (pC (.int 0))) (pC (.int 0))))
  (sSeq (sSet 5 (pB bMod (pB bIx (pV 0) (pC (.int 0))) (pD 1)))
  (sSeq (sSetIx (pV 0) (pC (.int 0)) (pB bDiv (pB bIx (pV 0) (pC (.int 0))) (pD 1)))
  (sRet (pD 5))))
  (sNx))
  (sSeq (sSet 2 (pB bIx (pV 0) (pC (.int 1))))
  (sSeq (sSetIx (pV 0) (pC (.int 1)) (pB bAdd (pD 2) (pC (.int 1))))
  (sSeq (sSet 3 (pC (.int c1)))
  (sCut (sIf (qV (pB cGt (pU uLen (pB bIx (pV 0) (pC (.int 2)))) (pC (.int 0))))
  (sSet 3 (pB bIx (pB bIx (pV 0) (pC (.int 2))) (pB bMod (pD 2) (pU uLen (pB bIx (pV 0) (pC (.int 2)))))))
  (sNx))
  (sSeq (sIfC (qAnd (qV (pB cLt (pD 2) (pU uLen (pB bIx (pV 0) (pC (.int 2)))))) (qV (pB cGe (pU uAbs (pD 3)) (pB bPow (pC (.int 10)) (pC (.int 18))))))
  (sSeq (sSetIx (pV 0) (pC (.int 0)) (pB bDiv (pU uAbs (pD 3)) (pD 1)))
  (sRet (pB bMod (pU uAbs (pD 3)) (pD 1))))
  (sNx))
  (sSeq (sSet 4 (pB bMod (pB bMul (pB bAdd (pB bAdd (pB bMod (pD 3) (pC (.int m1))) (pB bMul (pC (.int k1)) (pD 2))) (pC (.int t1))) (pC (.int f1))) (pC (.int p1))))
  (sSeq (sSet 4 (pB bMod (pB bMul (pD 4) (pB bAdd (pB bAdd (pB bMod (pD 4) (pC (.int m2))) (pD 2)) (pC (.int t2)))) (pC (.int p2))))
  (sRet (pB bMod (pB bDiv (pD 4) (pC (.int dv))) (pD 1))))))))))
def spPick : FSp := fun ts K => ∃ (g a m : Int) (ns : List Int), ts = [pen g a ns, .p (.int m)] ∧ 0 ≤ g ∧ 0 ≤ a ∧ a ≤ 2 ^ 40 ∧ 0 < m ∧ m ≤ 2 ^ 200 ∧
  ∀ r g' a', 0 ≤ r → r < m → 0 ≤ g' → a ≤ a' → a' ≤ a + 1 → K (.p (.int r)) [some (pen g' a' ns), some (.p (.int m))]
/-! bits -/
@[irreducible] def LB (n : Nat) (z : Int) : Prop := z.natAbs < 2 ^ n
theorem LB.lt {n : Nat} {z : Int} (h : LB n z) : z.natAbs < 2 ^ n := by unfold LB at h; exact h
theorem LB.mk {n : Nat} {z : Int} (h : z.natAbs < 2 ^ n) : LB n z := by unfold LB; exact h
theorem LB.of {n : Nat} {z : Int} (h : -(2 ^ n) < z ∧ z < 2 ^ n) : LB n z := by
  unfold LB
  have : (z.natAbs : Int) < ((2 ^ n : Nat) : Int) := by push_cast; omega
  exact_mod_cast this
theorem LB.to {n : Nat} {z : Int} (h : LB n z) : -(2 ^ n) < z ∧ z < 2 ^ n := by
  have h := h.lt
  have : (z.natAbs : Int) < ((2 ^ n : Nat) : Int) := by exact_mod_cast h
  push_cast at this; omega
theorem LB.mono {n m : Nat} {z : Int} (h : LB n z) (l : n ≤ m) : LB m z := .mk (Nat.lt_of_lt_of_le h.lt (Nat.pow_le_pow_right (by decide) l))
theorem LB.mul {a b : Nat} {x y : Int} (h : LB a x) (k : LB b y) : LB (a + b) (x * y) := by
  unfold LB at *
  rw [Int.natAbs_mul, Nat.pow_add]
  exact Nat.mul_lt_mul_of_lt_of_lt h k
theorem LB.add {a b c : Nat} {x y : Int} (h : LB a x) (k : LB b y) (h1 : a < c := by omega) (h2 : b < c := by omega) : LB c (x + y) := by
  obtain ⟨c, rfl⟩ : ∃ d, c = d + 1 := ⟨c - 1, by omega⟩
  have h := h.mono (m := c) (by omega)
  have k := k.mono (m := c) (by omega)
  unfold LB at *
  rw [Nat.pow_succ]
  omega
theorem LB.neg {a : Nat} {x : Int} (h : LB a x) : LB a (-x) := by unfold LB at *; omega
theorem LB.sub {a b c : Nat} {x y : Int} (h : LB a x) (k : LB b y) (h1 : a < c := by omega) (h2 : b < c := by omega) : LB c (x - y) := by
  rw [Int.sub_eq_add_neg]; exact h.add k.neg h1 h2
theorem LB.mulOk {a b : Nat} {x y : Int} (h : LB a x) (k : LB b y) (l : a + b ≤ 134217728 := by omega) : CMulX x y := mulx_ok h.lt k.lt l
theorem LB.shlOk {a : Nat} {x : Int} {j : Int} (h : LB a x) (h0 : 0 ≤ j) (h2 : a + j ≤ 134217728) : CShl x j := by
  obtain ⟨n, rfl⟩ := Int.eq_ofNat_of_zero_le h0
  exact shl_ok h.lt (by omega)
theorem LB.pow (n : Nat) : LB (n + 1) (2 ^ n) := LB.of ⟨by have : (0 : Int) < 2 ^ n := Int.pow_pos (by decide); have : (0 : Int) < 2 ^ (n + 1) := Int.pow_pos (by decide); omega, by rw [Int.pow_succ]; have : (0 : Int) < 2 ^ n := Int.pow_pos (by decide); omega⟩
structure PickC (c1 m1 k1 t1 f1 p1 m2 t2 p2 dv : Int) : Prop where
  m1 : 0 < m1 ∧ m1 < 2 ^ 40
  k1 : 0 ≤ k1 ∧ k1 < 2 ^ 40
  t1 : 0 ≤ t1 ∧ t1 < 2 ^ 40
  f1 : 0 ≤ f1 ∧ f1 < 2 ^ 40
  p1 : 0 < p1 ∧ p1 < 2 ^ 40
  m2 : 0 < m2 ∧ m2 < 2 ^ 40
  t2 : 0 ≤ t2 ∧ t2 < 2 ^ 40
  p2 : 0 < p2 ∧ p2 < 2 ^ 40
  dv : 0 < dv ∧ dv < 2 ^ 40
theorem mulS {i j : Int} (a b : Nat) (h1 : -(2 ^ a) < i ∧ i < 2 ^ a) (h2 : -(2 ^ b) < j ∧ j < 2 ^ b) (h : a + b ≤ 134217728 := by decide) : CMulX i j := by
  refine mulx_ok (a := a) (b := b) ?_ ?_ h
  · have : (i.natAbs : Int) < ((2 ^ a : Nat) : Int) := by push_cast; omega
    exact_mod_cast this
  · have : (j.natAbs : Int) < ((2 ^ b : Nat) : Int) := by push_cast; omega
    exact_mod_cast this
theorem powS {i j : Int} (h : 0 ≤ j ∧ j ≤ 1000000) (hi : -(2 ^ 64) < i ∧ i < 2 ^ 64) : CPow i j := ⟨h.1, h.2, by omega⟩
theorem shlS {i j : Int} (a : Nat) (h1 : -(2 ^ a) < i ∧ i < 2 ^ a) (h0 : 0 ≤ j) (h2 : a + j ≤ 134217728) : CShl i j := by
  obtain ⟨n, rfl⟩ := Int.eq_ofNat_of_zero_le h0
  refine shl_ok (n := a) ?_ (by omega)
  have : (i.natAbs : Int) < ((2 ^ a : Nat) : Int) := by push_cast; omega
  exact_mod_cast this
theorem divS {i j : Int} (b : Nat) (h1 : 0 < j) (h2 : j < 2 ^ b) (h0 : 0 < b := by decide) (h9 : b ≤ 9000 := by decide) : CDivW i j := by
  refine wide_div (b := b) h1 ?_ h0 h9
  have : (j.natAbs : Int) < ((2 ^ b : Nat) : Int) := by push_cast; omega
  exact_mod_cast this
theorem ifC {c : Sl → (Bool → Sl → Prop) → Prop} {A B : Sl → Prop} {S : Sl} (P Q : Prop) (h : c S (fun k S1 => (k = true → S1 = S ∧ P) ∧ (k = false → S1 = S ∧ Q))) (ha : P → A S) (hb : Q → B S) :
    ∃ P Q : Sl → Prop, c S (fun k S1 => (k = true → P S1) ∧ (k = false → Q S1)) ∧ (∀ S, P S → A S) ∧ (∀ S, Q S → B S) :=
  ⟨fun S1 => S1 = S ∧ P, fun S1 => S1 = S ∧ Q, h, fun _ ⟨e, p⟩ => e ▸ ha p, fun _ ⟨e, p⟩ => e ▸ hb p⟩
theorem rng_at {lo hi : Int} {i : Nat} {d : D} (h : (rng lo hi)[i]? = some d) : d = .int (lo + i) ∧ lo + i < hi := by
  unfold rng at h
  rw [List.getElem?_map] at h
  obtain ⟨k, h1, rfl⟩ := Option.map_eq_some_iff.mp h
  obtain ⟨h2, h3⟩ := List.getElem?_eq_some_iff.mp h1
  rw [List.getElem_range] at h3
  rw [List.length_range] at h2
  subst h3
  exact ⟨rfl, by omega⟩
theorem rng_len {lo hi : Int} : (rng lo hi).length = (hi - lo).toNat := by simp [rng]
theorem dT {p : Prop} [Decidable p] (h : decide p = true) : p := of_decide_eq_true h
theorem dF {p : Prop} [Decidable p] (h : decide p = false) : ¬p := of_decide_eq_false h
theorem nT {b : Bool} (h : (!b) = true) : b = false := by cases b <;> simp_all
theorem nF {b : Bool} (h : (!b) = false) : b = true := by cases b <;> simp_all
theorem neT {p : Prop} [Decidable p] (h : (true ^^ decide p) = true) : ¬p := by by_cases q : p <;> simp_all
theorem neF {p : Prop} [Decidable p] (h : (true ^^ decide p) = false) : p := by by_cases q : p <;> simp_all
theorem eqT {p : Prop} [Decidable p] (h : (false ^^ decide p) = true) : p := by by_cases q : p <;> simp_all
theorem eqF {p : Prop} [Decidable p] (h : (false ^^ decide p) = false) : ¬p := by by_cases q : p <;> simp_all
/-- a place of a list of ints -/
theorem ints_at {ns : List Int} {i : Int} (h0 : 0 ≤ i) (h1 : i < ns.length) : ∃ c : Int, c ∈ ns ∧ ns[i.toNat]? = some c ∧ atI (ns.map PyData.int) i = some (.int c) := by
  have hl : i.toNat < ns.length := by omega
  refine ⟨ns[i.toNat], List.getElem_mem hl, List.getElem?_eq_getElem hl, ?_⟩
  have := atI_nat (xs := ns.map PyData.int) (j := i.toNat) (v := .int ns[i.toNat]) (by rw [List.getElem?_map, List.getElem?_eq_getElem hl]; rfl)
  rwa [Int.toNat_of_nonneg h0] at this
theorem vPick {c1 m1 k1 t1 f1 p1 m2 t2 p2 dv : Int} (c : PickC c1 m1 k1 t1 f1 p1 m2 t2 p2 dv) (ts : List T) (K : T → List (Option T) → Prop) (h : spPick ts K) : ts.length = 2 ∧ wPick c1 m1 k1 t1 f1 p1 m2 t2 p2 dv (endsOf [true, true] ts K) (PL.start 6 ts) := by
  obtain ⟨g, a, m, ns, rfl, hg, ha, ha', hm, hm', k⟩ := h
  refine ⟨rfl, ?_⟩
  ((repeat ((conv => whnf); first | refine ⟨_, rfl, ?_⟩ | refine ⟨Nat.le_of_ble_eq_true rfl, ?_⟩ | refine ⟨fun h => Bool.noConfusion h, fun _ => ?_⟩ | refine ⟨fun _ => ?_, fun h => Bool.noConfusion h⟩ | refine ⟨fun h => absurd h (by decide), fun _ => ?_⟩ | refine ⟨fun _ => ?_, fun h => absurd h (by decide)⟩ | refine ⟨trivial, ?_⟩ | refine ⟨nd0 rfl, ?_⟩ | refine ⟨nd1 rfl, ?_⟩ | refine ⟨nd2 rfl (by decide), ?_⟩ | refine ⟨nd3 rfl (by decide), ?_⟩ | refine ⟨rfl, ?_⟩)); (conv => whnf); try dsimp only [Int.reduceToNat])
  refine ⟨fun h => ?_, fun h => ?_⟩
  · ((repeat ((conv => whnf); first | refine ⟨_, rfl, ?_⟩ | refine ⟨Nat.le_of_ble_eq_true rfl, ?_⟩ | refine ⟨fun h => Bool.noConfusion h, fun _ => ?_⟩ | refine ⟨fun _ => ?_, fun h => Bool.noConfusion h⟩ | refine ⟨fun h => absurd h (by decide), fun _ => ?_⟩ | refine ⟨fun _ => ?_, fun h => absurd h (by decide)⟩ | refine ⟨trivial, ?_⟩ | refine ⟨nd0 rfl, ?_⟩ | refine ⟨nd1 rfl, ?_⟩ | refine ⟨nd2 rfl (by decide), ?_⟩ | refine ⟨nd3 rfl (by decide), ?_⟩ | refine ⟨rfl, ?_⟩)); (conv => whnf); try dsimp only [Int.reduceToNat])
    refine ⟨hm, ?_⟩
    ((repeat ((conv => whnf); first | refine ⟨_, rfl, ?_⟩ | refine ⟨Nat.le_of_ble_eq_true rfl, ?_⟩ | refine ⟨fun h => Bool.noConfusion h, fun _ => ?_⟩ | refine ⟨fun _ => ?_, fun h => Bool.noConfusion h⟩ | refine ⟨fun h => absurd h (by decide), fun _ => ?_⟩ | refine ⟨fun _ => ?_, fun h => absurd h (by decide)⟩ | refine ⟨trivial, ?_⟩ | refine ⟨nd0 rfl, ?_⟩ | refine ⟨nd1 rfl, ?_⟩ | refine ⟨nd2 rfl (by decide), ?_⟩ | refine ⟨nd3 rfl (by decide), ?_⟩ | refine ⟨rfl, ?_⟩)); (conv => whnf); try dsimp only [Int.reduceToNat])
    refine ⟨divS 201 hm (by omega), ?_⟩
    ((repeat ((conv => whnf); first | refine ⟨_, rfl, ?_⟩ | refine ⟨Nat.le_of_ble_eq_true rfl, ?_⟩ | refine ⟨fun h => Bool.noConfusion h, fun _ => ?_⟩ | refine ⟨fun _ => ?_, fun h => Bool.noConfusion h⟩ | refine ⟨fun h => absurd h (by decide), fun _ => ?_⟩ | refine ⟨fun _ => ?_, fun h => absurd h (by decide)⟩ | refine ⟨trivial, ?_⟩ | refine ⟨nd0 rfl, ?_⟩ | refine ⟨nd1 rfl, ?_⟩ | refine ⟨nd2 rfl (by decide), ?_⟩ | refine ⟨nd3 rfl (by decide), ?_⟩ | refine ⟨rfl, ?_⟩)); (conv => whnf); try dsimp only [Int.reduceToNat])
    exact k _ _ _ (Int.emod_nonneg _ (by omega)) (Int.emod_lt_of_pos _ hm) (Int.ediv_nonneg hg (by omega)) (by omega) (by omega)
  · ((repeat ((conv => whnf); first | refine ⟨_, rfl, ?_⟩ | refine ⟨Nat.le_of_ble_eq_true rfl, ?_⟩ | refine ⟨fun h => Bool.noConfusion h, fun _ => ?_⟩ | refine ⟨fun _ => ?_, fun h => Bool.noConfusion h⟩ | refine ⟨fun h => absurd h (by decide), fun _ => ?_⟩ | refine ⟨fun _ => ?_, fun h => absurd h (by decide)⟩ | refine ⟨trivial, ?_⟩ | refine ⟨nd0 rfl, ?_⟩ | refine ⟨nd1 rfl, ?_⟩ | refine ⟨nd2 rfl (by decide), ?_⟩ | refine ⟨nd3 rfl (by decide), ?_⟩ | refine ⟨rfl, ?_⟩)); (conv => whnf); try dsimp only [Int.reduceToNat])
    refine ⟨fun S => ∃ z : Int, S = [some (.ol [.int g, .int (a + 1), .list (ns.map PyData.int)]), some (.p (.int m)), some (.p (.int a)), some (.p (.int z)), none, none], ?_, fun S ⟨z, hS⟩ => ?_⟩
    · have hl : (ns.map PyData.int).length = ns.length := List.length_map ..
      ((repeat ((conv => whnf); first | refine ⟨_, rfl, ?_⟩ | refine ⟨Nat.le_of_ble_eq_true rfl, ?_⟩ | refine ⟨fun h => Bool.noConfusion h, fun _ => ?_⟩ | refine ⟨fun _ => ?_, fun h => Bool.noConfusion h⟩ | refine ⟨fun h => absurd h (by decide), fun _ => ?_⟩ | refine ⟨fun _ => ?_, fun h => absurd h (by decide)⟩ | refine ⟨trivial, ?_⟩ | refine ⟨nd0 rfl, ?_⟩ | refine ⟨nd1 rfl, ?_⟩ | refine ⟨nd2 rfl (by decide), ?_⟩ | refine ⟨nd3 rfl (by decide), ?_⟩ | refine ⟨rfl, ?_⟩)); (conv => whnf); try dsimp only [Int.reduceToNat])
      refine ⟨fun h => ?_, fun h => ?_⟩
      · have h := dT h
        ((repeat ((conv => whnf); first | refine ⟨_, rfl, ?_⟩ | refine ⟨Nat.le_of_ble_eq_true rfl, ?_⟩ | refine ⟨fun h => Bool.noConfusion h, fun _ => ?_⟩ | refine ⟨fun _ => ?_, fun h => Bool.noConfusion h⟩ | refine ⟨fun h => absurd h (by decide), fun _ => ?_⟩ | refine ⟨fun _ => ?_, fun h => absurd h (by decide)⟩ | refine ⟨trivial, ?_⟩ | refine ⟨nd0 rfl, ?_⟩ | refine ⟨nd1 rfl, ?_⟩ | refine ⟨nd2 rfl (by decide), ?_⟩ | refine ⟨nd3 rfl (by decide), ?_⟩ | refine ⟨rfl, ?_⟩)); (conv => whnf); try dsimp only [Int.reduceToNat])
        refine ⟨h, ?_⟩
        obtain ⟨cl, _, _, hc⟩ := ints_at (ns := ns) (i := a % ((ns.map PyData.int).length : Int)) (Int.emod_nonneg _ (by omega)) (by rw [hl]; exact Int.emod_lt_of_pos _ (by omega))
        (conv => whnf)
        refine ⟨_, hc, ?_⟩
        ((repeat ((conv => whnf); first | refine ⟨_, rfl, ?_⟩ | refine ⟨Nat.le_of_ble_eq_true rfl, ?_⟩ | refine ⟨fun h => Bool.noConfusion h, fun _ => ?_⟩ | refine ⟨fun _ => ?_, fun h => Bool.noConfusion h⟩ | refine ⟨fun h => absurd h (by decide), fun _ => ?_⟩ | refine ⟨fun _ => ?_, fun h => absurd h (by decide)⟩ | refine ⟨trivial, ?_⟩ | refine ⟨nd0 rfl, ?_⟩ | refine ⟨nd1 rfl, ?_⟩ | refine ⟨nd2 rfl (by decide), ?_⟩ | refine ⟨nd3 rfl (by decide), ?_⟩ | refine ⟨rfl, ?_⟩)); (conv => whnf); try dsimp only [Int.reduceToNat])
        exact ⟨_, rfl⟩
      · exact ⟨_, rfl⟩
    · subst hS
      ((repeat ((conv => whnf); first | refine ⟨_, rfl, ?_⟩ | refine ⟨Nat.le_of_ble_eq_true rfl, ?_⟩ | refine ⟨fun h => Bool.noConfusion h, fun _ => ?_⟩ | refine ⟨fun _ => ?_, fun h => Bool.noConfusion h⟩ | refine ⟨fun h => absurd h (by decide), fun _ => ?_⟩ | refine ⟨fun _ => ?_, fun h => absurd h (by decide)⟩ | refine ⟨trivial, ?_⟩ | refine ⟨nd0 rfl, ?_⟩ | refine ⟨nd1 rfl, ?_⟩ | refine ⟨nd2 rfl (by decide), ?_⟩ | refine ⟨nd3 rfl (by decide), ?_⟩ | refine ⟨rfl, ?_⟩)); (conv => whnf); try dsimp only [Int.reduceToNat])
      refine ifC True True ?_ (fun _ => ?_) (fun _ => ?_)
      rotate_left
      · ((repeat ((conv => whnf); first | refine ⟨_, rfl, ?_⟩ | refine ⟨Nat.le_of_ble_eq_true rfl, ?_⟩ | refine ⟨fun h => Bool.noConfusion h, fun _ => ?_⟩ | refine ⟨fun _ => ?_, fun h => Bool.noConfusion h⟩ | refine ⟨fun h => absurd h (by decide), fun _ => ?_⟩ | refine ⟨fun _ => ?_, fun h => absurd h (by decide)⟩ | refine ⟨trivial, ?_⟩ | refine ⟨nd0 rfl, ?_⟩ | refine ⟨nd1 rfl, ?_⟩ | refine ⟨nd2 rfl (by decide), ?_⟩ | refine ⟨nd3 rfl (by decide), ?_⟩ | refine ⟨rfl, ?_⟩)); (conv => whnf); try dsimp only [Int.reduceToNat])
        refine ⟨divS 201 hm (by omega), ?_⟩
        ((repeat ((conv => whnf); first | refine ⟨_, rfl, ?_⟩ | refine ⟨Nat.le_of_ble_eq_true rfl, ?_⟩ | refine ⟨fun h => Bool.noConfusion h, fun _ => ?_⟩ | refine ⟨fun _ => ?_, fun h => Bool.noConfusion h⟩ | refine ⟨fun h => absurd h (by decide), fun _ => ?_⟩ | refine ⟨fun _ => ?_, fun h => absurd h (by decide)⟩ | refine ⟨trivial, ?_⟩ | refine ⟨nd0 rfl, ?_⟩ | refine ⟨nd1 rfl, ?_⟩ | refine ⟨nd2 rfl (by decide), ?_⟩ | refine ⟨nd3 rfl (by decide), ?_⟩ | refine ⟨rfl, ?_⟩)); (conv => whnf); try dsimp only [Int.reduceToNat])
        refine ⟨hm, ?_⟩
        ((repeat ((conv => whnf); first | refine ⟨_, rfl, ?_⟩ | refine ⟨Nat.le_of_ble_eq_true rfl, ?_⟩ | refine ⟨fun h => Bool.noConfusion h, fun _ => ?_⟩ | refine ⟨fun _ => ?_, fun h => Bool.noConfusion h⟩ | refine ⟨fun h => absurd h (by decide), fun _ => ?_⟩ | refine ⟨fun _ => ?_, fun h => absurd h (by decide)⟩ | refine ⟨trivial, ?_⟩ | refine ⟨nd0 rfl, ?_⟩ | refine ⟨nd1 rfl, ?_⟩ | refine ⟨nd2 rfl (by decide), ?_⟩ | refine ⟨nd3 rfl (by decide), ?_⟩ | refine ⟨rfl, ?_⟩)); (conv => whnf); try dsimp only [Int.reduceToNat])
        exact k _ _ _ (Int.emod_nonneg _ (by omega)) (Int.emod_lt_of_pos _ hm) (Int.ediv_nonneg (by split <;> omega) (by omega)) (by omega) (by omega)
      · ((repeat ((conv => whnf); first | refine ⟨_, rfl, ?_⟩ | refine ⟨Nat.le_of_ble_eq_true rfl, ?_⟩ | refine ⟨fun h => Bool.noConfusion h, fun _ => ?_⟩ | refine ⟨fun _ => ?_, fun h => Bool.noConfusion h⟩ | refine ⟨fun h => absurd h (by decide), fun _ => ?_⟩ | refine ⟨fun _ => ?_, fun h => absurd h (by decide)⟩ | refine ⟨trivial, ?_⟩ | refine ⟨nd0 rfl, ?_⟩ | refine ⟨nd1 rfl, ?_⟩ | refine ⟨nd2 rfl (by decide), ?_⟩ | refine ⟨nd3 rfl (by decide), ?_⟩ | refine ⟨rfl, ?_⟩)); (conv => whnf); try dsimp only [Int.reduceToNat])
        have hz := Int.emod_lt_of_pos z c.m1.1
        have hz0 := Int.emod_nonneg z (show m1 ≠ 0 by have := c.m1.1; omega)
        have b1 := c.m1; have b2 := c.k1; have b3 := c.t1; have b4 := c.f1; have b5 := c.p1; have b6 := c.m2; have b7 := c.t2; have b8 := c.p2; have b9 := c.dv
        refine ⟨b1.1, ?_⟩
        ((repeat ((conv => whnf); first | refine ⟨_, rfl, ?_⟩ | refine ⟨Nat.le_of_ble_eq_true rfl, ?_⟩ | refine ⟨fun h => Bool.noConfusion h, fun _ => ?_⟩ | refine ⟨fun _ => ?_, fun h => Bool.noConfusion h⟩ | refine ⟨fun h => absurd h (by decide), fun _ => ?_⟩ | refine ⟨fun _ => ?_, fun h => absurd h (by decide)⟩ | refine ⟨trivial, ?_⟩ | refine ⟨nd0 rfl, ?_⟩ | refine ⟨nd1 rfl, ?_⟩ | refine ⟨nd2 rfl (by decide), ?_⟩ | refine ⟨nd3 rfl (by decide), ?_⟩ | refine ⟨rfl, ?_⟩)); (conv => whnf); try dsimp only [Int.reduceToNat])
        refine ⟨mulS 41 41 (by omega) (by omega), ?_⟩
        ((repeat ((conv => whnf); first | refine ⟨_, rfl, ?_⟩ | refine ⟨Nat.le_of_ble_eq_true rfl, ?_⟩ | refine ⟨fun h => Bool.noConfusion h, fun _ => ?_⟩ | refine ⟨fun _ => ?_, fun h => Bool.noConfusion h⟩ | refine ⟨fun h => absurd h (by decide), fun _ => ?_⟩ | refine ⟨fun _ => ?_, fun h => absurd h (by decide)⟩ | refine ⟨trivial, ?_⟩ | refine ⟨nd0 rfl, ?_⟩ | refine ⟨nd1 rfl, ?_⟩ | refine ⟨nd2 rfl (by decide), ?_⟩ | refine ⟨nd3 rfl (by decide), ?_⟩ | refine ⟨rfl, ?_⟩)); (conv => whnf); try dsimp only [Int.reduceToNat])
        have q0 : 0 ≤ k1 * a := Int.mul_nonneg b2.1 ha
        have q1 : k1 * a < 2 ^ 82 := by
          have := Int.mul_le_mul (show k1 ≤ 2 ^ 40 by omega) ha' ha (by omega)
          omega
        refine ⟨mulS 84 41 (by omega) (by omega), ?_⟩
        ((repeat ((conv => whnf); first | refine ⟨_, rfl, ?_⟩ | refine ⟨Nat.le_of_ble_eq_true rfl, ?_⟩ | refine ⟨fun h => Bool.noConfusion h, fun _ => ?_⟩ | refine ⟨fun _ => ?_, fun h => Bool.noConfusion h⟩ | refine ⟨fun h => absurd h (by decide), fun _ => ?_⟩ | refine ⟨fun _ => ?_, fun h => absurd h (by decide)⟩ | refine ⟨trivial, ?_⟩ | refine ⟨nd0 rfl, ?_⟩ | refine ⟨nd1 rfl, ?_⟩ | refine ⟨nd2 rfl (by decide), ?_⟩ | refine ⟨nd3 rfl (by decide), ?_⟩ | refine ⟨rfl, ?_⟩)); (conv => whnf); try dsimp only [Int.reduceToNat])
        refine ⟨b5.1, ?_⟩
        ((repeat ((conv => whnf); first | refine ⟨_, rfl, ?_⟩ | refine ⟨Nat.le_of_ble_eq_true rfl, ?_⟩ | refine ⟨fun h => Bool.noConfusion h, fun _ => ?_⟩ | refine ⟨fun _ => ?_, fun h => Bool.noConfusion h⟩ | refine ⟨fun h => absurd h (by decide), fun _ => ?_⟩ | refine ⟨fun _ => ?_, fun h => absurd h (by decide)⟩ | refine ⟨trivial, ?_⟩ | refine ⟨nd0 rfl, ?_⟩ | refine ⟨nd1 rfl, ?_⟩ | refine ⟨nd2 rfl (by decide), ?_⟩ | refine ⟨nd3 rfl (by decide), ?_⟩ | refine ⟨rfl, ?_⟩)); (conv => whnf); try dsimp only [Int.reduceToNat])
        generalize ht : (z % m1 + k1 * a + t1) * f1 % p1 = t
        have t0 : 0 ≤ t := by rw [← ht]; exact Int.emod_nonneg _ (by omega)
        have t1' : t < 2 ^ 40 := by rw [← ht]; have := Int.emod_lt_of_pos ((z % m1 + k1 * a + t1) * f1) b5.1; omega
        ((repeat ((conv => whnf); first | refine ⟨_, rfl, ?_⟩ | refine ⟨Nat.le_of_ble_eq_true rfl, ?_⟩ | refine ⟨fun h => Bool.noConfusion h, fun _ => ?_⟩ | refine ⟨fun _ => ?_, fun h => Bool.noConfusion h⟩ | refine ⟨fun h => absurd h (by decide), fun _ => ?_⟩ | refine ⟨fun _ => ?_, fun h => absurd h (by decide)⟩ | refine ⟨trivial, ?_⟩ | refine ⟨nd0 rfl, ?_⟩ | refine ⟨nd1 rfl, ?_⟩ | refine ⟨nd2 rfl (by decide), ?_⟩ | refine ⟨nd3 rfl (by decide), ?_⟩ | refine ⟨rfl, ?_⟩)); (conv => whnf); try dsimp only [Int.reduceToNat])
        refine ⟨b6.1, ?_⟩
        ((repeat ((conv => whnf); first | refine ⟨_, rfl, ?_⟩ | refine ⟨Nat.le_of_ble_eq_true rfl, ?_⟩ | refine ⟨fun h => Bool.noConfusion h, fun _ => ?_⟩ | refine ⟨fun _ => ?_, fun h => Bool.noConfusion h⟩ | refine ⟨fun h => absurd h (by decide), fun _ => ?_⟩ | refine ⟨fun _ => ?_, fun h => absurd h (by decide)⟩ | refine ⟨trivial, ?_⟩ | refine ⟨nd0 rfl, ?_⟩ | refine ⟨nd1 rfl, ?_⟩ | refine ⟨nd2 rfl (by decide), ?_⟩ | refine ⟨nd3 rfl (by decide), ?_⟩ | refine ⟨rfl, ?_⟩)); (conv => whnf); try dsimp only [Int.reduceToNat])
        have := Int.emod_lt_of_pos t b6.1
        have := Int.emod_nonneg t (show m2 ≠ 0 by omega)
        refine ⟨mulS 41 43 (by omega) (by omega), ?_⟩
        ((repeat ((conv => whnf); first | refine ⟨_, rfl, ?_⟩ | refine ⟨Nat.le_of_ble_eq_true rfl, ?_⟩ | refine ⟨fun h => Bool.noConfusion h, fun _ => ?_⟩ | refine ⟨fun _ => ?_, fun h => Bool.noConfusion h⟩ | refine ⟨fun h => absurd h (by decide), fun _ => ?_⟩ | refine ⟨fun _ => ?_, fun h => absurd h (by decide)⟩ | refine ⟨trivial, ?_⟩ | refine ⟨nd0 rfl, ?_⟩ | refine ⟨nd1 rfl, ?_⟩ | refine ⟨nd2 rfl (by decide), ?_⟩ | refine ⟨nd3 rfl (by decide), ?_⟩ | refine ⟨rfl, ?_⟩)); (conv => whnf); try dsimp only [Int.reduceToNat])
        refine ⟨b8.1, ?_⟩
        ((repeat ((conv => whnf); first | refine ⟨_, rfl, ?_⟩ | refine ⟨Nat.le_of_ble_eq_true rfl, ?_⟩ | refine ⟨fun h => Bool.noConfusion h, fun _ => ?_⟩ | refine ⟨fun _ => ?_, fun h => Bool.noConfusion h⟩ | refine ⟨fun h => absurd h (by decide), fun _ => ?_⟩ | refine ⟨fun _ => ?_, fun h => absurd h (by decide)⟩ | refine ⟨trivial, ?_⟩ | refine ⟨nd0 rfl, ?_⟩ | refine ⟨nd1 rfl, ?_⟩ | refine ⟨nd2 rfl (by decide), ?_⟩ | refine ⟨nd3 rfl (by decide), ?_⟩ | refine ⟨rfl, ?_⟩)); (conv => whnf); try dsimp only [Int.reduceToNat])
        refine ⟨divS 41 b9.1 (by omega), ?_⟩
        ((repeat ((conv => whnf); first | refine ⟨_, rfl, ?_⟩ | refine ⟨Nat.le_of_ble_eq_true rfl, ?_⟩ | refine ⟨fun h => Bool.noConfusion h, fun _ => ?_⟩ | refine ⟨fun _ => ?_, fun h => Bool.noConfusion h⟩ | refine ⟨fun h => absurd h (by decide), fun _ => ?_⟩ | refine ⟨fun _ => ?_, fun h => absurd h (by decide)⟩ | refine ⟨trivial, ?_⟩ | refine ⟨nd0 rfl, ?_⟩ | refine ⟨nd1 rfl, ?_⟩ | refine ⟨nd2 rfl (by decide), ?_⟩ | refine ⟨nd3 rfl (by decide), ?_⟩ | refine ⟨rfl, ?_⟩)); (conv => whnf); try dsimp only [Int.reduceToNat])
        refine ⟨hm, ?_⟩
        ((repeat ((conv => whnf); first | refine ⟨_, rfl, ?_⟩ | refine ⟨Nat.le_of_ble_eq_true rfl, ?_⟩ | refine ⟨fun h => Bool.noConfusion h, fun _ => ?_⟩ | refine ⟨fun _ => ?_, fun h => Bool.noConfusion h⟩ | refine ⟨fun h => absurd h (by decide), fun _ => ?_⟩ | refine ⟨fun _ => ?_, fun h => absurd h (by decide)⟩ | refine ⟨trivial, ?_⟩ | refine ⟨nd0 rfl, ?_⟩ | refine ⟨nd1 rfl, ?_⟩ | refine ⟨nd2 rfl (by decide), ?_⟩ | refine ⟨nd3 rfl (by decide), ?_⟩ | refine ⟨rfl, ?_⟩)); (conv => whnf); try dsimp only [Int.reduceToNat])
        exact k _ _ _ (Int.emod_nonneg _ (by omega)) (Int.emod_lt_of_pos _ hm) hg (by omega) (by omega)
      · ((repeat ((conv => whnf); first | refine ⟨_, rfl, ?_⟩ | refine ⟨Nat.le_of_ble_eq_true rfl, ?_⟩ | refine ⟨fun h => Bool.noConfusion h, fun _ => ?_⟩ | refine ⟨fun _ => ?_, fun h => Bool.noConfusion h⟩ | refine ⟨fun h => absurd h (by decide), fun _ => ?_⟩ | refine ⟨fun _ => ?_, fun h => absurd h (by decide)⟩ | refine ⟨trivial, ?_⟩ | refine ⟨nd0 rfl, ?_⟩ | refine ⟨nd1 rfl, ?_⟩ | refine ⟨nd2 rfl (by decide), ?_⟩ | refine ⟨nd3 rfl (by decide), ?_⟩ | refine ⟨rfl, ?_⟩)); (conv => whnf); try dsimp only [Int.reduceToNat])
        refine ⟨fun h => ?_, fun h => ?_⟩
        · ((repeat ((conv => whnf); first | refine ⟨_, rfl, ?_⟩ | refine ⟨Nat.le_of_ble_eq_true rfl, ?_⟩ | refine ⟨fun h => Bool.noConfusion h, fun _ => ?_⟩ | refine ⟨fun _ => ?_, fun h => Bool.noConfusion h⟩ | refine ⟨fun h => absurd h (by decide), fun _ => ?_⟩ | refine ⟨fun _ => ?_, fun h => absurd h (by decide)⟩ | refine ⟨trivial, ?_⟩ | refine ⟨nd0 rfl, ?_⟩ | refine ⟨nd1 rfl, ?_⟩ | refine ⟨nd2 rfl (by decide), ?_⟩ | refine ⟨nd3 rfl (by decide), ?_⟩ | refine ⟨rfl, ?_⟩)); (conv => whnf); try dsimp only [Int.reduceToNat])
          refine ⟨powS (by decide) (by decide), ?_⟩
          ((repeat ((conv => whnf); first | refine ⟨_, rfl, ?_⟩ | refine ⟨Nat.le_of_ble_eq_true rfl, ?_⟩ | refine ⟨fun h => Bool.noConfusion h, fun _ => ?_⟩ | refine ⟨fun _ => ?_, fun h => Bool.noConfusion h⟩ | refine ⟨fun h => absurd h (by decide), fun _ => ?_⟩ | refine ⟨fun _ => ?_, fun h => absurd h (by decide)⟩ | refine ⟨trivial, ?_⟩ | refine ⟨nd0 rfl, ?_⟩ | refine ⟨nd1 rfl, ?_⟩ | refine ⟨nd2 rfl (by decide), ?_⟩ | refine ⟨nd3 rfl (by decide), ?_⟩ | refine ⟨rfl, ?_⟩)); (conv => whnf); try dsimp only [Int.reduceToNat])
          refine ⟨fun h => ?_, fun h => ?_⟩
          · exact ⟨rfl, trivial⟩
          · exact ⟨rfl, trivial⟩
        · ((repeat ((conv => whnf); first | refine ⟨_, rfl, ?_⟩ | refine ⟨Nat.le_of_ble_eq_true rfl, ?_⟩ | refine ⟨fun h => Bool.noConfusion h, fun _ => ?_⟩ | refine ⟨fun _ => ?_, fun h => Bool.noConfusion h⟩ | refine ⟨fun h => absurd h (by decide), fun _ => ?_⟩ | refine ⟨fun _ => ?_, fun h => absurd h (by decide)⟩ | refine ⟨trivial, ?_⟩ | refine ⟨nd0 rfl, ?_⟩ | refine ⟨nd1 rfl, ?_⟩ | refine ⟨nd2 rfl (by decide), ?_⟩ | refine ⟨nd3 rfl (by decide), ?_⟩ | refine ⟨rfl, ?_⟩)); (conv => whnf); try dsimp only [Int.reduceToNat])
end PL

set_option Elab.async false
set_option linter.all false
set_option maxRecDepth 100000
set_option maxHeartbeats 4000000
set_option autoImplicit false
/-! numbers: odd parts -/
namespace PL
open PySem L2
/-- n = 2 ^ k * (2 * m + 1) -/
theorem odd_part : ∀ (n : Nat), 0 < n → ∃ k m : Nat, n = 2 ^ k * (2 * m + 1)
  | n => fun h => by
    by_cases e : n % 2 = 1
    · exact ⟨0, n / 2, by omega⟩
    · obtain ⟨k, m, h'⟩ := odd_part (n / 2) (by omega)
      exact ⟨k + 1, m, by rw [Nat.pow_succ, Nat.mul_assoc, Nat.mul_comm 2, ← Nat.mul_assoc, ← h']; omega⟩
theorem odd_part_uniq {k m k' m' : Nat} (h : 2 ^ k * (2 * m + 1) = 2 ^ k' * (2 * m' + 1)) : k = k' ∧ m = m' := by
  induction k generalizing k' with
  | zero =>
    cases k' with
    | zero => exact ⟨rfl, by omega⟩
    | succ k' => rw [Nat.pow_succ, Nat.mul_assoc, Nat.mul_comm (2 ^ k'), Nat.mul_assoc] at h; omega
  | succ k ih =>
    cases k' with
    | zero => rw [Nat.pow_succ, Nat.mul_assoc, Nat.mul_comm (2 ^ k), Nat.mul_assoc] at h; omega
    | succ k' =>
      have : 2 ^ k * (2 * m + 1) = 2 ^ k' * (2 * m' + 1) := by
        rw [Nat.pow_succ, Nat.pow_succ, Nat.mul_comm _ 2, Nat.mul_comm _ 2, Nat.mul_assoc, Nat.mul_assoc] at h
        omega
      obtain ⟨e1, e2⟩ := ih this
      exact ⟨by rw [e1], e2⟩
theorem land_low : ∀ (k m : Nat), 2 ^ k * (2 * m + 1) &&& (2 ^ k * (2 * m + 1) - 1) = 2 ^ k * (2 * m)
  | 0, m => by
    have e : 2 ^ 0 * (2 * m + 1) - 1 = 2 * m := by omega
    rw [e]
    have d : (2 ^ 0 * (2 * m + 1) &&& 2 * m) / 2 = m := by
      rw [Nat.and_div_two]
      have e1 : 2 ^ 0 * (2 * m + 1) / 2 = m := by omega
      have e2 : 2 * m / 2 = m := by omega
      rw [e1, e2, Nat.and_self]
    have p : (2 ^ 0 * (2 * m + 1) &&& 2 * m) % 2 = 0 := by
      have := Nat.and_mod_two_pow (a := 2 ^ 0 * (2 * m + 1)) (b := 2 * m) (n := 1)
      rw [Nat.pow_one] at this
      rw [this]
      have e1 : 2 * m % 2 = 0 := by omega
      rw [e1, Nat.and_zero]
    omega
  | k + 1, m => by
    have ih := land_low k m
    have pos : 0 < 2 ^ k * (2 * m + 1) := Nat.mul_pos (Nat.pow_pos (by decide)) (by omega)
    generalize hx : 2 ^ k * (2 * m + 1) = x at ih pos
    have e : 2 ^ (k + 1) * (2 * m + 1) = 2 * x := by rw [Nat.pow_succ, Nat.mul_assoc, Nat.mul_comm (2 ^ k), Nat.mul_assoc, Nat.mul_comm (2 * m + 1), hx]
    rw [e]
    have d : (2 * x &&& (2 * x - 1)) / 2 = x &&& (x - 1) := by
      rw [Nat.and_div_two]
      have e1 : 2 * x / 2 = x := by omega
      have e2 : (2 * x - 1) / 2 = x - 1 := by omega
      rw [e1, e2]
    have p : (2 * x &&& (2 * x - 1)) % 2 = 0 := by
      have := Nat.and_mod_two_pow (a := 2 * x) (b := 2 * x - 1) (n := 1)
      rw [Nat.pow_one] at this
      rw [this]
      have e1 : 2 * x % 2 = 0 := by omega
      rw [e1, Nat.zero_and]
    rw [ih] at d
    have e3 : 2 ^ (k + 1) * (2 * m) = 2 * (2 ^ k * (2 * m)) := by rw [Nat.pow_succ, Nat.mul_comm (2 ^ k) 2, Nat.mul_assoc]
    omega
theorem low_bit {x : Int} (k m : Nat) (h : x = ((2 ^ k * (2 * m + 1) : Nat) : Int)) : Builtin.bitAnd x (-x) = ((2 ^ k : Nat) : Int) := by
  have pos : 0 < 2 ^ k * (2 * m + 1) := Nat.mul_pos (Nat.pow_pos (by decide)) (by omega)
  have hx : 0 < x := by rw [h]; exact_mod_cast pos
  rw [PyProof.Rows.bitAnd_pn (by omega) (by omega)]
  have e : (Builtin.bitNot (-x)).toNat = x.toNat - 1 := by
    have : Builtin.bitNot (-x) = x - 1 := by unfold Builtin.bitNot; omega
    rw [this]; omega
  rw [e]
  have e1 : x.toNat = 2 ^ k * (2 * m + 1) := by rw [h]; rfl
  rw [e1, land_low, h]
  have : 2 ^ k * (2 * m + 1) = 2 ^ k * (2 * m) + 2 ^ k := by rw [Nat.mul_add, Nat.mul_one]
  rw [this]
  push_cast
  omega
theorem bits_pow (k : Nat) : Builtin.Int.intBits ((2 ^ k : Nat) : Int) = k + 1 := by
  unfold Builtin.Int.intBits
  have pos : 0 < 2 ^ k := Nat.pow_pos (by decide)
  have h : ¬ (((2 ^ k : Nat) : Int) == 0) = true := by
    rw [beq_iff_eq]
    exact fun e => by have : (2 ^ k : Nat) = 0 := by exact_mod_cast e
                      omega
  rw [if_neg h, Int.natAbs_natCast, Nat.log2_two_pow]
/-- what core tells -/
def Core (x o s g : Int) : Prop := (x = 0 ∧ o = 0 ∧ s = 0 ∧ g = 0) ∨ ∃ k m : Nat, x.natAbs = 2 ^ k * (2 * m + 1) ∧ o = 2 * (m : Int) + 1 ∧ s = (k : Int) ∧ g = (if x < 0 then -1 else 1)
theorem Core.uniq {x o s g o' s' g' : Int} (h : Core x o s g) (h' : Core x o' s' g') : o = o' ∧ s = s' ∧ g = g' := by
  rcases h with ⟨h1, h2, h3, h4⟩ | ⟨k, m, h1, h2, h3, h4⟩ <;> rcases h' with ⟨h1', h2', h3', h4'⟩ | ⟨k', m', h1', h2', h3', h4'⟩
  · exact ⟨h2.trans h2'.symm, h3.trans h3'.symm, h4.trans h4'.symm⟩
  · have : 0 < 2 ^ k' * (2 * m' + 1) := Nat.mul_pos (Nat.pow_pos (by decide)) (by omega)
    omega
  · have : 0 < 2 ^ k * (2 * m + 1) := Nat.mul_pos (Nat.pow_pos (by decide)) (by omega)
    omega
  · obtain ⟨e1, e2⟩ := odd_part_uniq (h1.symm.trans h1')
    subst e1 e2
    exact ⟨h2.trans h2'.symm, h3.trans h3'.symm, h4.trans h4'.symm⟩
def wCore : PTS := sSeq (sIf (qV (pB cEq (pD 0) (pC (.int 0))))
  (sRet (pTup (aC (pC (.int 0)) (aC (pC (.int 0)) (aC (pC (.int 0)) (aN))))))
  (sNx))
  (sSeq (sSet 1 (pU uAbs (pD 0)))
  (sSeq (sSet 2 (pB bSub (pU uBits (pB bAnd (pD 1) (pU uNeg (pD 1)))) (pC (.int 1))))
  (sSeq (sSet 3 (pC (.int 1)))
  (sCut (sIf (qV (pB cLt (pD 0) (pC (.int 0))))
  (sSet 3 (pU uNeg (pC (.int 1))))
  (sNx))
  (sRet (pTup (aC (pB bShr (pD 1) (pD 2)) (aC (pD 2) (aC (pD 3) (aN))))))))))
def spCore : FSp := fun ts K => ∃ x : Int, ts = [.p (.int x)] ∧ ∀ o s g, Core x o s g → K (.p (.tuple [.int o, .int s, .int g])) [some (.p (.int x))]
theorem vCore (ts : List T) (K : T → List (Option T) → Prop) (h : spCore ts K) : ts.length = 1 ∧ wCore (endsOf [true] ts K) (PL.start 4 ts) := by
  obtain ⟨x, rfl, k⟩ := h
  refine ⟨rfl, ?_⟩
  ((repeat ((conv => whnf); first | refine ⟨_, rfl, ?_⟩ | refine ⟨Nat.le_of_ble_eq_true rfl, ?_⟩ | refine ⟨fun h => Bool.noConfusion h, fun _ => ?_⟩ | refine ⟨fun _ => ?_, fun h => Bool.noConfusion h⟩ | refine ⟨fun h => absurd h (by decide), fun _ => ?_⟩ | refine ⟨fun _ => ?_, fun h => absurd h (by decide)⟩ | refine ⟨trivial, ?_⟩ | refine ⟨nd0 rfl, ?_⟩ | refine ⟨nd1 rfl, ?_⟩ | refine ⟨nd2 rfl (by decide), ?_⟩ | refine ⟨nd3 rfl (by decide), ?_⟩ | refine ⟨rfl, ?_⟩)); (conv => whnf); try dsimp only [Int.reduceToNat])
  refine ⟨fun h => ?_, fun h => ?_⟩
  · have h := eqT h
    ((repeat ((conv => whnf); first | refine ⟨_, rfl, ?_⟩ | refine ⟨Nat.le_of_ble_eq_true rfl, ?_⟩ | refine ⟨fun h => Bool.noConfusion h, fun _ => ?_⟩ | refine ⟨fun _ => ?_, fun h => Bool.noConfusion h⟩ | refine ⟨fun h => absurd h (by decide), fun _ => ?_⟩ | refine ⟨fun _ => ?_, fun h => absurd h (by decide)⟩ | refine ⟨trivial, ?_⟩ | refine ⟨nd0 rfl, ?_⟩ | refine ⟨nd1 rfl, ?_⟩ | refine ⟨nd2 rfl (by decide), ?_⟩ | refine ⟨nd3 rfl (by decide), ?_⟩ | refine ⟨rfl, ?_⟩)); (conv => whnf); try dsimp only [Int.reduceToNat])
    exact k _ _ _ (.inl ⟨h, rfl, rfl, rfl⟩)
  · have h := eqF h
    obtain ⟨kk, m, hk⟩ := odd_part x.natAbs (by omega)
    have ha : (if x < 0 then -x else x) = ((2 ^ kk * (2 * m + 1) : Nat) : Int) := by rw [← hk]; split <;> omega
    ((repeat ((conv => whnf); first | refine ⟨_, rfl, ?_⟩ | refine ⟨Nat.le_of_ble_eq_true rfl, ?_⟩ | refine ⟨fun h => Bool.noConfusion h, fun _ => ?_⟩ | refine ⟨fun _ => ?_, fun h => Bool.noConfusion h⟩ | refine ⟨fun h => absurd h (by decide), fun _ => ?_⟩ | refine ⟨fun _ => ?_, fun h => absurd h (by decide)⟩ | refine ⟨trivial, ?_⟩ | refine ⟨nd0 rfl, ?_⟩ | refine ⟨nd1 rfl, ?_⟩ | refine ⟨nd2 rfl (by decide), ?_⟩ | refine ⟨nd3 rfl (by decide), ?_⟩ | refine ⟨rfl, ?_⟩)); (conv => whnf); try dsimp only [Int.reduceToNat])
    rw [ha, low_bit kk m rfl, bits_pow]
    have e : ((kk + 1 : Nat) : Int) - 1 = (kk : Int) := by omega
    rw [e]
    refine ⟨fun S => S = [some (.p (.int x)), some (.p (.int ((2 ^ kk * (2 * m + 1) : Nat) : Int))), some (.p (.int (kk : Int))), some (.p (.int (if x < 0 then -1 else 1)))], ?_, ?_⟩
    · ((repeat ((conv => whnf); first | refine ⟨_, rfl, ?_⟩ | refine ⟨Nat.le_of_ble_eq_true rfl, ?_⟩ | refine ⟨fun h => Bool.noConfusion h, fun _ => ?_⟩ | refine ⟨fun _ => ?_, fun h => Bool.noConfusion h⟩ | refine ⟨fun h => absurd h (by decide), fun _ => ?_⟩ | refine ⟨fun _ => ?_, fun h => absurd h (by decide)⟩ | refine ⟨trivial, ?_⟩ | refine ⟨nd0 rfl, ?_⟩ | refine ⟨nd1 rfl, ?_⟩ | refine ⟨nd2 rfl (by decide), ?_⟩ | refine ⟨nd3 rfl (by decide), ?_⟩ | refine ⟨rfl, ?_⟩)); (conv => whnf); try dsimp only [Int.reduceToNat])
      refine ⟨fun h => ?_, fun h => ?_⟩
      · have h := dT h
        ((repeat ((conv => whnf); first | refine ⟨_, rfl, ?_⟩ | refine ⟨Nat.le_of_ble_eq_true rfl, ?_⟩ | refine ⟨fun h => Bool.noConfusion h, fun _ => ?_⟩ | refine ⟨fun _ => ?_, fun h => Bool.noConfusion h⟩ | refine ⟨fun h => absurd h (by decide), fun _ => ?_⟩ | refine ⟨fun _ => ?_, fun h => absurd h (by decide)⟩ | refine ⟨trivial, ?_⟩ | refine ⟨nd0 rfl, ?_⟩ | refine ⟨nd1 rfl, ?_⟩ | refine ⟨nd2 rfl (by decide), ?_⟩ | refine ⟨nd3 rfl (by decide), ?_⟩ | refine ⟨rfl, ?_⟩)); (conv => whnf); try dsimp only [Int.reduceToNat])
        simp only [h, if_true]
        rfl
      · have h := dF h
        ((repeat ((conv => whnf); first | refine ⟨_, rfl, ?_⟩ | refine ⟨Nat.le_of_ble_eq_true rfl, ?_⟩ | refine ⟨fun h => Bool.noConfusion h, fun _ => ?_⟩ | refine ⟨fun _ => ?_, fun h => Bool.noConfusion h⟩ | refine ⟨fun h => absurd h (by decide), fun _ => ?_⟩ | refine ⟨fun _ => ?_, fun h => absurd h (by decide)⟩ | refine ⟨trivial, ?_⟩ | refine ⟨nd0 rfl, ?_⟩ | refine ⟨nd1 rfl, ?_⟩ | refine ⟨nd2 rfl (by decide), ?_⟩ | refine ⟨nd3 rfl (by decide), ?_⟩ | refine ⟨rfl, ?_⟩)); (conv => whnf); try dsimp only [Int.reduceToNat])
        simp only [h, if_false]
        rfl
    · rintro S rfl
      ((repeat ((conv => whnf); first | refine ⟨_, rfl, ?_⟩ | refine ⟨Nat.le_of_ble_eq_true rfl, ?_⟩ | refine ⟨fun h => Bool.noConfusion h, fun _ => ?_⟩ | refine ⟨fun _ => ?_, fun h => Bool.noConfusion h⟩ | refine ⟨fun h => absurd h (by decide), fun _ => ?_⟩ | refine ⟨fun _ => ?_, fun h => absurd h (by decide)⟩ | refine ⟨trivial, ?_⟩ | refine ⟨nd0 rfl, ?_⟩ | refine ⟨nd1 rfl, ?_⟩ | refine ⟨nd2 rfl (by decide), ?_⟩ | refine ⟨nd3 rfl (by decide), ?_⟩ | refine ⟨rfl, ?_⟩)); (conv => whnf); try dsimp only [Int.reduceToNat])
      refine ⟨by omega, ?_⟩
      ((repeat ((conv => whnf); first | refine ⟨_, rfl, ?_⟩ | refine ⟨Nat.le_of_ble_eq_true rfl, ?_⟩ | refine ⟨fun h => Bool.noConfusion h, fun _ => ?_⟩ | refine ⟨fun _ => ?_, fun h => Bool.noConfusion h⟩ | refine ⟨fun h => absurd h (by decide), fun _ => ?_⟩ | refine ⟨fun _ => ?_, fun h => absurd h (by decide)⟩ | refine ⟨trivial, ?_⟩ | refine ⟨nd0 rfl, ?_⟩ | refine ⟨nd1 rfl, ?_⟩ | refine ⟨nd2 rfl (by decide), ?_⟩ | refine ⟨nd3 rfl (by decide), ?_⟩ | refine ⟨rfl, ?_⟩)); (conv => whnf); try dsimp only [Int.reduceToNat])
      refine k _ _ _ (.inr ⟨kk, m, hk, ?_, rfl, rfl⟩)
      have : (((2 ^ kk * (2 * m + 1) : Nat) : Int)) = 2 ^ kk * (2 * (m : Int) + 1) := by push_cast; rfl
      rw [Int.toNat_natCast, this, Int.mul_ediv_cancel_left _ (by have : (0 : Int) < 2 ^ kk := Int.pow_pos (by decide); omega)]
end PL
namespace PL
open PySem L2
/-! lists of ints as data -/
theorem eqvAll_refl_ints : ∀ l : List Int, PyData.eqvAll (l.map PyData.int) (l.map PyData.int) = true
  | [] => rfl
  | n :: l => by
    rw [List.map_cons]
    show (PyData.eqv (.int n) (.int n) && _) = true
    rw [eqvAll_refl_ints l, Bool.and_true]
    show (n == n) = true
    simp
theorem eqv_ints {l l' : List Int} : PyData.eqv (.list (l.map PyData.int)) (.list (l'.map PyData.int)) = decide (l = l') := by
  show PyData.eqvAll _ _ = _
  induction l generalizing l' with
  | nil => cases l' <;> rfl
  | cons n l ih =>
    cases l' with
    | nil => rfl
    | cons n' l' =>
      rw [List.map_cons, List.map_cons]
      show ((n == n') && PyData.eqvAll _ _) = _
      rw [ih]
      by_cases e : n = n'
      · subst e; simp
      · simp [e]
theorem canLay_ints : ∀ l : List Int, PyData.canLayAll0 (l.map PyData.int) = true
  | [] => rfl
  | n :: l => by
    rw [List.map_cons]
    simp [PyData.canLayAll0, PyData.canLay0, canLay_ints l]
theorem depth_ints : ∀ l : List Int, PyData.depthAll (l.map PyData.int) ≤ 1
  | [] => by simp [PyData.depthAll]
  | n :: l => by
    rw [List.map_cons]
    have := depth_ints l
    simp only [PyData.depthAll, PyData.depth]
    omega
theorem shaped_ints (l : List Int) : SeqAt.shaped (.list (l.map PyData.int)) = true := by
  unfold SeqAt.shaped
  have h := depth_ints l
  rw [Bool.and_eq_true, decide_eq_true_eq]
  refine ⟨by simp [PyData.canLay0, canLay_ints], ?_⟩
  show PyData.depthAll (l.map PyData.int) + 1 ≤ 64
  omega
/-- strictly rising lists with the same members -/
theorem strict_ext : ∀ {l l' : List Int}, l.Pairwise (· < ·) → l'.Pairwise (· < ·) → (∀ z, z ∈ l ↔ z ∈ l') → l = l'
  | [], [], _, _, _ => rfl
  | [], b :: l', _, _, h => by have := (h b).mpr List.mem_cons_self; cases this
  | a :: l, [], _, _, h => by have := (h a).mp List.mem_cons_self; cases this
  | a :: l, b :: l', h1, h2, h => by
    rw [List.pairwise_cons] at h1 h2
    have e : a = b := by
      rcases List.mem_cons.mp ((h a).mp List.mem_cons_self) with e | e
      · exact e
      · rcases List.mem_cons.mp ((h b).mpr List.mem_cons_self) with e' | e'
        · exact e'.symm
        · have := h2.1 a e; have := h1.1 b e'; omega
    subst e
    rw [strict_ext h1.2 h2.2 fun z => ⟨fun hz => ?_, fun hz => ?_⟩]
    · rcases List.mem_cons.mp ((h z).mp (List.mem_cons_of_mem _ hz)) with e | e
      · have := h1.1 z hz; omega
      · exact e
    · rcases List.mem_cons.mp ((h z).mpr (List.mem_cons_of_mem _ hz)) with e | e
      · have := h2.1 z hz; omega
      · exact e
theorem sorted_strict {l ks : List Int} (p : l.Perm ks) (s : l.Pairwise (· ≤ ·)) (n : ks.Nodup) : l.Pairwise (· < ·) := by
  have nd : l.Nodup := p.nodup_iff.mpr n
  exact (s.and nd).imp fun ⟨h1, h2⟩ => by omega
/-- a dict used as a set of ints -/
def ksT (ks : List Int) : List (Key × PyData) := ks.map fun z => (Sum.inl z, .bool true)
theorem ksT_keys (ks : List Int) : (ksT ks).map (·.1) = ks.map Sum.inl := by unfold ksT; rw [List.map_map]; rfl
theorem put_ks (ks : List Int) (z : Int) : put (ksT ks) (Sum.inl z) (.bool true) = ksT (if z ∈ ks then ks else ks ++ [z]) := by
  unfold put ksT
  have h : ((ks.map fun z => ((Sum.inl z, PyData.bool true) : Key × PyData)).any fun kv => decide (kv.1 = Sum.inl z)) = decide (z ∈ ks) := by
    rw [List.any_map]
    rw [Bool.eq_iff_iff, List.any_eq_true, decide_eq_true_eq]
    constructor
    · rintro ⟨x, hx, h⟩
      have : x = z := by simpa using h
      exact this ▸ hx
    · intro hz
      exact ⟨z, hz, by simp⟩
  rw [h]
  by_cases e : z ∈ ks
  · simp only [e, decide_true, if_true]
    rw [List.map_map]
    apply List.map_congr_left
    intro x hx
    simp only [Function.comp]
    split
    · next h => rfl
    · rfl
  · simp only [e, decide_false, if_false]
    rw [if_neg Bool.false_ne_true, List.map_append]
    rfl
theorem put_len (kvs : List (Key × PyData)) (k : Key) (d : PyData) : (put kvs k d).length ≤ kvs.length + 1 := by
  unfold put
  split
  · rw [List.length_map]; omega
  · rw [List.length_append]; simp
end PL
namespace PL
open PySem L2
theorem allB_rep (n : Nat) (b : Bool) : allB (List.replicate n (.bool b)) = some (List.replicate n b) := by
  have := allB_map (List.replicate n b)
  rwa [List.map_replicate] at this
theorem all_rep (n : Nat) : (List.replicate n true).all id = true := by
  induction n with
  | zero => rfl
  | succ n ih => rw [List.replicate_succ, List.all_cons, ih]; rfl
end PL
namespace PL
open PySem L2
theorem im_ints : ∀ l : List Int, imD.imL (l.map PyData.int) = true
  | [] => rfl
  | n :: l => by
    rw [List.map_cons, imD.imL, im_ints l]; rfl
end PL
namespace PL
open PySem L2
theorem eqv_tupI {l l' : List Int} : PyData.eqv (.tuple (l.map PyData.int)) (.tuple (l'.map PyData.int)) = decide (l = l') := eqv_ints
theorem shaped_tupI (l : List Int) : SeqAt.shaped (.tuple (l.map PyData.int)) = true := by
  unfold SeqAt.shaped
  have h := depth_ints l
  rw [Bool.and_eq_true, decide_eq_true_eq]
  refine ⟨by simp [PyData.canLay0, canLay_ints], ?_⟩
  show PyData.depthAll (l.map PyData.int) + 1 ≤ 64
  omega
theorem LB.dbl {n : Nat} {z : Int} (h : LB n z) : LB (n + 1) (2 * z) := by
  unfold LB at *
  rw [Nat.pow_succ]; omega
end PL
namespace PL
open PySem L2
theorem Core.neg {x o s g : Int} (h : Core x o s g) : Core (-x) o s (-g) := by
  rcases h with ⟨rfl, h2, h3, rfl⟩ | ⟨k, m, h1, h2, h3, h4⟩
  · exact .inl ⟨rfl, h2, h3, rfl⟩
  · refine .inr ⟨k, m, by rw [Int.natAbs_neg]; exact h1, h2, h3, ?_⟩
    have : 0 < 2 ^ k * (2 * m + 1) := Nat.mul_pos (Nat.pow_pos (by decide)) (by omega)
    rw [h4]
    split <;> split <;> omega
theorem Core.dbl {x o s g : Int} (h : Core x o s g) (h0 : x ≠ 0) : Core (2 * x) o (s + 1) g := by
  rcases h with ⟨rfl, h2, h3, rfl⟩ | ⟨k, m, h1, h2, h3, h4⟩
  · exact absurd rfl h0
  · refine .inr ⟨k + 1, m, ?_, h2, by rw [h3]; push_cast; rfl, ?_⟩
    · rw [Int.natAbs_mul, h1, Nat.pow_succ, Nat.mul_comm (2 ^ k) 2, Nat.mul_assoc]; rfl
    · rw [h4]
      split <;> split <;> omega
theorem eqv3 (a b c : Int) : PyData.eqv (.tuple [.int a, .int b, .int c]) (.tuple [.int a, .int b, .int c]) = true := by
  have := eqv_tupI (l := [a, b, c]) (l' := [a, b, c])
  rw [decide_eq_true rfl] at this
  exact this
end PL
namespace PL
open PySem L2
/-! shifted -/
def shfD (x h : Int) : PyData := if 0 ≤ h then .int (x * 2 ^ h.toNat) else if x % 2 ^ (-h).toNat = 0 then .int (x / 2 ^ (-h).toNat) else .none
theorem pow2_pos (n : Nat) : (0 : Int) < 2 ^ n := Int.pow_pos (by decide)
theorem shfD_back {x h y : Int} (e : shfD x h = .int y) : shfD y (-h) = .int x := by
  unfold shfD at e ⊢
  by_cases h0 : 0 ≤ h
  · rw [if_pos h0] at e
    cases e
    by_cases h1 : 0 ≤ -h
    · have : h = 0 := by omega
      subst this
      rw [if_pos (by decide)]
      simp
    · rw [if_neg h1, Int.neg_neg]
      have p := pow2_pos h.toNat
      rw [if_pos (Int.mul_emod_left ..), Int.mul_ediv_cancel _ (by omega)]
  · rw [if_neg h0] at e
    split at e
    · next hm =>
      cases e
      rw [if_pos (by omega)]
      have := Int.emod_add_mul_ediv x (2 ^ (-h).toNat)
      rw [hm, Int.zero_add, Int.mul_comm] at this
      rw [this]
    · cases e
def wShifted : PTS := sSeq (sIf (qV (pB cGe (pD 1) (pC (.int 0))))
  (sRet (pB bShl (pD 0) (pD 1)))
  (sNx))
  (sSeq (sIf (qV (pB cNe (pB bMod (pD 0) (pB bShl (pC (.int 1)) (pU uNeg (pD 1)))) (pC (.int 0))))
  (sRet (pC .none))
  (sNx))
  (sRet (pB bShr (pD 0) (pU uNeg (pD 1)))))
def spShifted : FSp := fun ts K => ∃ x h : Int, ts = [.p (.int x), .p (.int h)] ∧ LB 100000 x ∧ -100000 ≤ h ∧ h ≤ 100000 ∧ K (.p (shfD x h)) [some (.p (.int x)), some (.p (.int h))]
theorem vShifted (ts : List T) (K : T → List (Option T) → Prop) (h : spShifted ts K) : ts.length = 2 ∧ wShifted (endsOf [true, true] ts K) (PL.start 2 ts) := by
  obtain ⟨x, h, rfl, hx, h1, h2, k⟩ := h
  refine ⟨rfl, ?_⟩
  unfold shfD at k
  ((repeat ((conv => whnf); first | refine ⟨_, rfl, ?_⟩ | refine ⟨Nat.le_of_ble_eq_true rfl, ?_⟩ | refine ⟨fun h => Bool.noConfusion h, fun _ => ?_⟩ | refine ⟨fun _ => ?_, fun h => Bool.noConfusion h⟩ | refine ⟨fun h => absurd h (by decide), fun _ => ?_⟩ | refine ⟨fun _ => ?_, fun h => absurd h (by decide)⟩ | refine ⟨trivial, ?_⟩ | refine ⟨nd0 rfl, ?_⟩ | refine ⟨nd1 rfl, ?_⟩ | refine ⟨nd2 rfl (by decide), ?_⟩ | refine ⟨nd3 rfl (by decide), ?_⟩ | refine ⟨rfl, ?_⟩)); (conv => whnf); try dsimp only [Int.reduceToNat])
  refine ⟨fun q => ?_, fun q => ?_⟩
  · have q := dT q
    rw [if_pos q] at k
    ((repeat ((conv => whnf); first | refine ⟨_, rfl, ?_⟩ | refine ⟨Nat.le_of_ble_eq_true rfl, ?_⟩ | refine ⟨fun h => Bool.noConfusion h, fun _ => ?_⟩ | refine ⟨fun _ => ?_, fun h => Bool.noConfusion h⟩ | refine ⟨fun h => absurd h (by decide), fun _ => ?_⟩ | refine ⟨fun _ => ?_, fun h => absurd h (by decide)⟩ | refine ⟨trivial, ?_⟩ | refine ⟨nd0 rfl, ?_⟩ | refine ⟨nd1 rfl, ?_⟩ | refine ⟨nd2 rfl (by decide), ?_⟩ | refine ⟨nd3 rfl (by decide), ?_⟩ | refine ⟨rfl, ?_⟩)); (conv => whnf); try dsimp only [Int.reduceToNat])
    refine ⟨hx.shlOk q (by omega), ?_⟩
    ((repeat ((conv => whnf); first | refine ⟨_, rfl, ?_⟩ | refine ⟨Nat.le_of_ble_eq_true rfl, ?_⟩ | refine ⟨fun h => Bool.noConfusion h, fun _ => ?_⟩ | refine ⟨fun _ => ?_, fun h => Bool.noConfusion h⟩ | refine ⟨fun h => absurd h (by decide), fun _ => ?_⟩ | refine ⟨fun _ => ?_, fun h => absurd h (by decide)⟩ | refine ⟨trivial, ?_⟩ | refine ⟨nd0 rfl, ?_⟩ | refine ⟨nd1 rfl, ?_⟩ | refine ⟨nd2 rfl (by decide), ?_⟩ | refine ⟨nd3 rfl (by decide), ?_⟩ | refine ⟨rfl, ?_⟩)); (conv => whnf); try dsimp only [Int.reduceToNat])
    exact k
  · have q := dF q
    rw [if_neg q] at k
    ((repeat ((conv => whnf); first | refine ⟨_, rfl, ?_⟩ | refine ⟨Nat.le_of_ble_eq_true rfl, ?_⟩ | refine ⟨fun h => Bool.noConfusion h, fun _ => ?_⟩ | refine ⟨fun _ => ?_, fun h => Bool.noConfusion h⟩ | refine ⟨fun h => absurd h (by decide), fun _ => ?_⟩ | refine ⟨fun _ => ?_, fun h => absurd h (by decide)⟩ | refine ⟨trivial, ?_⟩ | refine ⟨nd0 rfl, ?_⟩ | refine ⟨nd1 rfl, ?_⟩ | refine ⟨nd2 rfl (by decide), ?_⟩ | refine ⟨nd3 rfl (by decide), ?_⟩ | refine ⟨rfl, ?_⟩)); (conv => whnf); try dsimp only [Int.reduceToNat])
    refine ⟨LB.shlOk (a := 2) (LB.of (by decide)) (by omega) (by omega), ?_⟩
    ((repeat ((conv => whnf); first | refine ⟨_, rfl, ?_⟩ | refine ⟨Nat.le_of_ble_eq_true rfl, ?_⟩ | refine ⟨fun h => Bool.noConfusion h, fun _ => ?_⟩ | refine ⟨fun _ => ?_, fun h => Bool.noConfusion h⟩ | refine ⟨fun h => absurd h (by decide), fun _ => ?_⟩ | refine ⟨fun _ => ?_, fun h => absurd h (by decide)⟩ | refine ⟨trivial, ?_⟩ | refine ⟨nd0 rfl, ?_⟩ | refine ⟨nd1 rfl, ?_⟩ | refine ⟨nd2 rfl (by decide), ?_⟩ | refine ⟨nd3 rfl (by decide), ?_⟩ | refine ⟨rfl, ?_⟩)); (conv => whnf); try dsimp only [Int.reduceToNat])
    rw [Int.one_mul]
    have p := pow2_pos (-h).toNat
    refine ⟨p, ?_⟩
    ((repeat ((conv => whnf); first | refine ⟨_, rfl, ?_⟩ | refine ⟨Nat.le_of_ble_eq_true rfl, ?_⟩ | refine ⟨fun h => Bool.noConfusion h, fun _ => ?_⟩ | refine ⟨fun _ => ?_, fun h => Bool.noConfusion h⟩ | refine ⟨fun h => absurd h (by decide), fun _ => ?_⟩ | refine ⟨fun _ => ?_, fun h => absurd h (by decide)⟩ | refine ⟨trivial, ?_⟩ | refine ⟨nd0 rfl, ?_⟩ | refine ⟨nd1 rfl, ?_⟩ | refine ⟨nd2 rfl (by decide), ?_⟩ | refine ⟨nd3 rfl (by decide), ?_⟩ | refine ⟨rfl, ?_⟩)); (conv => whnf); try dsimp only [Int.reduceToNat])
    refine ⟨fun q1 => ?_, fun q1 => ?_⟩
    · rw [if_neg (neT q1)] at k
      ((repeat ((conv => whnf); first | refine ⟨_, rfl, ?_⟩ | refine ⟨Nat.le_of_ble_eq_true rfl, ?_⟩ | refine ⟨fun h => Bool.noConfusion h, fun _ => ?_⟩ | refine ⟨fun _ => ?_, fun h => Bool.noConfusion h⟩ | refine ⟨fun h => absurd h (by decide), fun _ => ?_⟩ | refine ⟨fun _ => ?_, fun h => absurd h (by decide)⟩ | refine ⟨trivial, ?_⟩ | refine ⟨nd0 rfl, ?_⟩ | refine ⟨nd1 rfl, ?_⟩ | refine ⟨nd2 rfl (by decide), ?_⟩ | refine ⟨nd3 rfl (by decide), ?_⟩ | refine ⟨rfl, ?_⟩)); (conv => whnf); try dsimp only [Int.reduceToNat])
      exact k
    · rw [if_pos (neF q1)] at k
      ((repeat ((conv => whnf); first | refine ⟨_, rfl, ?_⟩ | refine ⟨Nat.le_of_ble_eq_true rfl, ?_⟩ | refine ⟨fun h => Bool.noConfusion h, fun _ => ?_⟩ | refine ⟨fun _ => ?_, fun h => Bool.noConfusion h⟩ | refine ⟨fun h => absurd h (by decide), fun _ => ?_⟩ | refine ⟨fun _ => ?_, fun h => absurd h (by decide)⟩ | refine ⟨trivial, ?_⟩ | refine ⟨nd0 rfl, ?_⟩ | refine ⟨nd1 rfl, ?_⟩ | refine ⟨nd2 rfl (by decide), ?_⟩ | refine ⟨nd3 rfl (by decide), ?_⟩ | refine ⟨rfl, ?_⟩)); (conv => whnf); try dsimp only [Int.reduceToNat])
      refine ⟨by omega, ?_⟩
      ((repeat ((conv => whnf); first | refine ⟨_, rfl, ?_⟩ | refine ⟨Nat.le_of_ble_eq_true rfl, ?_⟩ | refine ⟨fun h => Bool.noConfusion h, fun _ => ?_⟩ | refine ⟨fun _ => ?_, fun h => Bool.noConfusion h⟩ | refine ⟨fun h => absurd h (by decide), fun _ => ?_⟩ | refine ⟨fun _ => ?_, fun h => absurd h (by decide)⟩ | refine ⟨trivial, ?_⟩ | refine ⟨nd0 rfl, ?_⟩ | refine ⟨nd1 rfl, ?_⟩ | refine ⟨nd2 rfl (by decide), ?_⟩ | refine ⟨nd3 rfl (by decide), ?_⟩ | refine ⟨rfl, ?_⟩)); (conv => whnf); try dsimp only [Int.reduceToNat])
      exact k
end PL
namespace PL
open PySem L2
theorem LB.ediv {n k : Nat} {x : Int} (h : LB n x) : LB n (x / 2 ^ k) := by
  have h := h.to
  have p := pow2_pos k
  refine LB.of ⟨?_, ?_⟩
  · have : -(2 ^ n : Int) + 1 ≤ x := by omega
    have h2 : (-(2 ^ n : Int) + 1) ≤ x / 2 ^ k := by
      rw [Int.le_ediv_iff_mul_le p]
      have q : (0 : Int) < 2 ^ n := pow2_pos n
      have q1 := Int.mul_le_mul_of_nonneg_left (c := 2 ^ n - 1) (show (1 : Int) ≤ 2 ^ k by omega) (by omega)
      have q2 : (-(2 ^ n : Int) + 1) * 2 ^ k = -((2 ^ n - 1) * 2 ^ k) := by rw [← Int.neg_mul]; congr 1; omega
      omega
    omega
  · have q0 : x / 2 ^ k < 2 ^ n := by
      rw [Int.ediv_lt_iff_lt_mul p]
      have q : (0 : Int) < 2 ^ n := pow2_pos n
      have := Int.mul_le_mul_of_nonneg_left (c := 2 ^ n) (show (1 : Int) ≤ 2 ^ k by omega) (by omega)
      omega
    exact q0
theorem shfD_cases {x h : Int} {n : Nat} (hx : LB n x) (hh : h ≤ 5000) : shfD x h = .none ∨ ∃ y, shfD x h = .int y ∧ LB (n + 5001) y := by
  unfold shfD
  split
  · exact .inr ⟨_, rfl, (hx.mul (LB.pow _)).mono (by omega)⟩
  · split
    · exact .inr ⟨_, rfl, hx.ediv.mono (by omega)⟩
    · exact .inl rfl
end PL

set_option Elab.async false
set_option linter.all false
set_option maxRecDepth 100000
set_option maxHeartbeats 4000000
set_option autoImplicit false
/-! feeds: what is taken from a number of the script -/
namespace PL
open PySem L2
abbrev feed (g b s : Int) : T := .ol [.int g, .int b, .int s]
def limT : Nat → Int
  | 0 => 10 ^ 7
  | n + 1 => (limT n - 1) * 10 ^ 6
theorem limT_ge : ∀ n, 10 ^ 7 ≤ limT n
  | 0 => Int.le_refl _
  | n + 1 => by
    have := limT_ge n
    unfold limT
    omega
theorem limT_lt : ∀ n, limT n < 2 ^ (24 + 20 * n)
  | 0 => by unfold limT; decide
  | n + 1 => by
    have h := limT_lt n
    have := limT_ge n
    unfold limT
    have e : (2 : Int) ^ (24 + 20 * (n + 1)) = 2 ^ (24 + 20 * n) * 2 ^ 20 := by rw [← Int.pow_add]; congr 1
    rw [e]
    omega
def spTake (n : Nat) : FSp := fun ts K => ∃ g b s m : Int, ts = [feed g b s, .p (.int m)] ∧ n ≤ 20 ∧ 0 ≤ g ∧ 0 ≤ b ∧ b < 2 ^ 40 ∧ 0 ≤ s ∧ s + 2 ^ n ≤ 2 ^ 40 ∧ 0 < m ∧ m ≤ limT n ∧
  ∀ r g' s', 0 ≤ r → r < m → 0 ≤ g' → s ≤ s' → s' ≤ s + 2 ^ n → K (.p (.int r)) [some (feed g' b s'), some (.p (.int m))]
def spTakeP : Nat → FSp
  | 0 => fun _ _ => False
  | n + 1 => spTake n
def wTake (n : Nat) : PTS := sSeq (sIf (qV (pB cGt (pD 1) (pB bPow (pC (.int 10)) (pC (.int 7)))))
  (sSeq (sSet 4 (pCall (spTakeP n) (aC (pV 0) (aC (pB bAdd (pB bDiv (pD 1) (pB bPow (pC (.int 10)) (pC (.int 6)))) (pC (.int 1))) (aN)))))
  (sRet (pB bMod (pB bAdd (pB bMul (pD 4) (pB bPow (pC (.int 10)) (pC (.int 6)))) (pCall (spTakeP n) (aC (pV 0) (aC (pB bPow (pC (.int 10)) (pC (.int 6))) (aN))))) (pD 1))))
  (sNx))
  (sSeq (sIf (qV (pB cGt (pB bIx (pV 0) (pC (.int 0))) (pC (.int 0))))
  (sSeq (sSet 5 (pB bMod (pB bIx (pV 0) (pC (.int 0))) (pD 1)))
  (sSeq (sSetIx (pV 0) (pC (.int 0)) (pB bDiv (pB bIx (pV 0) (pC (.int 0))) (pD 1)))
  (sRet (pD 5))))
  (sNx))
  (sSeq (sSet 2 (pB bAdd (pB bIx (pV 0) (pC (.int 2))) (pC (.int 1))))
  (sSeq (sSetIx (pV 0) (pC (.int 2)) (pD 2))
  (sSeq (sSet 3 (pB bMod (pB bAdd (pB bAdd (pB bIx (pV 0) (pC (.int 1))) (pB bMul (pB bMul (pC (.int 40692)) (pD 2)) (pD 2))) (pB bMul (pC (.int 69621)) (pD 2))) (pC (.int 2147483647))))
  (sSeq (sSet 3 (pB bMod (pB bAdd (pB bAdd (pB bMul (pD 3) (pD 3)) (pB bMul (pC (.int 39373)) (pD 3))) (pD 2)) (pC (.int 2147483579))))
  (sSeq (sSet 3 (pB bMod (pB bAdd (pB bMul (pD 3) (pD 3)) (pB bMul (pC (.int 16807)) (pD 3))) (pC (.int 2147483549))))
  (sRet (pB bMod (pB bDiv (pD 3) (pC (.int 64))) (pD 1)))))))))
theorem vTake (n : Nat) (ts : List T) (K : T → List (Option T) → Prop) (h : spTake n ts K) : ts.length = 2 ∧ wTake n (endsOf [true, true] ts K) (PL.start 6 ts) := by
  obtain ⟨g, b, s, m, rfl, hn, hg, hb, hb', hs, hs', hm, hm', k⟩ := h
  refine ⟨rfl, ?_⟩
  have hmb : m < 2 ^ 424 := by
    have h1 := limT_lt n
    have h2 : (2 : Int) ^ (24 + 20 * n) ≤ 2 ^ 424 := by
      have : (2 : Nat) ^ (24 + 20 * n) ≤ 2 ^ 424 := Nat.pow_le_pow_right (by decide) (by omega)
      exact_mod_cast this
    omega
  have p1 : (1 : Int) ≤ 2 ^ n := by
    have : (0 : Int) < 2 ^ n := Int.pow_pos (by decide)
    omega
  ((repeat ((conv => whnf); first | refine ⟨_, rfl, ?_⟩ | refine ⟨Nat.le_of_ble_eq_true rfl, ?_⟩ | refine ⟨fun h => Bool.noConfusion h, fun _ => ?_⟩ | refine ⟨fun _ => ?_, fun h => Bool.noConfusion h⟩ | refine ⟨fun h => absurd h (by decide), fun _ => ?_⟩ | refine ⟨fun _ => ?_, fun h => absurd h (by decide)⟩ | refine ⟨trivial, ?_⟩ | refine ⟨nd0 rfl, ?_⟩ | refine ⟨nd1 rfl, ?_⟩ | refine ⟨nd2 rfl (by decide), ?_⟩ | refine ⟨nd3 rfl (by decide), ?_⟩ | refine ⟨rfl, ?_⟩)); (conv => whnf); try dsimp only [Int.reduceToNat])
  refine ⟨powS (by decide) (by decide), ?_⟩
  ((repeat ((conv => whnf); first | refine ⟨_, rfl, ?_⟩ | refine ⟨Nat.le_of_ble_eq_true rfl, ?_⟩ | refine ⟨fun h => Bool.noConfusion h, fun _ => ?_⟩ | refine ⟨fun _ => ?_, fun h => Bool.noConfusion h⟩ | refine ⟨fun h => absurd h (by decide), fun _ => ?_⟩ | refine ⟨fun _ => ?_, fun h => absurd h (by decide)⟩ | refine ⟨trivial, ?_⟩ | refine ⟨nd0 rfl, ?_⟩ | refine ⟨nd1 rfl, ?_⟩ | refine ⟨nd2 rfl (by decide), ?_⟩ | refine ⟨nd3 rfl (by decide), ?_⟩ | refine ⟨rfl, ?_⟩)); (conv => whnf); try dsimp only [Int.reduceToNat])
  refine ⟨fun h => ?_, fun h => ?_⟩
  · have h := dT h
    cases n with
    | zero => exact absurd hm' (by show ¬ m ≤ 10 ^ 7; omega)
    | succ n =>
      have hm2 : m ≤ (limT n - 1) * 10 ^ 6 := hm'
      have hl := limT_ge n
      have e2 : (2 : Int) ^ (n + 1) = 2 * 2 ^ n := by rw [Int.pow_succ]; omega
      ((repeat ((conv => whnf); first | refine ⟨_, rfl, ?_⟩ | refine ⟨Nat.le_of_ble_eq_true rfl, ?_⟩ | refine ⟨fun h => Bool.noConfusion h, fun _ => ?_⟩ | refine ⟨fun _ => ?_, fun h => Bool.noConfusion h⟩ | refine ⟨fun h => absurd h (by decide), fun _ => ?_⟩ | refine ⟨fun _ => ?_, fun h => absurd h (by decide)⟩ | refine ⟨trivial, ?_⟩ | refine ⟨nd0 rfl, ?_⟩ | refine ⟨nd1 rfl, ?_⟩ | refine ⟨nd2 rfl (by decide), ?_⟩ | refine ⟨nd3 rfl (by decide), ?_⟩ | refine ⟨rfl, ?_⟩)); (conv => whnf); try dsimp only [Int.reduceToNat])
      refine ⟨powS (by decide) (by decide), ?_⟩
      ((repeat ((conv => whnf); first | refine ⟨_, rfl, ?_⟩ | refine ⟨Nat.le_of_ble_eq_true rfl, ?_⟩ | refine ⟨fun h => Bool.noConfusion h, fun _ => ?_⟩ | refine ⟨fun _ => ?_, fun h => Bool.noConfusion h⟩ | refine ⟨fun h => absurd h (by decide), fun _ => ?_⟩ | refine ⟨fun _ => ?_, fun h => absurd h (by decide)⟩ | refine ⟨trivial, ?_⟩ | refine ⟨nd0 rfl, ?_⟩ | refine ⟨nd1 rfl, ?_⟩ | refine ⟨nd2 rfl (by decide), ?_⟩ | refine ⟨nd3 rfl (by decide), ?_⟩ | refine ⟨rfl, ?_⟩)); (conv => whnf); try dsimp only [Int.reduceToNat])
      refine ⟨divS 40 (by decide) (by decide), ?_⟩
      ((repeat ((conv => whnf); first | refine ⟨_, rfl, ?_⟩ | refine ⟨Nat.le_of_ble_eq_true rfl, ?_⟩ | refine ⟨fun h => Bool.noConfusion h, fun _ => ?_⟩ | refine ⟨fun _ => ?_, fun h => Bool.noConfusion h⟩ | refine ⟨fun h => absurd h (by decide), fun _ => ?_⟩ | refine ⟨fun _ => ?_, fun h => absurd h (by decide)⟩ | refine ⟨trivial, ?_⟩ | refine ⟨nd0 rfl, ?_⟩ | refine ⟨nd1 rfl, ?_⟩ | refine ⟨nd2 rfl (by decide), ?_⟩ | refine ⟨nd3 rfl (by decide), ?_⟩ | refine ⟨rfl, ?_⟩)); (conv => whnf); try dsimp only [Int.reduceToNat])
      refine ⟨_, _, _, _, rfl, by omega, hg, hb, hb', hs, by omega, by omega, by omega, fun r1 g1 s1 r1l r1h g1l s1l s1h => ?_⟩
      ((repeat ((conv => whnf); first | refine ⟨_, rfl, ?_⟩ | refine ⟨Nat.le_of_ble_eq_true rfl, ?_⟩ | refine ⟨fun h => Bool.noConfusion h, fun _ => ?_⟩ | refine ⟨fun _ => ?_, fun h => Bool.noConfusion h⟩ | refine ⟨fun h => absurd h (by decide), fun _ => ?_⟩ | refine ⟨fun _ => ?_, fun h => absurd h (by decide)⟩ | refine ⟨trivial, ?_⟩ | refine ⟨nd0 rfl, ?_⟩ | refine ⟨nd1 rfl, ?_⟩ | refine ⟨nd2 rfl (by decide), ?_⟩ | refine ⟨nd3 rfl (by decide), ?_⟩ | refine ⟨rfl, ?_⟩)); (conv => whnf); try dsimp only [Int.reduceToNat])
      refine ⟨powS (by decide) (by decide), ?_⟩
      ((repeat ((conv => whnf); first | refine ⟨_, rfl, ?_⟩ | refine ⟨Nat.le_of_ble_eq_true rfl, ?_⟩ | refine ⟨fun h => Bool.noConfusion h, fun _ => ?_⟩ | refine ⟨fun _ => ?_, fun h => Bool.noConfusion h⟩ | refine ⟨fun h => absurd h (by decide), fun _ => ?_⟩ | refine ⟨fun _ => ?_, fun h => absurd h (by decide)⟩ | refine ⟨trivial, ?_⟩ | refine ⟨nd0 rfl, ?_⟩ | refine ⟨nd1 rfl, ?_⟩ | refine ⟨nd2 rfl (by decide), ?_⟩ | refine ⟨nd3 rfl (by decide), ?_⟩ | refine ⟨rfl, ?_⟩)); (conv => whnf); try dsimp only [Int.reduceToNat])
      refine ⟨mulS 424 40 (by omega) (by decide), ?_⟩
      ((repeat ((conv => whnf); first | refine ⟨_, rfl, ?_⟩ | refine ⟨Nat.le_of_ble_eq_true rfl, ?_⟩ | refine ⟨fun h => Bool.noConfusion h, fun _ => ?_⟩ | refine ⟨fun _ => ?_, fun h => Bool.noConfusion h⟩ | refine ⟨fun h => absurd h (by decide), fun _ => ?_⟩ | refine ⟨fun _ => ?_, fun h => absurd h (by decide)⟩ | refine ⟨trivial, ?_⟩ | refine ⟨nd0 rfl, ?_⟩ | refine ⟨nd1 rfl, ?_⟩ | refine ⟨nd2 rfl (by decide), ?_⟩ | refine ⟨nd3 rfl (by decide), ?_⟩ | refine ⟨rfl, ?_⟩)); (conv => whnf); try dsimp only [Int.reduceToNat])
      refine ⟨powS (by decide) (by decide), ?_⟩
      ((repeat ((conv => whnf); first | refine ⟨_, rfl, ?_⟩ | refine ⟨Nat.le_of_ble_eq_true rfl, ?_⟩ | refine ⟨fun h => Bool.noConfusion h, fun _ => ?_⟩ | refine ⟨fun _ => ?_, fun h => Bool.noConfusion h⟩ | refine ⟨fun h => absurd h (by decide), fun _ => ?_⟩ | refine ⟨fun _ => ?_, fun h => absurd h (by decide)⟩ | refine ⟨trivial, ?_⟩ | refine ⟨nd0 rfl, ?_⟩ | refine ⟨nd1 rfl, ?_⟩ | refine ⟨nd2 rfl (by decide), ?_⟩ | refine ⟨nd3 rfl (by decide), ?_⟩ | refine ⟨rfl, ?_⟩)); (conv => whnf); try dsimp only [Int.reduceToNat])
      refine ⟨_, _, _, _, rfl, by omega, g1l, hb, hb', by omega, by omega, by decide, by omega, fun r2 g2 s2 r2l r2h g2l s2l s2h => ?_⟩
      ((repeat ((conv => whnf); first | refine ⟨_, rfl, ?_⟩ | refine ⟨Nat.le_of_ble_eq_true rfl, ?_⟩ | refine ⟨fun h => Bool.noConfusion h, fun _ => ?_⟩ | refine ⟨fun _ => ?_, fun h => Bool.noConfusion h⟩ | refine ⟨fun h => absurd h (by decide), fun _ => ?_⟩ | refine ⟨fun _ => ?_, fun h => absurd h (by decide)⟩ | refine ⟨trivial, ?_⟩ | refine ⟨nd0 rfl, ?_⟩ | refine ⟨nd1 rfl, ?_⟩ | refine ⟨nd2 rfl (by decide), ?_⟩ | refine ⟨nd3 rfl (by decide), ?_⟩ | refine ⟨rfl, ?_⟩)); (conv => whnf); try dsimp only [Int.reduceToNat])
      refine ⟨hm, ?_⟩
      ((repeat ((conv => whnf); first | refine ⟨_, rfl, ?_⟩ | refine ⟨Nat.le_of_ble_eq_true rfl, ?_⟩ | refine ⟨fun h => Bool.noConfusion h, fun _ => ?_⟩ | refine ⟨fun _ => ?_, fun h => Bool.noConfusion h⟩ | refine ⟨fun h => absurd h (by decide), fun _ => ?_⟩ | refine ⟨fun _ => ?_, fun h => absurd h (by decide)⟩ | refine ⟨trivial, ?_⟩ | refine ⟨nd0 rfl, ?_⟩ | refine ⟨nd1 rfl, ?_⟩ | refine ⟨nd2 rfl (by decide), ?_⟩ | refine ⟨nd3 rfl (by decide), ?_⟩ | refine ⟨rfl, ?_⟩)); (conv => whnf); try dsimp only [Int.reduceToNat])
      exact k _ _ _ (Int.emod_nonneg _ (by omega)) (Int.emod_lt_of_pos _ hm) g2l (by omega) (by omega)
  · ((repeat ((conv => whnf); first | refine ⟨_, rfl, ?_⟩ | refine ⟨Nat.le_of_ble_eq_true rfl, ?_⟩ | refine ⟨fun h => Bool.noConfusion h, fun _ => ?_⟩ | refine ⟨fun _ => ?_, fun h => Bool.noConfusion h⟩ | refine ⟨fun h => absurd h (by decide), fun _ => ?_⟩ | refine ⟨fun _ => ?_, fun h => absurd h (by decide)⟩ | refine ⟨trivial, ?_⟩ | refine ⟨nd0 rfl, ?_⟩ | refine ⟨nd1 rfl, ?_⟩ | refine ⟨nd2 rfl (by decide), ?_⟩ | refine ⟨nd3 rfl (by decide), ?_⟩ | refine ⟨rfl, ?_⟩)); (conv => whnf); try dsimp only [Int.reduceToNat])
    refine ⟨fun h => ?_, fun h => ?_⟩
    · ((repeat ((conv => whnf); first | refine ⟨_, rfl, ?_⟩ | refine ⟨Nat.le_of_ble_eq_true rfl, ?_⟩ | refine ⟨fun h => Bool.noConfusion h, fun _ => ?_⟩ | refine ⟨fun _ => ?_, fun h => Bool.noConfusion h⟩ | refine ⟨fun h => absurd h (by decide), fun _ => ?_⟩ | refine ⟨fun _ => ?_, fun h => absurd h (by decide)⟩ | refine ⟨trivial, ?_⟩ | refine ⟨nd0 rfl, ?_⟩ | refine ⟨nd1 rfl, ?_⟩ | refine ⟨nd2 rfl (by decide), ?_⟩ | refine ⟨nd3 rfl (by decide), ?_⟩ | refine ⟨rfl, ?_⟩)); (conv => whnf); try dsimp only [Int.reduceToNat])
      refine ⟨hm, ?_⟩
      ((repeat ((conv => whnf); first | refine ⟨_, rfl, ?_⟩ | refine ⟨Nat.le_of_ble_eq_true rfl, ?_⟩ | refine ⟨fun h => Bool.noConfusion h, fun _ => ?_⟩ | refine ⟨fun _ => ?_, fun h => Bool.noConfusion h⟩ | refine ⟨fun h => absurd h (by decide), fun _ => ?_⟩ | refine ⟨fun _ => ?_, fun h => absurd h (by decide)⟩ | refine ⟨trivial, ?_⟩ | refine ⟨nd0 rfl, ?_⟩ | refine ⟨nd1 rfl, ?_⟩ | refine ⟨nd2 rfl (by decide), ?_⟩ | refine ⟨nd3 rfl (by decide), ?_⟩ | refine ⟨rfl, ?_⟩)); (conv => whnf); try dsimp only [Int.reduceToNat])
      refine ⟨divS 424 hm hmb, ?_⟩
      ((repeat ((conv => whnf); first | refine ⟨_, rfl, ?_⟩ | refine ⟨Nat.le_of_ble_eq_true rfl, ?_⟩ | refine ⟨fun h => Bool.noConfusion h, fun _ => ?_⟩ | refine ⟨fun _ => ?_, fun h => Bool.noConfusion h⟩ | refine ⟨fun h => absurd h (by decide), fun _ => ?_⟩ | refine ⟨fun _ => ?_, fun h => absurd h (by decide)⟩ | refine ⟨trivial, ?_⟩ | refine ⟨nd0 rfl, ?_⟩ | refine ⟨nd1 rfl, ?_⟩ | refine ⟨nd2 rfl (by decide), ?_⟩ | refine ⟨nd3 rfl (by decide), ?_⟩ | refine ⟨rfl, ?_⟩)); (conv => whnf); try dsimp only [Int.reduceToNat])
      exact k _ _ _ (Int.emod_nonneg _ (by omega)) (Int.emod_lt_of_pos _ hm) (Int.ediv_nonneg hg (by omega)) (by omega) (by omega)
    · ((repeat ((conv => whnf); first | refine ⟨_, rfl, ?_⟩ | refine ⟨Nat.le_of_ble_eq_true rfl, ?_⟩ | refine ⟨fun h => Bool.noConfusion h, fun _ => ?_⟩ | refine ⟨fun _ => ?_, fun h => Bool.noConfusion h⟩ | refine ⟨fun h => absurd h (by decide), fun _ => ?_⟩ | refine ⟨fun _ => ?_, fun h => absurd h (by decide)⟩ | refine ⟨trivial, ?_⟩ | refine ⟨nd0 rfl, ?_⟩ | refine ⟨nd1 rfl, ?_⟩ | refine ⟨nd2 rfl (by decide), ?_⟩ | refine ⟨nd3 rfl (by decide), ?_⟩ | refine ⟨rfl, ?_⟩)); (conv => whnf); try dsimp only [Int.reduceToNat])
      have ls : LB 42 (s + 1) := LB.of (by omega)
      have lb : LB 41 b := LB.of (by omega)
      have l1 : LB 17 (40692 : Int) := LB.of (by decide)
      have l2 : LB 18 (69621 : Int) := LB.of (by decide)
      have l3 : LB 17 (39373 : Int) := LB.of (by decide)
      have l4 : LB 17 (16807 : Int) := LB.of (by decide)
      refine ⟨l1.mulOk ls, ?_⟩
      ((repeat ((conv => whnf); first | refine ⟨_, rfl, ?_⟩ | refine ⟨Nat.le_of_ble_eq_true rfl, ?_⟩ | refine ⟨fun h => Bool.noConfusion h, fun _ => ?_⟩ | refine ⟨fun _ => ?_, fun h => Bool.noConfusion h⟩ | refine ⟨fun h => absurd h (by decide), fun _ => ?_⟩ | refine ⟨fun _ => ?_, fun h => absurd h (by decide)⟩ | refine ⟨trivial, ?_⟩ | refine ⟨nd0 rfl, ?_⟩ | refine ⟨nd1 rfl, ?_⟩ | refine ⟨nd2 rfl (by decide), ?_⟩ | refine ⟨nd3 rfl (by decide), ?_⟩ | refine ⟨rfl, ?_⟩)); (conv => whnf); try dsimp only [Int.reduceToNat])
      refine ⟨(l1.mul ls).mulOk ls, ?_⟩
      ((repeat ((conv => whnf); first | refine ⟨_, rfl, ?_⟩ | refine ⟨Nat.le_of_ble_eq_true rfl, ?_⟩ | refine ⟨fun h => Bool.noConfusion h, fun _ => ?_⟩ | refine ⟨fun _ => ?_, fun h => Bool.noConfusion h⟩ | refine ⟨fun h => absurd h (by decide), fun _ => ?_⟩ | refine ⟨fun _ => ?_, fun h => absurd h (by decide)⟩ | refine ⟨trivial, ?_⟩ | refine ⟨nd0 rfl, ?_⟩ | refine ⟨nd1 rfl, ?_⟩ | refine ⟨nd2 rfl (by decide), ?_⟩ | refine ⟨nd3 rfl (by decide), ?_⟩ | refine ⟨rfl, ?_⟩)); (conv => whnf); try dsimp only [Int.reduceToNat])
      refine ⟨l2.mulOk ls, ?_⟩
      ((repeat ((conv => whnf); first | refine ⟨_, rfl, ?_⟩ | refine ⟨Nat.le_of_ble_eq_true rfl, ?_⟩ | refine ⟨fun h => Bool.noConfusion h, fun _ => ?_⟩ | refine ⟨fun _ => ?_, fun h => Bool.noConfusion h⟩ | refine ⟨fun h => absurd h (by decide), fun _ => ?_⟩ | refine ⟨fun _ => ?_, fun h => absurd h (by decide)⟩ | refine ⟨trivial, ?_⟩ | refine ⟨nd0 rfl, ?_⟩ | refine ⟨nd1 rfl, ?_⟩ | refine ⟨nd2 rfl (by decide), ?_⟩ | refine ⟨nd3 rfl (by decide), ?_⟩ | refine ⟨rfl, ?_⟩)); (conv => whnf); try dsimp only [Int.reduceToNat])
      refine ⟨by decide, ?_⟩
      ((repeat ((conv => whnf); first | refine ⟨_, rfl, ?_⟩ | refine ⟨Nat.le_of_ble_eq_true rfl, ?_⟩ | refine ⟨fun h => Bool.noConfusion h, fun _ => ?_⟩ | refine ⟨fun _ => ?_, fun h => Bool.noConfusion h⟩ | refine ⟨fun h => absurd h (by decide), fun _ => ?_⟩ | refine ⟨fun _ => ?_, fun h => absurd h (by decide)⟩ | refine ⟨trivial, ?_⟩ | refine ⟨nd0 rfl, ?_⟩ | refine ⟨nd1 rfl, ?_⟩ | refine ⟨nd2 rfl (by decide), ?_⟩ | refine ⟨nd3 rfl (by decide), ?_⟩ | refine ⟨rfl, ?_⟩)); (conv => whnf); try dsimp only [Int.reduceToNat])
      generalize ht : (b + 40692 * (s + 1) * (s + 1) + 69621 * (s + 1)) % 2147483647 = t
      have lt : LB 31 t := by
        have h1 := Int.emod_nonneg (b + 40692 * (s + 1) * (s + 1) + 69621 * (s + 1)) (show (2147483647 : Int) ≠ 0 by decide)
        have h2 := Int.emod_lt_of_pos (b + 40692 * (s + 1) * (s + 1) + 69621 * (s + 1)) (show (0 : Int) < 2147483647 by decide)
        rw [ht] at h1 h2
        exact LB.of (by omega)
      ((repeat ((conv => whnf); first | refine ⟨_, rfl, ?_⟩ | refine ⟨Nat.le_of_ble_eq_true rfl, ?_⟩ | refine ⟨fun h => Bool.noConfusion h, fun _ => ?_⟩ | refine ⟨fun _ => ?_, fun h => Bool.noConfusion h⟩ | refine ⟨fun h => absurd h (by decide), fun _ => ?_⟩ | refine ⟨fun _ => ?_, fun h => absurd h (by decide)⟩ | refine ⟨trivial, ?_⟩ | refine ⟨nd0 rfl, ?_⟩ | refine ⟨nd1 rfl, ?_⟩ | refine ⟨nd2 rfl (by decide), ?_⟩ | refine ⟨nd3 rfl (by decide), ?_⟩ | refine ⟨rfl, ?_⟩)); (conv => whnf); try dsimp only [Int.reduceToNat])
      refine ⟨lt.mulOk lt, ?_⟩
      ((repeat ((conv => whnf); first | refine ⟨_, rfl, ?_⟩ | refine ⟨Nat.le_of_ble_eq_true rfl, ?_⟩ | refine ⟨fun h => Bool.noConfusion h, fun _ => ?_⟩ | refine ⟨fun _ => ?_, fun h => Bool.noConfusion h⟩ | refine ⟨fun h => absurd h (by decide), fun _ => ?_⟩ | refine ⟨fun _ => ?_, fun h => absurd h (by decide)⟩ | refine ⟨trivial, ?_⟩ | refine ⟨nd0 rfl, ?_⟩ | refine ⟨nd1 rfl, ?_⟩ | refine ⟨nd2 rfl (by decide), ?_⟩ | refine ⟨nd3 rfl (by decide), ?_⟩ | refine ⟨rfl, ?_⟩)); (conv => whnf); try dsimp only [Int.reduceToNat])
      refine ⟨l3.mulOk lt, ?_⟩
      ((repeat ((conv => whnf); first | refine ⟨_, rfl, ?_⟩ | refine ⟨Nat.le_of_ble_eq_true rfl, ?_⟩ | refine ⟨fun h => Bool.noConfusion h, fun _ => ?_⟩ | refine ⟨fun _ => ?_, fun h => Bool.noConfusion h⟩ | refine ⟨fun h => absurd h (by decide), fun _ => ?_⟩ | refine ⟨fun _ => ?_, fun h => absurd h (by decide)⟩ | refine ⟨trivial, ?_⟩ | refine ⟨nd0 rfl, ?_⟩ | refine ⟨nd1 rfl, ?_⟩ | refine ⟨nd2 rfl (by decide), ?_⟩ | refine ⟨nd3 rfl (by decide), ?_⟩ | refine ⟨rfl, ?_⟩)); (conv => whnf); try dsimp only [Int.reduceToNat])
      refine ⟨by decide, ?_⟩
      ((repeat ((conv => whnf); first | refine ⟨_, rfl, ?_⟩ | refine ⟨Nat.le_of_ble_eq_true rfl, ?_⟩ | refine ⟨fun h => Bool.noConfusion h, fun _ => ?_⟩ | refine ⟨fun _ => ?_, fun h => Bool.noConfusion h⟩ | refine ⟨fun h => absurd h (by decide), fun _ => ?_⟩ | refine ⟨fun _ => ?_, fun h => absurd h (by decide)⟩ | refine ⟨trivial, ?_⟩ | refine ⟨nd0 rfl, ?_⟩ | refine ⟨nd1 rfl, ?_⟩ | refine ⟨nd2 rfl (by decide), ?_⟩ | refine ⟨nd3 rfl (by decide), ?_⟩ | refine ⟨rfl, ?_⟩)); (conv => whnf); try dsimp only [Int.reduceToNat])
      generalize hu : (t * t + 39373 * t + (s + 1)) % 2147483579 = u
      have lu : LB 31 u := by
        have h1 := Int.emod_nonneg (t * t + 39373 * t + (s + 1)) (show (2147483579 : Int) ≠ 0 by decide)
        have h2 := Int.emod_lt_of_pos (t * t + 39373 * t + (s + 1)) (show (0 : Int) < 2147483579 by decide)
        rw [hu] at h1 h2
        exact LB.of (by omega)
      ((repeat ((conv => whnf); first | refine ⟨_, rfl, ?_⟩ | refine ⟨Nat.le_of_ble_eq_true rfl, ?_⟩ | refine ⟨fun h => Bool.noConfusion h, fun _ => ?_⟩ | refine ⟨fun _ => ?_, fun h => Bool.noConfusion h⟩ | refine ⟨fun h => absurd h (by decide), fun _ => ?_⟩ | refine ⟨fun _ => ?_, fun h => absurd h (by decide)⟩ | refine ⟨trivial, ?_⟩ | refine ⟨nd0 rfl, ?_⟩ | refine ⟨nd1 rfl, ?_⟩ | refine ⟨nd2 rfl (by decide), ?_⟩ | refine ⟨nd3 rfl (by decide), ?_⟩ | refine ⟨rfl, ?_⟩)); (conv => whnf); try dsimp only [Int.reduceToNat])
      refine ⟨lu.mulOk lu, ?_⟩
      ((repeat ((conv => whnf); first | refine ⟨_, rfl, ?_⟩ | refine ⟨Nat.le_of_ble_eq_true rfl, ?_⟩ | refine ⟨fun h => Bool.noConfusion h, fun _ => ?_⟩ | refine ⟨fun _ => ?_, fun h => Bool.noConfusion h⟩ | refine ⟨fun h => absurd h (by decide), fun _ => ?_⟩ | refine ⟨fun _ => ?_, fun h => absurd h (by decide)⟩ | refine ⟨trivial, ?_⟩ | refine ⟨nd0 rfl, ?_⟩ | refine ⟨nd1 rfl, ?_⟩ | refine ⟨nd2 rfl (by decide), ?_⟩ | refine ⟨nd3 rfl (by decide), ?_⟩ | refine ⟨rfl, ?_⟩)); (conv => whnf); try dsimp only [Int.reduceToNat])
      refine ⟨l4.mulOk lu, ?_⟩
      ((repeat ((conv => whnf); first | refine ⟨_, rfl, ?_⟩ | refine ⟨Nat.le_of_ble_eq_true rfl, ?_⟩ | refine ⟨fun h => Bool.noConfusion h, fun _ => ?_⟩ | refine ⟨fun _ => ?_, fun h => Bool.noConfusion h⟩ | refine ⟨fun h => absurd h (by decide), fun _ => ?_⟩ | refine ⟨fun _ => ?_, fun h => absurd h (by decide)⟩ | refine ⟨trivial, ?_⟩ | refine ⟨nd0 rfl, ?_⟩ | refine ⟨nd1 rfl, ?_⟩ | refine ⟨nd2 rfl (by decide), ?_⟩ | refine ⟨nd3 rfl (by decide), ?_⟩ | refine ⟨rfl, ?_⟩)); (conv => whnf); try dsimp only [Int.reduceToNat])
      refine ⟨by decide, ?_⟩
      ((repeat ((conv => whnf); first | refine ⟨_, rfl, ?_⟩ | refine ⟨Nat.le_of_ble_eq_true rfl, ?_⟩ | refine ⟨fun h => Bool.noConfusion h, fun _ => ?_⟩ | refine ⟨fun _ => ?_, fun h => Bool.noConfusion h⟩ | refine ⟨fun h => absurd h (by decide), fun _ => ?_⟩ | refine ⟨fun _ => ?_, fun h => absurd h (by decide)⟩ | refine ⟨trivial, ?_⟩ | refine ⟨nd0 rfl, ?_⟩ | refine ⟨nd1 rfl, ?_⟩ | refine ⟨nd2 rfl (by decide), ?_⟩ | refine ⟨nd3 rfl (by decide), ?_⟩ | refine ⟨rfl, ?_⟩)); (conv => whnf); try dsimp only [Int.reduceToNat])
      refine ⟨divS 40 (by decide) (by decide), ?_⟩
      ((repeat ((conv => whnf); first | refine ⟨_, rfl, ?_⟩ | refine ⟨Nat.le_of_ble_eq_true rfl, ?_⟩ | refine ⟨fun h => Bool.noConfusion h, fun _ => ?_⟩ | refine ⟨fun _ => ?_, fun h => Bool.noConfusion h⟩ | refine ⟨fun h => absurd h (by decide), fun _ => ?_⟩ | refine ⟨fun _ => ?_, fun h => absurd h (by decide)⟩ | refine ⟨trivial, ?_⟩ | refine ⟨nd0 rfl, ?_⟩ | refine ⟨nd1 rfl, ?_⟩ | refine ⟨nd2 rfl (by decide), ?_⟩ | refine ⟨nd3 rfl (by decide), ?_⟩ | refine ⟨rfl, ?_⟩)); (conv => whnf); try dsimp only [Int.reduceToNat])
      refine ⟨hm, ?_⟩
      ((repeat ((conv => whnf); first | refine ⟨_, rfl, ?_⟩ | refine ⟨Nat.le_of_ble_eq_true rfl, ?_⟩ | refine ⟨fun h => Bool.noConfusion h, fun _ => ?_⟩ | refine ⟨fun _ => ?_, fun h => Bool.noConfusion h⟩ | refine ⟨fun h => absurd h (by decide), fun _ => ?_⟩ | refine ⟨fun _ => ?_, fun h => absurd h (by decide)⟩ | refine ⟨trivial, ?_⟩ | refine ⟨nd0 rfl, ?_⟩ | refine ⟨nd1 rfl, ?_⟩ | refine ⟨nd2 rfl (by decide), ?_⟩ | refine ⟨nd3 rfl (by decide), ?_⟩ | refine ⟨rfl, ?_⟩)); (conv => whnf); try dsimp only [Int.reduceToNat])
      exact k _ _ _ (Int.emod_nonneg _ (by omega)) (Int.emod_lt_of_pos _ hm) hg (by omega) (by omega)
def wFeed (q f c d : Int) : PTS := sSeq (sSet 2 (pC (.int 0)))
  (sCut (sIf (qV (pB cLt (pD 1) (pU uLen (pD 0))))
  (sSet 2 (pB bIx (pD 0) (pD 1)))
  (sNx))
  (sSeq (sSet 3 (pU uAbs (pD 2)))
  (sCut (sIf (qV (pB cLt (pD 3) (pB bPow (pC (.int 10)) (pC (.int 18)))))
  (sSet 3 (pC (.int 0)))
  (sNx))
  (sRet (pLst (aC (pD 3) (aC (pB bMod (pB bAdd (pB bAdd (pB bMul (pB bMod (pD 2) (pC (.int q))) (pC (.int f))) (pB bMul (pC (.int c)) (pD 1))) (pC (.int d))) (pC (.int q))) (aC (pC (.int 0)) (aN)))))))))
def spFeed : FSp := fun ts K => ∃ (ns : List Int) (j : Int), ts = [.p (.list (ns.map .int)), .p (.int j)] ∧ 0 ≤ j ∧ j < 2 ^ 40 ∧
  ∀ g b, 0 ≤ g → 0 ≤ b → b < 2 ^ 40 → K (feed g b 0) [some (.p (.list (ns.map .int))), some (.p (.int j))]
theorem vFeed {q f c d : Int} (hq : 0 < q ∧ q < 2 ^ 40) (hf : 0 ≤ f ∧ f < 2 ^ 40) (hc : 0 ≤ c ∧ c < 2 ^ 40) (ts : List T) (K : T → List (Option T) → Prop) (h : spFeed ts K) : ts.length = 2 ∧ wFeed q f c d (endsOf [true, true] ts K) (PL.start 4 ts) := by
  obtain ⟨ns, j, rfl, hj, hj', k⟩ := h
  refine ⟨rfl, ?_⟩
  have hl : (ns.map PyData.int).length = ns.length := List.length_map ..
  ((repeat ((conv => whnf); first | refine ⟨_, rfl, ?_⟩ | refine ⟨Nat.le_of_ble_eq_true rfl, ?_⟩ | refine ⟨fun h => Bool.noConfusion h, fun _ => ?_⟩ | refine ⟨fun _ => ?_, fun h => Bool.noConfusion h⟩ | refine ⟨fun h => absurd h (by decide), fun _ => ?_⟩ | refine ⟨fun _ => ?_, fun h => absurd h (by decide)⟩ | refine ⟨trivial, ?_⟩ | refine ⟨nd0 rfl, ?_⟩ | refine ⟨nd1 rfl, ?_⟩ | refine ⟨nd2 rfl (by decide), ?_⟩ | refine ⟨nd3 rfl (by decide), ?_⟩ | refine ⟨rfl, ?_⟩)); (conv => whnf); try dsimp only [Int.reduceToNat])
  refine ⟨fun S => ∃ z : Int, S = [some (.p (.list (ns.map .int))), some (.p (.int j)), some (.p (.int z)), none], ?_, ?_⟩
  · ((repeat ((conv => whnf); first | refine ⟨_, rfl, ?_⟩ | refine ⟨Nat.le_of_ble_eq_true rfl, ?_⟩ | refine ⟨fun h => Bool.noConfusion h, fun _ => ?_⟩ | refine ⟨fun _ => ?_, fun h => Bool.noConfusion h⟩ | refine ⟨fun h => absurd h (by decide), fun _ => ?_⟩ | refine ⟨fun _ => ?_, fun h => absurd h (by decide)⟩ | refine ⟨trivial, ?_⟩ | refine ⟨nd0 rfl, ?_⟩ | refine ⟨nd1 rfl, ?_⟩ | refine ⟨nd2 rfl (by decide), ?_⟩ | refine ⟨nd3 rfl (by decide), ?_⟩ | refine ⟨rfl, ?_⟩)); (conv => whnf); try dsimp only [Int.reduceToNat])
    refine ⟨fun h => ?_, fun h => ?_⟩
    · have h := dT h
      obtain ⟨cl, _, _, hc⟩ := ints_at (ns := ns) (i := j) hj (by omega)
      (conv => whnf)
      refine ⟨_, hc, ?_⟩
      ((repeat ((conv => whnf); first | refine ⟨_, rfl, ?_⟩ | refine ⟨Nat.le_of_ble_eq_true rfl, ?_⟩ | refine ⟨fun h => Bool.noConfusion h, fun _ => ?_⟩ | refine ⟨fun _ => ?_, fun h => Bool.noConfusion h⟩ | refine ⟨fun h => absurd h (by decide), fun _ => ?_⟩ | refine ⟨fun _ => ?_, fun h => absurd h (by decide)⟩ | refine ⟨trivial, ?_⟩ | refine ⟨nd0 rfl, ?_⟩ | refine ⟨nd1 rfl, ?_⟩ | refine ⟨nd2 rfl (by decide), ?_⟩ | refine ⟨nd3 rfl (by decide), ?_⟩ | refine ⟨rfl, ?_⟩)); (conv => whnf); try dsimp only [Int.reduceToNat])
      exact ⟨_, rfl⟩
    · exact ⟨_, rfl⟩
  · rintro S ⟨z, rfl⟩
    ((repeat ((conv => whnf); first | refine ⟨_, rfl, ?_⟩ | refine ⟨Nat.le_of_ble_eq_true rfl, ?_⟩ | refine ⟨fun h => Bool.noConfusion h, fun _ => ?_⟩ | refine ⟨fun _ => ?_, fun h => Bool.noConfusion h⟩ | refine ⟨fun h => absurd h (by decide), fun _ => ?_⟩ | refine ⟨fun _ => ?_, fun h => absurd h (by decide)⟩ | refine ⟨trivial, ?_⟩ | refine ⟨nd0 rfl, ?_⟩ | refine ⟨nd1 rfl, ?_⟩ | refine ⟨nd2 rfl (by decide), ?_⟩ | refine ⟨nd3 rfl (by decide), ?_⟩ | refine ⟨rfl, ?_⟩)); (conv => whnf); try dsimp only [Int.reduceToNat])
    refine ⟨fun S => ∃ g : Int, 0 ≤ g ∧ S = [some (.p (.list (ns.map .int))), some (.p (.int j)), some (.p (.int z)), some (.p (.int g))], ?_, ?_⟩
    · ((repeat ((conv => whnf); first | refine ⟨_, rfl, ?_⟩ | refine ⟨Nat.le_of_ble_eq_true rfl, ?_⟩ | refine ⟨fun h => Bool.noConfusion h, fun _ => ?_⟩ | refine ⟨fun _ => ?_, fun h => Bool.noConfusion h⟩ | refine ⟨fun h => absurd h (by decide), fun _ => ?_⟩ | refine ⟨fun _ => ?_, fun h => absurd h (by decide)⟩ | refine ⟨trivial, ?_⟩ | refine ⟨nd0 rfl, ?_⟩ | refine ⟨nd1 rfl, ?_⟩ | refine ⟨nd2 rfl (by decide), ?_⟩ | refine ⟨nd3 rfl (by decide), ?_⟩ | refine ⟨rfl, ?_⟩)); (conv => whnf); try dsimp only [Int.reduceToNat])
      refine ⟨powS (by decide) (by decide), ?_⟩
      ((repeat ((conv => whnf); first | refine ⟨_, rfl, ?_⟩ | refine ⟨Nat.le_of_ble_eq_true rfl, ?_⟩ | refine ⟨fun h => Bool.noConfusion h, fun _ => ?_⟩ | refine ⟨fun _ => ?_, fun h => Bool.noConfusion h⟩ | refine ⟨fun h => absurd h (by decide), fun _ => ?_⟩ | refine ⟨fun _ => ?_, fun h => absurd h (by decide)⟩ | refine ⟨trivial, ?_⟩ | refine ⟨nd0 rfl, ?_⟩ | refine ⟨nd1 rfl, ?_⟩ | refine ⟨nd2 rfl (by decide), ?_⟩ | refine ⟨nd3 rfl (by decide), ?_⟩ | refine ⟨rfl, ?_⟩)); (conv => whnf); try dsimp only [Int.reduceToNat])
      refine ⟨fun h => ?_, fun h => ?_⟩
      · ((repeat ((conv => whnf); first | refine ⟨_, rfl, ?_⟩ | refine ⟨Nat.le_of_ble_eq_true rfl, ?_⟩ | refine ⟨fun h => Bool.noConfusion h, fun _ => ?_⟩ | refine ⟨fun _ => ?_, fun h => Bool.noConfusion h⟩ | refine ⟨fun h => absurd h (by decide), fun _ => ?_⟩ | refine ⟨fun _ => ?_, fun h => absurd h (by decide)⟩ | refine ⟨trivial, ?_⟩ | refine ⟨nd0 rfl, ?_⟩ | refine ⟨nd1 rfl, ?_⟩ | refine ⟨nd2 rfl (by decide), ?_⟩ | refine ⟨nd3 rfl (by decide), ?_⟩ | refine ⟨rfl, ?_⟩)); (conv => whnf); try dsimp only [Int.reduceToNat])
        exact ⟨_, Int.le_refl _, rfl⟩
      · exact ⟨_, by split <;> omega, rfl⟩
    · rintro S ⟨g, hg, rfl⟩
      ((repeat ((conv => whnf); first | refine ⟨_, rfl, ?_⟩ | refine ⟨Nat.le_of_ble_eq_true rfl, ?_⟩ | refine ⟨fun h => Bool.noConfusion h, fun _ => ?_⟩ | refine ⟨fun _ => ?_, fun h => Bool.noConfusion h⟩ | refine ⟨fun h => absurd h (by decide), fun _ => ?_⟩ | refine ⟨fun _ => ?_, fun h => absurd h (by decide)⟩ | refine ⟨trivial, ?_⟩ | refine ⟨nd0 rfl, ?_⟩ | refine ⟨nd1 rfl, ?_⟩ | refine ⟨nd2 rfl (by decide), ?_⟩ | refine ⟨nd3 rfl (by decide), ?_⟩ | refine ⟨rfl, ?_⟩)); (conv => whnf); try dsimp only [Int.reduceToNat])
      refine ⟨hq.1, ?_⟩
      have h1 := Int.emod_nonneg z (show q ≠ 0 by omega)
      have h2 := Int.emod_lt_of_pos z hq.1
      ((repeat ((conv => whnf); first | refine ⟨_, rfl, ?_⟩ | refine ⟨Nat.le_of_ble_eq_true rfl, ?_⟩ | refine ⟨fun h => Bool.noConfusion h, fun _ => ?_⟩ | refine ⟨fun _ => ?_, fun h => Bool.noConfusion h⟩ | refine ⟨fun h => absurd h (by decide), fun _ => ?_⟩ | refine ⟨fun _ => ?_, fun h => absurd h (by decide)⟩ | refine ⟨trivial, ?_⟩ | refine ⟨nd0 rfl, ?_⟩ | refine ⟨nd1 rfl, ?_⟩ | refine ⟨nd2 rfl (by decide), ?_⟩ | refine ⟨nd3 rfl (by decide), ?_⟩ | refine ⟨rfl, ?_⟩)); (conv => whnf); try dsimp only [Int.reduceToNat])
      refine ⟨mulS 41 41 (by omega) (by omega), ?_⟩
      ((repeat ((conv => whnf); first | refine ⟨_, rfl, ?_⟩ | refine ⟨Nat.le_of_ble_eq_true rfl, ?_⟩ | refine ⟨fun h => Bool.noConfusion h, fun _ => ?_⟩ | refine ⟨fun _ => ?_, fun h => Bool.noConfusion h⟩ | refine ⟨fun h => absurd h (by decide), fun _ => ?_⟩ | refine ⟨fun _ => ?_, fun h => absurd h (by decide)⟩ | refine ⟨trivial, ?_⟩ | refine ⟨nd0 rfl, ?_⟩ | refine ⟨nd1 rfl, ?_⟩ | refine ⟨nd2 rfl (by decide), ?_⟩ | refine ⟨nd3 rfl (by decide), ?_⟩ | refine ⟨rfl, ?_⟩)); (conv => whnf); try dsimp only [Int.reduceToNat])
      refine ⟨mulS 41 41 (by omega) (by omega), ?_⟩
      ((repeat ((conv => whnf); first | refine ⟨_, rfl, ?_⟩ | refine ⟨Nat.le_of_ble_eq_true rfl, ?_⟩ | refine ⟨fun h => Bool.noConfusion h, fun _ => ?_⟩ | refine ⟨fun _ => ?_, fun h => Bool.noConfusion h⟩ | refine ⟨fun h => absurd h (by decide), fun _ => ?_⟩ | refine ⟨fun _ => ?_, fun h => absurd h (by decide)⟩ | refine ⟨trivial, ?_⟩ | refine ⟨nd0 rfl, ?_⟩ | refine ⟨nd1 rfl, ?_⟩ | refine ⟨nd2 rfl (by decide), ?_⟩ | refine ⟨nd3 rfl (by decide), ?_⟩ | refine ⟨rfl, ?_⟩)); (conv => whnf); try dsimp only [Int.reduceToNat])
      refine ⟨hq.1, ?_⟩
      ((repeat ((conv => whnf); first | refine ⟨_, rfl, ?_⟩ | refine ⟨Nat.le_of_ble_eq_true rfl, ?_⟩ | refine ⟨fun h => Bool.noConfusion h, fun _ => ?_⟩ | refine ⟨fun _ => ?_, fun h => Bool.noConfusion h⟩ | refine ⟨fun h => absurd h (by decide), fun _ => ?_⟩ | refine ⟨fun _ => ?_, fun h => absurd h (by decide)⟩ | refine ⟨trivial, ?_⟩ | refine ⟨nd0 rfl, ?_⟩ | refine ⟨nd1 rfl, ?_⟩ | refine ⟨nd2 rfl (by decide), ?_⟩ | refine ⟨nd3 rfl (by decide), ?_⟩ | refine ⟨rfl, ?_⟩)); (conv => whnf); try dsimp only [Int.reduceToNat])
      exact k _ _ hg (Int.emod_nonneg _ (by omega)) (by have := Int.emod_lt_of_pos (z % q * f + c * j + d) hq.1; omega)
end PL
/-! draws: a pen that is a dict -/
namespace PL
open PySem L2
abbrev penD (g a : Int) (ns : List Int) : T := .od [(.inr "script", .list (ns.map .int)), (.inr "at", .int a), (.inr "left", .int g)]
def wDraw : PTS := sSeq (sIf (qV (pB cGt (pB bIx (pV 0) (pC (.str "left"))) (pC (.int 0))))
  (sSeq (sSet 6 (pB bMod (pB bIx (pV 0) (pC (.str "left"))) (pD 1)))
  (sSeq (sSetIx (pV 0) (pC (.str "left")) (pB bDiv (pB bIx (pV 0) (pC (.str "left"))) (pD 1)))
  (sRet (pD 6))))
  (sNx))
  (sSeq (sSet 2 (pB bIx (pV 0) (pC (.str "script"))))
  (sSeq (sSet 3 (pB bIx (pV 0) (pC (.str "at"))))
  (sSeq (sSetIx (pV 0) (pC (.str "at")) (pB bAdd (pD 3) (pC (.int 1))))
  (sSeq (sSet 4 (pB bAdd (pB bMul (pC (.int 40009)) (pD 3)) (pC (.int 17))))
  (sCut (sIf (qV (pB cNe (pD 2) (pLst (aN))))
  (sSet 4 (pB bIx (pD 2) (pB bMod (pD 3) (pU uLen (pD 2)))))
  (sNx))
  (sSeq (sIfC (qAnd (qV (pB cLt (pD 3) (pU uLen (pD 2)))) (qV (pB cGe (pU uAbs (pD 4)) (pB bPow (pC (.int 10)) (pC (.int 18))))))
  (sSeq (sSetIx (pV 0) (pC (.str "left")) (pB bDiv (pU uAbs (pD 4)) (pD 1)))
  (sRet (pB bMod (pU uAbs (pD 4)) (pD 1))))
  (sNx))
  (sSeq (sSet 5 (pB bMod (pB bMul (pB bAdd (pB bAdd (pB bMod (pD 4) (pC (.int 2147483629))) (pB bMul (pC (.int 104729)) (pD 3))) (pC (.int 3))) (pC (.int 48271))) (pC (.int 2147483647))))
  (sSeq (sSet 5 (pB bMod (pB bAdd (pB bAdd (pB bMul (pD 5) (pD 5)) (pB bMul (pC (.int 69621)) (pD 5))) (pD 3)) (pC (.int 2147483587))))
  (sRet (pB bMod (pB bDiv (pD 5) (pC (.int 8))) (pD 1)))))))))))
def spDraw : FSp := fun ts K => ∃ (g a m : Int) (ns : List Int), ts = [penD g a ns, .p (.int m)] ∧ 0 ≤ g ∧ 0 ≤ a ∧ a ≤ 2 ^ 40 ∧ 0 < m ∧ m ≤ 2 ^ 1000 ∧
  ∀ r g' a', 0 ≤ r → r < m → 0 ≤ g' → a ≤ a' → a' ≤ a + 1 → K (.p (.int r)) [some (penD g' a' ns), some (.p (.int m))]
theorem vDraw (ts : List T) (K : T → List (Option T) → Prop) (h : spDraw ts K) : ts.length = 2 ∧ wDraw (endsOf [true, true] ts K) (PL.start 7 ts) := by
  obtain ⟨g, a, m, ns, rfl, hg, ha, ha', hm, hm', k⟩ := h
  refine ⟨rfl, ?_⟩
  have hl : (ns.map PyData.int).length = ns.length := List.length_map ..
  ((repeat ((conv => whnf); first | refine ⟨_, rfl, ?_⟩ | refine ⟨Nat.le_of_ble_eq_true rfl, ?_⟩ | refine ⟨fun h => Bool.noConfusion h, fun _ => ?_⟩ | refine ⟨fun _ => ?_, fun h => Bool.noConfusion h⟩ | refine ⟨fun h => absurd h (by decide), fun _ => ?_⟩ | refine ⟨fun _ => ?_, fun h => absurd h (by decide)⟩ | refine ⟨trivial, ?_⟩ | refine ⟨nd0 rfl, ?_⟩ | refine ⟨nd1 rfl, ?_⟩ | refine ⟨nd2 rfl (by decide), ?_⟩ | refine ⟨nd3 rfl (by decide), ?_⟩ | refine ⟨rfl, ?_⟩)); (conv => whnf); try dsimp only [Int.reduceToNat])
  refine ⟨fun h => ?_, fun h => ?_⟩
  · ((repeat ((conv => whnf); first | refine ⟨_, rfl, ?_⟩ | refine ⟨Nat.le_of_ble_eq_true rfl, ?_⟩ | refine ⟨fun h => Bool.noConfusion h, fun _ => ?_⟩ | refine ⟨fun _ => ?_, fun h => Bool.noConfusion h⟩ | refine ⟨fun h => absurd h (by decide), fun _ => ?_⟩ | refine ⟨fun _ => ?_, fun h => absurd h (by decide)⟩ | refine ⟨trivial, ?_⟩ | refine ⟨nd0 rfl, ?_⟩ | refine ⟨nd1 rfl, ?_⟩ | refine ⟨nd2 rfl (by decide), ?_⟩ | refine ⟨nd3 rfl (by decide), ?_⟩ | refine ⟨rfl, ?_⟩)); (conv => whnf); try dsimp only [Int.reduceToNat])
    refine ⟨hm, ?_⟩
    ((repeat ((conv => whnf); first | refine ⟨_, rfl, ?_⟩ | refine ⟨Nat.le_of_ble_eq_true rfl, ?_⟩ | refine ⟨fun h => Bool.noConfusion h, fun _ => ?_⟩ | refine ⟨fun _ => ?_, fun h => Bool.noConfusion h⟩ | refine ⟨fun h => absurd h (by decide), fun _ => ?_⟩ | refine ⟨fun _ => ?_, fun h => absurd h (by decide)⟩ | refine ⟨trivial, ?_⟩ | refine ⟨nd0 rfl, ?_⟩ | refine ⟨nd1 rfl, ?_⟩ | refine ⟨nd2 rfl (by decide), ?_⟩ | refine ⟨nd3 rfl (by decide), ?_⟩ | refine ⟨rfl, ?_⟩)); (conv => whnf); try dsimp only [Int.reduceToNat])
    refine ⟨divS 1001 hm (by omega), ?_⟩
    ((repeat ((conv => whnf); first | refine ⟨_, rfl, ?_⟩ | refine ⟨Nat.le_of_ble_eq_true rfl, ?_⟩ | refine ⟨fun h => Bool.noConfusion h, fun _ => ?_⟩ | refine ⟨fun _ => ?_, fun h => Bool.noConfusion h⟩ | refine ⟨fun h => absurd h (by decide), fun _ => ?_⟩ | refine ⟨fun _ => ?_, fun h => absurd h (by decide)⟩ | refine ⟨trivial, ?_⟩ | refine ⟨nd0 rfl, ?_⟩ | refine ⟨nd1 rfl, ?_⟩ | refine ⟨nd2 rfl (by decide), ?_⟩ | refine ⟨nd3 rfl (by decide), ?_⟩ | refine ⟨rfl, ?_⟩)); (conv => whnf); try dsimp only [Int.reduceToNat])
    exact k _ _ _ (Int.emod_nonneg _ (by omega)) (Int.emod_lt_of_pos _ hm) (Int.ediv_nonneg hg (by omega)) (by omega) (by omega)
  · ((repeat ((conv => whnf); first | refine ⟨_, rfl, ?_⟩ | refine ⟨Nat.le_of_ble_eq_true rfl, ?_⟩ | refine ⟨fun h => Bool.noConfusion h, fun _ => ?_⟩ | refine ⟨fun _ => ?_, fun h => Bool.noConfusion h⟩ | refine ⟨fun h => absurd h (by decide), fun _ => ?_⟩ | refine ⟨fun _ => ?_, fun h => absurd h (by decide)⟩ | refine ⟨trivial, ?_⟩ | refine ⟨nd0 rfl, ?_⟩ | refine ⟨nd1 rfl, ?_⟩ | refine ⟨nd2 rfl (by decide), ?_⟩ | refine ⟨nd3 rfl (by decide), ?_⟩ | refine ⟨rfl, ?_⟩)); (conv => whnf); try dsimp only [Int.reduceToNat])
    refine ⟨mulS 17 42 (by decide) (by omega), ?_⟩
    ((repeat ((conv => whnf); first | refine ⟨_, rfl, ?_⟩ | refine ⟨Nat.le_of_ble_eq_true rfl, ?_⟩ | refine ⟨fun h => Bool.noConfusion h, fun _ => ?_⟩ | refine ⟨fun _ => ?_, fun h => Bool.noConfusion h⟩ | refine ⟨fun h => absurd h (by decide), fun _ => ?_⟩ | refine ⟨fun _ => ?_, fun h => absurd h (by decide)⟩ | refine ⟨trivial, ?_⟩ | refine ⟨nd0 rfl, ?_⟩ | refine ⟨nd1 rfl, ?_⟩ | refine ⟨nd2 rfl (by decide), ?_⟩ | refine ⟨nd3 rfl (by decide), ?_⟩ | refine ⟨rfl, ?_⟩)); (conv => whnf); try dsimp only [Int.reduceToNat])
    refine ⟨fun S => ∃ z : Int, S = [some (penD g (a + 1) ns), some (.p (.int m)), some (.p (.list (ns.map .int))), some (.p (.int a)), some (.p (.int z)), none, none], ?_, ?_⟩
    · ((repeat ((conv => whnf); first | refine ⟨_, rfl, ?_⟩ | refine ⟨Nat.le_of_ble_eq_true rfl, ?_⟩ | refine ⟨fun h => Bool.noConfusion h, fun _ => ?_⟩ | refine ⟨fun _ => ?_, fun h => Bool.noConfusion h⟩ | refine ⟨fun h => absurd h (by decide), fun _ => ?_⟩ | refine ⟨fun _ => ?_, fun h => absurd h (by decide)⟩ | refine ⟨trivial, ?_⟩ | refine ⟨nd0 rfl, ?_⟩ | refine ⟨nd1 rfl, ?_⟩ | refine ⟨nd2 rfl (by decide), ?_⟩ | refine ⟨nd3 rfl (by decide), ?_⟩ | refine ⟨rfl, ?_⟩)); (conv => whnf); try dsimp only [Int.reduceToNat])
      refine ⟨shaped_ints ns, ?_⟩
      ((repeat ((conv => whnf); first | refine ⟨_, rfl, ?_⟩ | refine ⟨Nat.le_of_ble_eq_true rfl, ?_⟩ | refine ⟨fun h => Bool.noConfusion h, fun _ => ?_⟩ | refine ⟨fun _ => ?_, fun h => Bool.noConfusion h⟩ | refine ⟨fun h => absurd h (by decide), fun _ => ?_⟩ | refine ⟨fun _ => ?_, fun h => absurd h (by decide)⟩ | refine ⟨trivial, ?_⟩ | refine ⟨nd0 rfl, ?_⟩ | refine ⟨nd1 rfl, ?_⟩ | refine ⟨nd2 rfl (by decide), ?_⟩ | refine ⟨nd3 rfl (by decide), ?_⟩ | refine ⟨rfl, ?_⟩)); (conv => whnf); try dsimp only [Int.reduceToNat])
      rw [show PyData.eqv (.list (ns.map .int)) (.list []) = decide (ns = []) from eqv_ints (l' := [])]
      refine ⟨fun h => ?_, fun h => ?_⟩
      · have h : ns ≠ [] := neT h
        have hp : 0 < ns.length := List.length_pos_iff.mpr h
        ((repeat ((conv => whnf); first | refine ⟨_, rfl, ?_⟩ | refine ⟨Nat.le_of_ble_eq_true rfl, ?_⟩ | refine ⟨fun h => Bool.noConfusion h, fun _ => ?_⟩ | refine ⟨fun _ => ?_, fun h => Bool.noConfusion h⟩ | refine ⟨fun h => absurd h (by decide), fun _ => ?_⟩ | refine ⟨fun _ => ?_, fun h => absurd h (by decide)⟩ | refine ⟨trivial, ?_⟩ | refine ⟨nd0 rfl, ?_⟩ | refine ⟨nd1 rfl, ?_⟩ | refine ⟨nd2 rfl (by decide), ?_⟩ | refine ⟨nd3 rfl (by decide), ?_⟩ | refine ⟨rfl, ?_⟩)); (conv => whnf); try dsimp only [Int.reduceToNat])
        refine ⟨by rw [hl]; omega, ?_⟩
        obtain ⟨cl, _, _, hc⟩ := ints_at (ns := ns) (i := a % ((ns.map PyData.int).length : Int)) (Int.emod_nonneg _ (by omega)) (by rw [hl]; exact Int.emod_lt_of_pos _ (by omega))
        (conv => whnf)
        refine ⟨_, hc, ?_⟩
        ((repeat ((conv => whnf); first | refine ⟨_, rfl, ?_⟩ | refine ⟨Nat.le_of_ble_eq_true rfl, ?_⟩ | refine ⟨fun h => Bool.noConfusion h, fun _ => ?_⟩ | refine ⟨fun _ => ?_, fun h => Bool.noConfusion h⟩ | refine ⟨fun h => absurd h (by decide), fun _ => ?_⟩ | refine ⟨fun _ => ?_, fun h => absurd h (by decide)⟩ | refine ⟨trivial, ?_⟩ | refine ⟨nd0 rfl, ?_⟩ | refine ⟨nd1 rfl, ?_⟩ | refine ⟨nd2 rfl (by decide), ?_⟩ | refine ⟨nd3 rfl (by decide), ?_⟩ | refine ⟨rfl, ?_⟩)); (conv => whnf); try dsimp only [Int.reduceToNat])
        exact ⟨_, rfl⟩
      · ((repeat ((conv => whnf); first | refine ⟨_, rfl, ?_⟩ | refine ⟨Nat.le_of_ble_eq_true rfl, ?_⟩ | refine ⟨fun h => Bool.noConfusion h, fun _ => ?_⟩ | refine ⟨fun _ => ?_, fun h => Bool.noConfusion h⟩ | refine ⟨fun h => absurd h (by decide), fun _ => ?_⟩ | refine ⟨fun _ => ?_, fun h => absurd h (by decide)⟩ | refine ⟨trivial, ?_⟩ | refine ⟨nd0 rfl, ?_⟩ | refine ⟨nd1 rfl, ?_⟩ | refine ⟨nd2 rfl (by decide), ?_⟩ | refine ⟨nd3 rfl (by decide), ?_⟩ | refine ⟨rfl, ?_⟩)); (conv => whnf); try dsimp only [Int.reduceToNat])
        exact ⟨_, rfl⟩
    · rintro S ⟨z, rfl⟩
      ((repeat ((conv => whnf); first | refine ⟨_, rfl, ?_⟩ | refine ⟨Nat.le_of_ble_eq_true rfl, ?_⟩ | refine ⟨fun h => Bool.noConfusion h, fun _ => ?_⟩ | refine ⟨fun _ => ?_, fun h => Bool.noConfusion h⟩ | refine ⟨fun h => absurd h (by decide), fun _ => ?_⟩ | refine ⟨fun _ => ?_, fun h => absurd h (by decide)⟩ | refine ⟨trivial, ?_⟩ | refine ⟨nd0 rfl, ?_⟩ | refine ⟨nd1 rfl, ?_⟩ | refine ⟨nd2 rfl (by decide), ?_⟩ | refine ⟨nd3 rfl (by decide), ?_⟩ | refine ⟨rfl, ?_⟩)); (conv => whnf); try dsimp only [Int.reduceToNat])
      refine ifC True True ?_ (fun _ => ?_) (fun _ => ?_)
      · ((repeat ((conv => whnf); first | refine ⟨_, rfl, ?_⟩ | refine ⟨Nat.le_of_ble_eq_true rfl, ?_⟩ | refine ⟨fun h => Bool.noConfusion h, fun _ => ?_⟩ | refine ⟨fun _ => ?_, fun h => Bool.noConfusion h⟩ | refine ⟨fun h => absurd h (by decide), fun _ => ?_⟩ | refine ⟨fun _ => ?_, fun h => absurd h (by decide)⟩ | refine ⟨trivial, ?_⟩ | refine ⟨nd0 rfl, ?_⟩ | refine ⟨nd1 rfl, ?_⟩ | refine ⟨nd2 rfl (by decide), ?_⟩ | refine ⟨nd3 rfl (by decide), ?_⟩ | refine ⟨rfl, ?_⟩)); (conv => whnf); try dsimp only [Int.reduceToNat])
        refine ⟨fun h => ?_, fun h => ?_⟩
        · ((repeat ((conv => whnf); first | refine ⟨_, rfl, ?_⟩ | refine ⟨Nat.le_of_ble_eq_true rfl, ?_⟩ | refine ⟨fun h => Bool.noConfusion h, fun _ => ?_⟩ | refine ⟨fun _ => ?_, fun h => Bool.noConfusion h⟩ | refine ⟨fun h => absurd h (by decide), fun _ => ?_⟩ | refine ⟨fun _ => ?_, fun h => absurd h (by decide)⟩ | refine ⟨trivial, ?_⟩ | refine ⟨nd0 rfl, ?_⟩ | refine ⟨nd1 rfl, ?_⟩ | refine ⟨nd2 rfl (by decide), ?_⟩ | refine ⟨nd3 rfl (by decide), ?_⟩ | refine ⟨rfl, ?_⟩)); (conv => whnf); try dsimp only [Int.reduceToNat])
          refine ⟨powS (by decide) (by decide), ?_⟩
          ((repeat ((conv => whnf); first | refine ⟨_, rfl, ?_⟩ | refine ⟨Nat.le_of_ble_eq_true rfl, ?_⟩ | refine ⟨fun h => Bool.noConfusion h, fun _ => ?_⟩ | refine ⟨fun _ => ?_, fun h => Bool.noConfusion h⟩ | refine ⟨fun h => absurd h (by decide), fun _ => ?_⟩ | refine ⟨fun _ => ?_, fun h => absurd h (by decide)⟩ | refine ⟨trivial, ?_⟩ | refine ⟨nd0 rfl, ?_⟩ | refine ⟨nd1 rfl, ?_⟩ | refine ⟨nd2 rfl (by decide), ?_⟩ | refine ⟨nd3 rfl (by decide), ?_⟩ | refine ⟨rfl, ?_⟩)); (conv => whnf); try dsimp only [Int.reduceToNat])
          refine ⟨fun h => ?_, fun h => ?_⟩
          · exact ⟨rfl, trivial⟩
          · exact ⟨rfl, trivial⟩
        · ((repeat ((conv => whnf); first | refine ⟨_, rfl, ?_⟩ | refine ⟨Nat.le_of_ble_eq_true rfl, ?_⟩ | refine ⟨fun h => Bool.noConfusion h, fun _ => ?_⟩ | refine ⟨fun _ => ?_, fun h => Bool.noConfusion h⟩ | refine ⟨fun h => absurd h (by decide), fun _ => ?_⟩ | refine ⟨fun _ => ?_, fun h => absurd h (by decide)⟩ | refine ⟨trivial, ?_⟩ | refine ⟨nd0 rfl, ?_⟩ | refine ⟨nd1 rfl, ?_⟩ | refine ⟨nd2 rfl (by decide), ?_⟩ | refine ⟨nd3 rfl (by decide), ?_⟩ | refine ⟨rfl, ?_⟩)); (conv => whnf); try dsimp only [Int.reduceToNat])
      · ((repeat ((conv => whnf); first | refine ⟨_, rfl, ?_⟩ | refine ⟨Nat.le_of_ble_eq_true rfl, ?_⟩ | refine ⟨fun h => Bool.noConfusion h, fun _ => ?_⟩ | refine ⟨fun _ => ?_, fun h => Bool.noConfusion h⟩ | refine ⟨fun h => absurd h (by decide), fun _ => ?_⟩ | refine ⟨fun _ => ?_, fun h => absurd h (by decide)⟩ | refine ⟨trivial, ?_⟩ | refine ⟨nd0 rfl, ?_⟩ | refine ⟨nd1 rfl, ?_⟩ | refine ⟨nd2 rfl (by decide), ?_⟩ | refine ⟨nd3 rfl (by decide), ?_⟩ | refine ⟨rfl, ?_⟩)); (conv => whnf); try dsimp only [Int.reduceToNat])
        refine ⟨divS 1001 hm (by omega), ?_⟩
        ((repeat ((conv => whnf); first | refine ⟨_, rfl, ?_⟩ | refine ⟨Nat.le_of_ble_eq_true rfl, ?_⟩ | refine ⟨fun h => Bool.noConfusion h, fun _ => ?_⟩ | refine ⟨fun _ => ?_, fun h => Bool.noConfusion h⟩ | refine ⟨fun h => absurd h (by decide), fun _ => ?_⟩ | refine ⟨fun _ => ?_, fun h => absurd h (by decide)⟩ | refine ⟨trivial, ?_⟩ | refine ⟨nd0 rfl, ?_⟩ | refine ⟨nd1 rfl, ?_⟩ | refine ⟨nd2 rfl (by decide), ?_⟩ | refine ⟨nd3 rfl (by decide), ?_⟩ | refine ⟨rfl, ?_⟩)); (conv => whnf); try dsimp only [Int.reduceToNat])
        refine ⟨hm, ?_⟩
        ((repeat ((conv => whnf); first | refine ⟨_, rfl, ?_⟩ | refine ⟨Nat.le_of_ble_eq_true rfl, ?_⟩ | refine ⟨fun h => Bool.noConfusion h, fun _ => ?_⟩ | refine ⟨fun _ => ?_, fun h => Bool.noConfusion h⟩ | refine ⟨fun h => absurd h (by decide), fun _ => ?_⟩ | refine ⟨fun _ => ?_, fun h => absurd h (by decide)⟩ | refine ⟨trivial, ?_⟩ | refine ⟨nd0 rfl, ?_⟩ | refine ⟨nd1 rfl, ?_⟩ | refine ⟨nd2 rfl (by decide), ?_⟩ | refine ⟨nd3 rfl (by decide), ?_⟩ | refine ⟨rfl, ?_⟩)); (conv => whnf); try dsimp only [Int.reduceToNat])
        exact k _ _ _ (Int.emod_nonneg _ (by omega)) (Int.emod_lt_of_pos _ hm) (Int.ediv_nonneg (by split <;> omega) (by omega)) (by omega) (by omega)
      · ((repeat ((conv => whnf); first | refine ⟨_, rfl, ?_⟩ | refine ⟨Nat.le_of_ble_eq_true rfl, ?_⟩ | refine ⟨fun h => Bool.noConfusion h, fun _ => ?_⟩ | refine ⟨fun _ => ?_, fun h => Bool.noConfusion h⟩ | refine ⟨fun h => absurd h (by decide), fun _ => ?_⟩ | refine ⟨fun _ => ?_, fun h => absurd h (by decide)⟩ | refine ⟨trivial, ?_⟩ | refine ⟨nd0 rfl, ?_⟩ | refine ⟨nd1 rfl, ?_⟩ | refine ⟨nd2 rfl (by decide), ?_⟩ | refine ⟨nd3 rfl (by decide), ?_⟩ | refine ⟨rfl, ?_⟩)); (conv => whnf); try dsimp only [Int.reduceToNat])
        refine ⟨by decide, ?_⟩
        ((repeat ((conv => whnf); first | refine ⟨_, rfl, ?_⟩ | refine ⟨Nat.le_of_ble_eq_true rfl, ?_⟩ | refine ⟨fun h => Bool.noConfusion h, fun _ => ?_⟩ | refine ⟨fun _ => ?_, fun h => Bool.noConfusion h⟩ | refine ⟨fun h => absurd h (by decide), fun _ => ?_⟩ | refine ⟨fun _ => ?_, fun h => absurd h (by decide)⟩ | refine ⟨trivial, ?_⟩ | refine ⟨nd0 rfl, ?_⟩ | refine ⟨nd1 rfl, ?_⟩ | refine ⟨nd2 rfl (by decide), ?_⟩ | refine ⟨nd3 rfl (by decide), ?_⟩ | refine ⟨rfl, ?_⟩)); (conv => whnf); try dsimp only [Int.reduceToNat])
        have h1 := Int.emod_nonneg z (show (2147483629 : Int) ≠ 0 by decide)
        have h2 := Int.emod_lt_of_pos z (show (0 : Int) < 2147483629 by decide)
        refine ⟨mulS 20 42 (by decide) (by omega), ?_⟩
        ((repeat ((conv => whnf); first | refine ⟨_, rfl, ?_⟩ | refine ⟨Nat.le_of_ble_eq_true rfl, ?_⟩ | refine ⟨fun h => Bool.noConfusion h, fun _ => ?_⟩ | refine ⟨fun _ => ?_, fun h => Bool.noConfusion h⟩ | refine ⟨fun h => absurd h (by decide), fun _ => ?_⟩ | refine ⟨fun _ => ?_, fun h => absurd h (by decide)⟩ | refine ⟨trivial, ?_⟩ | refine ⟨nd0 rfl, ?_⟩ | refine ⟨nd1 rfl, ?_⟩ | refine ⟨nd2 rfl (by decide), ?_⟩ | refine ⟨nd3 rfl (by decide), ?_⟩ | refine ⟨rfl, ?_⟩)); (conv => whnf); try dsimp only [Int.reduceToNat])
        refine ⟨mulS 70 20 (by omega) (by decide), ?_⟩
        ((repeat ((conv => whnf); first | refine ⟨_, rfl, ?_⟩ | refine ⟨Nat.le_of_ble_eq_true rfl, ?_⟩ | refine ⟨fun h => Bool.noConfusion h, fun _ => ?_⟩ | refine ⟨fun _ => ?_, fun h => Bool.noConfusion h⟩ | refine ⟨fun h => absurd h (by decide), fun _ => ?_⟩ | refine ⟨fun _ => ?_, fun h => absurd h (by decide)⟩ | refine ⟨trivial, ?_⟩ | refine ⟨nd0 rfl, ?_⟩ | refine ⟨nd1 rfl, ?_⟩ | refine ⟨nd2 rfl (by decide), ?_⟩ | refine ⟨nd3 rfl (by decide), ?_⟩ | refine ⟨rfl, ?_⟩)); (conv => whnf); try dsimp only [Int.reduceToNat])
        refine ⟨by decide, ?_⟩
        ((repeat ((conv => whnf); first | refine ⟨_, rfl, ?_⟩ | refine ⟨Nat.le_of_ble_eq_true rfl, ?_⟩ | refine ⟨fun h => Bool.noConfusion h, fun _ => ?_⟩ | refine ⟨fun _ => ?_, fun h => Bool.noConfusion h⟩ | refine ⟨fun h => absurd h (by decide), fun _ => ?_⟩ | refine ⟨fun _ => ?_, fun h => absurd h (by decide)⟩ | refine ⟨trivial, ?_⟩ | refine ⟨nd0 rfl, ?_⟩ | refine ⟨nd1 rfl, ?_⟩ | refine ⟨nd2 rfl (by decide), ?_⟩ | refine ⟨nd3 rfl (by decide), ?_⟩ | refine ⟨rfl, ?_⟩)); (conv => whnf); try dsimp only [Int.reduceToNat])
        generalize ht : (z % 2147483629 + 104729 * a + 3) * 48271 % 2147483647 = t
        have lt : LB 31 t := by
          have h1 := Int.emod_nonneg ((z % 2147483629 + 104729 * a + 3) * 48271) (show (2147483647 : Int) ≠ 0 by decide)
          have h2 := Int.emod_lt_of_pos ((z % 2147483629 + 104729 * a + 3) * 48271) (show (0 : Int) < 2147483647 by decide)
          rw [ht] at h1 h2
          exact LB.of (by omega)
        ((repeat ((conv => whnf); first | refine ⟨_, rfl, ?_⟩ | refine ⟨Nat.le_of_ble_eq_true rfl, ?_⟩ | refine ⟨fun h => Bool.noConfusion h, fun _ => ?_⟩ | refine ⟨fun _ => ?_, fun h => Bool.noConfusion h⟩ | refine ⟨fun h => absurd h (by decide), fun _ => ?_⟩ | refine ⟨fun _ => ?_, fun h => absurd h (by decide)⟩ | refine ⟨trivial, ?_⟩ | refine ⟨nd0 rfl, ?_⟩ | refine ⟨nd1 rfl, ?_⟩ | refine ⟨nd2 rfl (by decide), ?_⟩ | refine ⟨nd3 rfl (by decide), ?_⟩ | refine ⟨rfl, ?_⟩)); (conv => whnf); try dsimp only [Int.reduceToNat])
        refine ⟨lt.mulOk lt, ?_⟩
        ((repeat ((conv => whnf); first | refine ⟨_, rfl, ?_⟩ | refine ⟨Nat.le_of_ble_eq_true rfl, ?_⟩ | refine ⟨fun h => Bool.noConfusion h, fun _ => ?_⟩ | refine ⟨fun _ => ?_, fun h => Bool.noConfusion h⟩ | refine ⟨fun h => absurd h (by decide), fun _ => ?_⟩ | refine ⟨fun _ => ?_, fun h => absurd h (by decide)⟩ | refine ⟨trivial, ?_⟩ | refine ⟨nd0 rfl, ?_⟩ | refine ⟨nd1 rfl, ?_⟩ | refine ⟨nd2 rfl (by decide), ?_⟩ | refine ⟨nd3 rfl (by decide), ?_⟩ | refine ⟨rfl, ?_⟩)); (conv => whnf); try dsimp only [Int.reduceToNat])
        refine ⟨LB.mulOk (a := 20) (LB.of (by decide)) lt, ?_⟩
        ((repeat ((conv => whnf); first | refine ⟨_, rfl, ?_⟩ | refine ⟨Nat.le_of_ble_eq_true rfl, ?_⟩ | refine ⟨fun h => Bool.noConfusion h, fun _ => ?_⟩ | refine ⟨fun _ => ?_, fun h => Bool.noConfusion h⟩ | refine ⟨fun h => absurd h (by decide), fun _ => ?_⟩ | refine ⟨fun _ => ?_, fun h => absurd h (by decide)⟩ | refine ⟨trivial, ?_⟩ | refine ⟨nd0 rfl, ?_⟩ | refine ⟨nd1 rfl, ?_⟩ | refine ⟨nd2 rfl (by decide), ?_⟩ | refine ⟨nd3 rfl (by decide), ?_⟩ | refine ⟨rfl, ?_⟩)); (conv => whnf); try dsimp only [Int.reduceToNat])
        refine ⟨by decide, ?_⟩
        ((repeat ((conv => whnf); first | refine ⟨_, rfl, ?_⟩ | refine ⟨Nat.le_of_ble_eq_true rfl, ?_⟩ | refine ⟨fun h => Bool.noConfusion h, fun _ => ?_⟩ | refine ⟨fun _ => ?_, fun h => Bool.noConfusion h⟩ | refine ⟨fun h => absurd h (by decide), fun _ => ?_⟩ | refine ⟨fun _ => ?_, fun h => absurd h (by decide)⟩ | refine ⟨trivial, ?_⟩ | refine ⟨nd0 rfl, ?_⟩ | refine ⟨nd1 rfl, ?_⟩ | refine ⟨nd2 rfl (by decide), ?_⟩ | refine ⟨nd3 rfl (by decide), ?_⟩ | refine ⟨rfl, ?_⟩)); (conv => whnf); try dsimp only [Int.reduceToNat])
        refine ⟨divS 40 (by decide) (by decide), ?_⟩
        ((repeat ((conv => whnf); first | refine ⟨_, rfl, ?_⟩ | refine ⟨Nat.le_of_ble_eq_true rfl, ?_⟩ | refine ⟨fun h => Bool.noConfusion h, fun _ => ?_⟩ | refine ⟨fun _ => ?_, fun h => Bool.noConfusion h⟩ | refine ⟨fun h => absurd h (by decide), fun _ => ?_⟩ | refine ⟨fun _ => ?_, fun h => absurd h (by decide)⟩ | refine ⟨trivial, ?_⟩ | refine ⟨nd0 rfl, ?_⟩ | refine ⟨nd1 rfl, ?_⟩ | refine ⟨nd2 rfl (by decide), ?_⟩ | refine ⟨nd3 rfl (by decide), ?_⟩ | refine ⟨rfl, ?_⟩)); (conv => whnf); try dsimp only [Int.reduceToNat])
        refine ⟨hm, ?_⟩
        ((repeat ((conv => whnf); first | refine ⟨_, rfl, ?_⟩ | refine ⟨Nat.le_of_ble_eq_true rfl, ?_⟩ | refine ⟨fun h => Bool.noConfusion h, fun _ => ?_⟩ | refine ⟨fun _ => ?_, fun h => Bool.noConfusion h⟩ | refine ⟨fun h => absurd h (by decide), fun _ => ?_⟩ | refine ⟨fun _ => ?_, fun h => absurd h (by decide)⟩ | refine ⟨trivial, ?_⟩ | refine ⟨nd0 rfl, ?_⟩ | refine ⟨nd1 rfl, ?_⟩ | refine ⟨nd2 rfl (by decide), ?_⟩ | refine ⟨nd3 rfl (by decide), ?_⟩ | refine ⟨rfl, ?_⟩)); (conv => whnf); try dsimp only [Int.reduceToNat])
        exact k _ _ _ (Int.emod_nonneg _ (by omega)) (Int.emod_lt_of_pos _ hm) hg (by omega) (by omega)
end PL

set_option Elab.async false
set_option linter.all false
set_option maxRecDepth 100000
set_option maxHeartbeats 4000000
set_option autoImplicit false
/-! signs of numbers, values of digits -/
namespace PL
open PySem L2
def dig (x : Int) : Int := if x % 2 = 1 then 2 - x % 4 else 0
theorem dig_cases (x : Int) : (x % 2 = 0 ∧ dig x = 0) ∨ (x % 4 = 1 ∧ dig x = 1) ∨ (x % 4 = 3 ∧ dig x = -1) := by
  unfold dig
  split <;> omega
theorem dig_half {x : Int} (h : x ≠ 0) : ((x - dig x) / 2).natAbs < x.natAbs := by
  rcases dig_cases x with ⟨h1, h2⟩ | ⟨h1, h2⟩ | ⟨h1, h2⟩ <;> rw [h2] <;> omega
def naf (x : Int) : List Int := if h : x = 0 then [] else dig x :: naf ((x - dig x) / 2)
termination_by x.natAbs
decreasing_by exact dig_half h
theorem naf_zero : naf 0 = [] := by rw [naf]; simp
theorem naf_step {x : Int} (h : x ≠ 0) : naf x = dig x :: naf ((x - dig x) / 2) := by rw [naf]; simp [h]
def val : List Int → Int
  | [] => 0
  | d :: ds => d + 2 * val ds
theorem val_naf : ∀ (n : Nat) (x : Int), x.natAbs ≤ n → val (naf x) = x
  | 0, x, h => by
    have : x = 0 := by omega
    subst this; rw [naf_zero]; rfl
  | n + 1, x, h => by
    by_cases h0 : x = 0
    · subst h0; rw [naf_zero]; rfl
    · rw [naf_step h0]
      have := dig_half h0
      unfold val
      rw [val_naf n _ (by omega)]
      rcases dig_cases x with ⟨h1, h2⟩ | ⟨h1, h2⟩ | ⟨h1, h2⟩ <;> rw [h2] <;> omega
theorem naf_val (x : Int) : val (naf x) = x := val_naf _ x (Nat.le_refl _)
/-- digits -/
def Dig (l : List Int) : Prop := ∀ d ∈ l, d = 0 ∨ d = 1 ∨ d = -1
theorem naf_dig' : ∀ (n : Nat) (x : Int), x.natAbs ≤ n → Dig (naf x)
  | 0, x, h => by
    have : x = 0 := by omega
    subst this; rw [naf_zero]
    exact fun d hd => by cases hd
  | n + 1, x, h => by
    by_cases h0 : x = 0
    · subst h0; rw [naf_zero]; exact fun d hd => by cases hd
    · rw [naf_step h0]
      have := dig_half h0
      have ih := naf_dig' n ((x - dig x) / 2) (by omega)
      intro d hd
      rcases List.mem_cons.mp hd with rfl | hd
      · rcases dig_cases x with ⟨h1, h2⟩ | ⟨h1, h2⟩ | ⟨h1, h2⟩ <;> rw [h2] <;> omega
      · exact ih d hd
theorem naf_dig (x : Int) : Dig (naf x) := naf_dig' _ x (Nat.le_refl _)
/-- no more digits than bits, but one -/
theorem naf_len : ∀ (n : Nat) (x : Int), -(2 ^ n) ≤ x ∧ x ≤ 2 ^ n → (naf x).length ≤ n + 1
  | 0, x, h => by
    by_cases h0 : x = 0
    · subst h0; rw [naf_zero]; exact Nat.zero_le _
    · rw [naf_step h0]
      have : (x - dig x) / 2 = 0 := by
        have : x = 1 ∨ x = -1 := by omega
        rcases this with rfl | rfl <;> decide
      rw [this, naf_zero]
      exact Nat.le_refl _
  | n + 1, x, h => by
    by_cases h0 : x = 0
    · subst h0; rw [naf_zero]; exact Nat.zero_le _
    · rw [naf_step h0]
      have := naf_len n ((x - dig x) / 2) (by
        have e : (2 : Int) ^ (n + 1) = 2 * 2 ^ n := by rw [Int.pow_succ]; omega
        rw [e] at h
        rcases dig_cases x with ⟨h1, h2⟩ | ⟨h1, h2⟩ | ⟨h1, h2⟩ <;> rw [h2] <;> omega)
      rw [List.length_cons]
      omega
theorem naf_len' {n : Nat} {x : Int} (h : LB n x) : (naf x).length ≤ n + 1 := naf_len n x (by have := h.to; omega)
theorem val_LB {l : List Int} (h : Dig l) : LB (l.length + 1) (val l) := by
  suffices h' : -(2 ^ l.length) < val l ∧ val l < 2 ^ l.length from (LB.of h').mono (Nat.le_succ _)
  induction l with
  | nil => decide
  | cons d l ih =>
    have ih := ih fun x hx => h x (List.mem_cons_of_mem _ hx)
    have hd := h d List.mem_cons_self
    rw [List.length_cons]
    unfold val
    have e : (2 : Int) ^ (l.length + 1) = 2 * 2 ^ l.length := by rw [Int.pow_succ]; omega
    rw [e]
    omega
theorem val_app (l : List Int) (d : Int) : val (l ++ [d]) = val l + d * 2 ^ l.length := by
  induction l with
  | nil => simp [val]
  | cons x l ih =>
    rw [List.cons_append, val, val, ih, List.length_cons, Int.pow_succ]
    have : d * (2 ^ l.length * 2) = 2 * (d * 2 ^ l.length) := by rw [← Int.mul_assoc, Int.mul_comm]
    rw [this]; omega
def wSigns : PTS := sSeq (sSet 1 (pLst (aN)))
  (sSeq (sSet 2 (pD 0))
  (sSeq (sWh (qV (pB cNe (pD 2) (pC (.int 0))))
  (sSeq (sSet 3 (pC (.int 0)))
  (sCut (sIf (qV (pB cEq (pB bMod (pD 2) (pC (.int 2))) (pC (.int 1))))
  (sSet 3 (pB bSub (pC (.int 2)) (pB bMod (pD 2) (pC (.int 4)))))
  (sNx))
  (sSeq (sDrop (pMeth lAppend (pV 1) (aC (pD 3) aN)))
  (sSet 2 (pB bDiv (pB bSub (pD 2) (pD 3)) (pC (.int 2))))))))
  (sRet (pM 1))))
def spSigns : FSp := fun ts K => ∃ x : Int, ts = [.p (.int x)] ∧ LB 1000000 x ∧ K (.ol ((naf x).map .int)) [some (.p (.int x))]
theorem vSigns (ts : List T) (K : T → List (Option T) → Prop) (h : spSigns ts K) : ts.length = 1 ∧ wSigns (endsOf [true] ts K) (PL.start 4 ts) := by
  obtain ⟨x, rfl, hx, k⟩ := h
  refine ⟨rfl, ?_⟩
  have hlen := naf_len' hx
  ((repeat ((conv => whnf); first | refine ⟨_, rfl, ?_⟩ | refine ⟨Nat.le_of_ble_eq_true rfl, ?_⟩ | refine ⟨fun h => Bool.noConfusion h, fun _ => ?_⟩ | refine ⟨fun _ => ?_, fun h => Bool.noConfusion h⟩ | refine ⟨fun h => absurd h (by decide), fun _ => ?_⟩ | refine ⟨fun _ => ?_, fun h => absurd h (by decide)⟩ | refine ⟨trivial, ?_⟩ | refine ⟨nd0 rfl, ?_⟩ | refine ⟨nd1 rfl, ?_⟩ | refine ⟨nd2 rfl (by decide), ?_⟩ | refine ⟨nd3 rfl (by decide), ?_⟩ | refine ⟨rfl, ?_⟩)); (conv => whnf); try dsimp only [Int.reduceToNat])
  refine ⟨fun m S => ∃ (l : List Int) (y : Int) (k3 : Option T), y.natAbs = m ∧ l ++ naf y = naf x ∧ S = [some (.p (.int x)), some (.ol (l.map .int)), some (.p (.int y)), k3], ⟨x.natAbs, [], x, none, rfl, rfl, rfl⟩, ?_⟩
  rintro m S ⟨l, y, k3, hm, hl, rfl⟩
  ((repeat ((conv => whnf); first | refine ⟨_, rfl, ?_⟩ | refine ⟨Nat.le_of_ble_eq_true rfl, ?_⟩ | refine ⟨fun h => Bool.noConfusion h, fun _ => ?_⟩ | refine ⟨fun _ => ?_, fun h => Bool.noConfusion h⟩ | refine ⟨fun h => absurd h (by decide), fun _ => ?_⟩ | refine ⟨fun _ => ?_, fun h => absurd h (by decide)⟩ | refine ⟨trivial, ?_⟩ | refine ⟨nd0 rfl, ?_⟩ | refine ⟨nd1 rfl, ?_⟩ | refine ⟨nd2 rfl (by decide), ?_⟩ | refine ⟨nd3 rfl (by decide), ?_⟩ | refine ⟨rfl, ?_⟩)); (conv => whnf); try dsimp only [Int.reduceToNat])
  refine ⟨fun h => ?_, fun h => ?_⟩
  · have h := neT h
    ((repeat ((conv => whnf); first | refine ⟨_, rfl, ?_⟩ | refine ⟨Nat.le_of_ble_eq_true rfl, ?_⟩ | refine ⟨fun h => Bool.noConfusion h, fun _ => ?_⟩ | refine ⟨fun _ => ?_, fun h => Bool.noConfusion h⟩ | refine ⟨fun h => absurd h (by decide), fun _ => ?_⟩ | refine ⟨fun _ => ?_, fun h => absurd h (by decide)⟩ | refine ⟨trivial, ?_⟩ | refine ⟨nd0 rfl, ?_⟩ | refine ⟨nd1 rfl, ?_⟩ | refine ⟨nd2 rfl (by decide), ?_⟩ | refine ⟨nd3 rfl (by decide), ?_⟩ | refine ⟨rfl, ?_⟩)); (conv => whnf); try dsimp only [Int.reduceToNat])
    refine ⟨fun S => S = [some (.p (.int x)), some (.ol (l.map .int)), some (.p (.int y)), some (.p (.int (dig y)))], ?_, ?_⟩
    · ((repeat ((conv => whnf); first | refine ⟨_, rfl, ?_⟩ | refine ⟨Nat.le_of_ble_eq_true rfl, ?_⟩ | refine ⟨fun h => Bool.noConfusion h, fun _ => ?_⟩ | refine ⟨fun _ => ?_, fun h => Bool.noConfusion h⟩ | refine ⟨fun h => absurd h (by decide), fun _ => ?_⟩ | refine ⟨fun _ => ?_, fun h => absurd h (by decide)⟩ | refine ⟨trivial, ?_⟩ | refine ⟨nd0 rfl, ?_⟩ | refine ⟨nd1 rfl, ?_⟩ | refine ⟨nd2 rfl (by decide), ?_⟩ | refine ⟨nd3 rfl (by decide), ?_⟩ | refine ⟨rfl, ?_⟩)); (conv => whnf); try dsimp only [Int.reduceToNat])
      refine ⟨by decide, ?_⟩
      ((repeat ((conv => whnf); first | refine ⟨_, rfl, ?_⟩ | refine ⟨Nat.le_of_ble_eq_true rfl, ?_⟩ | refine ⟨fun h => Bool.noConfusion h, fun _ => ?_⟩ | refine ⟨fun _ => ?_, fun h => Bool.noConfusion h⟩ | refine ⟨fun h => absurd h (by decide), fun _ => ?_⟩ | refine ⟨fun _ => ?_, fun h => absurd h (by decide)⟩ | refine ⟨trivial, ?_⟩ | refine ⟨nd0 rfl, ?_⟩ | refine ⟨nd1 rfl, ?_⟩ | refine ⟨nd2 rfl (by decide), ?_⟩ | refine ⟨nd3 rfl (by decide), ?_⟩ | refine ⟨rfl, ?_⟩)); (conv => whnf); try dsimp only [Int.reduceToNat])
      refine ⟨fun q => ?_, fun q => ?_⟩
      · have q := eqT q
        ((repeat ((conv => whnf); first | refine ⟨_, rfl, ?_⟩ | refine ⟨Nat.le_of_ble_eq_true rfl, ?_⟩ | refine ⟨fun h => Bool.noConfusion h, fun _ => ?_⟩ | refine ⟨fun _ => ?_, fun h => Bool.noConfusion h⟩ | refine ⟨fun h => absurd h (by decide), fun _ => ?_⟩ | refine ⟨fun _ => ?_, fun h => absurd h (by decide)⟩ | refine ⟨trivial, ?_⟩ | refine ⟨nd0 rfl, ?_⟩ | refine ⟨nd1 rfl, ?_⟩ | refine ⟨nd2 rfl (by decide), ?_⟩ | refine ⟨nd3 rfl (by decide), ?_⟩ | refine ⟨rfl, ?_⟩)); (conv => whnf); try dsimp only [Int.reduceToNat])
        refine ⟨by decide, ?_⟩
        ((repeat ((conv => whnf); first | refine ⟨_, rfl, ?_⟩ | refine ⟨Nat.le_of_ble_eq_true rfl, ?_⟩ | refine ⟨fun h => Bool.noConfusion h, fun _ => ?_⟩ | refine ⟨fun _ => ?_, fun h => Bool.noConfusion h⟩ | refine ⟨fun h => absurd h (by decide), fun _ => ?_⟩ | refine ⟨fun _ => ?_, fun h => absurd h (by decide)⟩ | refine ⟨trivial, ?_⟩ | refine ⟨nd0 rfl, ?_⟩ | refine ⟨nd1 rfl, ?_⟩ | refine ⟨nd2 rfl (by decide), ?_⟩ | refine ⟨nd3 rfl (by decide), ?_⟩ | refine ⟨rfl, ?_⟩)); (conv => whnf); try dsimp only [Int.reduceToNat])
        rw [show dig y = 2 - y % 4 by unfold dig; rw [if_pos q]]
        rfl
      · have q := eqF q
        rw [show dig y = 0 by unfold dig; rw [if_neg q]]
        rfl
    · rintro S rfl
      have e := naf_step h
      rw [e] at hl
      have hll : l.length < (naf x).length := by rw [← hl, List.length_append, List.length_cons]; omega
      ((repeat ((conv => whnf); first | refine ⟨_, rfl, ?_⟩ | refine ⟨Nat.le_of_ble_eq_true rfl, ?_⟩ | refine ⟨fun h => Bool.noConfusion h, fun _ => ?_⟩ | refine ⟨fun _ => ?_, fun h => Bool.noConfusion h⟩ | refine ⟨fun h => absurd h (by decide), fun _ => ?_⟩ | refine ⟨fun _ => ?_, fun h => absurd h (by decide)⟩ | refine ⟨trivial, ?_⟩ | refine ⟨nd0 rfl, ?_⟩ | refine ⟨nd1 rfl, ?_⟩ | refine ⟨nd2 rfl (by decide), ?_⟩ | refine ⟨nd3 rfl (by decide), ?_⟩ | refine ⟨rfl, ?_⟩)); (conv => whnf); try dsimp only [Int.reduceToNat])
      refine ⟨by rw [List.length_map]; have : (1000002 : Nat) < sizeLine := by decide
                 omega, ?_⟩
      ((repeat ((conv => whnf); first | refine ⟨_, rfl, ?_⟩ | refine ⟨Nat.le_of_ble_eq_true rfl, ?_⟩ | refine ⟨fun h => Bool.noConfusion h, fun _ => ?_⟩ | refine ⟨fun _ => ?_, fun h => Bool.noConfusion h⟩ | refine ⟨fun h => absurd h (by decide), fun _ => ?_⟩ | refine ⟨fun _ => ?_, fun h => absurd h (by decide)⟩ | refine ⟨trivial, ?_⟩ | refine ⟨nd0 rfl, ?_⟩ | refine ⟨nd1 rfl, ?_⟩ | refine ⟨nd2 rfl (by decide), ?_⟩ | refine ⟨nd3 rfl (by decide), ?_⟩ | refine ⟨rfl, ?_⟩)); (conv => whnf); try dsimp only [Int.reduceToNat])
      refine ⟨divS 3 (by decide) (by decide), ?_⟩
      ((repeat ((conv => whnf); first | refine ⟨_, rfl, ?_⟩ | refine ⟨Nat.le_of_ble_eq_true rfl, ?_⟩ | refine ⟨fun h => Bool.noConfusion h, fun _ => ?_⟩ | refine ⟨fun _ => ?_, fun h => Bool.noConfusion h⟩ | refine ⟨fun h => absurd h (by decide), fun _ => ?_⟩ | refine ⟨fun _ => ?_, fun h => absurd h (by decide)⟩ | refine ⟨trivial, ?_⟩ | refine ⟨nd0 rfl, ?_⟩ | refine ⟨nd1 rfl, ?_⟩ | refine ⟨nd2 rfl (by decide), ?_⟩ | refine ⟨nd3 rfl (by decide), ?_⟩ | refine ⟨rfl, ?_⟩)); (conv => whnf); try dsimp only [Int.reduceToNat])
      refine ⟨_, by rw [← hm]; exact dig_half h, l ++ [dig y], _, some (.p (.int (dig y))), rfl, by rw [List.append_assoc]; exact hl, ?_⟩
      have e2 : (l ++ [dig y]).map PyData.int = l.map PyData.int ++ [PyData.int (dig y)] := by simp
      rw [e2]
      rfl
  · have h := neF h
    subst h
    rw [naf_zero, List.append_nil] at hl
    subst hl
    ((repeat ((conv => whnf); first | refine ⟨_, rfl, ?_⟩ | refine ⟨Nat.le_of_ble_eq_true rfl, ?_⟩ | refine ⟨fun h => Bool.noConfusion h, fun _ => ?_⟩ | refine ⟨fun _ => ?_, fun h => Bool.noConfusion h⟩ | refine ⟨fun h => absurd h (by decide), fun _ => ?_⟩ | refine ⟨fun _ => ?_, fun h => absurd h (by decide)⟩ | refine ⟨trivial, ?_⟩ | refine ⟨nd0 rfl, ?_⟩ | refine ⟨nd1 rfl, ?_⟩ | refine ⟨nd2 rfl (by decide), ?_⟩ | refine ⟨nd3 rfl (by decide), ?_⟩ | refine ⟨rfl, ?_⟩)); (conv => whnf); try dsimp only [Int.reduceToNat])
    exact k
def wValueOf : PTS := sSeq (sSet 1 (pC (.int 0)))
  (sSeq (sFor (iRv (pD 0)) (gN 2)
  (sSet 1 (pB bAdd (pB bMul (pC (.int 2)) (pD 1)) (pD 2))))
  (sRet (pD 1)))
def spValueOf : FSp := fun ts K => ∃ l : List Int, ts = [.p (.list (l.map .int))] ∧ Dig l ∧ l.length ≤ 1000000 ∧ K (.p (.int (val l))) [some (.p (.list (l.map .int)))]
theorem vValueOf (ts : List T) (K : T → List (Option T) → Prop) (h : spValueOf ts K) : ts.length = 1 ∧ wValueOf (endsOf [true] ts K) (PL.start 3 ts) := by
  obtain ⟨l, rfl, hd, hl, k⟩ := h
  refine ⟨rfl, ?_⟩
  ((repeat ((conv => whnf); first | refine ⟨_, rfl, ?_⟩ | refine ⟨Nat.le_of_ble_eq_true rfl, ?_⟩ | refine ⟨fun h => Bool.noConfusion h, fun _ => ?_⟩ | refine ⟨fun _ => ?_, fun h => Bool.noConfusion h⟩ | refine ⟨fun h => absurd h (by decide), fun _ => ?_⟩ | refine ⟨fun _ => ?_, fun h => absurd h (by decide)⟩ | refine ⟨trivial, ?_⟩ | refine ⟨nd0 rfl, ?_⟩ | refine ⟨nd1 rfl, ?_⟩ | refine ⟨nd2 rfl (by decide), ?_⟩ | refine ⟨nd3 rfl (by decide), ?_⟩ | refine ⟨rfl, ?_⟩)); (conv => whnf); try dsimp only [Int.reduceToNat])
  refine ⟨fun i S => ∃ (k2 : Option T), i ≤ l.length ∧ S = [some (.p (.list (l.map .int))), some (.p (.int (val (l.drop (l.length - i))))), k2], ?_, ?_, ?_⟩
  · refine ⟨none, Nat.zero_le _, ?_⟩
    rw [Nat.sub_zero, List.drop_length]
    rfl
  · rintro i d S h ⟨k2, hi, rfl⟩
    have hi' : i < l.length := by
      have := (List.getElem?_eq_some_iff.mp h).1
      simpa using this
    rw [← List.map_reverse, List.getElem?_map, List.getElem?_reverse hi'] at h
    obtain ⟨z, hz, rfl⟩ := Option.map_eq_some_iff.mp h
    have e : l.drop (l.length - (i + 1)) = z :: l.drop (l.length - i) := by
      have h1 : l.length - (i + 1) < l.length := by omega
      rw [List.drop_eq_getElem_cons h1]
      have h2 : l[l.length - (i + 1)] = z := by
        have := (List.getElem?_eq_some_iff.mp hz).2
        rw [← this]
        congr 1
        omega
      rw [h2]
      congr 2
      omega
    have hb : LB 1000001 (val (l.drop (l.length - i))) := (val_LB fun x hx => hd x (List.mem_of_mem_drop hx)).mono (by rw [List.length_drop]; omega)
    ((repeat ((conv => whnf); first | refine ⟨_, rfl, ?_⟩ | refine ⟨Nat.le_of_ble_eq_true rfl, ?_⟩ | refine ⟨fun h => Bool.noConfusion h, fun _ => ?_⟩ | refine ⟨fun _ => ?_, fun h => Bool.noConfusion h⟩ | refine ⟨fun h => absurd h (by decide), fun _ => ?_⟩ | refine ⟨fun _ => ?_, fun h => absurd h (by decide)⟩ | refine ⟨trivial, ?_⟩ | refine ⟨nd0 rfl, ?_⟩ | refine ⟨nd1 rfl, ?_⟩ | refine ⟨nd2 rfl (by decide), ?_⟩ | refine ⟨nd3 rfl (by decide), ?_⟩ | refine ⟨rfl, ?_⟩)); (conv => whnf); try dsimp only [Int.reduceToNat])
    refine ⟨LB.mulOk (a := 3) (LB.of (by decide)) hb, ?_⟩
    ((repeat ((conv => whnf); first | refine ⟨_, rfl, ?_⟩ | refine ⟨Nat.le_of_ble_eq_true rfl, ?_⟩ | refine ⟨fun h => Bool.noConfusion h, fun _ => ?_⟩ | refine ⟨fun _ => ?_, fun h => Bool.noConfusion h⟩ | refine ⟨fun h => absurd h (by decide), fun _ => ?_⟩ | refine ⟨fun _ => ?_, fun h => absurd h (by decide)⟩ | refine ⟨trivial, ?_⟩ | refine ⟨nd0 rfl, ?_⟩ | refine ⟨nd1 rfl, ?_⟩ | refine ⟨nd2 rfl (by decide), ?_⟩ | refine ⟨nd3 rfl (by decide), ?_⟩ | refine ⟨rfl, ?_⟩)); (conv => whnf); try dsimp only [Int.reduceToNat])
    refine ⟨some (.p (.int z)), by omega, ?_⟩
    rw [e, val, Int.add_comm z]
    rfl
  · rintro S ⟨k2, hi, rfl⟩
    ((repeat ((conv => whnf); first | refine ⟨_, rfl, ?_⟩ | refine ⟨Nat.le_of_ble_eq_true rfl, ?_⟩ | refine ⟨fun h => Bool.noConfusion h, fun _ => ?_⟩ | refine ⟨fun _ => ?_, fun h => Bool.noConfusion h⟩ | refine ⟨fun h => absurd h (by decide), fun _ => ?_⟩ | refine ⟨fun _ => ?_, fun h => absurd h (by decide)⟩ | refine ⟨trivial, ?_⟩ | refine ⟨nd0 rfl, ?_⟩ | refine ⟨nd1 rfl, ?_⟩ | refine ⟨nd2 rfl (by decide), ?_⟩ | refine ⟨nd3 rfl (by decide), ?_⟩ | refine ⟨rfl, ?_⟩)); (conv => whnf); try dsimp only [Int.reduceToNat])
    rw [List.length_reverse, List.length_map, Nat.sub_self, List.drop_zero]
    exact k
end PL
namespace PL
open PySem L2
theorem val_zeros (l : List Int) (n : Nat) : val (l ++ List.replicate n 0) = val l := by
  induction l with
  | nil =>
    induction n with
    | zero => rfl
    | succ n ih =>
      rw [List.nil_append] at ih ⊢
      rw [List.replicate_succ]
      show 0 + 2 * val (List.replicate n 0) = 0
      rw [ih]; rfl
  | cons d l ih => rw [List.cons_append, val, ih, val]
theorem val_neg (l : List Int) : val (l.map fun d => 0 - d) = 0 - val l := by
  induction l with
  | nil => rfl
  | cons d l ih => rw [List.map_cons, val, ih, val]; omega
theorem rep_flat (n : Nat) (d : PyData) : (List.replicate n [d]).flatten = List.replicate n d := by
  induction n with
  | zero => rfl
  | succ n ih => rw [List.replicate_succ, List.replicate_succ, List.flatten_cons, ih]; rfl
theorem eqv_list_self (l : List Int) : PyData.eqv (.list (l.map PyData.int)) (.list (l.map PyData.int)) = true := by
  rw [eqv_ints]; simp
theorem ne_self {p : Prop} [Decidable p] (h : p) : (true ^^ decide p) = false := by simp [h]
theorem eq_self {p : Prop} [Decidable p] (h : p) : (false ^^ decide p) = true := by simp [h]
end PL
namespace PL
open PySem L2
/-! more about signs -/
theorem dig_neg (x : Int) : dig (-x) = - dig x := by
  rcases dig_cases x with ⟨h1, h2⟩ | ⟨h1, h2⟩ | ⟨h1, h2⟩ <;> rcases dig_cases (-x) with ⟨h3, h4⟩ | ⟨h3, h4⟩ | ⟨h3, h4⟩ <;> omega
theorem naf_neg' : ∀ (n : Nat) (x : Int), x.natAbs ≤ n → naf (-x) = (naf x).map fun d => 0 - d
  | 0, x, h => by
    have : x = 0 := by omega
    subst this; rw [Int.neg_zero, naf_zero]; rfl
  | n + 1, x, h => by
    by_cases h0 : x = 0
    · subst h0; rw [Int.neg_zero, naf_zero]; rfl
    · rw [naf_step h0, naf_step (show -x ≠ 0 by omega), List.map_cons, dig_neg]
      have hh := dig_half h0
      have e : (-x - -dig x) / 2 = -((x - dig x) / 2) := by
        rcases dig_cases x with ⟨h1, h2⟩ | ⟨h1, h2⟩ | ⟨h1, h2⟩ <;> rw [h2] <;> omega
      rw [e, naf_neg' n _ (by omega)]
      congr 1
      omega
theorem naf_neg (x : Int) : naf (-x) = (naf x).map fun d => 0 - d := naf_neg' _ x (Nat.le_refl _)
theorem naf_dbl {x : Int} (h : x ≠ 0) : naf (2 * x) = 0 :: naf x := by
  rw [naf_step (show 2 * x ≠ 0 by omega)]
  have : dig (2 * x) = 0 := by unfold dig; rw [if_neg (by omega)]
  rw [this]
  congr 2
  omega
theorem naf_pow {x : Int} (h : x ≠ 0) : ∀ k : Nat, naf (x * 2 ^ k) = List.replicate k 0 ++ naf x
  | 0 => by simp
  | k + 1 => by
    have p := pow2_pos k
    have e : x * 2 ^ (k + 1) = 2 * (x * 2 ^ k) := by rw [Int.pow_succ, ← Int.mul_assoc, Int.mul_comm 2]
    rw [e, naf_dbl (fun z => by rcases Int.mul_eq_zero.mp z with z | z <;> omega), naf_pow h k, List.replicate_succ]
    rfl
/-- no two beside one another, the last one none -/
def Na : List Int → Prop
  | [] => True
  | [d] => d ≠ 0
  | d :: e :: r => (d = 0 ∨ e = 0) ∧ Na (e :: r)
theorem naf_na' : ∀ (n : Nat) (x : Int), x.natAbs ≤ n → Na (naf x)
  | 0, x, h => by
    have : x = 0 := by omega
    subst this; rw [naf_zero]; trivial
  | n + 1, x, h => by
    by_cases h0 : x = 0
    · subst h0; rw [naf_zero]; trivial
    · have hh := dig_half h0
      have ih := naf_na' n ((x - dig x) / 2) (by omega)
      rw [naf_step h0]
      by_cases h1 : (x - dig x) / 2 = 0
      · rw [h1, naf_zero]
        show dig x ≠ 0
        rcases dig_cases x with ⟨h3, h4⟩ | ⟨h3, h4⟩ | ⟨h3, h4⟩ <;> omega
      · rw [naf_step h1] at ih ⊢
        refine ⟨?_, ih⟩
        rcases dig_cases x with ⟨h3, h4⟩ | ⟨h3, h4⟩ | ⟨h3, h4⟩
        · exact .inl h4
        · right; rw [h4]; unfold dig; rw [if_neg (by omega)]
        · right; rw [h4]; unfold dig; rw [if_neg (by omega)]
theorem naf_na (x : Int) : Na (naf x) := naf_na' _ x (Nat.le_refl _)
end PL
namespace PL
open PySem L2
theorem bitAnd_one {x : Int} (h : 0 ≤ x) : Builtin.bitAnd x 1 = x % 2 := by
  have := Bits.bitAnd_mask 1 h
  simpa using this
/-- the left of the signs of a by 3 a and a, both halved -/
theorem naf_bits {a : Int} (ha : 0 ≤ a) (k : Nat) : ∃ c : Int, 0 ≤ c ∧ c ≤ 2 ∧ 3 * a / 2 ^ k = 3 * (a / 2 ^ k) + c := by
  have p := pow2_pos k
  have h1 := Int.emod_add_mul_ediv a (2 ^ k)
  have h2 := Int.emod_nonneg a (show (2 : Int) ^ k ≠ 0 by omega)
  have h3 := Int.emod_lt_of_pos a p
  refine ⟨3 * (a % 2 ^ k) / 2 ^ k, Int.ediv_nonneg (by omega) (by omega), ?_, ?_⟩
  · have : 3 * (a % 2 ^ k) / 2 ^ k < 3 := by
      rw [Int.ediv_lt_iff_lt_mul p]; omega
    omega
  · have e : 3 * a = 3 * (a % 2 ^ k) + 2 ^ k * (3 * (a / 2 ^ k)) := by
      rw [← Int.mul_assoc, Int.mul_comm (2 ^ k) 3, Int.mul_assoc]; omega
    rw [e, Int.add_mul_ediv_left _ _ (by omega)]
    omega
theorem half_pow (x : Int) (k : Nat) : x / 2 ^ (k + 1) = x / 2 ^ k / 2 := by
  rw [Int.pow_succ, Int.ediv_ediv_of_nonneg (by have := pow2_pos k; omega)]
theorem naf_bits_step {a : Int} (ha : 0 ≤ a) (k : Nat) : dig (3 * a / 2 ^ k - a / 2 ^ k) = 3 * a / 2 ^ k % 2 - a / 2 ^ k % 2 ∧
    (3 * a / 2 ^ k - a / 2 ^ k - dig (3 * a / 2 ^ k - a / 2 ^ k)) / 2 = 3 * a / 2 ^ (k + 1) - a / 2 ^ (k + 1) := by
  obtain ⟨c, c0, c2, e⟩ := naf_bits ha k
  have h0 : 0 ≤ a / 2 ^ k := Int.ediv_nonneg ha (by have := pow2_pos k; omega)
  rw [half_pow, half_pow]
  generalize 3 * a / 2 ^ k = T at e ⊢
  generalize a / 2 ^ k = A at e h0 ⊢
  have : dig (T - A) = T % 2 - A % 2 := by
    have hc : c = 0 ∨ c = 1 ∨ c = 2 := by omega
    obtain ⟨B, hB⟩ : ∃ B, A = 2 * B ∨ A = 2 * B + 1 := ⟨A / 2, by omega⟩
    unfold dig
    rcases hc with rfl | rfl | rfl <;> rcases hB with rfl | rfl <;> subst e <;> split <;> omega
  exact ⟨this, by rw [this]; omega⟩
theorem naf_bits_zero {a : Int} (ha : 0 ≤ a) (k : Nat) : 3 * a / 2 ^ k - a / 2 ^ k = 0 ↔ ¬ 0 < 3 * a / 2 ^ k := by
  obtain ⟨c, c0, c2, e⟩ := naf_bits ha k
  have h0 : 0 ≤ a / 2 ^ k := Int.ediv_nonneg ha (by have := pow2_pos k; omega)
  omega
end PL
namespace PL
open PySem L2
theorem Na.at : ∀ {l : List Int} {i : Nat} {d e : Int}, Na l → l[i]? = some d → l[i + 1]? = some e → d = 0 ∨ e = 0
  | [], _, _, _, _, h, _ => by simp at h
  | [_], 0, _, _, _, _, h => by simp at h
  | [_], i + 1, _, _, _, h, _ => by simp at h
  | x :: y :: r, 0, d, e, hn, h1, h2 => by
    simp at h1 h2
    subst h1 h2
    exact hn.1
  | x :: y :: r, i + 1, d, e, hn, h1, h2 => Na.at (l := y :: r) (i := i) hn.2 (by simpa using h1) (by simpa using h2)
theorem Na.last : ∀ {l : List Int} {y : Int}, Na (l ++ [y]) → y ≠ 0
  | [], _, h => h
  | [x], y, h => Na.last (l := []) h.2
  | x :: z :: r, y, h => Na.last (l := z :: r) h.2
theorem zeros_dat (n : Nat) : List.replicate n (PyData.int 0) = (List.replicate n 0).map PyData.int := by simp
end PL
namespace PL
theorem dat_ol (ds : List PySem.PyData) : (T.ol ds).dat = .list ds := rfl
theorem dat_p (d : PySem.PyData) : (T.p d).dat = d := rfl
end PL

set_option Elab.async false
set_option linter.all false
set_option maxRecDepth 100000
set_option maxHeartbeats 4000000
set_option autoImplicit false
/-! the least of a number: how many of its signs are not 0 -/
namespace PL
def nz (l : List Int) : Nat := (l.filter fun d => decide (d ≠ 0)).length
theorem nz_nil : nz [] = 0 := rfl
theorem nz_cons (d : Int) (l : List Int) : nz (d :: l) = (if d = 0 then 0 else 1) + nz l := by
  unfold nz
  rw [List.filter_cons]
  by_cases h : d = 0
  · simp [h]
  · simp [h]; omega
theorem nz_app (l r : List Int) : nz (l ++ r) = nz l + nz r := by unfold nz; rw [List.filter_append, List.length_append]
theorem nz_le (l : List Int) : nz l ≤ l.length := List.length_filter_le _ _
theorem nz_neg (l : List Int) : nz (l.map fun d => 0 - d) = nz l := by
  induction l with
  | nil => rfl
  | cons d l ih => rw [List.map_cons, nz_cons, nz_cons, ih]; congr 1; split <;> split <;> omega
def wt (x : Int) : Nat := nz (naf x)
theorem wt_zero : wt 0 = 0 := by unfold wt; rw [naf_zero]; rfl
theorem wt_even (x : Int) : wt (2 * x) = wt x := by
  by_cases h : x = 0
  · subst h; rfl
  · unfold wt; rw [naf_dbl h, nz_cons]; simp
theorem wt_neg (x : Int) : wt (-x) = wt x := by unfold wt; rw [naf_neg, nz_neg]
theorem wt_one {y : Int} (h : y % 2 = 0) : wt (2 * y + 1) = 1 + wt y := by
  have h0 : 2 * y + 1 ≠ 0 := by omega
  have hd : dig (2 * y + 1) = 1 := by unfold dig; rw [if_pos (by omega)]; omega
  unfold wt
  rw [naf_step h0, nz_cons, hd]
  have e : (2 * y + 1 - 1) / 2 = y := by omega
  rw [e]; simp
theorem wt_three {y : Int} (h : y % 2 = 1) : wt (2 * y + 1) = 1 + wt (y + 1) := by
  have h0 : 2 * y + 1 ≠ 0 := by omega
  have hd : dig (2 * y + 1) = -1 := by unfold dig; rw [if_pos (by omega)]; omega
  unfold wt
  rw [naf_step h0, nz_cons, hd]
  have e : (2 * y + 1 - -1) / 2 = y + 1 := by omega
  rw [e]; simp
theorem wt_near' : ∀ (n : Nat) (x : Int), x.natAbs ≤ n → wt (x + 1) ≤ wt x + 1 ∧ wt x ≤ wt (x + 1) + 1
  | 0, x, h => by
    have : x = 0 := by omega
    subst this
    have : wt (0 + 1) = 1 := by rw [show (0 : Int) + 1 = 2 * 0 + 1 by rfl, wt_one (by rfl), wt_zero]
    rw [this, wt_zero]; omega
  | n + 1, x, h => by
    obtain ⟨y, hy⟩ : ∃ y, x = 2 * y ∨ x = 2 * y + 1 := ⟨x / 2, by omega⟩
    rcases hy with rfl | rfl
    · rw [wt_even]
      by_cases hp : y % 2 = 0
      · rw [wt_one hp]; omega
      · have hp : y % 2 = 1 := by omega
        rw [wt_three hp]
        by_cases hn : y.natAbs ≤ n
        · have := wt_near' n y hn
          -- y odd
          obtain ⟨z, hz⟩ : ∃ z, y = 2 * z + 1 := ⟨y / 2, by omega⟩
          subst hz
          have e : 2 * z + 1 + 1 = 2 * (z + 1) := by omega
          rw [e, wt_even]
          have hzn := wt_near' n z (by clear this hp h; omega)
          by_cases hq : z % 2 = 0
          · rw [wt_one hq]; omega
          · rw [wt_three (by omega)]; omega
        · omega
    · have e : 2 * y + 1 + 1 = 2 * (y + 1) := by omega
      rw [e, wt_even]
      by_cases hy0 : y = -1
      · subst hy0
        have e2 : wt (2 * -1 + 1) = 1 := by rw [wt_three (by rfl), show (-1 : Int) + 1 = 0 by rfl, wt_zero]
        rw [e2, show (-1 : Int) + 1 = 0 by rfl, wt_zero]; omega
      have hn := wt_near' n y (by omega)
      by_cases hp : y % 2 = 0
      · rw [wt_one hp]
        obtain ⟨z, rfl⟩ : ∃ z, y = 2 * z := ⟨y / 2, by omega⟩
        have hzn := wt_near' n z (by omega)
        rw [wt_even] at hn ⊢
        by_cases hq : z % 2 = 0
        · rw [wt_one hq]; omega
        · rw [wt_three (by omega)]; omega
      · rw [wt_three (by omega)]; omega
theorem wt_near (x : Int) : wt (x + 1) ≤ wt x + 1 ∧ wt x ≤ wt (x + 1) + 1 := wt_near' _ x (Nat.le_refl _)
theorem wt_odd_le (y : Int) : wt (2 * y + 1) ≤ 1 + wt y ∧ wt (2 * y + 1) ≤ 1 + wt (y + 1) ∧ (wt (2 * y + 1) = 1 + wt y ∨ wt (2 * y + 1) = 1 + wt (y + 1)) := by
  obtain ⟨z, hz⟩ : ∃ z, y = 2 * z ∨ y = 2 * z + 1 := ⟨y / 2, by omega⟩
  have hn := wt_near z
  rcases hz with rfl | rfl
  · rw [wt_one (by omega), wt_even]
    by_cases hq : z % 2 = 0
    · rw [wt_one hq]; omega
    · rw [wt_three (by omega)]; omega
  · rw [wt_three (by omega), show 2 * z + 1 + 1 = 2 * (z + 1) by omega, wt_even]
    by_cases hq : z % 2 = 0
    · rw [wt_one hq]; omega
    · rw [wt_three (by omega)]; omega
theorem wt_pow_near : ∀ (k : Nat) (x : Int), wt (x + 2 ^ k) ≤ wt x + 1
  | 0, x => (wt_near x).1
  | k + 1, x => by
    have e : (2 : Int) ^ (k + 1) = 2 * 2 ^ k := by rw [Int.pow_succ]; omega
    rw [e]
    obtain ⟨y, hy⟩ : ∃ y, x = 2 * y ∨ x = 2 * y + 1 := ⟨x / 2, by omega⟩
    rcases hy with rfl | rfl
    · rw [← Int.mul_add, wt_even, wt_even]; exact wt_pow_near k y
    · have e2 : 2 * y + 1 + 2 * 2 ^ k = 2 * (y + 2 ^ k) + 1 := by omega
      rw [e2]
      have h1 := wt_odd_le (y + 2 ^ k)
      have h2 := wt_odd_le y
      have h3 := wt_pow_near k y
      have h4 := wt_pow_near k (y + 1)
      rw [show y + 1 + 2 ^ k = y + 2 ^ k + 1 by omega] at h4
      omega
theorem wt_pow_less (k : Nat) (x : Int) : wt (x - 2 ^ k) ≤ wt x + 1 := by
  have := wt_pow_near k (-x)
  rw [wt_neg] at this
  rw [← wt_neg, show -(x - 2 ^ k) = -x + 2 ^ k by omega]; exact this
/-- no digits that come to a number are fewer -/
theorem wt_add_digits : ∀ (l : List Int), Dig l → ∀ (k : Nat) (x : Int), wt (x + val l * 2 ^ k) ≤ wt x + nz l
  | [], _, k, x => by unfold val; rw [Int.zero_mul, Int.add_zero]; exact Nat.le_add_right _ _
  | d :: l, h, k, x => by
    have hd := h d List.mem_cons_self
    have ih := wt_add_digits l (fun z hz => h z (List.mem_cons_of_mem _ hz)) (k + 1) (x + d * 2 ^ k)
    have e : x + d * 2 ^ k + val l * 2 ^ (k + 1) = x + val (d :: l) * 2 ^ k := by
      rw [show val (d :: l) = d + 2 * val l from rfl, Int.pow_succ, Int.add_mul, ← Int.add_assoc]
      congr 1
      rw [Int.mul_comm (2 ^ k) 2, ← Int.mul_assoc, Int.mul_comm (val l) 2]
    rw [e] at ih
    rw [nz_cons]
    rcases hd with rfl | rfl | rfl
    · rw [Int.zero_mul, Int.add_zero] at ih; simp; exact ih
    · rw [Int.one_mul] at ih
      have := wt_pow_near k x
      simp; omega
    · have := wt_pow_less k x
      rw [show x + -1 * 2 ^ k = x - 2 ^ k by omega] at ih
      simp; omega
theorem wt_val {l : List Int} (h : Dig l) : wt (val l) ≤ nz l := by
  have := wt_add_digits l h 0 0
  rw [wt_zero] at this
  simpa using this
theorem wt_add (x y : Int) : wt (x + y) ≤ wt x + wt y := by
  have := wt_add_digits (naf y) (naf_dig y) 0 x
  rw [naf_val] at this
  rw [Int.pow_zero, Int.mul_one] at this
  exact this
theorem wt_eq_zero {x : Int} : wt x = 0 ↔ x = 0 := by
  constructor
  · intro h
    have hz : ∀ l : List Int, nz l = 0 → val l = 0 := by
      intro l
      induction l with
      | nil => intro _; rfl
      | cons d l ih =>
        intro h
        rw [nz_cons] at h
        have hd : d = 0 := by
          by_cases hd : d = 0
          · exact hd
          · rw [if_neg hd] at h; omega
        subst hd
        unfold val
        rw [ih (by simpa using h)]; rfl
    rw [← naf_val x]
    exact hz _ h
  · rintro rfl; exact wt_zero
theorem wt_pow (x : Int) : ∀ k : Nat, wt (x * 2 ^ k) = wt x
  | 0 => by simp
  | k + 1 => by
    have e : x * 2 ^ (k + 1) = 2 * (x * 2 ^ k) := by rw [Int.pow_succ, ← Int.mul_assoc, Int.mul_comm 2]
    rw [e, wt_even, wt_pow x k]
theorem wt_1 : wt 1 = 1 := by
  have := wt_one (y := 0) (by rfl)
  rw [wt_zero] at this
  exact this
theorem wt_abs (x : Int) : wt (x.natAbs : Int) = wt x := by
  rcases Int.natAbs_eq x with h | h
  · rw [← h]
  · rw [show ((x.natAbs : Nat) : Int) = -x by omega, wt_neg]
/-- 1 just of powers of two -/
theorem wt_eq_one {x : Int} {k m : Nat} (h : x.natAbs = 2 ^ k * (2 * m + 1)) : wt x = 1 ↔ m = 0 := by
  have e : wt x = wt (2 * (m : Int) + 1) := by
    rw [← wt_abs, h]
    have : ((2 ^ k * (2 * m + 1) : Nat) : Int) = (2 * (m : Int) + 1) * 2 ^ k := by push_cast; rw [Int.mul_comm]
    rw [this, wt_pow]
  rw [e]
  constructor
  · intro h1
    have h2 := (wt_odd_le (m : Int)).2.2
    rcases h2 with h2 | h2
    · have h3 : wt (m : Int) = 0 := by omega
      have := wt_eq_zero.mp h3
      omega
    · have h3 : wt ((m : Int) + 1) = 0 := by omega
      have := wt_eq_zero.mp h3
      omega
  · rintro rfl; exact wt_1
end PL

namespace PL
open PySem L2
/-! comprehensions by what they make of each thing -/
def WM (f : PyData → PyData) (ds : List PyData) (S0 : Sl) : Nat → List PyData → Sl → Prop := fun i acc S => acc = (ds.take i).map f ∧ S = S0
theorem wm_step {f : PyData → PyData} {ds : List PyData} {S0 : Sl} {i : Nat} {d : PyData} (hl : ds.length ≤ 1000000) (h : ds[i]? = some d) : ((ds.take i).map f).length < sizeLine ∧ WM f ds S0 (i + 1) ((ds.take i).map f ++ [f d]) S0 := by
  refine ⟨?_, ?_, rfl⟩
  · rw [List.length_map, List.length_take]
    have : (1000000 : Nat) < sizeLine := by decide
    omega
  · rw [List.take_succ, h, List.map_append]; rfl
def WF (f : PyData → Option PyData) (ds : List PyData) (S0 : Sl) : Nat → List PyData → Sl → Prop := fun i acc S => acc = (ds.take i).filterMap f ∧ S = S0
theorem wf_some {f : PyData → Option PyData} {ds : List PyData} {S0 : Sl} {i : Nat} {d d' : PyData} (hl : ds.length ≤ 1000000) (h : ds[i]? = some d) (e : f d = some d') : ((ds.take i).filterMap f).length < sizeLine ∧ WF f ds S0 (i + 1) ((ds.take i).filterMap f ++ [d']) S0 := by
  refine ⟨?_, ?_, rfl⟩
  · have h1 := List.length_filterMap_le f (ds.take i)
    rw [List.length_take] at h1
    have : (1000000 : Nat) < sizeLine := by decide
    omega
  · rw [List.take_succ, h, List.filterMap_append]
    show _ = _ ++ [d].filterMap f
    rw [List.filterMap_cons, e]; rfl
theorem wf_none {f : PyData → Option PyData} {ds : List PyData} {S0 : Sl} {i : Nat} {d : PyData} (h : ds[i]? = some d) (e : f d = none) : WF f ds S0 (i + 1) ((ds.take i).filterMap f) S0 := by
  refine ⟨?_, rfl⟩
  rw [List.take_succ, h, List.filterMap_append]
  show _ = _ ++ [d].filterMap f
  rw [List.filterMap_cons, e]; exact (List.append_nil _).symm
theorem wm_end {f : PyData → PyData} {ds : List PyData} {S0 S : Sl} {acc : List PyData} (h : WM f ds S0 ds.length acc S) : acc = ds.map f ∧ S = S0 := by
  obtain ⟨h1, h2⟩ := h
  rw [List.take_length] at h1
  exact ⟨h1, h2⟩
theorem wf_end {f : PyData → Option PyData} {ds : List PyData} {S0 S : Sl} {acc : List PyData} (h : WF f ds S0 ds.length acc S) : acc = ds.filterMap f ∧ S = S0 := by
  obtain ⟨h1, h2⟩ := h
  rw [List.take_length] at h1
  exact ⟨h1, h2⟩
theorem len_im (l : List Int) : (l.map PyData.int).length = l.length := List.length_map ..
/-- the digits that are not 0 -/
def fnz : PyData → Option PyData
  | .int z => if z = 0 then none else some (.int z)
  | _ => none
theorem fnz_len (l : List Int) : ((l.map PyData.int).filterMap fnz).length = nz l := by
  induction l with
  | nil => rfl
  | cons d l ih =>
    rw [List.map_cons, List.filterMap_cons, nz_cons]
    by_cases h : d = 0
    · subst h; simp only [fnz, if_true]; rw [ih, Nat.zero_add]
    · simp only [fnz, if_neg h]; rw [List.length_cons, ih, Nat.add_comm]
theorem lt_size {n : Nat} (h : n ≤ 1000000) : n < sizeLine := Nat.lt_of_le_of_lt h (by decide)
end PL
namespace PL
open PySem L2
theorem sIx_in {n d : Nat} {i : Int} (h0 : 0 ≤ i) (h1 : i ≤ n) : HT.sIx n d (some i) = i.toNat := by
  show (if i < 0 then (i + (n : Int)).toNat else min i.toNat n) = i.toNat
  rw [if_neg (by omega)]
  omega
/-- xs[:i], xs[i:] -/
theorem cut_to {ds : List PyData} {i : Int} (h0 : 0 ≤ i) (h1 : i ≤ ds.length) : cutD ds none (some i) = ds.take i.toNat := by
  unfold cutD
  rw [sIx_in h0 h1, HT.sIx_none, List.drop_zero, Nat.sub_zero]
theorem cut_from {ds : List PyData} {i : Int} (h0 : 0 ≤ i) (h1 : i ≤ ds.length) : cutD ds (some i) none = ds.drop i.toNat := by
  unfold cutD
  rw [sIx_in h0 h1, HT.sIx_none]
  exact List.take_of_length_le (by rw [List.length_drop]; exact Nat.le_refl _)
end PL
namespace PL
theorem snoc_im (l : List Int) (c : Int) : l.map PySem.PyData.int ++ [PySem.PyData.int c] = (l ++ [c]).map PySem.PyData.int := by rw [List.map_append]; rfl
end PL

local macro_rules | `(tactic| walk_at "an") => `(tactic| (((repeat ((conv => whnf); first | refine ⟨_, rfl, ?_⟩ | refine ⟨Nat.le_of_ble_eq_true rfl, ?_⟩ | refine ⟨fun h => Bool.noConfusion h, fun _ => ?_⟩ | refine ⟨fun _ => ?_, fun h => Bool.noConfusion h⟩ | refine ⟨fun h => absurd h (by decide), fun _ => ?_⟩ | refine ⟨fun _ => ?_, fun h => absurd h (by decide)⟩ | refine ⟨trivial, ?_⟩ | refine ⟨PL.nd0 rfl, ?_⟩ | refine ⟨PL.nd1 rfl, ?_⟩ | refine ⟨PL.nd2 rfl (by decide), ?_⟩ | refine ⟨PL.nd3 rfl (by decide), ?_⟩ | refine ⟨rfl, ?_⟩)); (conv => whnf); try dsimp only [Int.reduceToNat, PL.back, PL.wipeS, List.set_cons_zero, List.set_cons_succ]); repeat ((first | refine And.intro (by omega) ?_ | refine And.intro (PL.lt_size (by (try simp only [List.length_map, List.length_append, List.length_cons, List.length_nil, List.length_reverse, List.length_replicate]); omega)) ?_ | refine And.intro (PL.powS (by decide) (by decide)) ?_ | refine And.intro (PL.mulS 60 60 (by omega) (by omega)) ?_); ((repeat ((conv => whnf); first | refine ⟨_, rfl, ?_⟩ | refine ⟨Nat.le_of_ble_eq_true rfl, ?_⟩ | refine ⟨fun h => Bool.noConfusion h, fun _ => ?_⟩ | refine ⟨fun _ => ?_, fun h => Bool.noConfusion h⟩ | refine ⟨fun h => absurd h (by decide), fun _ => ?_⟩ | refine ⟨fun _ => ?_, fun h => absurd h (by decide)⟩ | refine ⟨trivial, ?_⟩ | refine ⟨PL.nd0 rfl, ?_⟩ | refine ⟨PL.nd1 rfl, ?_⟩ | refine ⟨PL.nd2 rfl (by decide), ?_⟩ | refine ⟨PL.nd3 rfl (by decide), ?_⟩ | refine ⟨rfl, ?_⟩)); (conv => whnf); try dsimp only [Int.reduceToNat, PL.back, PL.wipeS, List.set_cons_zero, List.set_cons_succ]))))
local macro_rules | `(tactic| walk_at "a") => `(tactic| (((repeat ((conv => whnf); first | refine ⟨_, rfl, ?_⟩ | refine ⟨Nat.le_of_ble_eq_true rfl, ?_⟩ | refine ⟨fun h => Bool.noConfusion h, fun _ => ?_⟩ | refine ⟨fun _ => ?_, fun h => Bool.noConfusion h⟩ | refine ⟨fun h => absurd h (by decide), fun _ => ?_⟩ | refine ⟨fun _ => ?_, fun h => absurd h (by decide)⟩ | refine ⟨trivial, ?_⟩ | refine ⟨PL.nd0 rfl, ?_⟩ | refine ⟨PL.nd1 rfl, ?_⟩ | refine ⟨PL.nd2 rfl (by decide), ?_⟩ | refine ⟨PL.nd3 rfl (by decide), ?_⟩ | refine ⟨rfl, ?_⟩)); (conv => whnf); try dsimp only [Int.reduceToNat]); repeat ((first | refine And.intro (by omega) ?_ | refine And.intro (PL.lt_size (by (try simp only [List.length_map, List.length_append, List.length_cons, List.length_nil, List.length_reverse, List.length_replicate]); omega)) ?_ | refine And.intro (PL.powS (by decide) (by decide)) ?_ | refine And.intro (PL.mulS 60 60 (by omega) (by omega)) ?_); ((repeat ((conv => whnf); first | refine ⟨_, rfl, ?_⟩ | refine ⟨Nat.le_of_ble_eq_true rfl, ?_⟩ | refine ⟨fun h => Bool.noConfusion h, fun _ => ?_⟩ | refine ⟨fun _ => ?_, fun h => Bool.noConfusion h⟩ | refine ⟨fun h => absurd h (by decide), fun _ => ?_⟩ | refine ⟨fun _ => ?_, fun h => absurd h (by decide)⟩ | refine ⟨trivial, ?_⟩ | refine ⟨PL.nd0 rfl, ?_⟩ | refine ⟨PL.nd1 rfl, ?_⟩ | refine ⟨PL.nd2 rfl (by decide), ?_⟩ | refine ⟨PL.nd3 rfl (by decide), ?_⟩ | refine ⟨rfl, ?_⟩)); (conv => whnf); try dsimp only [Int.reduceToNat]))))
local macro_rules | `(tactic| walk_at "sn") => `(tactic| ((repeat ((conv => whnf); first | refine ⟨_, rfl, ?_⟩ | refine ⟨Nat.le_of_ble_eq_true rfl, ?_⟩ | refine ⟨fun h => Bool.noConfusion h, fun _ => ?_⟩ | refine ⟨fun _ => ?_, fun h => Bool.noConfusion h⟩ | refine ⟨fun h => absurd h (by decide), fun _ => ?_⟩ | refine ⟨fun _ => ?_, fun h => absurd h (by decide)⟩ | refine ⟨trivial, ?_⟩ | refine ⟨PL.nd0 rfl, ?_⟩ | refine ⟨PL.nd1 rfl, ?_⟩ | refine ⟨PL.nd2 rfl (by decide), ?_⟩ | refine ⟨PL.nd3 rfl (by decide), ?_⟩ | refine ⟨rfl, ?_⟩)); (conv => whnf); try dsimp only [Int.reduceToNat, PL.back, PL.wipeS, List.set_cons_zero, List.set_cons_succ]))
local macro_rules | `(tactic| walk_at "s") => `(tactic| ((repeat ((conv => whnf); first | refine ⟨_, rfl, ?_⟩ | refine ⟨Nat.le_of_ble_eq_true rfl, ?_⟩ | refine ⟨fun h => Bool.noConfusion h, fun _ => ?_⟩ | refine ⟨fun _ => ?_, fun h => Bool.noConfusion h⟩ | refine ⟨fun h => absurd h (by decide), fun _ => ?_⟩ | refine ⟨fun _ => ?_, fun h => absurd h (by decide)⟩ | refine ⟨trivial, ?_⟩ | refine ⟨PL.nd0 rfl, ?_⟩ | refine ⟨PL.nd1 rfl, ?_⟩ | refine ⟨PL.nd2 rfl (by decide), ?_⟩ | refine ⟨PL.nd3 rfl (by decide), ?_⟩ | refine ⟨rfl, ?_⟩)); (conv => whnf); try dsimp only [Int.reduceToNat]))
--@ T k22
set_option Elab.async false
set_option linter.all false
set_option maxRecDepth 100000
set_option maxHeartbeats 4000000
set_option autoImplicit false
namespace PL.U
open PySem L2 PL
def b_signs : PTS := sSeq (sSet 1 (pLst (aN)))
  (sSeq (sSet 2 (pD 0))
  (sSeq (sWh (qV (pB cNe (pD 2) (pC (.int 0))))
  (sSeq (sSet 3 (pC (.int 0)))
  (sCut (sIf (qV (pB cEq (pB bMod (pD 2) (pC (.int 2))) (pC (.int 1))))
  (sSet 3 (pB bSub (pC (.int 2)) (pB bMod (pD 2) (pC (.int 4)))))
  (sNx))
  (sSeq (sDrop (pMeth lAppend (pV 1) (aC (pD 3) aN)))
  (sSet 2 (pB bDiv (pB bSub (pD 2) (pD 3)) (pC (.int 2))))))))
  (sRet (pM 1))))
abbrev sp_signs : FSp := spSigns
theorem v_signs (ts : List T) (K : T → List (Option T) → Prop) (h : sp_signs ts K) : ts.length = 1 ∧ b_signs (endsOf [true] ts K) (PL.start 4 ts) := vSigns ts K h
def b_least : PTS := sRet (pU uLen (pLc (iLs (pFz (pCall sp_signs (aC (pD 0) (aN))))) (gN 1) (qV (pB cNe (pD 1) (pC (.int 0)))) (pD 1) [1]))
def sp_least : FSp := fun ts K => ∃ x : Int, ts = [.p (.int x)] ∧ LB 100000 x ∧ K (.p (.int (wt x))) [some (.p (.int x))]
theorem v_least (ts : List T) (K : T → List (Option T) → Prop) (h : sp_least ts K) : ts.length = 1 ∧ b_least (endsOf [true] ts K) (PL.start 2 ts) := by
  obtain ⟨x, rfl, hx, k⟩ := h
  refine ⟨rfl, ?_⟩
  have hlen := naf_len' hx
  have hl : ((naf x).map PyData.int).length ≤ 1000000 := by rw [len_im]; omega
  walk_at "s"
  refine ⟨hx.mono (by decide), ?_⟩
  walk_at "s"
  refine ⟨WF fnz ((naf x).map .int) [some (.p (.int x)), none], ⟨rfl, rfl⟩, ?_, ?_⟩
  · rintro i d acc S hd ⟨rfl, rfl⟩
    obtain ⟨z, hz, rfl⟩ := Option.map_eq_some_iff.mp (List.getElem?_map .. ▸ hd)
    walk_at "s"
    refine ⟨fun q => ?_, fun q => ?_⟩
    · walk_at "s"
      exact wf_some hl hd (by simp only [fnz, if_neg (neT q)])
    · exact wf_none hd (by simp only [fnz, if_pos (neF q)])
  · rintro acc S hW
    obtain ⟨rfl, rfl⟩ := wf_end hW
    walk_at "s"
    rw [fnz_len]
    exact k
def b_law_pen : PTS := sRet (pDct (pPc (pC (.str "script")) (pD 0) (pPc (pC (.str "at")) (pC (.int 0)) (pPc (pC (.str "left")) (pC (.int 0)) (pPn)))))
def sp_law_pen : FSp := fun ts K => ∃ ns : List Int, ts = [.p (.list (ns.map .int))] ∧ K (penD 0 0 ns) [some (.p (.list (ns.map .int)))]
theorem v_law_pen (ts : List T) (K : T → List (Option T) → Prop) (h : sp_law_pen ts K) : ts.length = 1 ∧ b_law_pen (endsOf [true] ts K) (PL.start 1 ts) := by
  obtain ⟨ns, rfl, k⟩ := h
  refine ⟨rfl, ?_⟩
  walk_at "s"
  exact k
def b_law_draw : PTS := sSeq (sIf (qV (pB cGt (pB bIx (pV 0) (pC (.str "left"))) (pC (.int 0))))
  (sSeq (sSet 6 (pB bMod (pB bIx (pV 0) (pC (.str "left"))) (pD 1)))
  (sSeq (sSetIx (pV 0) (pC (.str "left")) (pB bDiv (pB bIx (pV 0) (pC (.str "left"))) (pD 1)))
  (sRet (pD 6))))
  (sNx))
  (sSeq (sSet 2 (pB bIx (pV 0) (pC (.str "script"))))
  (sSeq (sSet 3 (pB bIx (pV 0) (pC (.str "at"))))
  (sSeq (sSetIx (pV 0) (pC (.str "at")) (pB bAdd (pD 3) (pC (.int 1))))
  (sSeq (sSet 4 (pB bAdd (pB bMul (pC (.int 40009)) (pD 3)) (pC (.int 17))))
  (sCut (sIf (qV (pB cNe (pD 2) (pLst (aN))))
  (sSet 4 (pB bIx (pD 2) (pB bMod (pD 3) (pU uLen (pD 2)))))
  (sNx))
  (sSeq (sIfC (qAnd (qV (pB cLt (pD 3) (pU uLen (pD 2)))) (qV (pB cGe (pU uAbs (pD 4)) (pB bPow (pC (.int 10)) (pC (.int 18))))))
  (sSeq (sSetIx (pV 0) (pC (.str "left")) (pB bDiv (pU uAbs (pD 4)) (pD 1)))
  (sRet (pB bMod (pU uAbs (pD 4)) (pD 1))))
  (sNx))
  (sSeq (sSet 5 (pB bMod (pB bMul (pB bAdd (pB bAdd (pB bMod (pD 4) (pC (.int 2147483629))) (pB bMul (pC (.int 104729)) (pD 3))) (pC (.int 3))) (pC (.int 48271))) (pC (.int 2147483647))))
  (sSeq (sSet 5 (pB bMod (pB bAdd (pB bAdd (pB bMul (pD 5) (pD 5)) (pB bMul (pC (.int 69621)) (pD 5))) (pD 3)) (pC (.int 2147483587))))
  (sRet (pB bMod (pB bDiv (pD 5) (pC (.int 8))) (pD 1)))))))))))
abbrev sp_law_draw : FSp := spDraw
theorem v_law_draw (ts : List T) (K : T → List (Option T) → Prop) (h : sp_law_draw ts K) : ts.length = 2 ∧ b_law_draw (endsOf [true, true] ts K) (PL.start 7 ts) := vDraw ts K h
def b_law_any : PTS := sSeq (sSet 2 (pC (.int 0)))
  (sSeq (sFor (iR1 (pB bAdd (pC (.int 1)) (pB bDiv (pD 1) (pC (.int 24))))) (gN 3)
  (sSet 2 (pB bAdd (pB bMul (pD 2) (pB bPow (pC (.int 2)) (pC (.int 24)))) (pCall sp_law_draw (aC (pV 0) (aC (pB bPow (pC (.int 2)) (pC (.int 24))) (aN)))))))
  (sRet (pB bMod (pD 2) (pB bMul (pC (.int 4)) (pB bPow (pC (.int 10)) (pC (.int 59)))))))
def sp_law_any : FSp := fun ts K => ∃ (g a m : Int) (ns : List Int), ts = [penD g a ns, .p (.int m)] ∧ 0 ≤ g ∧ 0 ≤ a ∧ a ≤ 2 ^ 30 ∧ 0 ≤ m ∧ m < 400 ∧ ∀ r g' a', LB 205 r → 0 ≤ g' → a ≤ a' → a' ≤ a + 50 → K (.p (.int r)) [some (penD g' a' ns), some (.p (.int m))]
theorem v_law_any (ts : List T) (K : T → List (Option T) → Prop) (h : sp_law_any ts K) : ts.length = 2 ∧ b_law_any (endsOf [true, true] ts K) (PL.start 4 ts) := by
  obtain ⟨g, a, m, ns, rfl, hg, ha, ha', hm, hm', k⟩ := h
  refine ⟨rfl, ?_⟩
  walk_at "s"
  refine ⟨divS 6 (by decide) (by decide), ?_⟩
  walk_at "s"
  refine ⟨by omega, ?_⟩
  walk_at "s"
  refine ⟨fun i S => ∃ (g a1 z : Int) (k3 : Option T), 0 ≤ g ∧ a ≤ a1 ∧ a1 ≤ a + i ∧ LB (30 * i + 10) z ∧ S = [some (penD g a1 ns), some (.p (.int m)), some (.p (.int z)), k3], ?_, ?_, ?_⟩
  · exact ⟨_, _, _, _, hg, by omega, by omega, LB.of (by decide), rfl⟩
  · rintro i d S hd ⟨g1, a1, z, k3, h1, h2, h3, hz, rfl⟩
    obtain ⟨rfl, hi⟩ := rng_at hd
    walk_at "s"
    refine ⟨powS (by decide) (by decide), ?_⟩
    walk_at "s"
    refine ⟨hz.mulOk (b := 26) (LB.of (by decide)), ?_⟩
    walk_at "s"
    refine ⟨powS (by decide) (by decide), ?_⟩
    walk_at "s"
    refine ⟨_, _, _, _, rfl, by omega, by omega, by omega, by omega, by omega, fun r1 g1 a1 r1l r1h g1l a1l a1h => ?_⟩
    walk_at "s"
    exact ⟨_, _, _, _, g1l, by omega, by push_cast; omega, (hz.mul (b := 26) (LB.of (by decide))).add (b := 26) (LB.of (by omega)), rfl⟩
  · rintro S ⟨g1, a1, z, k3, h1, h2, h3, hz, rfl⟩
    rw [rng_len] at h3 hz
    walk_at "s"
    refine ⟨powS (by decide) (by decide), ?_⟩
    walk_at "s"
    refine ⟨mulS 4 200 (by decide) (by decide), ?_⟩
    walk_at "s"
    refine ⟨by decide, ?_⟩
    walk_at "s"
    have h4 := Int.emod_nonneg z (show (4 * 10 ^ 59 : Int) ≠ 0 by decide)
    have h5 := Int.emod_lt_of_pos z (show (0 : Int) < 4 * 10 ^ 59 by decide)
    exact k _ _ _ (LB.of (by omega)) h1 (by omega) (by omega)
def b_law_number : PTS := sSeq (sSet 1 (pCall sp_law_draw (aC (pV 0) (aC (pC (.int 8)) (aN)))))
  (sSeq (sSet 2 (pCall sp_law_draw (aC (pV 0) (aC (pC (.int 190)) (aN)))))
  (sSeq (sSet 3 (pCall sp_law_draw (aC (pV 0) (aC (pC (.int 64)) (aN)))))
  (sSeq (sSet 4 (pD 3))
  (sCut (sIf (qV (pB cEq (pD 1) (pC (.int 1))))
  (sSet 4 (pB bShl (pC (.int 1)) (pD 2)))
  (sNx))
  (sCut (sIf (qV (pB cEq (pD 1) (pC (.int 2))))
  (sSet 4 (pB bSub (pB bShl (pC (.int 1)) (pD 2)) (pB bShl (pC (.int 1)) (pB bMod (pD 3) (pB bAdd (pD 2) (pC (.int 1)))))))
  (sNx))
  (sCut (sIf (qV (pB cEq (pD 1) (pC (.int 3))))
  (sSeq (sSet 4 (pC (.int 0)))
  (sFor (iR1 (pB bAdd (pC (.int 1)) (pB bMod (pD 3) (pC (.int 7))))) (gN 5)
  (sSet 4 (pB bAdd (pD 4) (pB bMul (pB bShl (pC (.int 1)) (pCall sp_law_draw (aC (pV 0) (aC (pC (.int 40)) (aN))))) (pB bSub (pC (.int 1)) (pB bMul (pC (.int 2)) (pCall sp_law_draw (aC (pV 0) (aC (pC (.int 2)) (aN)))))))))))
  (sNx))
  (sCut (sIf (qV (pB cEq (pD 1) (pC (.int 4))))
  (sSeq (sSet 6 (pB bAdd (pC (.int 2)) (pB bMod (pD 3) (pC (.int 4)))))
  (sSet 4 (pB bDiv (pB bMul (pB bDiv (pB bSub (pB bShl (pC (.int 1)) (pB bMul (pD 6) (pB bDiv (pD 2) (pD 6)))) (pC (.int 1))) (pB bSub (pB bShl (pC (.int 1)) (pD 6)) (pC (.int 1)))) (pB bIx (pLst (aC (pC (.int 1)) (aC (pC (.int 3)) (aC (pC (.int 3)) (aC (pC (.int 11)) (aN)))))) (pB bMod (pB bDiv (pD 3) (pC (.int 4))) (pC (.int 4))))) (pC (.int 8)))))
  (sNx))
  (sCut (sIf (qV (pB cEq (pD 1) (pC (.int 5))))
  (sSet 4 (pB bMul (pB bAdd (pB bShl (pC (.int 1)) (pB bDiv (pD 2) (pC (.int 2)))) (pC (.int 1))) (pB bSub (pB bShl (pC (.int 1)) (pB bMod (pD 3) (pC (.int 40)))) (pC (.int 1)))))
  (sNx))
  (sCut (sIf (qV (pB cEq (pD 1) (pC (.int 6))))
  (sSet 4 (pCall sp_law_any (aC (pV 0) (aC (pD 2) (aN)))))
  (sNx))
  (sCut (sIf (qV (pB cEq (pD 1) (pC (.int 7))))
  (sSet 4 (pB bSub (pB bSub (pB bMul (pC (.int 4)) (pB bPow (pC (.int 10)) (pC (.int 59)))) (pC (.int 1))) (pD 3)))
  (sNx))
  (sRet (pB bMul (pD 4) (pB bSub (pC (.int 1)) (pB bMul (pC (.int 2)) (pCall sp_law_draw (aC (pV 0) (aC (pC (.int 2)) (aN))))))))))))))))))
def sp_law_number : FSp := fun ts K => ∃ (g a : Int) (ns : List Int), ts = [penD g a ns] ∧ 0 ≤ g ∧ 0 ≤ a ∧ a ≤ 2 ^ 29 ∧ ∀ r g' a', LB 450 r → 0 ≤ g' → a ≤ a' → a' ≤ a + 100 → K (.p (.int r)) [some (penD g' a' ns)]
def Wn (ns : List Int) (a : Int) (q0 q1 q2 : Int) (n : Int) : Sl → Prop := fun S => ∃ (g a1 z : Int) (k5 k6 : Option T), 0 ≤ g ∧ a ≤ a1 ∧ a1 ≤ a + n ∧ LB 440 z ∧ S = [some (penD g a1 ns), some (.p (.int q0)), some (.p (.int q1)), some (.p (.int q2)), some (.p (.int z)), k5, k6]
theorem v_law_number (ts : List T) (K : T → List (Option T) → Prop) (h : sp_law_number ts K) : ts.length = 1 ∧ b_law_number (endsOf [true] ts K) (PL.start 7 ts) := by
  obtain ⟨g, a, ns, rfl, hg, ha, ha', k⟩ := h
  refine ⟨rfl, ?_⟩
  walk_at "s"
  refine ⟨_, _, _, _, rfl, by omega, by omega, by omega, by omega, by omega, fun r0 g0 a0 r0l r0h g0l a0l a0h => ?_⟩
  walk_at "s"
  refine ⟨_, _, _, _, rfl, by omega, by omega, by omega, by omega, by omega, fun r1 g1 a1 r1l r1h g1l a1l a1h => ?_⟩
  walk_at "s"
  refine ⟨_, _, _, _, rfl, by omega, by omega, by omega, by omega, by omega, fun r2 g2 a2 r2l r2h g2l a2l a2h => ?_⟩
  walk_at "s"
  refine ⟨Wn ns a r0 r1 r2 3, ?_, ?_⟩
  · walk_at "s"
    refine ⟨fun h => ?_, fun h => ?_⟩
    · walk_at "s"
      refine ⟨shlS 2 (by decide) (by omega) (by omega), ?_⟩
      walk_at "s"
      refine ⟨_, _, _, _, _, g2l, by omega, by omega, ?_, rfl⟩
      rw [Int.one_mul]
      exact (LB.pow _).mono (by omega)
    · exact ⟨_, _, _, _, _, g2l, by omega, by omega, LB.of (by omega), rfl⟩
  rintro S ⟨g3, a3, z3, k5, k6, hg3, ha3, ha3', hz3, rfl⟩
  walk_at "s"
  refine ⟨Wn ns a r0 r1 r2 3, ?_, ?_⟩
  · walk_at "s"
    refine ⟨fun h => ?_, fun h => ?_⟩
    · walk_at "s"
      refine ⟨shlS 2 (by decide) (by omega) (by omega), ?_⟩
      walk_at "s"
      refine ⟨by omega, ?_⟩
      walk_at "s"
      have m1 := Int.emod_nonneg r2 (show r1 + 1 ≠ 0 by omega)
      have m2 := Int.emod_lt_of_pos r2 (show 0 < r1 + 1 by omega)
      refine ⟨shlS 2 (by decide) m1 (by omega), ?_⟩
      walk_at "s"
      refine ⟨_, _, _, _, _, hg3, by omega, by omega, ?_, rfl⟩
      rw [Int.one_mul, Int.one_mul]
      exact ((LB.pow _).mono (show r1.toNat + 1 ≤ 400 by omega)).sub ((LB.pow _).mono (show (r2 % (r1 + 1)).toNat + 1 ≤ 400 by omega))
    · exact ⟨_, _, _, _, _, hg3, by omega, by omega, hz3, rfl⟩
  rintro S ⟨g4, a4, z4, k5, k6, hg4, ha4, ha4', hz4, rfl⟩
  walk_at "s"
  refine ⟨Wn ns a r0 r1 r2 20, ?_, ?_⟩
  · walk_at "s"
    refine ⟨fun h => ?_, fun h => ?_⟩
    · walk_at "s"
      refine ⟨by decide, ?_⟩
      walk_at "s"
      refine ⟨by omega, ?_⟩
      walk_at "s"
      refine ⟨fun i S => ∃ (g a1 z : Int) (k5 k6 : Option T), 0 ≤ g ∧ a ≤ a1 ∧ a1 ≤ a + 3 + 2 * i ∧ LB (100 + i) z ∧ S = [some (penD g a1 ns), some (.p (.int r0)), some (.p (.int r1)), some (.p (.int r2)), some (.p (.int z)), k5, k6], ?_, ?_, ?_⟩
      · exact ⟨_, _, _, _, _, hg4, by omega, by omega, LB.of (by decide), rfl⟩
      · rintro i d S hd ⟨g5, a5, z5, k5, k6, hg5, ha5, ha5', hz5, rfl⟩
        obtain ⟨rfl, hi⟩ := rng_at hd
        walk_at "s"
        refine ⟨_, _, _, _, rfl, by omega, by omega, by omega, by omega, by omega, fun r6 g6 a6 r6l r6h g6l a6l a6h => ?_⟩
        walk_at "s"
        refine ⟨shlS 2 (by decide) (by omega) (by omega), ?_⟩
        walk_at "s"
        refine ⟨_, _, _, _, rfl, by omega, by omega, by omega, by omega, by omega, fun r7 g7 a7 r7l r7h g7l a7l a7h => ?_⟩
        walk_at "s"
        refine ⟨mulS 3 4 (by decide) (by omega), ?_⟩
        walk_at "s"
        rw [Int.one_mul]
        have l1 : LB 45 ((2 : Int) ^ r6.toNat) := (LB.pow _).mono (by omega)
        have l2 : LB 4 (1 - 2 * r7) := LB.of (by omega)
        refine ⟨l1.mulOk l2, ?_⟩
        walk_at "s"
        exact ⟨_, _, _, _, _, g7l, by omega, by push_cast; omega, hz5.add (l1.mul l2), rfl⟩
      · rintro S ⟨g5, a5, z5, k5, k6, hg5, ha5, ha5', hz5, rfl⟩
        rw [rng_len] at ha5' hz5
        have := Int.emod_lt_of_pos r2 (show (0 : Int) < 7 by decide)
        exact ⟨_, _, _, _, _, hg5, by omega, by omega, hz5.mono (by omega), rfl⟩
    · exact ⟨_, _, _, _, _, hg4, by omega, by omega, hz4, rfl⟩
  rintro S ⟨g8, a8, z8, k5, k6, hg8, ha8, ha8', hz8, rfl⟩
  walk_at "s"
  refine ⟨Wn ns a r0 r1 r2 20, ?_, ?_⟩
  · walk_at "s"
    refine ⟨fun h => ?_, fun h => ?_⟩
    · walk_at "s"
      refine ⟨by decide, ?_⟩
      have h0 := Int.emod_nonneg r2 (show (4 : Int) ≠ 0 by decide)
      have h1 := Int.emod_lt_of_pos r2 (show (0 : Int) < 4 by decide)
      walk_at "s"
      generalize hs : 2 + r2 % 4 = sz
      have hs1 : 2 ≤ sz ∧ sz ≤ 5 := by omega
      have p1 : 4 ≤ (2 : Int) ^ sz.toNat ∧ (2 : Int) ^ sz.toNat ≤ 32 := by
        have : sz = 2 ∨ sz = 3 ∨ sz = 4 ∨ sz = 5 := by omega
        rcases this with rfl | rfl | rfl | rfl <;> decide
      have d0 := Int.ediv_nonneg r1l (show 0 ≤ sz by omega)
      have d1 : sz * (r1 / sz) ≤ r1 := Int.mul_ediv_self_le (by omega)
      have d2 : 0 ≤ sz * (r1 / sz) := Int.mul_nonneg (by omega) d0
      have d3 : r1 / sz ≤ r1 := Int.ediv_le_self _ r1l
      walk_at "s"
      refine ⟨divS 4 (by omega) (by omega), ?_⟩
      walk_at "s"
      refine ⟨mulS 4 10 (by omega) (by omega), ?_⟩
      walk_at "s"
      refine ⟨shlS 2 (by decide) d2 (by omega), ?_⟩
      walk_at "s"
      refine ⟨shlS 2 (by decide) (by omega) (by omega), ?_⟩
      walk_at "s"
      rw [Int.one_mul, Int.one_mul]
      refine ⟨divS 6 (by omega) (by omega), ?_⟩
      walk_at "s"
      refine ⟨divS 4 (by decide) (by decide), ?_⟩
      walk_at "s"
      refine ⟨by decide, ?_⟩
      walk_at "s"
      obtain ⟨c, hc, _, hc'⟩ := ints_at (ns := [1, 3, 3, 11]) (i := r2 / 4 % 4) (by omega) (by simp only [List.length_cons, List.length_nil]; omega)
      refine ⟨_, hc', ?_⟩
      have hc : 1 ≤ c ∧ c ≤ 11 := by
        simp only [List.mem_cons, List.not_mem_nil, or_false] at hc
        omega
      have l1 : LB 400 (((2 : Int) ^ (sz * (r1 / sz)).toNat - 1) / (2 ^ sz.toNat - 1)) := by
        have q1 : LB 399 ((2 : Int) ^ (sz * (r1 / sz)).toNat) := (LB.pow _).mono (by omega)
        have q2 := q1.to
        have q3 := pow2_pos (sz * (r1 / sz)).toNat
        have q4 := Int.ediv_nonneg (a := (2 : Int) ^ (sz * (r1 / sz)).toNat - 1) (b := 2 ^ sz.toNat - 1) (by omega) (by omega)
        have q5 := Int.ediv_le_self (a := (2 : Int) ^ (sz * (r1 / sz)).toNat - 1) (2 ^ sz.toNat - 1) (by omega)
        exact LB.of (by omega)
      walk_at "s"
      refine ⟨l1.mulOk (b := 5) (LB.of (by omega)), ?_⟩
      walk_at "s"
      refine ⟨divS 5 (by decide) (by decide), ?_⟩
      walk_at "s"
      refine ⟨_, _, _, _, _, hg8, by omega, by omega, ?_, rfl⟩
      have l2 := (l1.mul (b := 5) (y := c) (LB.of (by omega))).ediv (k := 3)
      exact l2.mono (by omega)
    · exact ⟨_, _, _, _, _, hg8, by omega, by omega, hz8, rfl⟩
  rintro S ⟨g9, a9, z9, k5, k6, hg9, ha9, ha9', hz9, rfl⟩
  walk_at "s"
  refine ⟨Wn ns a r0 r1 r2 20, ?_, ?_⟩
  · walk_at "s"
    refine ⟨fun h => ?_, fun h => ?_⟩
    · walk_at "s"
      refine ⟨divS 4 (by decide) (by decide), ?_⟩
      walk_at "s"
      refine ⟨shlS 2 (by decide) (by omega) (by omega), ?_⟩
      walk_at "s"
      refine ⟨by decide, ?_⟩
      walk_at "s"
      refine ⟨shlS 2 (by decide) (by omega) (by omega), ?_⟩
      walk_at "s"
      rw [Int.one_mul, Int.one_mul]
      have l1 : LB 101 ((2 : Int) ^ (r1 / 2).toNat + 1) := ((LB.pow _).mono (show (r1 / 2).toNat + 1 ≤ 100 by omega)).add (b := 2) (LB.of (by decide))
      have l2 : LB 101 ((2 : Int) ^ (r2 % 40).toNat - 1) := ((LB.pow _).mono (show (r2 % 40).toNat + 1 ≤ 100 by omega)).sub (b := 2) (LB.of (by decide))
      refine ⟨l1.mulOk l2, ?_⟩
      walk_at "s"
      exact ⟨_, _, _, _, _, hg9, by omega, by omega, (l1.mul l2).mono (by omega), rfl⟩
    · exact ⟨_, _, _, _, _, hg9, by omega, by omega, hz9, rfl⟩
  rintro S ⟨g10, a10, z10, k5, k6, hg10, ha10, ha10', hz10, rfl⟩
  walk_at "s"
  refine ⟨Wn ns a r0 r1 r2 70, ?_, ?_⟩
  · walk_at "s"
    refine ⟨fun h => ?_, fun h => ?_⟩
    · walk_at "s"
      refine ⟨_, _, _, _, rfl, hg10, by omega, by omega, by omega, by omega, fun r g' a' b1 b2 b3 b4 => ?_⟩
      walk_at "s"
      exact ⟨_, _, _, _, _, b2, by omega, by omega, b1.mono (by decide), rfl⟩
    · exact ⟨_, _, _, _, _, hg10, by omega, by omega, hz10, rfl⟩
  rintro S ⟨g11, a11, z11, k5, k6, hg11, ha11, ha11', hz11, rfl⟩
  walk_at "s"
  refine ⟨Wn ns a r0 r1 r2 70, ?_, ?_⟩
  · walk_at "s"
    refine ⟨fun h => ?_, fun h => ?_⟩
    · walk_at "s"
      refine ⟨powS (by decide) (by decide), ?_⟩
      walk_at "s"
      refine ⟨mulS 4 200 (by decide) (by decide), ?_⟩
      walk_at "s"
      exact ⟨_, _, _, _, _, hg11, by omega, by omega, LB.of (by omega), rfl⟩
    · exact ⟨_, _, _, _, _, hg11, by omega, by omega, hz11, rfl⟩
  rintro S ⟨g12, a12, z12, k5, k6, hg12, ha12, ha12', hz12, rfl⟩
  walk_at "s"
  refine ⟨_, _, _, _, rfl, by omega, by omega, by omega, by omega, by omega, fun r13 g13 a13 r13l r13h g13l a13l a13h => ?_⟩
  walk_at "s"
  refine ⟨mulS 3 4 (by decide) (by omega), ?_⟩
  walk_at "s"
  have l2 : LB 4 (1 - 2 * r13) := LB.of (by omega)
  refine ⟨hz12.mulOk l2, ?_⟩
  walk_at "s"
  exact k _ _ _ ((hz12.mul l2).mono (by decide)) g13l (by omega) (by omega)
def b_law_whole : PTS := sRet (pAndV (pU (uIsi "int") (pD 0)) (pNotV (pU (uIsi "bool") (pD 0))))
def sp_law_whole : FSp := fun ts K => ∃ x0 : Int, ts = [.p (.int x0)] ∧ K (.p (.bool true)) [some (.p (.int x0))]
theorem v_law_whole (ts : List T) (K : T → List (Option T) → Prop) (h : sp_law_whole ts K) : ts.length = 1 ∧ b_law_whole (endsOf [true] ts K) (PL.start 1 ts) := by
  obtain ⟨x, rfl, k⟩ := h
  refine ⟨rfl, ?_⟩
  walk_at "s"
  exact k
def b_law_signs : PTS := sSeq (sSet 1 (pU uAbs (pD 0)))
  (sSeq (sSet 2 (pLst (aN)))
  (sSeq (sSet 3 (pC (.int 1)))
  (sSeq (sWh (qV (pB cGt (pB bShr (pB bMul (pC (.int 3)) (pD 1)) (pD 3)) (pC (.int 0))))
  (sSeq (sDrop (pMeth lAppend (pV 2) (aC (pB bSub (pB bAnd (pB bShr (pB bMul (pC (.int 3)) (pD 1)) (pD 3)) (pC (.int 1))) (pB bAnd (pB bShr (pD 1) (pD 3)) (pC (.int 1)))) aN)))
  (sSet 3 (pB bAdd (pD 3) (pC (.int 1))))))
  (sCut (sIf (qV (pB cLt (pD 0) (pC (.int 0))))
  (sSet 2 (pLcO 2 (gN 4) (qYes) (pB bSub (pC (.int 0)) (pD 4)) [4]))
  (sNx))
  (sRet (pM 2))))))
def sp_law_signs : FSp := fun ts K => ∃ x : Int, ts = [.p (.int x)] ∧ LB 500 x ∧ K (.ol ((naf x).map .int)) [some (.p (.int x))]
theorem v_law_signs (ts : List T) (K : T → List (Option T) → Prop) (h : sp_law_signs ts K) : ts.length = 1 ∧ b_law_signs (endsOf [true] ts K) (PL.start 5 ts) := by
  obtain ⟨x, rfl, hx, k⟩ := h
  refine ⟨rfl, ?_⟩
  have hlen := naf_len' hx
  obtain ⟨a, ha⟩ : ∃ a : Int, a = (if x < 0 then -x else x) := ⟨_, rfl⟩
  have ha0 : 0 ≤ a := by rw [ha]; split <;> omega
  have hla : LB 500 a := by
    have := hx.to
    exact LB.of (by rw [ha]; split <;> omega)
  have hlen' := naf_len' hla
  walk_at "s"
  rw [← ha]
  refine ⟨fun m S => ∃ (j : Nat) (l : List Int) (k4 : Option T), (3 * a / 2 ^ (j + 1) - a / 2 ^ (j + 1)).natAbs = m ∧ l ++ naf (3 * a / 2 ^ (j + 1) - a / 2 ^ (j + 1)) = naf a ∧ S = [some (.p (.int x)), some (.p (.int a)), some (.ol (l.map .int)), some (.p (.int (j + 1))), k4], ?_, ?_⟩
  · refine ⟨_, 0, [], none, rfl, ?_, rfl⟩
    rw [List.nil_append]
    congr 1
    omega
  rintro m S ⟨j, l, k4, hm, hl, rfl⟩
  have hT0 : 0 ≤ 3 * a / 2 ^ (j + 1) := Int.ediv_nonneg (by omega) (by have := pow2_pos (j + 1); omega)
  have hA0 : 0 ≤ a / 2 ^ (j + 1) := Int.ediv_nonneg (by omega) (by have := pow2_pos (j + 1); omega)
  have hj : ((j : Int) + 1).toNat = j + 1 := by omega
  walk_at "s"
  refine ⟨LB.mulOk (a := 3) (LB.of (by decide)) hla, ?_⟩
  walk_at "s"
  refine ⟨by omega, ?_⟩
  walk_at "s"
  rw [hj]
  refine ⟨fun h => ?_, fun h => ?_⟩
  · have h := dT h
    have hne : 3 * a / 2 ^ (j + 1) - a / 2 ^ (j + 1) ≠ 0 := fun z => (naf_bits_zero ha0 (j + 1)).mp z h
    rw [naf_step hne] at hl
    obtain ⟨st1, st2⟩ := naf_bits_step ha0 (j + 1)
    have hll : l.length < (naf a).length := by rw [← hl, List.length_append, List.length_cons]; omega
    walk_at "s"
    refine ⟨LB.mulOk (a := 3) (LB.of (by decide)) hla, ?_⟩
    walk_at "s"
    refine ⟨by omega, ?_⟩
    walk_at "s"
    refine ⟨by omega, ?_⟩
    walk_at "s"
    rw [hj, bitAnd_one hT0, bitAnd_one hA0, ← st1]
    refine ⟨by rw [List.length_map]; have : (1000 : Nat) < sizeLine := by decide
               omega, ?_⟩
    walk_at "s"
    refine ⟨_, by rw [← hm, ← st2]; exact dig_half hne, j + 1, l ++ [dig (3 * a / 2 ^ (j + 1) - a / 2 ^ (j + 1))], k4, rfl, ?_, ?_⟩
    · rw [← st2, List.append_assoc]; exact hl
    · rw [List.map_append]
      rfl
  · have h := dF h
    have h0 := (naf_bits_zero ha0 (j + 1)).mpr h
    rw [h0, naf_zero, List.append_nil] at hl
    subst hl
    walk_at "s"
    refine ⟨fun S => ∃ (k1 k3 k4 : Option T), S = [some (.p (.int x)), k1, some (.ol ((naf x).map .int)), k3, k4], ?_, ?_⟩
    · walk_at "s"
      refine ⟨fun q => ?_, fun q => ?_⟩
      · have q := dT q
        have ex : naf x = (naf a).map fun d => 0 - d := by
          rw [← naf_neg]; congr 1; rw [ha, if_pos q]; omega
        walk_at "s"
        refine ⟨fun i acc S => acc = ((naf a).take i).map (fun z => PyData.int (0 - z)) ∧ S = [some (.p (.int x)), some (.p (.int a)), none, some (.p (.int (j + 1))), none], ⟨rfl, rfl⟩, ?_, ?_⟩
        · rintro i d acc S hd ⟨rfl, rfl⟩
          rw [List.getElem?_map] at hd
          obtain ⟨z, hz, rfl⟩ := Option.map_eq_some_iff.mp hd
          walk_at "s"
          refine ⟨by rw [List.length_map, List.length_take]; have : (1000 : Nat) < sizeLine := by decide
                     omega, ?_, rfl⟩
          rw [List.take_succ, hz, List.map_append]
          rfl
        · rintro acc S ⟨rfl, rfl⟩
          rw [List.length_map, List.take_length, show (naf a).map (fun z => PyData.int (0 - z)) = (naf x).map PyData.int by rw [ex, List.map_map]; rfl]
          walk_at "s"
          exact ⟨_, _, _, rfl⟩
      · have q := dF q
        have ex : a = x := by rw [ha, if_neg q]
        rw [ex]
        exact ⟨_, _, _, rfl⟩
    · rintro S ⟨k1, k3, k4, rfl⟩
      walk_at "s"
      exact k
def b_law_least : PTS := sRet (pU uLen (pLc (iLs (pFz (pCall sp_law_signs (aC (pD 0) (aN))))) (gN 1) (qV (pB cNe (pD 1) (pC (.int 0)))) (pD 1) [1]))
def sp_law_least : FSp := fun ts K => ∃ x : Int, ts = [.p (.int x)] ∧ LB 500 x ∧ K (.p (.int (wt x))) [some (.p (.int x))]
theorem v_law_least (ts : List T) (K : T → List (Option T) → Prop) (h : sp_law_least ts K) : ts.length = 1 ∧ b_law_least (endsOf [true] ts K) (PL.start 2 ts) := by
  obtain ⟨x, rfl, hx, k⟩ := h
  refine ⟨rfl, ?_⟩
  have hlen := naf_len' hx
  have hl : ((naf x).map PyData.int).length ≤ 1000000 := by rw [len_im]; omega
  walk_at "s"
  refine ⟨hx, ?_⟩
  walk_at "s"
  refine ⟨WF fnz ((naf x).map .int) [some (.p (.int x)), none], ⟨rfl, rfl⟩, ?_, ?_⟩
  · rintro i d acc S hd ⟨rfl, rfl⟩
    obtain ⟨z, hz, rfl⟩ := Option.map_eq_some_iff.mp (List.getElem?_map .. ▸ hd)
    walk_at "s"
    refine ⟨fun q => ?_, fun q => ?_⟩
    · walk_at "s"
      exact wf_some hl hd (by simp only [fnz, if_neg (neT q)])
    · exact wf_none hd (by simp only [fnz, if_pos (neF q)])
  · rintro acc S hW
    obtain ⟨rfl, rfl⟩ := wf_end hW
    walk_at "s"
    rw [fnz_len]
    exact k
end PL.U

--@ T k13
--@ norm
set_option Elab.async false
set_option linter.all false
set_option maxRecDepth 100000
set_option maxHeartbeats 4000000
set_option autoImplicit false
/-! webs: rows of numbers, deeds, outs -/
namespace PL.V
open PySem L2 PL
abbrev Row := List Int
def rowD (r : Row) : PyData := .tuple (r.map .int)
def toldD (rows : List Row) : PyData := .list (rows.map rowD)
def shI (h x : Int) : Int := if 0 ≤ h then x * 2 ^ h.toNat else x / 2 ^ (-h).toNat
def okI (h x : Int) : Prop := 0 ≤ h ∨ x % 2 ^ (-h).toNat = 0
theorem shfD_ok {h x : Int} (k : okI h x) : shfD x h = .int (shI h x) := by
  unfold shfD shI
  by_cases h0 : 0 ≤ h
  · rw [if_pos h0, if_pos h0]
  · rw [if_neg h0, if_neg h0, if_pos (k.resolve_left h0)]
theorem shI_LB {h x : Int} {B : Nat} (hx : LB B x) : LB (B + h.toNat + 1) (shI h x) := by
  unfold shI
  by_cases h0 : 0 ≤ h
  · rw [if_pos h0]; exact (hx.mul (LB.pow _)).mono (by omega)
  · rw [if_neg h0]; exact hx.ediv.mono (by omega)
structure Deed where
  sm : Bool
  a : Nat
  s : Int
  b : Nat
  t : Int
def wordS (sm : Bool) : Str := match sm with
  | true => "sum"
  | false => "less"
def Deed.dat (d : Deed) : PyData := .tuple [.str (wordS d.sm), .int d.a, .int d.s, .int d.b, .int d.t]
def comb (sm : Bool) (x y : Int) : Int := match sm with
  | true => x + y
  | false => x - y
def rowAt (rows : List Row) (i : Nat) : Row := rows.getD i []
def Deed.row (rows : List Row) (d : Deed) : Row := List.zipWith (comb d.sm) ((rowAt rows d.a).map (shI d.s)) ((rowAt rows d.b).map (shI d.t))
def unitsL (n : Nat) : List Row := (List.range n).map fun (i : Nat) => (List.range n).map fun (k : Nat) => if (k : Int) = (i : Int) then 1 else 0
def rowsFrom (rows : List Row) (ds : List Deed) : List Row := ds.foldl (fun rows d => rows ++ [d.row rows]) rows
def rowsOf (n : Nat) (ds : List Deed) : List Row := rowsFrom (unitsL n) ds
structure Deed.Ok (rows : List Row) (d : Deed) : Prop where
  a : d.a < rows.length
  b : d.b < rows.length
  s1 : -4000 ≤ d.s
  s2 : d.s ≤ 4000
  t1 : -4000 ≤ d.t
  t2 : d.t ≤ 4000
  oa : ∀ x ∈ rowAt rows d.a, okI d.s x
  ob : ∀ x ∈ rowAt rows d.b, okI d.t x
/-- each deed right by what stands ahead of it -/
def Valid (n : Nat) (ds : List Deed) : Prop := ∀ (k : Nat) (d : Deed), ds[k]? = some d → d.Ok (rowsOf n (ds.take k))
/-- rows of n numbers within bounds -/
def RB (n B : Nat) (rows : List Row) : Prop := ∀ r ∈ rows, r.length = n ∧ ∀ x ∈ r, LB B x
theorem rowAt_get {rows : List Row} {i : Nat} (h : i < rows.length) : rows[i]? = some (rowAt rows i) := by
  unfold rowAt
  rw [List.getD_eq_getElem?_getD, List.getElem?_eq_getElem h]; rfl
theorem rowAt_mem {rows : List Row} {i : Nat} (h : i < rows.length) : rowAt rows i ∈ rows := List.mem_of_getElem? (rowAt_get h)
theorem rowsFrom_snoc (rows : List Row) (ds : List Deed) (d : Deed) : rowsFrom rows (ds ++ [d]) = rowsFrom rows ds ++ [d.row (rowsFrom rows ds)] := by
  unfold rowsFrom; rw [List.foldl_append]; rfl
theorem rowsFrom_len (rows : List Row) (ds : List Deed) : (rowsFrom rows ds).length = rows.length + ds.length := by
  induction ds generalizing rows with
  | nil => rfl
  | cons d ds ih =>
    show (rowsFrom (rows ++ [d.row rows]) ds).length = _
    rw [ih, List.length_append, List.length_cons, List.length_cons, List.length_nil]; omega
theorem unitsL_len (n : Nat) : (unitsL n).length = n := by unfold unitsL; simp
theorem rowsOf_len (n : Nat) (ds : List Deed) : (rowsOf n ds).length = n + ds.length := by unfold rowsOf; rw [rowsFrom_len, unitsL_len]
theorem rowsOf_snoc (n : Nat) (ds : List Deed) (d : Deed) : rowsOf n (ds ++ [d]) = rowsOf n ds ++ [d.row (rowsOf n ds)] := rowsFrom_snoc _ _ _
theorem unitsL_RB (n : Nat) : RB n 2 (unitsL n) := by
  intro r hr
  unfold unitsL at hr
  obtain ⟨i, _, rfl⟩ := List.mem_map.mp hr
  refine ⟨by simp, fun x hx => ?_⟩
  obtain ⟨k, _, rfl⟩ := List.mem_map.mp hx
  split <;> exact LB.of (by decide)
theorem RB.mono {n B B' : Nat} {rows : List Row} (h : RB n B rows) (l : B ≤ B') : RB n B' rows := fun r hr => ⟨(h r hr).1, fun x hx => ((h r hr).2 x hx).mono l⟩
theorem RB.snoc {n B : Nat} {rows : List Row} {r : Row} (h : RB n B rows) (hl : r.length = n) (hr : ∀ x ∈ r, LB B x) : RB n B (rows ++ [r]) := fun q hq => by
  rcases List.mem_append.mp hq with hq | hq
  · exact h q hq
  · rw [List.mem_singleton.mp hq]; exact ⟨hl, hr⟩
/-- a list of deeds whose shifts are at most 50 up: bits -/
theorem Deed.row_len {n B : Nat} {rows : List Row} {d : Deed} (h : RB n B rows) (o : d.Ok rows) : (d.row rows).length = n := by
  unfold Deed.row
  rw [List.length_zipWith, List.length_map, List.length_map, (h _ (rowAt_mem o.a)).1, (h _ (rowAt_mem o.b)).1, Nat.min_self]
theorem Deed.row_LB {n B M : Nat} {rows : List Row} {d : Deed} (h : RB n B rows) (o : d.Ok rows) (hs : d.s ≤ M) (ht : d.t ≤ M) : ∀ x ∈ d.row rows, LB (B + M + 2) x := by
  intro x hx
  unfold Deed.row at hx
  rw [List.mem_iff_getElem?] at hx
  obtain ⟨i, hi⟩ := hx
  rw [List.getElem?_zipWith] at hi
  cases e1 : ((rowAt rows d.a).map (shI d.s))[i]? with
  | none => rw [e1] at hi; cases hi
  | some y =>
    cases e2 : ((rowAt rows d.b).map (shI d.t))[i]? with
    | none => rw [e1, e2] at hi; cases hi
    | some z =>
      rw [e1, e2] at hi
      cases hi
      rw [List.getElem?_map] at e1 e2
      obtain ⟨y0, hy, rfl⟩ := Option.map_eq_some_iff.mp e1
      obtain ⟨z0, hz, rfl⟩ := Option.map_eq_some_iff.mp e2
      have h1 := shI_LB (h := d.s) ((h _ (rowAt_mem o.a)).2 y0 (List.mem_of_getElem? hy))
      have h2 := shI_LB (h := d.t) ((h _ (rowAt_mem o.b)).2 z0 (List.mem_of_getElem? hz))
      have h1 : LB (B + M + 1) (shI d.s y0) := h1.mono (by omega)
      have h2 : LB (B + M + 1) (shI d.t z0) := h2.mono (by omega)
      unfold comb
      cases d.sm with
      | true => exact h1.add h2
      | false => exact h1.sub h2
theorem Valid.take {n : Nat} {ds : List Deed} (h : Valid n ds) (j : Nat) : Valid n (ds.take j) := fun k d hk => by
  rw [List.getElem?_take] at hk
  split at hk
  · next hlt =>
    have := h k d hk
    rw [List.take_take, Nat.min_eq_left (Nat.le_of_lt hlt)]; exact this
  · cases hk
theorem Valid.RB {n M : Nat} {ds : List Deed} (h : Valid n ds) (hs : ∀ d ∈ ds, d.s ≤ M ∧ d.t ≤ M) : RB n (2 + (M + 2) * ds.length) (rowsOf n ds) := by
  suffices key : ∀ j, j ≤ ds.length → V.RB n (2 + (M + 2) * j) (rowsOf n (ds.take j)) by
    have := key ds.length (Nat.le_refl _)
    rwa [List.take_length] at this
  intro j
  induction j with
  | zero => intro _; exact unitsL_RB n
  | succ j ih =>
    intro hj
    have ih := ih (by omega)
    have hd : ds[j]? = some ds[j] := List.getElem?_eq_getElem (by omega)
    have ok := h j _ hd
    have hm := hs _ (List.mem_of_getElem? hd)
    rw [List.take_succ, hd]
    show V.RB n _ (rowsOf n (ds.take j ++ [ds[j]]))
    rw [rowsOf_snoc]
    refine (ih.mono (by rw [Nat.mul_succ]; omega)).snoc (Deed.row_len ih ok) fun x hx => (Deed.row_LB ih ok hm.1 hm.2 x hx).mono (by rw [Nat.mul_succ]; omega)
structure Out where
  th : Nat
  sh : Int
  sg : Int
def Out.dat (o : Out) : PyData := .tuple [.int o.th, .int o.sh, .int o.sg]
def Out.row (rows : List Row) (o : Out) : Row := if o.sg = 0 then (rowAt rows 0).map fun _ => 0 else (rowAt rows o.th).map fun x => o.sg * shI o.sh x
structure Out.Ok (rows : List Row) (o : Out) : Prop where
  th : o.th < rows.length
  s1 : -4000 ≤ o.sh
  s2 : o.sh ≤ 4000
  sg : o.sg = 0 ∨ o.sg = 1 ∨ o.sg = -1
  no : o.sg = 0 → o.th = 0 ∧ o.sh = 0
  ok : ∀ x ∈ rowAt rows o.th, okI o.sh x
def webD (n : Nat) (ds : List Deed) (os : List Out) : PyData := .tuple [.int n, .list (ds.map Deed.dat), .list (os.map Out.dat)]
theorem rowD_len (r : Row) : (r.map PyData.int).length = r.length := List.length_map ..

def b_is_whole : PTS := sRet (pAndV (pU (uIsi "int") (pD 0)) (pNotV (pU (uIsi "bool") (pD 0))))
def sp_is_whole : FSp := fun ts K => ∃ x0 : Int, ts = [.p (.int x0)] ∧ K (.p (.bool true)) [some (.p (.int x0))]
theorem v_is_whole (ts : List T) (K : T → List (Option T) → Prop) (h : sp_is_whole ts K) : ts.length = 1 ∧ b_is_whole (endsOf [true] ts K) (PL.start 1 ts) := by
  obtain ⟨x, rfl, k⟩ := h
  (refine ⟨rfl, ?_⟩; simp only [PL.start, List.map_cons, List.map_nil, List.length_cons, List.length_nil, Nat.reduceAdd, Nat.reduceSub, List.replicate_succ, List.replicate_zero, List.cons_append, List.nil_append])
  walk_at "sn"
  exact k
def b_shifted : PTS := sSeq (sIf (qV (pB cGe (pD 1) (pC (.int 0))))
  (sRet (pB bShl (pD 0) (pD 1)))
  (sNx))
  (sSeq (sIf (qV (pB cNe (pB bMod (pD 0) (pB bShl (pC (.int 1)) (pU uNeg (pD 1)))) (pC (.int 0))))
  (sRet (pC .none))
  (sNx))
  (sRet (pB bShr (pD 0) (pU uNeg (pD 1)))))
abbrev sp_shifted : FSp := spShifted
theorem v_shifted (ts : List T) (K : T → List (Option T) → Prop) (h : sp_shifted ts K) : ts.length = 2 ∧ b_shifted (endsOf [true, true] ts K) (PL.start 2 ts) := vShifted ts K h
def b_units : PTS := sRet (pLc (iR1 (pD 0)) (gN 1) (qYes) (pU uTuple (pLc (iR1 (pD 0)) (gN 2) (qYes) (pU uInt (pB cEq (pD 2) (pD 1))) [2])) [1])
def sp_units : FSp := fun ts K => ∃ n : Nat, ts = [.p (.int n)] ∧ n ≤ 100 ∧ K (.ol ((unitsL n).map rowD)) [some (.p (.int n))]
def fU (n : Nat) : PyData → PyData
  | .int i => rowD ((List.range n).map fun (k : Nat) => if (k : Int) = i then 1 else 0)
  | d => d
def fE (i : Int) : PyData → PyData
  | .int k => .int (if k = i then 1 else 0)
  | d => d
theorem rng_fU (n : Nat) : (rng 0 n).map (fU n) = (unitsL n).map rowD := by
  unfold rng unitsL
  rw [List.map_map, List.map_map, show ((n : Int) - 0).toNat = n by omega]
  apply List.map_congr_left
  intro i _
  show rowD _ = rowD _
  rw [Int.zero_add]
theorem rng_fE (n : Nat) (i : Int) : (rng 0 n).map (fE i) = ((List.range n).map fun (k : Nat) => if (k : Int) = i then (1 : Int) else 0).map PyData.int := by
  unfold rng
  rw [List.map_map, List.map_map, show ((n : Int) - 0).toNat = n by omega]
  apply List.map_congr_left
  intro k _
  show PyData.int _ = PyData.int _
  rw [Int.zero_add]
theorem v_units (ts : List T) (K : T → List (Option T) → Prop) (h : sp_units ts K) : ts.length = 1 ∧ b_units (endsOf [true] ts K) (PL.start 3 ts) := by
  obtain ⟨n, rfl, hn, k⟩ := h
  (refine ⟨rfl, ?_⟩; simp only [PL.start, List.map_cons, List.map_nil, List.length_cons, List.length_nil, Nat.reduceAdd, Nat.reduceSub, List.replicate_succ, List.replicate_zero, List.cons_append, List.nil_append])
  have hl : (rng 0 (n : Int)).length ≤ 1000000 := by rw [rng_len]; omega
  walk_at "sn"
  refine ⟨by omega, ?_⟩
  walk_at "sn"
  refine ⟨WM (fU n) (rng 0 n) [some (.p (.int n)), none, none], ⟨rfl, rfl⟩, ?_, ?_⟩
  · rintro i d acc S hd ⟨rfl, rfl⟩
    obtain ⟨rfl, hi⟩ := rng_at hd
    walk_at "sn"
    refine ⟨by omega, ?_⟩
    walk_at "sn"
    refine ⟨WM (fE (0 + (i : Int))) (rng 0 n) [some (.p (.int n)), some (.p (.int (0 + (i : Int)))), none], ⟨rfl, rfl⟩, ?_, ?_⟩
    · rintro j d acc S hj ⟨rfl, rfl⟩
      obtain ⟨rfl, hj'⟩ := rng_at hj
      walk_at "sn"
      have e : PyData.int (if (false ^^ decide (0 + (j : Int) = 0 + (i : Int))) = true then 1 else 0) = fE (0 + (i : Int)) (.int (0 + (j : Int))) := by
        unfold fE; simp
      rw [e]
      exact wm_step (f := fE (0 + (i : Int))) hl hj
    · rintro acc S hW
      obtain ⟨rfl, rfl⟩ := wm_end hW
      rw [rng_fE]
      walk_at "sn"
      exact wm_step (f := fU n) hl hd
  · rintro acc S hW
    obtain ⟨rfl, rfl⟩ := wm_end hW
    rw [rng_fU]
    walk_at "sn"
    exact k
def b_part_numbers : PTS := sSeq (sIfC (qOr (qNot (qV (pCall sp_is_whole (aC (pD 1) (aN))))) (qNot (qCh fLe fLt (pC (.int 0)) (pD 1) (pU uLen (pD 0)))))
  (sRet (pC .none))
  (sNx))
  (sSeq (sIfC (qOr (qNot (qV (pCall sp_is_whole (aC (pD 2) (aN))))) (qNot (qCh fLe fLe (pU uNeg (pC (.int 4000))) (pD 2) (pC (.int 4000)))))
  (sRet (pC .none))
  (sNx))
  (sSeq (sSet 3 (pFz (pLc (iSq (pB bIx (pD 0) (pD 1))) (gN 4) (qYes) (pCall sp_shifted (aC (pD 4) (aC (pD 2) (aN)))) [4])))
  (sSeq (sIf (qV (pB cIn (pC .none) (pD 3)))
  (sRet (pC .none))
  (sNx))
  (sRet (pU uTuple (pD 3))))))
def sp_part_numbers : FSp := fun ts K => ∃ (rows : List Row) (i : Nat) (h : Int), ts = [.p (toldD rows), .p (.int i), .p (.int h)] ∧ i < rows.length ∧ -4000 ≤ h ∧ h ≤ 4000 ∧ (∀ x ∈ rowAt rows i, okI h x ∧ LB 90000 x) ∧ (rowAt rows i).length ≤ 1000 ∧
  K (.p (rowD ((rowAt rows i).map (shI h)))) [some (.p (toldD rows)), some (.p (.int i)), some (.p (.int h))]
def fSh (h : Int) : PyData → PyData
  | .int x => .int (shI h x)
  | d => d
theorem fSh_map (h : Int) (l : Row) : (l.map PyData.int).map (fSh h) = (l.map (shI h)).map PyData.int := by rw [List.map_map, List.map_map]; rfl
theorem ints_no_none : ∀ l : Row, (l.map PyData.int).any (fun z => PyData.eqv z .none) = false
  | [] => rfl
  | x :: l => by rw [List.map_cons, List.any_cons, ints_no_none l]; rfl
theorem ints_flat : ∀ l : Row, (l.map PyData.int).all flatD = true
  | [] => rfl
  | x :: l => by rw [List.map_cons, List.all_cons, ints_flat l]; rfl
theorem told_at {rows : List Row} {i : Nat} (h : i < rows.length) : atI (rows.map rowD) (i : Int) = some (rowD (rowAt rows i)) := by
  unfold atI
  rw [Evl.ixN_nat (by rw [List.length_map]; exact h)]
  show (rows.map rowD)[i]? = _
  rw [List.getElem?_map, rowAt_get h]; rfl
theorem v_part_numbers (ts : List T) (K : T → List (Option T) → Prop) (h : sp_part_numbers ts K) : ts.length = 3 ∧ b_part_numbers (endsOf [true, true, true] ts K) (PL.start 5 ts) := by
  obtain ⟨rows, i, h, rfl, hi, h1, h2, hx, hl, k⟩ := h
  (refine ⟨rfl, ?_⟩; simp only [PL.start, List.map_cons, List.map_nil, List.length_cons, List.length_nil, Nat.reduceAdd, Nat.reduceSub, List.replicate_succ, List.replicate_zero, List.cons_append, List.nil_append])
  have hrl : (rows.map rowD).length = rows.length := List.length_map ..
  have hll : ((rowAt rows i).map PyData.int).length ≤ 1000000 := by rw [rowD_len]; omega
  walk_at "sn"
  refine ifC False True ?_ (fun h => h.elim) (fun _ => ?_)
  · walk_at "sn"
    rw [hrl, show fLt (i : Int) (rows.length : Int) = true from decide_eq_true (by omega)]
    walk_at "sn"
  walk_at "sn"
  refine ifC False True ?_ (fun h => h.elim) (fun _ => ?_)
  · walk_at "sn"
    refine ⟨fun q => ?_, fun q => absurd (dF q) (by omega)⟩
    walk_at "sn"
    rw [show fLe h 4000 = true from decide_eq_true (by omega)]
    walk_at "sn"
  walk_at "sn"
  refine ⟨_, told_at hi, ?_⟩
  walk_at "sn"
  refine ⟨WM (fSh h) ((rowAt rows i).map .int) [some (.p (toldD rows)), some (.p (.int i)), some (.p (.int h)), none, none], ⟨rfl, rfl⟩, ?_, ?_⟩
  · rintro j d acc S hd ⟨rfl, rfl⟩
    obtain ⟨x, hxj, rfl⟩ := Option.map_eq_some_iff.mp (List.getElem?_map .. ▸ hd)
    obtain ⟨o1, o2⟩ := hx x (List.mem_of_getElem? hxj)
    walk_at "sn"
    refine ⟨x, h, rfl, o2.mono (by decide), by omega, by omega, ?_⟩
    rw [shfD_ok o1]
    walk_at "sn"
    exact wm_step (f := fSh h) hll hd
  · rintro acc S hW
    obtain ⟨rfl, rfl⟩ := wm_end hW
    rw [fSh_map]
    walk_at "sn"
    refine ⟨by rw [ints_flat]; rfl, ?_⟩
    walk_at "sn"
    rw [ints_no_none]
    walk_at "sn"
    exact k
def b_deed_numbers : PTS := sSeq (sIfC (qOr (qNot (qV (pU (uIsi "tuple") (pD 1)))) (qV (pB cNe (pU uLen (pD 1)) (pC (.int 5)))))
  (sRet (pC .none))
  (sNx))
  (sSeq (sAsg (gTupP 5 (gConsP (gN 2) (gConsP (gN 3) (gConsP (gN 4) (gConsP (gN 5) (gConsP (gN 6) (gNilP))))))) (pD 1))
  (sSeq (sIfC (qOr (qNot (qV (pU (uIsi "str") (pD 2)))) (qV (pB cNi (pD 2) (pTup (aC (pC (.str "sum")) (aC (pC (.str "less")) (aN)))))))
  (sRet (pC .none))
  (sNx))
  (sSeq (sSet 7 (pCall sp_part_numbers (aC (pD 0) (aC (pD 3) (aC (pD 4) (aN))))))
  (sSeq (sSet 8 (pCall sp_part_numbers (aC (pD 0) (aC (pD 5) (aC (pD 6) (aN))))))
  (sSeq (sIfC (qOr (qV (pU (uIs .none false) (pD 7))) (qV (pU (uIs .none false) (pD 8))))
  (sRet (pC .none))
  (sNx))
  (sSeq (sIf (qV (pB cEq (pD 2) (pC (.str "sum"))))
  (sRet (pU uTuple (pLc (iZpA (pD 7) (pD 8)) (gTupP 2 (gConsP (gN 9) (gConsP (gN 10) (gNilP)))) (qYes) (pFz (pB bAdd (pD 9) (pD 10))) [9, 10])))
  (sNx))
  (sRet (pU uTuple (pLc (iZpA (pD 7) (pD 8)) (gTupP 2 (gConsP (gN 9) (gConsP (gN 10) (gNilP)))) (qYes) (pB bSub (pD 9) (pD 10)) [9, 10])))))))))
def sp_deed_numbers : FSp := fun ts K => ∃ (rows : List Row) (d : Deed) (n : Nat), ts = [.p (toldD rows), .p d.dat] ∧ d.Ok rows ∧ RB n 90000 rows ∧ n ≤ 1000 ∧
  K (.p (rowD (d.row rows))) [some (.p (toldD rows)), some (.p d.dat)]
def fCo (sm : Bool) : PyData → PyData
  | .tuple [.int x, .int y] => .int (comb sm x y)
  | d => d
theorem fCo_map (sm : Bool) (l r : Row) : (zipD (l.map PyData.int) (r.map PyData.int)).map (fCo sm) = (List.zipWith (comb sm) l r).map PyData.int := by
  unfold zipD
  induction l generalizing r with
  | nil => rfl
  | cons x l ih =>
    cases r with
    | nil => rfl
    | cons y r =>
      rw [List.map_cons, List.map_cons, List.zipWith_cons_cons, List.map_cons, List.zipWith_cons_cons, List.map_cons, ih r]
      rfl
theorem zip_int {l r : Row} {i : Nat} {d : PyData} (h : (zipD (l.map PyData.int) (r.map PyData.int))[i]? = some d) : ∃ x y, l[i]? = some x ∧ r[i]? = some y ∧ d = .tuple [.int x, .int y] := by
  obtain ⟨d', e', h1, h2, rfl⟩ := zipD_at h
  rw [List.getElem?_map] at h1 h2
  obtain ⟨x, h3, rfl⟩ := Option.map_eq_some_iff.mp h1
  obtain ⟨y, h4, rfl⟩ := Option.map_eq_some_iff.mp h2
  exact ⟨x, y, h3, h4, rfl⟩
theorem v_deed_numbers (ts : List T) (K : T → List (Option T) → Prop) (h : sp_deed_numbers ts K) : ts.length = 2 ∧ b_deed_numbers (endsOf [true, true] ts K) (PL.start 11 ts) := by
  obtain ⟨rows, ⟨sm, a, s, b, t⟩, n, rfl, ok, hrb, hn, k⟩ := h
  (refine ⟨rfl, ?_⟩; simp only [PL.start, List.map_cons, List.map_nil, List.length_cons, List.length_nil, Nat.reduceAdd, Nat.reduceSub, List.replicate_succ, List.replicate_zero, List.cons_append, List.nil_append])
  have ha := hrb _ (rowAt_mem ok.a)
  have hb := hrb _ (rowAt_mem ok.b)
  have hz : (zipD (((rowAt rows a).map (shI s)).map PyData.int) (((rowAt rows b).map (shI t)).map PyData.int)).length ≤ 1000000 := by
    rw [zipD_len, List.length_map, List.length_map]
    have := ha.1
    dsimp only at this
    omega
  walk_at "sn"
  refine ifC False True ?_ (fun h => h.elim) (fun _ => ?_)
  · walk_at "sn"
  walk_at "sn"
  refine ifC False True ?_ (fun h => h.elim) (fun _ => ?_)
  · walk_at "sn"
    cases sm
    · walk_at "sn"
    · walk_at "sn"
  walk_at "sn"
  refine ⟨rows, a, s, rfl, ok.a, ok.s1, ok.s2, fun x hx => ⟨ok.oa x hx, ha.2 x hx⟩, by rw [ha.1]; exact hn, ?_⟩
  walk_at "sn"
  refine ⟨rows, b, t, rfl, ok.b, ok.t1, ok.t2, fun x hx => ⟨ok.ob x hx, hb.2 x hx⟩, by rw [hb.1]; exact hn, ?_⟩
  walk_at "sn"
  refine ifC False True ?_ (fun h => h.elim) (fun _ => ?_)
  · walk_at "sn"
  cases sm
  · walk_at "sn"
    refine ⟨WM (fCo false) (zipD (((rowAt rows a).map (shI s)).map PyData.int) (((rowAt rows b).map (shI t)).map PyData.int)) [some (.p (toldD rows)), some (.p (Deed.dat ⟨false, a, s, b, t⟩)), some (.p (.str (wordS false))), some (.p (.int a)), some (.p (.int s)), some (.p (.int b)), some (.p (.int t)), some (.p (rowD ((rowAt rows a).map (shI s)))), some (.p (rowD ((rowAt rows b).map (shI t)))), none, none], ⟨rfl, rfl⟩, ?_, ?_⟩
    · rintro i d acc S hd ⟨rfl, rfl⟩
      obtain ⟨x, y, _, _, rfl⟩ := zip_int hd
      walk_at "sn"
      exact wm_step (f := fCo false) hz hd
    · rintro acc S hW
      obtain ⟨rfl, rfl⟩ := wm_end hW
      rw [fCo_map]
      walk_at "sn"
      exact k
  · walk_at "sn"
    refine ⟨WM (fCo true) (zipD (((rowAt rows a).map (shI s)).map PyData.int) (((rowAt rows b).map (shI t)).map PyData.int)) [some (.p (toldD rows)), some (.p (Deed.dat ⟨true, a, s, b, t⟩)), some (.p (.str (wordS true))), some (.p (.int a)), some (.p (.int s)), some (.p (.int b)), some (.p (.int t)), some (.p (rowD ((rowAt rows a).map (shI s)))), some (.p (rowD ((rowAt rows b).map (shI t)))), none, none], ⟨rfl, rfl⟩, ?_, ?_⟩
    · rintro i d acc S hd ⟨rfl, rfl⟩
      obtain ⟨x, y, _, _, rfl⟩ := zip_int hd
      walk_at "sn"
      exact wm_step (f := fCo true) hz hd
    · rintro acc S hW
      obtain ⟨rfl, rfl⟩ := wm_end hW
      rw [fCo_map]
      walk_at "sn"
      exact k
def b_told_numbers : PTS := sSeq (sSet 2 (pCall sp_units (aC (pD 0) (aN))))
  (sSeq (sFor (iSq (pD 1)) (gN 3)
  (sSeq (sSet 4 (pCall sp_deed_numbers (aC (pL 2) (aC (pD 3) (aN)))))
  (sSeq (sIf (qV (pU (uIs .none false) (pD 4)))
  (sRet (pM 2))
  (sNx))
  (sDrop (pMeth lAppend (pV 2) (aC (pD 4) aN))))))
  (sRet (pM 2)))
def sp_told_numbers : FSp := fun ts K => ∃ (n : Nat) (ds : List Deed), ts = [.p (.int n), .p (.list (ds.map Deed.dat))] ∧ n ≤ 100 ∧ ds.length ≤ 1000 ∧ Valid n ds ∧ RB n 90000 (rowsOf n ds) ∧
  K (.ol ((rowsOf n ds).map rowD)) [some (.p (.int n)), some (.p (.list (ds.map Deed.dat)))]
theorem rowsFrom_pre (rows : List Row) (ds es : List Deed) : ∃ r, rowsFrom rows (ds ++ es) = rowsFrom rows ds ++ r := by
  induction es generalizing ds with
  | nil => exact ⟨[], by rw [List.append_nil, List.append_nil]⟩
  | cons e es ih =>
    obtain ⟨r, hr⟩ := ih (ds ++ [e])
    rw [List.append_assoc] at hr
    refine ⟨(e.row (rowsFrom rows ds)) :: r, ?_⟩
    rw [show ds ++ e :: es = ds ++ ([e] ++ es) from rfl, hr, rowsFrom_snoc, List.append_assoc]
    rfl
theorem RB.ahead {n B : Nat} {m : Nat} {ds : List Deed} (h : RB n B (rowsOf m ds)) (j : Nat) : RB n B (rowsOf m (ds.take j)) := fun r hr => by
  obtain ⟨q, hq⟩ := rowsFrom_pre (unitsL m) (ds.take j) (ds.drop j)
  rw [List.take_append_drop] at hq
  exact h r (by unfold rowsOf; rw [hq]; exact List.mem_append_left _ hr)
theorem v_told_numbers (ts : List T) (K : T → List (Option T) → Prop) (h : sp_told_numbers ts K) : ts.length = 2 ∧ b_told_numbers (endsOf [true, true] ts K) (PL.start 5 ts) := by
  obtain ⟨n, ds, rfl, hn, hl, hv, hb, k⟩ := h
  (refine ⟨rfl, ?_⟩; simp only [PL.start, List.map_cons, List.map_nil, List.length_cons, List.length_nil, Nat.reduceAdd, Nat.reduceSub, List.replicate_succ, List.replicate_zero, List.cons_append, List.nil_append])
  walk_at "sn"
  refine ⟨hn, ?_⟩
  walk_at "sn"
  refine ⟨fun i S => ∃ (k3 k4 : Option T), S = [some (.p (.int n)), some (.p (.list (ds.map Deed.dat))), some (.ol ((rowsOf n (ds.take i)).map rowD)), k3, k4], ?_, ?_, ?_⟩
  · exact ⟨_, _, rfl⟩
  · rintro i d S hd ⟨k3, k4, rfl⟩
    obtain ⟨e, he, rfl⟩ := Option.map_eq_some_iff.mp (List.getElem?_map .. ▸ hd)
    have hi : i < ds.length := (List.getElem?_eq_some_iff.mp he).1
    walk_at "sn"
    refine ⟨rowsOf n (ds.take i), e, n, rfl, hv i e he, hb.ahead i, by omega, im_ints _, ?_⟩
    walk_at "sn"
    refine ⟨by rw [List.length_map, rowsOf_len, List.length_take]; exact lt_size (by omega), ?_⟩
    walk_at "sn"
    refine ⟨some (.p e.dat), some (.p (rowD (e.row (rowsOf n (ds.take i))))), ?_⟩
    have e1 : (rowsOf n (ds.take (i + 1))).map rowD = (rowsOf n (ds.take i)).map rowD ++ [rowD (e.row (rowsOf n (ds.take i)))] := by
      rw [List.take_succ, he]
      show (rowsOf n (ds.take i ++ [e])).map rowD = _
      rw [rowsOf_snoc, List.map_append]; rfl
    rw [e1]
  · rintro S ⟨k3, k4, rfl⟩
    rw [List.length_map, List.take_length]
    walk_at "sn"
    exact k
def b_number_of_out : PTS := sSeq (sIfC (qOr (qNot (qV (pU (uIsi "tuple") (pD 1)))) (qOr (qV (pB cNe (pU uLen (pD 1)) (pC (.int 3)))) (qNot (qV (pU uAll (pLc (iSq (pD 1)) (gN 7) (qYes) (pCall sp_is_whole (aC (pD 7) (aN))) [7]))))))
  (sRet (pC .none))
  (sNx))
  (sSeq (sIf (qV (pB cEq (pD 1) (pTup (aC (pC (.int 0)) (aC (pC (.int 0)) (aC (pC (.int 0)) (aN)))))))
  (sRet (pU uTuple (pLc (iSq (pB bIx (pD 0) (pC (.int 0)))) (gN 6) (qYes) (pC (.int 0)) [6])))
  (sNx))
  (sSeq (sAsg (gTupP 3 (gConsP (gN 2) (gConsP (gN 3) (gConsP (gN 4) (gNilP))))) (pD 1))
  (sSeq (sSet 5 (pCall sp_part_numbers (aC (pD 0) (aC (pD 2) (aC (pD 3) (aN))))))
  (sSeq (sIfC (qOr (qV (pB cNi (pD 4) (pTup (aC (pC (.int 1)) (aC (pU uNeg (pC (.int 1))) (aN)))))) (qV (pU (uIs .none false) (pD 5))))
  (sRet (pC .none))
  (sNx))
  (sRet (pU uTuple (pLc (iSq (pD 5)) (gN 6) (qYes) (pB bMul (pD 4) (pD 6)) [6])))))))
def sp_number_of_out : FSp := fun ts K => ∃ (rows : List Row) (o : Out) (n : Nat), ts = [.p (toldD rows), .p o.dat] ∧ o.Ok rows ∧ RB n 90000 rows ∧ n ≤ 1000 ∧ 0 < rows.length ∧
  K (.p (rowD (o.row rows))) [some (.p (toldD rows)), some (.p o.dat)]
def fZ : PyData → PyData := fun _ => .int 0
def fMu (g : Int) : PyData → PyData
  | .int x => .int (g * x)
  | d => d
theorem fMu_map (g h : Int) (l : Row) : ((l.map (shI h)).map PyData.int).map (fMu g) = (l.map fun x => g * shI h x).map PyData.int := by rw [List.map_map, List.map_map, List.map_map]; rfl
theorem fZ_map (l : Row) : (l.map PyData.int).map fZ = (l.map fun _ => (0 : Int)).map PyData.int := by rw [List.map_map, List.map_map]; rfl
theorem eqv3d (a b c x y z : Int) : PyData.eqv (.tuple [.int a, .int b, .int c]) (.tuple [.int x, .int y, .int z]) = decide (a = x ∧ b = y ∧ c = z) := by
  have := eqv_tupI (l := [a, b, c]) (l' := [x, y, z])
  refine this.trans ?_
  simp
theorem v_number_of_out (ts : List T) (K : T → List (Option T) → Prop) (h : sp_number_of_out ts K) : ts.length = 2 ∧ b_number_of_out (endsOf [true, true] ts K) (PL.start 8 ts) := by
  obtain ⟨rows, ⟨th, sh, sg⟩, n, rfl, ok, hrb, hn, h0, k⟩ := h
  (refine ⟨rfl, ?_⟩; simp only [PL.start, List.map_cons, List.map_nil, List.length_cons, List.length_nil, Nat.reduceAdd, Nat.reduceSub, List.replicate_succ, List.replicate_zero, List.cons_append, List.nil_append])
  have ha := hrb _ (rowAt_mem ok.th)
  have hz := hrb _ (rowAt_mem h0)
  walk_at "sn"
  refine ifC False True ?_ (fun h => h.elim) (fun _ => ?_)
  · walk_at "sn"
    refine ⟨fun i acc S => acc = List.replicate i (.bool true) ∧ S = [some (.p (toldD rows)), some (.p (Out.dat ⟨th, sh, sg⟩)), none, none, none, none, none, none], ⟨rfl, rfl⟩, ?_, ?_⟩
    · rintro i d acc S hd ⟨rfl, rfl⟩
      have hi : i < 3 := (List.getElem?_eq_some_iff.mp hd).1
      obtain ⟨x, rfl⟩ : ∃ x : Int, d = .int x := by
        rcases (show i = 0 ∨ i = 1 ∨ i = 2 by omega) with rfl | rfl | rfl <;> (cases hd; exact ⟨_, rfl⟩)
      walk_at "sn"
      exact ⟨by rw [List.length_replicate]; exact lt_size (by omega), List.replicate_succ'.symm, rfl⟩
    · rintro acc S ⟨rfl, rfl⟩
      refine ⟨_, allB_rep _ _, ?_⟩
      walk_at "sn"
  walk_at "sn"
  rw [show PyData.eqv (Out.dat ⟨th, sh, sg⟩) (.tuple [.int 0, .int 0, .int 0]) = decide ((th : Int) = 0 ∧ sh = 0 ∧ sg = 0) from eqv3d _ _ _ _ _ _]
  refine ⟨fun q => ?_, fun q => ?_⟩
  · have q := eqT q
    have hzl : ((rowAt rows 0).map PyData.int).length ≤ 1000000 := by rw [rowD_len, hz.1]; omega
    walk_at "sn"
    refine ⟨_, told_at h0, ?_⟩
    walk_at "sn"
    refine ⟨WM fZ ((rowAt rows 0).map .int) _, ⟨rfl, rfl⟩, ?_, ?_⟩
    · rintro i d acc S hd ⟨rfl, rfl⟩
      walk_at "sn"
      exact wm_step (f := fZ) hzl hd
    · rintro acc S hW
      obtain ⟨rfl, rfl⟩ := wm_end hW
      rw [fZ_map]
      rw [show Out.row rows ⟨th, sh, sg⟩ = (rowAt rows 0).map fun _ => 0 from if_pos q.2.2] at k
      walk_at "sn"
      exact k
  · have q : ¬ ((th : Int) = 0 ∧ sh = 0 ∧ sg = 0) := eqF q
    have hsg : sg = 1 ∨ sg = -1 := by
      rcases ok.sg with h | h
      · obtain ⟨h1, h2⟩ := ok.no h
        exact absurd ⟨by exact congrArg Int.ofNat h1, h2, h⟩ q
      · exact h
    have hs0 : sg ≠ 0 := by omega
    have hll : (((rowAt rows th).map (shI sh)).map PyData.int).length ≤ 1000000 := by
      have := ha.1
      dsimp only at this
      rw [rowD_len, List.length_map, this]; omega
    rw [show Out.row rows ⟨th, sh, sg⟩ = (rowAt rows th).map fun x => sg * shI sh x from if_neg hs0] at k
    walk_at "sn"
    refine ⟨rows, th, sh, rfl, ok.th, ok.s1, ok.s2, fun x hx => ⟨ok.ok x hx, ha.2 x hx⟩, by rw [ha.1]; exact hn, ?_⟩
    walk_at "sn"
    refine ifC False True ?_ (fun h => h.elim) (fun _ => ?_)
    · walk_at "sn"
      rw [show ([PyData.int 1, PyData.int (-1)].any fun z => PyData.eqv z (.int sg)) = true by rcases hsg with rfl | rfl <;> rfl]
      walk_at "sn"
    walk_at "sn"
    refine ⟨WM (fMu sg) (((rowAt rows th).map (shI sh)).map .int) _, ⟨rfl, rfl⟩, ?_, ?_⟩
    · rintro i d acc S hd ⟨rfl, rfl⟩
      obtain ⟨x, hxj, rfl⟩ := Option.map_eq_some_iff.mp (List.getElem?_map .. ▸ hd)
      have hxl : LB 100000 x := by
        rw [List.getElem?_map] at hxj
        obtain ⟨x0, hx0, rfl⟩ := Option.map_eq_some_iff.mp hxj
        have h2 := ok.s2
        dsimp only at h2
        exact (shI_LB (ha.2 x0 (List.mem_of_getElem? hx0))).mono (by omega)
      walk_at "sn"
      refine ⟨LB.mulOk (a := 2) (LB.of (by omega)) hxl, ?_⟩
      walk_at "sn"
      exact wm_step (f := fMu sg) hll hd
    · rintro acc S hW
      obtain ⟨rfl, rfl⟩ := wm_end hW
      rw [fMu_map]
      walk_at "sn"
      exact k
/-- a web: right deeds, right outs, within bounds -/
structure WebOk (n : Nat) (ds : List Deed) (os : List Out) : Prop where
  n0 : 0 < n
  n1 : n ≤ 100
  dl : ds.length ≤ 1000
  ol : os.length ≤ 1000
  v : Valid n ds
  o : ∀ o ∈ os, o.Ok (rowsOf n ds)
  b : RB n 90000 (rowsOf n ds)
def b_numbers : PTS := sRet (pCall sp_told_numbers (aC (pB bIx (pD 0) (pC (.int 0))) (aC (pB bIx (pD 0) (pC (.int 1))) (aN))))
def sp_numbers : FSp := fun ts K => ∃ (n : Nat) (ds : List Deed) (os : List Out), ts = [.p (webD n ds os)] ∧ WebOk n ds os ∧ K (.ol ((rowsOf n ds).map rowD)) [some (.p (webD n ds os))]
theorem v_numbers (ts : List T) (K : T → List (Option T) → Prop) (h : sp_numbers ts K) : ts.length = 1 ∧ b_numbers (endsOf [true] ts K) (PL.start 1 ts) := by
  obtain ⟨n, ds, os, rfl, w, k⟩ := h
  (refine ⟨rfl, ?_⟩; simp only [PL.start, List.map_cons, List.map_nil, List.length_cons, List.length_nil, Nat.reduceAdd, Nat.reduceSub, List.replicate_succ, List.replicate_zero, List.cons_append, List.nil_append])
  walk_at "sn"
  refine ⟨n, ds, rfl, w.n1, w.dl, w.v, w.b, ?_⟩
  walk_at "sn"
  exact k
def b_out_numbers : PTS := sSeq (sSet 1 (pFz (pCall sp_numbers (aC (pD 0) (aN)))))
  (sRet (pLc (iSq (pB bIx (pD 0) (pC (.int 2)))) (gN 2) (qYes) (pCall sp_number_of_out (aC (pD 1) (aC (pD 2) (aN)))) [2]))
def sp_out_numbers : FSp := fun ts K => ∃ (n : Nat) (ds : List Deed) (os : List Out), ts = [.p (webD n ds os)] ∧ WebOk n ds os ∧ K (.ol ((os.map (Out.row (rowsOf n ds))).map rowD)) [some (.p (webD n ds os))]
theorem v_out_numbers (ts : List T) (K : T → List (Option T) → Prop) (h : sp_out_numbers ts K) : ts.length = 1 ∧ b_out_numbers (endsOf [true] ts K) (PL.start 3 ts) := by
  obtain ⟨n, ds, os, rfl, w, k⟩ := h
  (refine ⟨rfl, ?_⟩; simp only [PL.start, List.map_cons, List.map_nil, List.length_cons, List.length_nil, Nat.reduceAdd, Nat.reduceSub, List.replicate_succ, List.replicate_zero, List.cons_append, List.nil_append])
  have hll : (os.map Out.dat).length ≤ 1000000 := by rw [List.length_map]; have := w.ol; omega
  walk_at "sn"
  refine ⟨n, ds, os, rfl, w, ?_⟩
  walk_at "sn"
  refine ⟨fun i acc S => acc = ((os.take i).map (Out.row (rowsOf n ds))).map rowD ∧ S = _, ⟨rfl, rfl⟩, ?_, ?_⟩
  · rintro i d acc S hd ⟨rfl, rfl⟩
    obtain ⟨o, ho, rfl⟩ := Option.map_eq_some_iff.mp (List.getElem?_map .. ▸ hd)
    have hi : i < os.length := (List.getElem?_eq_some_iff.mp ho).1
    walk_at "sn"
    refine ⟨rowsOf n ds, o, n, rfl, w.o o (List.mem_of_getElem? ho), w.b, by have := w.n1; omega, by rw [rowsOf_len]; have := w.n0; omega, ?_⟩
    walk_at "sn"
    refine ⟨by rw [List.length_map, List.length_map, List.length_take]; have := w.ol; exact lt_size (by omega), ?_, rfl⟩
    rw [List.take_succ, ho, List.map_append, List.map_append]
    rfl
  · rintro acc S ⟨rfl, rfl⟩
    rw [List.length_map, List.take_length]
    walk_at "sn"
    exact k
/-! ### equality of webs, the web of one input -/
theorem shp_refl {d : PyData} (h : SeqAt.shaped d = true) : PyData.eqv d d = true := by
  unfold SeqAt.shaped at h
  rw [Bool.and_eq_true] at h
  exact SeqAt.eqv_refl d h.1
theorem lay_map {α : Type} (f : α → PyData) (h : ∀ x, (f x).canLay0 = true) : ∀ l : List α, PyData.canLayAll0 (l.map f) = true
  | [] => rfl
  | x :: l => by
    rw [List.map_cons, PyData.canLayAll0, h x, lay_map f h l]; rfl
theorem dep_map {α : Type} (f : α → PyData) (n : Nat) (h : ∀ x, (f x).depth ≤ n) : ∀ l : List α, PyData.depthAll (l.map f) ≤ n
  | [] => Nat.zero_le _
  | x :: l => by
    rw [List.map_cons, PyData.depthAll]
    exact Nat.max_le.mpr ⟨h x, dep_map f n h l⟩
theorem deed_lay (d : Deed) : d.dat.canLay0 = true := by
  obtain ⟨sm, a, s, b, t⟩ := d
  cases sm <;> simp [Deed.dat, PyData.canLay0, PyData.canLayAll0] <;> decide +kernel
theorem out_lay (o : Out) : o.dat.canLay0 = true := by simp [Out.dat, PyData.canLay0, PyData.canLayAll0]
theorem deed_dep (d : Deed) : d.dat.depth ≤ 2 := by simp [Deed.dat, PyData.depth, PyData.depthAll]
theorem out_dep (o : Out) : o.dat.depth ≤ 2 := by simp [Out.dat, PyData.depth, PyData.depthAll]
theorem web_shaped (n : Nat) (ds : List Deed) (os : List Out) : SeqAt.shaped (webD n ds os) = true := by
  unfold SeqAt.shaped
  rw [Bool.and_eq_true, decide_eq_true_eq]
  constructor
  · show PyData.canLayAll0 [.int n, .list (ds.map Deed.dat), .list (os.map Out.dat)] = true
    have h1 : PyData.canLay0 (.list (ds.map Deed.dat)) = true := lay_map _ deed_lay ds
    have h2 : PyData.canLay0 (.list (os.map Out.dat)) = true := lay_map _ out_lay os
    rw [PyData.canLayAll0, PyData.canLayAll0, PyData.canLayAll0, h1, h2]; rfl
  · have h1 := dep_map Deed.dat 2 deed_dep ds
    have h2 := dep_map Out.dat 2 out_dep os
    show PyData.depthAll [.int n, .list (ds.map Deed.dat), .list (os.map Out.dat)] + 1 ≤ 64
    have h3 : PyData.depth (.list (ds.map Deed.dat)) ≤ 3 := Nat.succ_le_succ h1
    have h4 : PyData.depth (.list (os.map Out.dat)) ≤ 3 := Nat.succ_le_succ h2
    simp only [PyData.depthAll, PyData.depth] at h3 h4 ⊢
    omega
/-! ### webs of one input -/
theorem rows1_at {l : List Int} {i : Nat} {x : Int} (h : l[i]? = some x) : rowAt (l.map fun x => [x]) i = [x] := by
  unfold rowAt
  rw [List.getD_eq_getElem?_getD, List.getElem?_map, h]; rfl
theorem row1 {l : List Int} {d : Deed} {x y : Int} (h1 : l[d.a]? = some x) (h2 : l[d.b]? = some y) : d.row (l.map fun x => [x]) = [comb d.sm (shI d.s x) (shI d.t y)] := by
  unfold Deed.row
  rw [rows1_at h1, rows1_at h2]; rfl
theorem unitsL1 : unitsL 1 = [(1 : Int)].map fun x => [x] := by decide
/-- the odd part -/
def oddN (n : Nat) : Nat := if h : n = 0 then 0 else if n % 2 = 0 then oddN (n / 2) else n
termination_by n
decreasing_by omega
theorem oddN_zero : oddN 0 = 0 := by rw [oddN]; rfl
theorem oddN_even {n : Nat} (h : n % 2 = 0) : oddN n = oddN (n / 2) := by
  by_cases h0 : n = 0
  · subst h0; rfl
  · rw [oddN, dif_neg h0, if_pos h]
theorem oddN_odd {n : Nat} (h : n % 2 = 1) : oddN n = n := by
  rw [oddN, dif_neg (by omega), if_neg (by omega)]
theorem oddN_pow (m : Nat) : ∀ k : Nat, oddN (2 ^ k * (2 * m + 1)) = 2 * m + 1
  | 0 => by rw [Nat.pow_zero, Nat.one_mul]; exact oddN_odd (by omega)
  | k + 1 => by
    have e : 2 ^ (k + 1) * (2 * m + 1) = 2 * (2 ^ k * (2 * m + 1)) := by rw [Nat.pow_succ, Nat.mul_comm (2 ^ k) 2, Nat.mul_assoc]
    rw [e, oddN_even (by omega), Nat.mul_div_cancel_left _ (by decide), oddN_pow m k]
theorem Core.oddN {x o s g : Int} (h : Core x o s g) : o = (V.oddN x.natAbs : Int) := by
  rcases h with ⟨rfl, rfl, _, _⟩ | ⟨k, m, h1, rfl, _, _⟩
  · rw [show Int.natAbs 0 = 0 from rfl, oddN_zero]; rfl
  · rw [h1, oddN_pow]; push_cast; rfl
theorem Core.ex (x : Int) : ∃ o s g, Core x o s g := by
  by_cases h : x = 0
  · exact ⟨0, 0, 0, .inl ⟨h, rfl, rfl, rfl⟩⟩
  · obtain ⟨k, m, e⟩ := odd_part x.natAbs (by omega)
    exact ⟨_, _, _, .inr ⟨k, m, e, rfl, rfl, rfl⟩⟩
theorem snoc_ind {α : Type} {P : List α → Prop} (h0 : P []) (h1 : ∀ l x, P l → P (l ++ [x])) (l : List α) : P l := by
  suffices h : ∀ r : List α, P r.reverse by
    have := h l.reverse
    rwa [List.reverse_reverse] at this
  intro r
  induction r with
  | nil => exact h0
  | cons x r ih => rw [List.reverse_cons]; exact h1 _ _ ih
end PL.V

--@ norm
set_option Elab.async false
set_option linter.all false
set_option maxRecDepth 100000
set_option maxHeartbeats 4000000
set_option autoImplicit false
/-! pens that are lists [script, at, left]; generated webs -/
namespace PL
open PySem L2
abbrev penL (g a : Int) (ns : List Int) : T := .ol [.list (ns.map PyData.int), .int a, .int g]
def wTk (c1 c2 m1 k1 t1 f1 p1 k2 t2 p2 p3 dv : Int) : PTS := sSeq (sAsgO 0 3 (gConsP (gN 2) (gConsP (gN 3) (gConsP (gN 4) (gNilP)))))
  (sSeq (sIf (qV (pB cGt (pD 4) (pC (.int 0))))
  (sSeq (sSetIx (pV 0) (pC (.int 2)) (pB bDiv (pD 4) (pD 1)))
  (sRet (pB bMod (pD 4) (pD 1))))
  (sNx))
  (sSeq (sSetIx (pV 0) (pC (.int 1)) (pB bAdd (pD 3) (pC (.int 1))))
  (sSeq (sSet 5 (pB bAdd (pB bMul (pC (.int c1)) (pD 3)) (pC (.int c2))))
  (sCut (sIf (qV (pB cGt (pU uLen (pD 2)) (pC (.int 0))))
  (sSet 5 (pB bIx (pD 2) (pB bMod (pD 3) (pU uLen (pD 2)))))
  (sNx))
  (sSeq (sIfC (qAnd (qV (pB cLt (pD 3) (pU uLen (pD 2)))) (qV (pB cGe (pU uAbs (pD 5)) (pB bPow (pC (.int 10)) (pC (.int 18))))))
  (sSeq (sSetIx (pV 0) (pC (.int 2)) (pB bDiv (pU uAbs (pD 5)) (pD 1)))
  (sRet (pB bMod (pU uAbs (pD 5)) (pD 1))))
  (sNx))
  (sSeq (sSet 6 (pB bMod (pB bMul (pB bAdd (pB bAdd (pB bMod (pD 5) (pC (.int m1))) (pB bMul (pC (.int k1)) (pD 3))) (pC (.int t1))) (pC (.int f1))) (pC (.int p1))))
  (sSeq (sSet 6 (pB bMod (pB bAdd (pB bAdd (pB bMul (pD 6) (pD 6)) (pB bMul (pC (.int k2)) (pD 3))) (pC (.int t2))) (pC (.int p2))))
  (sRet (pB bMod (pB bDiv (pB bMod (pB bMul (pD 6) (pD 6)) (pC (.int p3))) (pC (.int dv))) (pD 1))))))))))
def spTk : FSp := fun ts K => ∃ (g a m : Int) (ns : List Int), ts = [penL g a ns, .p (.int m)] ∧ 0 ≤ g ∧ 0 ≤ a ∧ a ≤ 2 ^ 40 ∧ 0 < m ∧ m ≤ 2 ^ 200 ∧
  ∀ r g' a', 0 ≤ r → r < m → 0 ≤ g' → a ≤ a' → a' ≤ a + 1 → K (.p (.int r)) [some (penL g' a' ns), some (.p (.int m))]
structure TkC (c1 c2 m1 k1 t1 f1 p1 k2 t2 p2 p3 dv : Int) : Prop where
  c1 : 0 ≤ c1 ∧ c1 < 2 ^ 40
  m1 : 0 < m1 ∧ m1 < 2 ^ 40
  k1 : 0 ≤ k1 ∧ k1 < 2 ^ 40
  t1 : 0 ≤ t1 ∧ t1 < 2 ^ 40
  f1 : 0 ≤ f1 ∧ f1 < 2 ^ 40
  p1 : 0 < p1 ∧ p1 < 2 ^ 40
  k2 : 0 ≤ k2 ∧ k2 < 2 ^ 40
  t2 : 0 ≤ t2 ∧ t2 < 2 ^ 40
  p2 : 0 < p2 ∧ p2 < 2 ^ 40
  p3 : 0 < p3 ∧ p3 < 2 ^ 40
  dv : 0 < dv ∧ dv < 2 ^ 40
theorem mod_lt40 {z m : Int} (h : 0 < m ∧ m < 2 ^ 40) : 0 ≤ z % m ∧ z % m < 2 ^ 40 := by
  have h1 := Int.emod_nonneg z (show m ≠ 0 by omega)
  have h2 := Int.emod_lt_of_pos z h.1
  omega
theorem mul_lt80 {x y : Int} (hx : 0 ≤ x ∧ x < 2 ^ 40) (hy : 0 ≤ y ∧ y ≤ 2 ^ 40) : 0 ≤ x * y ∧ x * y < 2 ^ 81 := by
  refine ⟨Int.mul_nonneg hx.1 hy.1, ?_⟩
  have := Int.mul_le_mul (show x ≤ 2 ^ 40 by omega) hy.2 hy.1 (by omega)
  omega
theorem vTk {c1 c2 m1 k1 t1 f1 p1 k2 t2 p2 p3 dv : Int} (c : TkC c1 c2 m1 k1 t1 f1 p1 k2 t2 p2 p3 dv) (ts : List T) (K : T → List (Option T) → Prop) (h : spTk ts K) : ts.length = 2 ∧ wTk c1 c2 m1 k1 t1 f1 p1 k2 t2 p2 p3 dv (endsOf [true, true] ts K) (PL.start 7 ts) := by
  obtain ⟨g, a, m, ns, rfl, hg, ha, ha', hm, hm', k⟩ := h
  have hl : (ns.map PyData.int).length = ns.length := List.length_map ..
  (refine ⟨rfl, ?_⟩; simp only [PL.start, List.map_cons, List.map_nil, List.length_cons, List.length_nil, Nat.reduceAdd, Nat.reduceSub, List.replicate_succ, List.replicate_zero, List.cons_append, List.nil_append])
  walk_at "sn"
  refine ⟨fun h => ?_, fun h => ?_⟩
  · walk_at "sn"
    refine ⟨divS 201 hm (by omega), ?_⟩
    walk_at "sn"
    refine ⟨hm, ?_⟩
    walk_at "sn"
    exact k _ _ _ (Int.emod_nonneg _ (by omega)) (Int.emod_lt_of_pos _ hm) (Int.ediv_nonneg hg (by omega)) (by omega) (by omega)
  · walk_at "sn"
    refine ⟨mulS 41 41 (by have := c.c1; omega) (by omega), ?_⟩
    walk_at "sn"
    refine ⟨fun S => ∃ z : Int, S = [some (.ol [.list (ns.map PyData.int), .int (a + 1), .int g]), some (.p (.int m)), some (.p (.list (ns.map PyData.int))), some (.p (.int a)), some (.p (.int g)), some (.p (.int z)), none], ?_, fun S ⟨z, hS⟩ => ?_⟩
    · walk_at "sn"
      refine ⟨fun h => ?_, fun h => ?_⟩
      · have h := dT h
        walk_at "sn"
        refine ⟨h, ?_⟩
        obtain ⟨cl, _, _, hc⟩ := ints_at (ns := ns) (i := a % ((ns.map PyData.int).length : Int)) (Int.emod_nonneg _ (by omega)) (by rw [hl]; exact Int.emod_lt_of_pos _ (by omega))
        (conv => whnf)
        refine ⟨_, hc, ?_⟩
        walk_at "sn"
        exact ⟨_, rfl⟩
      · exact ⟨_, rfl⟩
    · subst hS
      walk_at "sn"
      refine ifC True True ?_ (fun _ => ?_) (fun _ => ?_)
      rotate_left
      · walk_at "sn"
        refine ⟨divS 201 hm (by omega), ?_⟩
        walk_at "sn"
        refine ⟨hm, ?_⟩
        walk_at "sn"
        exact k _ _ _ (Int.emod_nonneg _ (by omega)) (Int.emod_lt_of_pos _ hm) (Int.ediv_nonneg (by split <;> omega) (by omega)) (by omega) (by omega)
      · walk_at "sn"
        have b1 := c.m1; have b2 := c.k1; have b3 := c.t1; have b4 := c.f1; have b5 := c.p1; have b6 := c.k2; have b7 := c.t2; have b8 := c.p2; have b9 := c.p3; have b0 := c.dv
        have hz := mod_lt40 (z := z) b1
        have q1 := mul_lt80 b2 ⟨ha, ha'⟩
        have q2 := mul_lt80 b6 ⟨ha, ha'⟩
        refine ⟨b1.1, ?_⟩
        walk_at "sn"
        refine ⟨mulS 41 41 (by omega) (by omega), ?_⟩
        walk_at "sn"
        refine ⟨mulS 84 41 (by omega) (by omega), ?_⟩
        walk_at "sn"
        refine ⟨b5.1, ?_⟩
        walk_at "sn"
        generalize ht : (z % m1 + k1 * a + t1) * f1 % p1 = t
        have t0 : 0 ≤ t ∧ t < 2 ^ 40 := by rw [← ht]; exact mod_lt40 b5
        walk_at "sn"
        refine ⟨mulS 41 41 (by omega) (by omega), ?_⟩
        walk_at "sn"
        refine ⟨mulS 41 41 (by omega) (by omega), ?_⟩
        walk_at "sn"
        refine ⟨b8.1, ?_⟩
        walk_at "sn"
        generalize hu : (t * t + k2 * a + t2) % p2 = u
        have u0 : 0 ≤ u ∧ u < 2 ^ 40 := by rw [← hu]; exact mod_lt40 b8
        walk_at "sn"
        refine ⟨mulS 41 41 (by omega) (by omega), ?_⟩
        walk_at "sn"
        refine ⟨b9.1, ?_⟩
        walk_at "sn"
        refine ⟨divS 41 b0.1 (by omega), ?_⟩
        walk_at "sn"
        refine ⟨hm, ?_⟩
        walk_at "sn"
        exact k _ _ _ (Int.emod_nonneg _ (by omega)) (Int.emod_lt_of_pos _ hm) hg (by omega) (by omega)
      · walk_at "sn"
        refine ⟨fun q => ?_, fun q => ⟨fun z => (by cases z), fun _ => ⟨rfl, trivial⟩⟩⟩
        walk_at "sn"
        refine ⟨powS (by decide) (by decide), ?_⟩
        walk_at "sn"
        exact ⟨fun _ => ⟨rfl, trivial⟩, fun _ => ⟨rfl, trivial⟩⟩
end PL

--@ T k26
--@ norm
set_option Elab.async false
set_option linter.all false
set_option maxRecDepth 100000
set_option maxHeartbeats 4000000
set_option autoImplicit false
/-! webs: what is used; webs under way -/
namespace PL.V
open PySem L2 PL
/-- the things that are gone to from the outs -/
inductive Rch (n : Nat) (ds : List Deed) (os : List Out) : Nat → Prop
  | out {o : Out} : o ∈ os → o.sg ≠ 0 → Rch n ds os o.th
  | a {k : Nat} {d : Deed} : ds[k]? = some d → Rch n ds os (n + k) → Rch n ds os d.a
  | b {k : Nat} {d : Deed} : ds[k]? = some d → Rch n ds os (n + k) → Rch n ds os d.b
/-- things that stand ahead -/
structure WS (n : Nat) (ds : List Deed) (os : List Out) : Prop where
  n1 : n ≤ 100
  dl : ds.length ≤ 100
  ol : os.length ≤ 100
  d : ∀ (k : Nat) (d : Deed), ds[k]? = some d → d.a < n + k ∧ d.b < n + k
  o : ∀ o ∈ os, o.th < n + ds.length
theorem Rch.lt {n : Nat} {ds : List Deed} {os : List Out} (w : WS n ds os) {t : Nat} (h : Rch n ds os t) : t < n + ds.length := by
  cases h with
  | out h _ => exact w.o _ h
  | a h _ =>
    have h1 := (w.d _ _ h).1
    have h2 := (List.getElem?_eq_some_iff.mp h).1
    omega
  | b h _ =>
    have h1 := (w.d _ _ h).2
    have h2 := (List.getElem?_eq_some_iff.mp h).1
    omega
/-- a list of truths that tells just what is gone to -/
def Told (n : Nat) (ds : List Deed) (os : List Out) (l : List Bool) : Prop := l.length = n + ds.length ∧ ∀ t : Nat, l[t]? = some true ↔ Rch n ds os t
theorem Told.uniq {n : Nat} {ds : List Deed} {os : List Out} {l r : List Bool} (h : Told n ds os l) (k : Told n ds os r) : l = r := by
  apply List.ext_getElem (h.1.trans k.1.symm)
  intro i h1 h2
  have e := (h.2 i).trans (k.2 i).symm
  rw [List.getElem?_eq_getElem h1, List.getElem?_eq_getElem h2] at e
  cases ha : l[i] <;> cases hb : r[i] <;> simp_all
abbrev blD (l : List Bool) : List PyData := l.map PyData.bool
theorem blD_len (l : List Bool) : (blD l).length = l.length := List.length_map ..
theorem blD_set (l : List Bool) (j : Nat) : (blD l).set j (.bool true) = blD (l.set j true) := by unfold blD; rw [List.map_set]
theorem set_true {l : List Bool} {j t : Nat} (hj : j < l.length) : (l.set j true)[t]? = some true ↔ (t = j ∨ l[t]? = some true) := by
  by_cases h : t = j
  · subst h; rw [List.getElem?_set_self hj]; simp
  · rw [List.getElem?_set_ne (fun z => h z.symm)]; simp [h]
theorem bl_at {l : List Bool} {i : Nat} (h : i < l.length) : atI (blD l) (i : Int) = some (.bool l[i]) := by
  unfold atI
  rw [Evl.ixN_nat (by rw [blD_len]; exact h)]
  show (blD l)[i]? = _
  rw [List.getElem?_map, List.getElem?_eq_getElem h]; rfl
theorem deed_at {ds : List Deed} {k : Nat} {d : Deed} (h : ds[k]? = some d) : atI (ds.map Deed.dat) (k : Int) = some d.dat := by
  unfold atI
  rw [Evl.ixN_nat (by rw [List.length_map]; exact (List.getElem?_eq_some_iff.mp h).1)]
  show (ds.map Deed.dat)[k]? = _
  rw [List.getElem?_map, h]; rfl

def b_used : PTS := sSeq (sAsg (gTupP 3 (gConsP (gN 1) (gConsP (gN 2) (gConsP (gN 3) (gNilP))))) (pD 0))
  (sSeq (sSet 4 (pLc (iR1 (pB bAdd (pD 1) (pU uLen (pD 2)))) (gN 8) (qYes) (pC (.bool false)) [8]))
  (sSeq (sFor (iSq (pD 3)) (gTupP 3 (gConsP (gN 5) (gConsP (gN 6) (gConsP (gN 7) (gNilP)))))
  (sIf (qV (pB cNe (pD 7) (pC (.int 0))))
  (sSetIx (pV 4) (pD 5) (pC (.bool true)))
  (sNx)))
  (sSeq (sFor (iRr1 (pU uLen (pD 2))) (gN 8)
  (sIf (qV (pB bIx (pV 4) (pB bAdd (pD 1) (pD 8))))
  (sSeq (sSetIx (pV 4) (pB bIx (pB bIx (pD 2) (pD 8)) (pC (.int 1))) (pC (.bool true)))
  (sSetIx (pV 4) (pB bIx (pB bIx (pD 2) (pD 8)) (pC (.int 3))) (pC (.bool true))))
  (sNx)))
  (sRet (pM 4)))))
def sp_used : FSp := fun ts K => ∃ (n : Nat) (ds : List Deed) (os : List Out), ts = [.p (webD n ds os)] ∧ WS n ds os ∧ ∀ l, Told n ds os l → K (.ol (blD l)) [some (.p (webD n ds os))]
def fF : PyData → PyData := fun _ => .bool false
theorem mapF (l : List PyData) : l.map fF = List.replicate l.length (.bool false) := by
  induction l with
  | nil => rfl
  | cons x l ih => rw [List.map_cons, ih]; rfl
theorem v_used (ts : List T) (K : T → List (Option T) → Prop) (h : sp_used ts K) : ts.length = 1 ∧ b_used (endsOf [true] ts K) (PL.start 9 ts) := by
  obtain ⟨n, ds, os, rfl, w, k⟩ := h
  have hdl : (ds.map Deed.dat).length = ds.length := List.length_map ..
  (refine ⟨rfl, ?_⟩; simp only [PL.start, List.map_cons, List.map_nil, List.length_cons, List.length_nil, Nat.reduceAdd, Nat.reduceSub, List.replicate_succ, List.replicate_zero, List.cons_append, List.nil_append])
  walk_at "sn"
  rw [hdl]
  have hn1 := w.n1
  have hd1 := w.dl
  refine ⟨by omega, ?_⟩
  walk_at "sn"
  refine ⟨WM fF (rng 0 ((n : Int) + ds.length)) [some (.p (webD n ds os)), some (.p (.int n)), some (.p (.list (ds.map Deed.dat))), some (.p (.list (os.map Out.dat))), none, none, none, none, none], ⟨rfl, rfl⟩, ?_, ?_⟩
  · rintro i d acc S hd ⟨rfl, rfl⟩
    obtain ⟨rfl, hi⟩ := rng_at hd
    walk_at "sn"
    exact wm_step (f := fF) (by rw [rng_len]; omega) hd
  · rintro acc S hW
    obtain ⟨rfl, rfl⟩ := wm_end hW
    have e0 : (rng 0 ((n : Int) + ds.length)).map fF = blD (List.replicate (n + ds.length) false) := by
      rw [mapF, rng_len]
      unfold blD
      rw [List.map_replicate]
      congr 1 <;> omega
    rw [e0]
    walk_at "sn"
    refine ⟨fun i S => ∃ (l : List Bool) (k5 k6 k7 k8 : Option T), S = [some (.p (webD n ds os)), some (.p (.int n)), some (.p (.list (ds.map Deed.dat))), some (.p (.list (os.map Out.dat))), some (.ol (blD l)), k5, k6, k7, k8] ∧ l.length = n + ds.length ∧ ∀ t : Nat, l[t]? = some true ↔ ∃ o ∈ os.take i, o.sg ≠ 0 ∧ o.th = t, ?_, ?_, ?_⟩
    · refine ⟨_, _, _, _, _, rfl, by simp, fun t => ?_⟩
      rw [List.getElem?_replicate]
      constructor
      · intro h; split at h <;> cases h
      · rintro ⟨o, ho, _⟩; cases ho
    · rintro i d S hd ⟨l, k5, k6, k7, k8, rfl, hl, ht⟩
      obtain ⟨o, ho, rfl⟩ := Option.map_eq_some_iff.mp (List.getElem?_map .. ▸ hd)
      have hth := w.o o (List.mem_of_getElem? ho)
      have htk : os.take (i + 1) = os.take i ++ [o] := by rw [List.take_succ, ho]; rfl
      obtain ⟨th, sh, sg⟩ := o
      dsimp only at hth
      walk_at "sn"
      refine ⟨fun q => ?_, fun q => ?_⟩
      · have q' := neT q
        walk_at "sn"
        refine ⟨th, Evl.ixN_nat (by rw [blD_len]; omega), ?_⟩
        rw [blD_set]
        refine ⟨l.set th true, _, _, _, _, rfl, by rw [List.length_set]; exact hl, fun t => ?_⟩
        rw [set_true (by omega), ht, htk]
        constructor
        · rintro (rfl | ⟨o, h1, h2⟩)
          · exact ⟨⟨t, sh, sg⟩, by simp, q', rfl⟩
          · exact ⟨o, List.mem_append_left _ h1, h2⟩
        · rintro ⟨o, h1, h2, h3⟩
          rcases List.mem_append.mp h1 with h1 | h1
          · exact .inr ⟨o, h1, h2, h3⟩
          · rw [List.mem_singleton.mp h1] at h3; exact .inl h3.symm
      · have q := neF q
        walk_at "sn"
        refine ⟨l, _, _, _, _, rfl, hl, fun t => ?_⟩
        rw [ht, htk]
        constructor
        · rintro ⟨o, h1, h2⟩; exact ⟨o, List.mem_append_left _ h1, h2⟩
        · rintro ⟨o, h1, h2, h3⟩
          rcases List.mem_append.mp h1 with h1 | h1
          · exact ⟨o, h1, h2, h3⟩
          · rw [List.mem_singleton.mp h1] at h2; exact absurd q h2
    · rintro S ⟨l, k5, k6, k7, k8, rfl, hl, ht⟩
      rw [List.length_map, List.take_length] at ht
      walk_at "sn"
      rw [hdl]
      refine ⟨by omega, ?_⟩
      walk_at "sn"
      refine ⟨fun i S => ∃ (l : List Bool) (k5 k6 k7 k8 : Option T), S = [some (.p (webD n ds os)), some (.p (.int n)), some (.p (.list (ds.map Deed.dat))), some (.p (.list (os.map Out.dat))), some (.ol (blD l)), k5, k6, k7, k8] ∧ l.length = n + ds.length ∧
        (∀ t : Nat, l[t]? = some true → Rch n ds os t) ∧ (∀ o ∈ os, o.sg ≠ 0 → l[o.th]? = some true) ∧ (∀ (j : Nat) (d : Deed), ds.length ≤ j + i → ds[j]? = some d → l[n + j]? = some true → l[d.a]? = some true ∧ l[d.b]? = some true), ?_, ?_, ?_⟩
      · refine ⟨l, _, _, _, _, rfl, hl, fun t h => ?_, fun o ho hs => (ht _).mpr ⟨o, ho, hs, rfl⟩, fun j d h1 h2 => ?_⟩
        · obtain ⟨o, h1, h2, rfl⟩ := (ht t).mp h
          exact .out h1 h2
        · have := (List.getElem?_eq_some_iff.mp h2).1
          omega
      · rintro i d S hd ⟨l, k5, k6, k7, k8, rfl, hl, h1, h2, h3⟩
        have hi : i < ds.length := by
          have := (List.getElem?_eq_some_iff.mp hd).1
          rw [List.length_reverse, rng_len] at this
          omega
        obtain ⟨j, hj, hji⟩ : ∃ j : Nat, d = .int j ∧ j + i + 1 = ds.length := by
          have hlr : (rng 0 (ds.length : Int)).length = ds.length := by rw [rng_len]; omega
          rw [List.getElem?_reverse (by rw [hlr]; exact hi), hlr] at hd
          obtain ⟨rfl, _⟩ := rng_at hd
          exact ⟨ds.length - 1 - i, by congr 1; omega, by omega⟩
        subst hj
        obtain ⟨e, he⟩ : ∃ e, ds[j]? = some e := ⟨ds[j]'(by omega), List.getElem?_eq_getElem (by omega)⟩
        obtain ⟨ha, hb⟩ := w.d j e he
        have hea := deed_at he
        have hfb := bl_at (l := l) (i := n + j) (by omega)
        rw [show ((n + j : Nat) : Int) = (n : Int) + (j : Int) by push_cast; rfl] at hfb
        walk_at "sn"
        refine ⟨_, hfb, ?_⟩
        walk_at "sn"
        refine ⟨fun q => ?_, fun q => ?_⟩
        · have hr : Rch n ds os (n + j) := h1 _ (by rw [List.getElem?_eq_getElem (by omega), q])
          walk_at "sn"
          refine ⟨_, hea, ?_⟩
          walk_at "sn"
          refine ⟨e.a, Evl.ixN_nat (by rw [blD_len]; omega), ?_⟩
          rw [blD_set]
          walk_at "sn"
          refine ⟨_, hea, ?_⟩
          walk_at "sn"
          refine ⟨e.b, Evl.ixN_nat (by rw [blD_len, List.length_set]; omega), ?_⟩
          rw [blD_set]
          have hs : ∀ t : Nat, ((l.set e.a true).set e.b true)[t]? = some true ↔ (t = e.b ∨ t = e.a ∨ l[t]? = some true) := fun t => by
            rw [set_true (by rw [List.length_set]; omega), set_true (by omega)]
          refine ⟨(l.set e.a true).set e.b true, _, _, _, _, rfl, by rw [List.length_set, List.length_set]; exact hl, fun t h => ?_, fun o ho hs' => (hs _).mpr (.inr (.inr (h2 o ho hs'))), fun j' d' g1 g2 g3 => ?_⟩
          · rcases (hs t).mp h with rfl | rfl | h
            · exact .b he hr
            · exact .a he hr
            · exact h1 t h
          · by_cases hjj : j' = j
            · subst hjj
              rw [he] at g2; cases g2
              exact ⟨(hs _).mpr (.inr (.inl rfl)), (hs _).mpr (.inl rfl)⟩
            · have g3 := (hs _).mp g3
              have : l[n + j']? = some true := by
                rcases g3 with z | z | z
                · omega
                · omega
                · exact z
              obtain ⟨q1, q2⟩ := h3 j' d' (by omega) g2 this
              exact ⟨(hs _).mpr (.inr (.inr q1)), (hs _).mpr (.inr (.inr q2))⟩
        · walk_at "sn"
          refine ⟨l, _, _, _, _, rfl, hl, h1, h2, fun j' d' g1 g2 g3 => ?_⟩
          by_cases hjj : j' = j
          · subst hjj
            rw [List.getElem?_eq_getElem (by omega), q] at g3
            cases g3
          · exact h3 j' d' (by omega) g2 g3
      · rintro S ⟨l, k5, k6, k7, k8, rfl, hl, h1, h2, h3⟩
        rw [List.length_reverse, rng_len] at h3
        walk_at "sn"
        refine k l ⟨hl, fun t => ⟨h1 t, fun h => ?_⟩⟩
        induction h with
        | out ho hs => exact h2 _ ho hs
        | a hd _ ih => exact (h3 _ _ (by omega) hd ih).1
        | b hd _ ih => exact (h3 _ _ (by omega) hd ih).2
def natD (l : List Nat) : List PyData := l.map fun (t : Nat) => PyData.int t
theorem natD_len (l : List Nat) : (natD l).length = l.length := List.length_map ..
theorem natD_app (l r : List Nat) : natD l ++ natD r = natD (l ++ r) := by unfold natD; rw [List.map_append]
theorem natD_ints (l : List Nat) : natD l = (l.map fun (t : Nat) => (t : Int)).map PyData.int := by unfold natD; rw [List.map_map]; rfl
theorem countP_lt {p q : Nat → Bool} (h : ∀ x, q x = true → p x = true) : ∀ {l : List Nat} (a : Nat), a ∈ l → p a = true → q a = false → l.countP q < l.countP p
  | [], _, h1, _, _ => by cases h1
  | b :: l, a, h1, h2, h3 => by
    rw [List.countP_cons, List.countP_cons]
    have hle : l.countP q ≤ l.countP p := List.countP_mono_left fun x _ => h x
    rcases List.mem_cons.mp h1 with rfl | h1
    · rw [if_pos h2, if_neg (by rw [h3]; decide)]; omega
    · have := countP_lt h a h1 h2 h3
      have hb := h b
      split <;> split <;> first | omega | simp_all
/-- how many of the things are not met -/
def unmet (N : Nat) (ks : List Int) : Nat := (List.range N).countP fun (t : Nat) => decide ((t : Int) ∉ ks)
theorem unmet_nil (N : Nat) : unmet N [] ≤ N := by
  unfold unmet
  exact Nat.le_trans List.countP_le_length (by simp)
theorem unmet_add {N : Nat} {ks : List Int} {t : Nat} (ht : t < N) (h : (t : Int) ∉ ks) : unmet N (ks ++ [(t : Int)]) + 1 ≤ unmet N ks := by
  unfold unmet
  refine countP_lt (p := fun (t : Nat) => decide ((t : Int) ∉ ks)) (fun x hx => ?_) t (List.mem_range.mpr ht) (by simpa using h) (by simp)
  simp only [decide_eq_true_eq, List.mem_append, not_or] at hx ⊢
  exact hx.1
theorem get_ks (ks : List Int) (z : Int) : (valK (ksT ks) (Sum.inl z)).isSome = decide (z ∈ ks) := by
  unfold valK ksT
  rw [Option.isSome_map, Bool.eq_iff_iff, List.find?_isSome, decide_eq_true_eq]
  constructor
  · rintro ⟨x, hx, h⟩
    obtain ⟨y, hy, rfl⟩ := List.mem_map.mp hx
    have : y = z := by simpa using h
    exact this ▸ hy
  · intro hz
    exact ⟨_, List.mem_map.mpr ⟨z, hz, rfl⟩, by simp⟩
/-- rows and deeds of a web under way -/
structure InvN (n : Nat) (ds : List Deed) (rows : List Row) : Prop where
  n0 : 0 < n
  v : Valid n ds
  r : rowsOf n ds = rows
  s : ∀ d ∈ ds, d.s ≤ (40 : Nat) ∧ d.t ≤ (40 : Nat)
  n : n ≤ 20
  l : ds.length ≤ 100
def rowL (r : Row) : PyData := .list (r.map .int)
def fUl (n : Nat) : PyData → PyData
  | .int i => rowL ((List.range n).map fun (k : Nat) => if (k : Int) = i then 1 else 0)
  | d => d
theorem rng_fUl (n : Nat) : (rng 0 n).map (fUl n) = (unitsL n).map rowL := by
  unfold rng unitsL
  rw [List.map_map, List.map_map, show ((n : Int) - 0).toNat = n by omega]
  apply List.map_congr_left
  intro i _
  show rowL _ = rowL _
  rw [Int.zero_add]
theorem rowL_at {rows : List Row} {i : Nat} (h : i < rows.length) : atI (rows.map rowL) (i : Int) = some (rowL (rowAt rows i)) := by
  unfold atI
  rw [Evl.ixN_nat (by rw [List.length_map]; exact h)]
  show (rows.map rowL)[i]? = _
  rw [List.getElem?_map, rowAt_get h]; rfl
theorem InvN.start {n : Nat} (h0 : 0 < n) (h : n ≤ 20) : InvN n [] (unitsL n) := ⟨h0, fun k d h => by simp at h, rfl, (fun d h => by cases h), h, by decide⟩
theorem InvN.len {n : Nat} {ds : List Deed} {rows : List Row} (h : InvN n ds rows) : rows.length = n + ds.length := by rw [← h.r, rowsOf_len]
theorem InvN.rb {n : Nat} {ds : List Deed} {rows : List Row} (h : InvN n ds rows) : RB n (2 + 42 * ds.length) rows := h.r ▸ h.v.RB h.s
structure DOk (rows : List Row) (d : Deed) : Prop where
  a : d.a < rows.length
  b : d.b < rows.length
  s1 : -40 ≤ d.s
  s2 : d.s ≤ 40
  t1 : -40 ≤ d.t
  t2 : d.t ≤ 40
  oa : ∀ x ∈ rowAt rows d.a, okI d.s x
  ob : ∀ x ∈ rowAt rows d.b, okI d.t x
theorem InvN.step {n : Nat} {ds : List Deed} {rows : List Row} (h : InvN n ds rows) {d : Deed} (o : DOk rows d) (hl : ds.length < 100) : InvN n (ds ++ [d]) (rows ++ [d.row rows]) := by
  refine ⟨h.n0, fun k e hk => ?_, by rw [rowsOf_snoc, h.r], fun e he => ?_, h.n, by rw [List.length_append]; exact hl⟩
  · by_cases hlt : k < ds.length
    · rw [List.getElem?_append_left hlt] at hk
      rw [List.take_append_of_le_length (Nat.le_of_lt hlt)]
      exact h.v k e hk
    · rw [List.getElem?_append_right (by omega)] at hk
      have hk0 : k - ds.length = 0 := by
        have := (List.getElem?_eq_some_iff.mp hk).1
        simp at this
        omega
      rw [hk0] at hk
      cases hk
      have hke : k = ds.length := by omega
      rw [hke, List.take_left, h.r]
      exact ⟨o.a, o.b, by have := o.s1; omega, by have := o.s2; omega, by have := o.t1; omega, by have := o.t2; omega, o.oa, o.ob⟩
  · rcases List.mem_append.mp he with he | he
    · exact h.s e he
    · rw [List.mem_singleton.mp he]
      exact ⟨o.s2, o.t2⟩
def byS (sm : Bool) : Int := if sm then 1 else -1
theorem byS_LB (sm : Bool) : LB 2 (byS sm) := by cases sm <;> exact LB.of (by decide)
theorem byS_co (sm : Bool) (x y : Int) : PyData.int (x + byS sm * y) = fCo sm (.tuple [.int x, .int y]) := by
  cases sm
  · show PyData.int (x + -1 * y) = PyData.int (x - y)
    congr 1; omega
  · show PyData.int (x + 1 * y) = PyData.int (x + y)
    congr 1; omega
theorem WS.of {n : Nat} {ds : List Deed} {os : List Out} (w : WebOk n ds os) (hd : ds.length ≤ 100) (ho : os.length ≤ 100) : WS n ds os := by
  refine ⟨w.n1, hd, ho, fun k d h => ?_, fun o h => ?_⟩
  · have hk := (List.getElem?_eq_some_iff.mp h).1
    have ok := w.v k d h
    have h1 := ok.a
    have h2 := ok.b
    rw [rowsOf_len, List.length_take] at h1 h2
    omega
  · have := (w.o o h).th
    rw [rowsOf_len] at this
    exact this
theorem im_bl (l : List Bool) : (T.ol (blD l)).im = true := by
  show imD.imL (blD l) = true
  induction l with
  | nil => rfl
  | cons b l ih => show (imD (.bool b) && imD.imL (blD l)) = true; rw [ih]; rfl
end PL.V

--@ T k30
--@ norm
set_option Elab.async false
set_option linter.all false
set_option maxRecDepth 100000
set_option maxHeartbeats 4000000
set_option autoImplicit false
/-! odd parts: what one deed makes -/
namespace PL.M
open PySem L2 PL PL.V
theorem rgc_two {j : Int} (h0 : 1 ≤ j) (h : j < 2 ^ 40) : RgC 1 j 2 (j / 2).toNat := by
  have e : Builtin.Range.rangeSize 1 j 2 = ((j / 2).toNat : Int) := by
    unfold Builtin.Range.rangeSize
    rw [if_pos (by decide)]
    split <;> omega
  refine ⟨by decide, by decide, ?_, e⟩
  unfold Builtin.Range.small
  rw [e]
  simp only [Builtin.Range.rangeFitsLong, Bool.and_eq_true, Bool.or_eq_true, decide_eq_true_eq, beq_iff_eq, show (2 : Int) > 0 by decide, if_true]
  omega
def b_core : PTS := sSeq (sIf (qV (pB cEq (pD 0) (pC (.int 0))))
  (sRet (pTup (aC (pC (.int 0)) (aC (pC (.int 0)) (aC (pC (.int 0)) (aN))))))
  (sNx))
  (sSeq (sSet 1 (pU uAbs (pD 0)))
  (sSeq (sSet 2 (pB bSub (pU uBits (pB bAnd (pD 1) (pU uNeg (pD 1)))) (pC (.int 1))))
  (sSeq (sSet 3 (pC (.int 1)))
  (sCut (sIf (qV (pB cLt (pD 0) (pC (.int 0))))
  (sSet 3 (pU uNeg (pC (.int 1))))
  (sNx))
  (sRet (pTup (aC (pB bShr (pD 1) (pD 2)) (aC (pD 2) (aC (pD 3) (aN))))))))))
abbrev sp_core : FSp := spCore
theorem v_core (ts : List T) (K : T → List (Option T) → Prop) (h : sp_core ts K) : ts.length = 1 ∧ b_core (endsOf [true] ts K) (PL.start 4 ts) := vCore ts K h
/-- the odd part of a number either way -/
def odd (x : Int) : Int := (oddN x.natAbs : Int)
theorem core_odd {x o s g : Int} (h : Core x o s g) : o = odd x := V.Core.oddN h
/-- an odd part that one deed makes of u, shifted up, and v -/
def MT (u v top z : Int) : Prop := ∃ j : Nat, u * 2 ^ j ≤ top + v ∧ (z = odd (u * 2 ^ j + v) ∨ z = odd (u * 2 ^ j - v)) ∧ 0 < z ∧ z ≤ top
def b_made_of_two : PTS := sSeq (sSet 3 (pLst (aN)))
  (sSeq (sSet 4 (pD 0))
  (sSeq (sWh (qV (pB cLe (pD 4) (pB bAdd (pD 2) (pD 1))))
  (sSeq (sFor (iTp (pTup (aC (pFz (pB bAdd (pD 4) (pD 1))) (aC (pB bSub (pD 4) (pD 1)) (aN))))) (gN 5)
  (sSeq (sSet 6 (pB bIx (pCall sp_core (aC (pD 5) (aN))) (pC (.int 0))))
  (sIfC (qCh fLt fLe (pC (.int 0)) (pD 6) (pD 2))
  (sDrop (pMeth lAppend (pV 3) (aC (pD 6) aN)))
  (sNx))))
  (sSet 4 (pB bMul (pC (.int 2)) (pD 4)))))
  (sRet (pM 3))))
def sp_made_of_two : FSp := fun ts K => ∃ u v top : Int, ts = [.p (.int u), .p (.int v), .p (.int top)] ∧ 1 ≤ u ∧ 1 ≤ v ∧ LB 900 u ∧ LB 900 v ∧ LB 900 top ∧
  ∀ L : List Int, L.length ≤ 4000 → (∀ z, z ∈ L ↔ MT u v top z) → K (.ol (L.map .int)) [some (.p (.int u)), some (.p (.int v)), some (.p (.int top))]
theorem pow_le_bits {u t : Int} {i n : Nat} (hu : 1 ≤ u) (hb : LB n t) (h0 : u * 2 ^ i ≤ t) : i < n := by
  have h : u * 2 ^ i < 2 ^ n := Int.lt_of_le_of_lt h0 hb.to.2
  apply Classical.byContradiction
  intro hn
  have : (2 : Int) ^ n ≤ 2 ^ i := by
    have : (2 : Nat) ^ n ≤ 2 ^ i := Nat.pow_le_pow_right (by decide) (by omega)
    exact_mod_cast this
  have p := pow2_pos i
  have : (1 : Int) * 2 ^ i ≤ u * 2 ^ i := Int.mul_le_mul_of_nonneg_right hu (by omega)
  omega
theorem v_made_of_two (ts : List T) (K : T → List (Option T) → Prop) (h : sp_made_of_two ts K) : ts.length = 3 ∧ b_made_of_two (endsOf [true, true, true] ts K) (PL.start 7 ts) := by
  obtain ⟨u, v, top, rfl, hu, hv, bu, bv, bt, k⟩ := h
  have bs : LB 902 (top + v) := bt.add bv
  (refine ⟨rfl, ?_⟩; simp only [PL.start, List.map_cons, List.map_nil, List.length_cons, List.length_nil, Nat.reduceAdd, Nat.reduceSub, List.replicate_succ, List.replicate_zero, List.cons_append, List.nil_append])
  walk_at "sn"
  refine ⟨fun m S => ∃ (i : Nat) (L : List Int) (k5 k6 : Option T), S = [some (.p (.int u)), some (.p (.int v)), some (.p (.int top)), some (.ol (L.map .int)), some (.p (.int (u * 2 ^ i))), k5, k6] ∧ m = 1000 - i ∧ i ≤ 1000 ∧ L.length ≤ 2 * i ∧
    (∀ z, z ∈ L ↔ ∃ j : Nat, j < i ∧ u * 2 ^ j ≤ top + v ∧ (z = odd (u * 2 ^ j + v) ∨ z = odd (u * 2 ^ j - v)) ∧ 0 < z ∧ z ≤ top) ∧ (∀ j : Nat, j < i → u * 2 ^ j ≤ top + v), ?_, ?_⟩
  · refine ⟨1000, 0, [], _, _, by simp; exact ⟨rfl, rfl⟩, rfl, by decide, by decide, fun z => ⟨fun h => (by cases h), fun ⟨j, h, _⟩ => absurd h (Nat.not_lt_zero j)⟩, fun j h => absurd h (Nat.not_lt_zero j)⟩
  · rintro m S ⟨i, L, k5, k6, rfl, rfl, hi, hl, hm, hall⟩
    have hp := pow2_pos i
    walk_at "sn"
    refine ⟨fun q => ?_, fun q => ?_⟩
    · have q := dT q
      have hi9 : i < 902 := pow_le_bits hu bs q
      have bup : LB 1900 (u * 2 ^ i) := (bu.mul (LB.pow i)).mono (by omega)
      have h1 : 1 ≤ u * 2 ^ i := by
        have := Int.mul_le_mul hu (show (1 : Int) ≤ 2 ^ i by omega) (by decide) (by omega)
        omega
      walk_at "sn"
      refine ⟨fun n S => ∃ (M : List Int) (k5 k6 : Option T), S = [some (.p (.int u)), some (.p (.int v)), some (.p (.int top)), some (.ol ((L ++ M).map .int)), some (.p (.int (u * 2 ^ i))), k5, k6] ∧ M.length ≤ n ∧
        ∀ z, z ∈ M ↔ ((0 < n ∧ z = odd (u * 2 ^ i + v)) ∨ (1 < n ∧ z = odd (u * 2 ^ i - v))) ∧ 0 < z ∧ z ≤ top, ?_, ?_, ?_⟩
      · exact ⟨[], _, _, by rw [List.append_nil], Nat.le_refl _, fun z => ⟨fun h => (by cases h), fun h => by omega⟩⟩
      · rintro n d S hd ⟨M, k5, k6, rfl, hM, hz⟩
        have hn : n < 2 := (List.getElem?_eq_some_iff.mp hd).1
        obtain ⟨x, rfl, hx⟩ : ∃ x : Int, d = .int x ∧ ((n = 0 ∧ x = u * 2 ^ i + v) ∨ (n = 1 ∧ x = u * 2 ^ i - v)) := by
          rcases (show n = 0 ∨ n = 1 by omega) with rfl | rfl
          · cases hd; exact ⟨_, rfl, .inl ⟨rfl, rfl⟩⟩
          · cases hd; exact ⟨_, rfl, .inr ⟨rfl, rfl⟩⟩
        have hlen : ((L ++ M).map PyData.int).length ≤ 5000 := by rw [List.length_map, List.length_append]; omega
        have hstep : ∀ z, (((0 < n + 1 ∧ z = odd (u * 2 ^ i + v)) ∨ (1 < n + 1 ∧ z = odd (u * 2 ^ i - v))) ∧ 0 < z ∧ z ≤ top) ↔ (((0 < n ∧ z = odd (u * 2 ^ i + v)) ∨ (1 < n ∧ z = odd (u * 2 ^ i - v))) ∧ 0 < z ∧ z ≤ top) ∨ (z = odd x ∧ 0 < z ∧ z ≤ top) := fun z => by
          rcases hx with ⟨rfl, rfl⟩ | ⟨rfl, rfl⟩ <;> omega
        walk_at "sn"
        refine fun o s g hc => ?_
        have ho := core_odd hc
        walk_at "sn"
        refine ifC (0 < o ∧ o ≤ top) (¬ (0 < o ∧ o ≤ top)) ?_ (fun h => ?_) (fun h => ?_)
        · walk_at "sn"
          refine ⟨fun q => ?_, fun q => ⟨fun z => (by cases z), fun _ => ⟨rfl, fun z => dF q z.1⟩⟩⟩
          walk_at "sn"
          exact ⟨fun q2 => ⟨rfl, dT q, dT q2⟩, fun q2 => ⟨rfl, fun z => dF q2 z.2⟩⟩
        · walk_at "sn"
          refine ⟨lt_size (by omega), ?_⟩
          walk_at "sn"
          refine ⟨M ++ [o], _, _, by rw [← List.append_assoc, snoc_im], by rw [List.length_append]; exact Nat.succ_le_succ hM, fun z => ?_⟩
          rw [List.mem_append, hz, List.mem_singleton, hstep, ho]
          constructor
          · rintro (h9 | rfl)
            · exact .inl h9
            · exact .inr ⟨rfl, ho ▸ h.1, ho ▸ h.2⟩
          · rintro (h9 | h9)
            · exact .inl h9
            · exact .inr h9.1
        · walk_at "sn"
          refine ⟨M, _, _, rfl, by omega, fun z => ?_⟩
          rw [hz, hstep, ho] at *
          constructor
          · exact .inl
          · rintro (h9 | ⟨rfl, h9⟩)
            · exact h9
            · exact absurd h9 h
      · rintro S ⟨M, k5, k6, rfl, hM, hz⟩
        have hM : M.length ≤ 2 := hM
        walk_at "sn"
        refine ⟨LB.mulOk (a := 3) (LB.of (by decide)) bup, ?_⟩
        walk_at "sn"
        rw [show 2 * (u * 2 ^ i) = u * 2 ^ (i + 1) by rw [Int.pow_succ, ← Int.mul_assoc, Int.mul_comm 2, Int.mul_assoc, Int.mul_comm 2]]
        refine ⟨1000 - (i + 1), by omega, i + 1, L ++ M, _, _, rfl, rfl, by omega, by rw [List.length_append]; omega, fun z => ?_, fun j hj => ?_⟩
        · rw [List.mem_append, hm, hz]
          constructor
          · rintro (⟨j, h1, h2⟩ | h2)
            · exact ⟨j, by omega, h2⟩
            · exact ⟨i, Nat.lt_succ_self i, q, (by rcases h2 with ⟨h3 | h3, h4⟩ <;> simp_all), h2.2⟩
          · rintro ⟨j, h1, h2, h3, h4⟩
            by_cases hj : j = i
            · subst hj
              exact .inr ⟨by rcases h3 with h3 | h3 <;> simp_all, h4⟩
            · exact .inl ⟨j, by omega, h2, h3, h4⟩
        · by_cases hji : j = i
          · rw [hji]; exact q
          · exact hall j (by omega)
    · have q := dF q
      walk_at "sn"
      refine k L (by omega) fun z => ?_
      rw [hm]
      constructor
      · rintro ⟨j, _, h⟩; exact ⟨j, h⟩
      · rintro ⟨j, h2, h⟩
        refine ⟨j, ?_, h2, h⟩
        apply Classical.byContradiction
        intro hn
        have : u * 2 ^ i ≤ u * 2 ^ j := by
          have : (2 : Int) ^ i ≤ 2 ^ j := by
            have : (2 : Nat) ^ i ≤ 2 ^ j := Nat.pow_le_pow_right (by decide) (by omega)
            exact_mod_cast this
          exact Int.mul_le_mul_of_nonneg_left this (by omega)
        omega
/-! made -/
theorem odd_mod {x : Int} (h : 0 < odd x) : odd x % 2 = 1 := by
  unfold odd at *
  by_cases h0 : x.natAbs = 0
  · rw [h0, oddN_zero] at h; exact absurd h (by decide)
  · obtain ⟨k, m, e⟩ := odd_part x.natAbs (by omega)
    rw [e, oddN_pow]; omega
theorem MT.odd {u v top z : Int} (h : MT u v top z) : z % 2 = 1 ∧ 0 < z ∧ z ≤ top := by
  obtain ⟨j, _, h2, h3, h4⟩ := h
  refine ⟨?_, h3, h4⟩
  rcases h2 with rfl | rfl <;> exact odd_mod h3
theorem odd_count {ks : List Int} (nd : ks.Nodup) (h : ∀ z ∈ ks, z % 2 = 1 ∧ 0 < z ∧ z ≤ 99) : ks.length ≤ 50 := by
  have nd2 : (ks.map fun z => (z / 2).toNat).Nodup := by
    unfold List.Nodup
    rw [List.pairwise_map]
    refine List.Pairwise.imp_of_mem (fun {a b} ha hb hab e => hab ?_) nd
    have := h a ha
    have := h b hb
    omega
  have := nat_nodup_len (ks.map fun z => (z / 2).toNat) (List.range 50) nd2 fun x hx => by
    obtain ⟨z, hz, rfl⟩ := List.mem_map.mp hx
    have := h z hz
    rw [List.mem_range]; omega
  rw [List.length_map, List.length_range] at this
  exact this
/-- the odd parts that one deed makes of some -/
def MS (S : List Int) (top z : Int) : Prop := ∃ u ∈ S, ∃ v ∈ S, MT u v top z
def b_made : PTS := sSeq (sSet 2 (pDctN))
  (sSeq (sFor (iSq (pD 0)) (gN 3)
  (sFor (iSq (pD 0)) (gN 4)
  (sFor (iLs (pFz (pCall sp_made_of_two (aC (pD 3) (aC (pD 4) (aC (pD 1) (aN))))))) (gN 5)
  (sSetIx (pV 2) (pD 5) (pC (.bool true))))))
  (sRet (pU uSorted (pV 2))))
def sp_made : FSp := fun ts K => ∃ (S : List Int) (d : PyData) (top : Int), ts = [.p d, .p (.int top)] ∧ (d = .list (S.map .int) ∨ d = .tuple (S.map .int)) ∧ (∀ x ∈ S, 1 ≤ x ∧ LB 900 x) ∧ S.length ≤ 1000 ∧ top ≤ 99 ∧ LB 900 top ∧
  ∀ L : List Int, L.Pairwise (· < ·) → (∀ z, z ∈ L ↔ MS S top z) → L.length ≤ 50 → K (.ol (L.map .int)) [some (.p d), some (.p (.int top))]
theorem v_made (ts : List T) (K : T → List (Option T) → Prop) (h : sp_made ts K) : ts.length = 2 ∧ b_made (endsOf [true, true] ts K) (PL.start 6 ts) := by
  obtain ⟨S0, d, top, rfl, hd, hS, hl, ht, bt, k⟩ := h
  have hsq : (T.p d).sq = some (S0.map .int) ∧ (T.p d).fz = true := by rcases hd with rfl | rfl <;> exact ⟨rfl, rfl⟩
  have hcnt : ∀ ks : List Int, ks.Nodup → (∀ z ∈ ks, MS S0 top z) → ks.length ≤ 50 := fun ks nd h => odd_count nd fun z hz => by
    obtain ⟨u, _, v, _, h2⟩ := h z hz
    have := h2.odd
    omega
  (refine ⟨rfl, ?_⟩; simp only [PL.start, List.map_cons, List.map_nil, List.length_cons, List.length_nil, Nat.reduceAdd, Nat.reduceSub, List.replicate_succ, List.replicate_zero, List.cons_append, List.nil_append])
  walk_at "sn"
  rw [hsq.1]
  walk_at "sn"
  refine ⟨fun i S => ∃ (ks : List Int) (k3 k4 k5 : Option T), S = [some (.p d), some (.p (.int top)), some (.od (ksT ks)), k3, k4, k5] ∧ ks.Nodup ∧ ∀ z, z ∈ ks ↔ ∃ u ∈ S0.take i, ∃ v ∈ S0, MT u v top z, ⟨[], _, _, _, rfl, List.nodup_nil, fun z => by simp⟩, ?_, ?_⟩
  · rintro i e S he ⟨ks, k3, k4, k5, rfl, nd, hz⟩
    obtain ⟨u, hu, rfl⟩ := Option.map_eq_some_iff.mp (List.getElem?_map .. ▸ he)
    have hum := List.mem_of_getElem? hu
    obtain ⟨hu1, hu2⟩ := hS u hum
    walk_at "sn"
    rw [hsq.1]
    walk_at "sn"
    refine ⟨fun j S => ∃ (ks : List Int) (k4 k5 : Option T), S = [some (.p d), some (.p (.int top)), some (.od (ksT ks)), some (.p (.int u)), k4, k5] ∧ ks.Nodup ∧ ∀ z, z ∈ ks ↔ (∃ u ∈ S0.take i, ∃ v ∈ S0, MT u v top z) ∨ ∃ v ∈ S0.take j, MT u v top z, ⟨ks, _, _, rfl, nd, fun z => by rw [hz]; simp⟩, ?_, ?_⟩
    · rintro j e S he ⟨ks, k4, k5, rfl, nd, hz⟩
      obtain ⟨v, hv, rfl⟩ := Option.map_eq_some_iff.mp (List.getElem?_map .. ▸ he)
      have hvm := List.mem_of_getElem? hv
      obtain ⟨hv1, hv2⟩ := hS v hvm
      walk_at "sn"
      refine ⟨u, v, top, rfl, hu1, hv1, hu2, hv2, bt, fun L hL hm => ?_⟩
      walk_at "sn"
      refine ⟨fun n S => ∃ (ks : List Int) (k5 : Option T), S = [some (.p d), some (.p (.int top)), some (.od (ksT ks)), some (.p (.int u)), some (.p (.int v)), k5] ∧ ks.Nodup ∧ ∀ z, z ∈ ks ↔ ((∃ u ∈ S0.take i, ∃ v ∈ S0, MT u v top z) ∨ ∃ v ∈ S0.take j, MT u v top z) ∨ z ∈ L.take n, ⟨ks, _, rfl, nd, fun z => by rw [hz]; simp⟩, ?_, ?_⟩
      · rintro n e S he ⟨ks, k5, rfl, nd, hz⟩
        obtain ⟨z0, hz0, rfl⟩ := Option.map_eq_some_iff.mp (List.getElem?_map .. ▸ he)
        have hz0m := (hm z0).mp (List.mem_of_getElem? hz0)
        have hlen : ks.length ≤ 50 := hcnt ks nd fun z hzz => by
          rcases (hz z).mp hzz with (⟨a, ha, b, hb, h⟩ | ⟨b, hb, h⟩) | h
          · exact ⟨a, List.mem_of_mem_take ha, b, hb, h⟩
          · exact ⟨u, hum, b, List.mem_of_mem_take hb, h⟩
          · exact ⟨u, hum, v, hvm, (hm z).mp (List.mem_of_mem_take h)⟩
        have htk : L.take (n + 1) = L.take n ++ [z0] := by rw [List.take_succ, hz0]; rfl
        walk_at "sn"
        refine ⟨by unfold ksT; rw [List.length_map]; exact lt_size (by omega), ?_⟩
        rw [put_ks]
        refine ⟨_, _, rfl, ?_, fun z => ?_⟩
        · split
          · exact nd
          · next hn =>
            rw [List.nodup_append]
            refine ⟨nd, by simp, fun a ha b hb => ?_⟩
            rw [List.mem_singleton.mp hb]
            exact fun e => hn (e ▸ ha)
        · rw [htk, List.mem_append, List.mem_singleton]
          have := hz z
          by_cases hin : z0 ∈ ks
          · rw [if_pos hin, this]
            constructor
            · rintro (h | h)
              · exact .inl h
              · exact .inr (.inl h)
            · rintro (h | h | rfl)
              · exact .inl h
              · exact .inr h
              · exact (hz _).mp hin
          · rw [if_neg hin, List.mem_append, List.mem_singleton, this]
            exact or_assoc
      · rintro S ⟨ks, k5, rfl, nd, hz⟩
        rw [List.length_map, List.take_length] at hz
        refine ⟨ks, _, _, rfl, nd, fun z => ?_⟩
        rw [hz, List.take_succ, hv, hm]
        constructor
        · rintro ((h | ⟨b, hb, h⟩) | h)
          · exact .inl h
          · exact .inr ⟨b, List.mem_append_left _ hb, h⟩
          · exact .inr ⟨v, by simp, h⟩
        · rintro (h | ⟨b, hb, h⟩)
          · exact .inl (.inl h)
          · rcases List.mem_append.mp hb with hb | hb
            · exact .inl (.inr ⟨b, hb, h⟩)
            · have : b = v := by simpa using hb
              subst this
              exact .inr h
    · rintro S ⟨ks, k4, k5, rfl, nd, hz⟩
      rw [List.length_map, List.take_length] at hz
      refine ⟨ks, _, _, _, rfl, nd, fun z => ?_⟩
      rw [hz, List.take_succ, hu]
      constructor
      · rintro (⟨a, ha, h⟩ | ⟨b, hb, h⟩)
        · exact ⟨a, List.mem_append_left _ ha, h⟩
        · exact ⟨u, by simp, b, hb, h⟩
      · rintro ⟨a, ha, b, hb, h⟩
        rcases List.mem_append.mp ha with ha | ha
        · exact .inl ⟨a, ha, b, hb, h⟩
        · have : a = u := by simpa using ha
          subst this
          exact .inr ⟨b, hb, h⟩
  · rintro S ⟨ks, k3, k4, k5, rfl, nd, hz⟩
    rw [List.length_map, List.take_length] at hz
    have hlen := hcnt ks nd fun z h => (hz z).mp h
    walk_at "sn"
    refine ⟨ks, ksT_keys ks, by omega, fun l p s => ?_⟩
    walk_at "sn"
    exact k _ (sorted_strict p s nd) (fun z => by rw [p.mem_iff]; exact hz z) (by rw [p.length_eq]; exact hlen)
end PL.M

--@ T k38
--@ norm
set_option Elab.async false
set_option linter.all false
set_option maxRecDepth 100000
set_option maxHeartbeats 4000000
set_option autoImplicit false
/-! sets of odd parts: what one more comes to, what each costs -/
namespace PL.FW
open PySem L2 PL PL.V PL.M
def b_core : PTS := sSeq (sIf (qV (pB cEq (pD 0) (pC (.int 0))))
  (sRet (pTup (aC (pC (.int 0)) (aC (pC (.int 0)) (aC (pC (.int 0)) (aN))))))
  (sNx))
  (sSeq (sSet 1 (pU uAbs (pD 0)))
  (sSeq (sSet 2 (pB bSub (pU uBits (pB bAnd (pD 1) (pU uNeg (pD 1)))) (pC (.int 1))))
  (sSeq (sSet 3 (pC (.int 1)))
  (sCut (sIf (qV (pB cLt (pD 0) (pC (.int 0))))
  (sSet 3 (pU uNeg (pC (.int 1))))
  (sNx))
  (sRet (pTup (aC (pB bShr (pD 1) (pD 2)) (aC (pD 2) (aC (pD 3) (aN))))))))))
abbrev sp_core : FSp := PL.M.sp_core
theorem v_core (ts : List T) (K : T → List (Option T) → Prop) (h : sp_core ts K) : ts.length = 1 ∧ b_core (endsOf [true] ts K) (PL.start 4 ts) := PL.M.v_core ts K h
def b_made_of_two : PTS := sSeq (sSet 3 (pLst (aN)))
  (sSeq (sSet 4 (pD 0))
  (sSeq (sWh (qV (pB cLe (pD 4) (pB bAdd (pD 2) (pD 1))))
  (sSeq (sFor (iTp (pTup (aC (pFz (pB bAdd (pD 4) (pD 1))) (aC (pB bSub (pD 4) (pD 1)) (aN))))) (gN 5)
  (sSeq (sSet 6 (pB bIx (pCall sp_core (aC (pD 5) (aN))) (pC (.int 0))))
  (sIfC (qCh fLt fLe (pC (.int 0)) (pD 6) (pD 2))
  (sDrop (pMeth lAppend (pV 3) (aC (pD 6) aN)))
  (sNx))))
  (sSet 4 (pB bMul (pC (.int 2)) (pD 4)))))
  (sRet (pM 3))))
abbrev sp_made_of_two : FSp := PL.M.sp_made_of_two
theorem v_made_of_two (ts : List T) (K : T → List (Option T) → Prop) (h : sp_made_of_two ts K) : ts.length = 3 ∧ b_made_of_two (endsOf [true, true, true] ts K) (PL.start 7 ts) := PL.M.v_made_of_two ts K h
def b_made : PTS := sSeq (sSet 2 (pDctN))
  (sSeq (sFor (iSq (pD 0)) (gN 3)
  (sFor (iSq (pD 0)) (gN 4)
  (sFor (iLs (pFz (pCall sp_made_of_two (aC (pD 3) (aC (pD 4) (aC (pD 1) (aN))))))) (gN 5)
  (sSetIx (pV 2) (pD 5) (pC (.bool true))))))
  (sRet (pU uSorted (pV 2))))
abbrev sp_made : FSp := PL.M.sp_made
theorem v_made (ts : List T) (K : T → List (Option T) → Prop) (h : sp_made ts K) : ts.length = 2 ∧ b_made (endsOf [true, true] ts K) (PL.start 6 ts) := PL.M.v_made ts K h
/-- bounds beyond which nothing is told -/
def Far (top most : Int) : Prop := 99 < top ∨ 4 < most ∨ (31 < top ∧ 3 < most)
def b_refuse_far (ξ : Xi) : PTS := sIfC (qOr (qV (pB cGt (pD 0) (pC (.int 99)))) (qOr (qV (pB cGt (pD 1) (pC (.int 4)))) (qAnd (qV (pB cGt (pD 0) (pC (.int 31)))) (qV (pB cGt (pD 1) (pC (.int 3)))))))
  (sRaise ξ "TooMany")
  (sNx)
def sx_refuse_far : FSpX := fun ts K X => ∃ top most : Int, ts = [.p (.int top), .p (.int most)] ∧ (Far top most → X (Str.ofString "TooMany") [some (.p (.int top)), some (.p (.int most))]) ∧ (¬ Far top most → K (.p .none) [some (.p (.int top)), some (.p (.int most))])
abbrev sp_refuse_far : FSp := noX sx_refuse_far
theorem vx_refuse_far (ts : List T) (K : T → List (Option T) → Prop) (kx : Str → List (Option T) → Prop) (h : sx_refuse_far ts K kx) : ts.length = 2 ∧ b_refuse_far (fun x S => kx x (post [true, true] ts S)) (endsOf [true, true] ts K) (PL.start 2 ts) := by
  obtain ⟨top, most, rfl, k1, k2⟩ := h
  (refine ⟨rfl, ?_⟩; simp only [PL.start, List.map_cons, List.map_nil, List.length_cons, List.length_nil, Nat.reduceAdd, Nat.reduceSub, List.replicate_succ, List.replicate_zero, List.cons_append, List.nil_append])
  refine ifC (Far top most) (¬ Far top most) ?_ (fun h => ?_) (fun h => ?_)
  · walk_at "an"
    refine ⟨fun q => ⟨fun _ => ⟨rfl, .inl (by have := of_decide_eq_true q; omega)⟩, fun z => (by cases z)⟩, fun q => ?_⟩
    have q := of_decide_eq_false q
    walk_at "an"
    refine ⟨fun q1 => ⟨fun _ => ⟨rfl, .inr (.inl (by have := of_decide_eq_true q1; omega))⟩, fun z => (by cases z)⟩, fun q1 => ?_⟩
    have q1 := of_decide_eq_false q1
    walk_at "an"
    refine ⟨fun q2 => ?_, fun q2 => ?_⟩
    · have q2 := of_decide_eq_true q2
      walk_at "an"
      refine ⟨fun q3 => ⟨rfl, .inr (.inr (by have := of_decide_eq_true q3; omega))⟩, fun q3 => ⟨rfl, fun z => ?_⟩⟩
      have q3 := of_decide_eq_false q3
      unfold Far at z
      omega
    · have q2 := of_decide_eq_false q2
      refine ⟨fun z => (by cases z), fun _ => ⟨rfl, fun z => ?_⟩⟩
      unfold Far at z
      omega
  · have k1 := k1 h
    walk_at "an"
    exact k1
  · have k2 := k2 h
    walk_at "an"
    exact k2
/-- a rising set of odd numbers up to a top -/
structure RS (top : Int) (s : List Int) : Prop where
  p : s.Pairwise (· < ·)
  m : ∀ x ∈ s, x % 2 = 1 ∧ 0 < x ∧ x ≤ top
theorem RS.nd {top : Int} {s : List Int} (h : RS top s) : s.Nodup := h.p.imp fun h => by omega
theorem RS.len {top : Int} {s : List Int} (h : RS top s) (ht : top ≤ 99) : s.length ≤ 50 := odd_count h.nd fun z hz => by have := h.m z hz; omega
/-- z put into s -/
def Ins (s : List Int) (z : Int) (t : List Int) : Prop := t.Pairwise (· < ·) ∧ ∀ x, x ∈ t ↔ x ∈ s ∨ x = z
theorem Ins.uniq {s t u : List Int} {z : Int} (h : Ins s z t) (k : Ins s z u) : t = u := strict_ext h.1 k.1 fun x => (h.2 x).trans (k.2 x).symm
theorem Ins.rs {top : Int} {s t : List Int} {z : Int} (h : Ins s z t) (k : RS top s) (hz : z % 2 = 1 ∧ 0 < z ∧ z ≤ top) : RS top t := ⟨h.1, fun x hx => by
  rcases (h.2 x).mp hx with hx | rfl
  · exact k.m x hx
  · exact hz⟩
/-- what comes of a set by one more; the set itself where nothing does -/
def Nxt (top : Int) (s t : List Int) : Prop := (t = s ∧ ∀ z, MS s top z → z ∈ s) ∨ ∃ z, MS s top z ∧ z ∉ s ∧ Ins s z t
theorem MS_odd {s : List Int} {top z : Int} (h : MS s top z) : z % 2 = 1 ∧ 0 < z ∧ z ≤ top := by
  obtain ⟨u, _, v, _, h⟩ := h
  exact h.odd
theorem Nxt.rs {top : Int} {s t : List Int} (h : Nxt top s t) (k : RS top s) : RS top t := by
  rcases h with ⟨rfl, _⟩ | ⟨z, hz, _, h⟩
  · exact k
  · exact h.rs k (MS_odd hz)
/-- sets that come of 1 by so many -/
def Lv (top : Int) : Nat → List Int → Prop
  | 0, t => t = [1]
  | k + 1, t => ∃ s, Lv top k s ∧ Nxt top s t
theorem Lv.ne {top : Int} : ∀ {k : Nat} {t : List Int}, Lv top k t → t ≠ []
  | 0, t, h => by
    have h : t = [1] := h
    rw [h]; simp
  | k + 1, t, ⟨s, hs, h⟩ => by
    rcases h with ⟨rfl, _⟩ | ⟨z, _, _, h⟩
    · exact Lv.ne hs
    · intro e
      have := (h.2 z).mpr (.inr rfl)
      rw [e] at this
      cases this
theorem Lv.rs {top : Int} (h1 : 1 ≤ top) : ∀ {k : Nat} {t : List Int}, Lv top k t → RS top t
  | 0, t, h => by
    have h : t = [1] := h
    rw [h]
    exact ⟨by simp, fun x hx => by rw [List.mem_singleton.mp hx]; omega⟩
  | k + 1, t, ⟨s, hs, h⟩ => h.rs (Lv.rs h1 hs)
/-- sorted, each once -/
structure Srt (L : List (List Int)) : Prop where
  s : L.Pairwise fun a b => leR a b = true
  nd : L.Nodup
theorem Srt.uniq {L M : List (List Int)} (h : Srt L) (k : Srt M) (e : ∀ t, t ∈ L ↔ t ∈ M) : L = M := by
  have p : L.Perm M := (List.perm_ext_iff_of_nodup h.nd k.nd).mpr e
  exact List.Perm.eq_of_pairwise (le := fun a b => leR a b = true) (fun a b _ _ h1 h2 => List.le_antisymm (of_decide_eq_true h1) (of_decide_eq_true h2)) h.s k.s p
theorem srt_sorted {ks : List (List Int)} (nd : ks.Nodup) : Srt (ks.mergeSort leR) := by
  have tr : ∀ a b c : List Int, leR a b = true → leR b c = true → leR a c = true := fun a b c h1 h2 => decide_eq_true (List.le_trans (of_decide_eq_true h1) (of_decide_eq_true h2))
  have tt : ∀ a b : List Int, (leR a b || leR b a) = true := fun a b => by
    rcases List.le_total a b with z | z
    · rw [show leR a b = true from decide_eq_true z]; rfl
    · rw [show leR b a = true from decide_eq_true z, Bool.or_true]
  exact ⟨List.pairwise_mergeSort tr tt _, (List.mergeSort_perm ks leR).nodup_iff.mpr nd⟩
def ksO (ks : List (List Int)) : List (List Int × PyData) := ks.map fun k => (k, .bool true)
theorem get_ksO (ks : List (List Int)) (k : List Int) : (valO (ksO ks) k).isSome = decide (k ∈ ks) := by
  unfold valO ksO
  rw [Option.isSome_map, Bool.eq_iff_iff, List.find?_isSome, decide_eq_true_eq]
  constructor
  · rintro ⟨x, hx, h⟩
    obtain ⟨y, hy, rfl⟩ := List.mem_map.mp hx
    have : y = k := by simpa using h
    exact this ▸ hy
  · intro h
    exact ⟨_, List.mem_map_of_mem h, by simp⟩
def pkO (ks : List (List Int)) (k : List Int) : List (List Int) := if k ∈ ks then ks else ks ++ [k]
theorem put_ksO (ks : List (List Int)) (k : List Int) : putO (ksO ks) k (.bool true) = ksO (pkO ks k) := by
  unfold putO pkO
  rw [get_ksO]
  by_cases h : k ∈ ks
  · rw [decide_eq_true h, if_pos rfl, if_pos h]
    unfold ksO
    rw [List.map_map]
    apply List.map_congr_left
    intro x _
    show (if x = k then _ else _) = _
    split
    · next e => rw [e]
    · rfl
  · rw [decide_eq_false h, if_neg (by decide), if_neg h]
    unfold ksO
    rw [List.map_append]; rfl
theorem pkO_mem (ks : List (List Int)) (k x : List Int) : x ∈ pkO ks k ↔ x ∈ ks ∨ x = k := by
  unfold pkO
  split
  · next h => exact ⟨.inl, fun q => q.elim id fun e => e ▸ h⟩
  · rw [List.mem_append, List.mem_singleton]
theorem pkO_nd {ks : List (List Int)} (h : ks.Nodup) (k : List Int) : (pkO ks k).Nodup := by
  unfold pkO
  split
  · exact h
  · next c =>
    rw [List.nodup_append]
    refine ⟨h, by simp, fun a ha b hb => ?_⟩
    rw [List.mem_singleton.mp hb]
    rintro rfl
    exact c ha
theorem pkO_len (ks : List (List Int)) (k : List Int) : (pkO ks k).length ≤ ks.length + 1 := by
  unfold pkO
  split
  · omega
  · simp
theorem ksO_len (ks : List (List Int)) : (ksO ks).length = ks.length := List.length_map ..
theorem ksO_keys (ks : List (List Int)) : (ksO ks).map (·.1) = ks := by unfold ksO; rw [List.map_map]; exact List.map_id' _
theorem keyT_tup (k : List Int) : keyT (tupI k) = some k := allI_map k
theorem any_intF (l : List Int) (x : Int) : ((l.map PyData.int).any fun z => PyData.eqv z (.int x)) = decide (x ∈ l) := by
  rw [List.any_map, Bool.eq_iff_iff, List.any_eq_true, decide_eq_true_eq]
  constructor
  · rintro ⟨y, hy, h⟩
    have : y = x := by simpa [PyData.eqv] using h
    exact this ▸ hy
  · intro h
    exact ⟨x, h, by simp [PyData.eqv]⟩
theorem nxFF (b : Bool) : nxor false b = b := by cases b <;> rfl
theorem nxTT (b : Bool) : nxor true b = !b := by cases b <;> rfl
/-- those not in s -/
def fNin (s : List Int) : PyData → Option PyData
  | .int z => if z ∈ s then none else some (.int z)
  | _ => none
theorem fNin_map (s ks : List Int) : (ks.map PyData.int).filterMap (fNin s) = (ks.filter fun z => decide (z ∉ s)).map .int := by
  induction ks with
  | nil => rfl
  | cons x r ih =>
    rw [List.map_cons, List.filterMap_cons, List.filter_cons]
    have ef : fNin s (.int x) = if x ∈ s then none else some (.int x) := rfl
    rw [ef]
    by_cases h : x ∈ s
    · rw [if_pos h, if_neg (by simpa using h)]; exact ih
    · rw [if_neg h, if_pos (by simpa using h), List.map_cons, ih]
theorem tup_lay (s : List Int) : PyData.canLay0 (tupI s) = true := lay_intsU s
theorem small99 {x top : Int} (h : 0 < x ∧ x ≤ top) (ht : top ≤ 99) : 1 ≤ x ∧ LB 900 x := ⟨by omega, (LB.of (n := 8) (by omega)).mono (by decide)⟩
theorem flat_intsF (z : Int) (l : List Int) (b : Bool) : (flatD (PyData.int z) && (l.map PyData.int).all flatD || b) = true := by
  have : (l.map PyData.int).all flatD = true := by rw [List.all_map, List.all_eq_true]; intro x _; rfl
  rw [this]; rfl
theorem eqv_nilF (l : List Int) : (false ^^ PyData.eqv (.list (l.map PyData.int)) (.list [])) = decide (l = []) := by cases l <;> rfl
theorem eqv_nilT (l : List Int) : (true ^^ PyData.eqv (.list (l.map PyData.int)) (.list [])) = decide (l ≠ []) := by cases l <;> rfl
theorem ins_ex {s l : List Int} {z : Int} (h : s.Pairwise (· < ·)) (hz : z ∉ s) (p : l.Perm (s ++ [z])) (q : l.Pairwise (· ≤ ·)) : Ins s z l := by
  have nd : (s ++ [z]).Nodup := by
    rw [List.nodup_append]
    refine ⟨h.imp fun h => by omega, by simp, fun a ha b hb => ?_⟩
    rw [List.mem_singleton.mp hb]
    rintro rfl
    exact hz ha
  exact ⟨sorted_strict p q nd, fun x => by rw [p.mem_iff, List.mem_append, List.mem_singleton]⟩
def b_longer : PTS := sSeq (sSet 2 (pDctO))
  (sSeq (sFor (iSq (pD 0)) (gN 3)
  (sSeq (sSet 4 (pFz (pLc (iLs (pFz (pCall sp_made (aC (pD 3) (aC (pD 1) (aN)))))) (gN 5) (qV (pB cNi (pD 5) (pD 3))) (pD 5) [5])))
  (sCut (sIf (qV (pB cEq (pD 4) (pLst (aN))))
  (sSetIxO (pV 2) (pD 3) (pC (.bool true)))
  (sNx))
  (sFor (iSq (pD 4)) (gN 5)
  (sSetIxO (pV 2) (pU uTuple (pU uSortedT (pB bCatT (pD 3) (pTup (aC (pD 5) (aN)))))) (pC (.bool true)))))))
  (sRet (pU uSrtO (pV 2))))
def sp_longer : FSp := fun ts K => ∃ (L : List (List Int)) (top : Int), ts = [.p (.list (L.map tupI)), .p (.int top)] ∧ 1 ≤ top ∧ top ≤ 99 ∧ (∀ s ∈ L, RS top s) ∧ L.length ≤ 10000 ∧ (∀ s ∈ L, s ≠ []) ∧
  ∀ M : List (List Int), Srt M → (∀ t, t ∈ M ↔ ∃ s ∈ L, Nxt top s t) → M.length ≤ 50 * L.length → K (.ol (M.map tupI)) [some (.p (.list (L.map tupI))), some (.p (.int top))]
theorem v_longer (ts : List T) (K : T → List (Option T) → Prop) (h : sp_longer ts K) : ts.length = 2 ∧ b_longer (endsOf [true, true] ts K) (PL.start 6 ts) := by
  obtain ⟨L, top, rfl, ht1, ht, hrs, hll, hne, k⟩ := h
  have hlm : (L.map tupI).length = L.length := List.length_map ..
  have btop : LB 900 top := (small99 ⟨by omega, Int.le_refl _⟩ ht).2
  (refine ⟨rfl, ?_⟩; simp only [PL.start, List.map_cons, List.map_nil, List.length_cons, List.length_nil, Nat.reduceAdd, Nat.reduceSub, List.replicate_succ, List.replicate_zero, List.cons_append, List.nil_append])
  walk_at "an"
  refine ⟨fun i S => ∃ (ks : List (List Int)) (k3 k4 k5 : Option T), S = [some (.p (.list (L.map tupI))), some (.p (.int top)), some (.ot (ksO ks)), k3, k4, k5] ∧ ks.Nodup ∧ ks.length ≤ 50 * i ∧ ∀ t, t ∈ ks ↔ ∃ s ∈ L.take i, Nxt top s t, ⟨[], _, _, _, rfl, List.nodup_nil, Nat.le_refl _, fun t => by simp⟩, ?_, ?_⟩
  · rintro i d S hd ⟨ks, k3, k4, k5, rfl, nd, kl, hks⟩
    obtain ⟨s, hs, rfl⟩ := Option.map_eq_some_iff.mp (List.getElem?_map .. ▸ hd)
    have hsm := List.mem_of_getElem? hs
    have hi := (List.getElem?_eq_some_iff.mp hs).1
    have rs := hrs s hsm
    have hsl := rs.len ht
    walk_at "an"
    refine ⟨s, tupI s, top, rfl, .inr rfl, fun x hx => small99 (rs.m x hx).2 ht, by omega, ht, btop, fun M hM1 hM2 hM3 => ⟨rfl, rfl, rfl, ?_⟩⟩
    refine ⟨WF (fNin s) (M.map .int) [some (.p (.list (L.map tupI))), some (.p (.int top)), some (.ot (ksO ks)), some (.p (tupI s)), k4, none], ⟨rfl, rfl⟩, ?_, ?_⟩
    · rintro j d acc S hd ⟨rfl, rfl⟩
      obtain ⟨z, hz, rfl⟩ := Option.map_eq_some_iff.mp (List.getElem?_map .. ▸ hd)
      have hml : (M.map PyData.int).length = M.length := List.length_map ..
      have hany := any_intF s z
      walk_at "an"
      rw [hany, nxTT]
      refine ⟨flat_intsF _ _ _, fun q => ?_, fun q => ?_⟩
      · have q : z ∉ s := by simpa using q
        walk_at "an"
        exact wf_some (f := fNin s) (by omega) hd (by show (if z ∈ s then none else some (PyData.int z)) = _; rw [if_neg q])
      · have q : z ∈ s := by simpa using q
        exact wf_none (f := fNin s) hd (by show (if z ∈ s then none else some (PyData.int z)) = _; rw [if_pos q])
    rintro acc S hW
    obtain ⟨rfl, rfl⟩ := wf_end hW
    rw [fNin_map]
    have hmore : ∀ z, z ∈ M.filter (fun z => decide (z ∉ s)) ↔ MS s top z ∧ z ∉ s := fun z => by
      rw [List.mem_filter, hM2, decide_eq_true_eq]
    have hmol : (M.filter fun z => decide (z ∉ s)).length ≤ 50 := Nat.le_trans (List.length_filter_le _ _) hM3
    generalize M.filter (fun z => decide (z ∉ s)) = more at hmore hmol ⊢
    have htk : ∀ t, (∃ q ∈ L.take (i + 1), Nxt top q t) ↔ (∃ q ∈ L.take i, Nxt top q t) ∨ (more = [] ∧ t = s) ∨ ∃ z ∈ more, Ins s z t := fun t => by
      rw [List.take_succ, hs]
      constructor
      · rintro ⟨q, hq, h⟩
        rcases List.mem_append.mp hq with hq | hq
        · exact .inl ⟨q, hq, h⟩
        · obtain rfl : q = s := by simpa using hq
          rcases h with ⟨rfl, h⟩ | ⟨z, h1, h2, h3⟩
          · refine .inr (.inl ⟨?_, rfl⟩)
            rw [List.eq_nil_iff_forall_not_mem]
            intro z hz
            have := (hmore z).mp hz
            exact this.2 (h z this.1)
          · exact .inr (.inr ⟨z, (hmore z).mpr ⟨h1, h2⟩, h3⟩)
      · rintro (⟨q, hq, h⟩ | ⟨h, rfl⟩ | ⟨z, hz, h⟩)
        · exact ⟨q, List.mem_append_left _ hq, h⟩
        · refine ⟨t, List.mem_append_right _ (by simp), .inl ⟨rfl, fun z hz => ?_⟩⟩
          apply Classical.byContradiction
          intro hn
          have := (hmore z).mpr ⟨hz, hn⟩
          rw [h] at this
          cases this
        · have := (hmore z).mp hz
          exact ⟨s, List.mem_append_right _ (by simp), .inr ⟨z, this.1, this.2, h⟩⟩
    walk_at "an"
    refine ⟨fun S => ∃ ks1 : List (List Int), S = [some (.p (.list (L.map tupI))), some (.p (.int top)), some (.ot (ksO ks1)), some (.p (tupI s)), some (.p (.list (more.map .int))), none] ∧ ks1.Nodup ∧ ks1.length ≤ 50 * i + (if more = [] then 1 else 0) ∧
      ∀ t, t ∈ ks1 ↔ (∃ q ∈ L.take i, Nxt top q t) ∨ (more = [] ∧ t = s), ?_, ?_⟩
    · have ev := eqv_nilF more
      have hsh : SeqAt.shaped (PyData.list (more.map PyData.int)) = true := shaped_ints _
      have hsz : (ksO ks).length < sizeLine := by rw [ksO_len]; exact lt_size (by omega)
      have kt := keyT_tup s
      have pt := put_ksO ks s
      have hdat : (T.ol (more.map PyData.int)).dat = .list (more.map .int) := rfl
      rw [hdat]
      walk_at "an"
      rw [ev]
      refine ⟨fun q => ?_, fun q => ?_⟩
      · have q : more = [] := by simpa using q
        walk_at "an"
        rw [kt]
        dsimp only
        rw [pt]
        refine ⟨hsz, pkO ks s, rfl, pkO_nd nd s, by rw [if_pos q]; have := pkO_len ks s; omega, fun t => ?_⟩
        rw [pkO_mem, hks]
        exact ⟨fun z => z.elim .inl fun e => .inr ⟨q, e⟩, fun z => z.elim .inl fun e => .inr e.2⟩
      · have q : ¬ more = [] := by simpa using q
        refine ⟨ks, rfl, nd, by omega, fun t => ?_⟩
        rw [hks]
        exact ⟨.inl, fun z => z.elim id fun e => absurd e.1 q⟩
    rintro S ⟨ks1, rfl, nd1, kl1, hk1⟩
    walk_at "an"
    refine ⟨fun j S => ∃ (ks2 : List (List Int)) (k5 : Option T), S = [some (.p (.list (L.map tupI))), some (.p (.int top)), some (.ot (ksO ks2)), some (.p (tupI s)), some (.p (.list (more.map .int))), k5] ∧ ks2.Nodup ∧ ks2.length ≤ ks1.length + j ∧
      ∀ t, t ∈ ks2 ↔ ((∃ q ∈ L.take i, Nxt top q t) ∨ (more = [] ∧ t = s)) ∨ ∃ z ∈ more.take j, Ins s z t, ⟨ks1, _, rfl, nd1, Nat.le_refl _, fun t => by rw [hk1]; simp⟩, ?_, ?_⟩
    · rintro j d S hd ⟨ks2, k5', rfl, nd2, kl2, hk2⟩
      obtain ⟨z, hz, rfl⟩ := Option.map_eq_some_iff.mp (List.getElem?_map .. ▸ hd)
      have hj := (List.getElem?_eq_some_iff.mp hz).1
      have hzm := (hmore z).mp (List.mem_of_getElem? hz)
      have e1 : s.map PyData.int ++ [PyData.int z] = (s ++ [z]).map .int := by rw [List.map_append]; rfl
      have a1 : allI ((s ++ [z]).map PyData.int) = some (s ++ [z]) := allI_map _
      rw [← e1] at a1
      walk_at "an"
      refine ⟨_, a1, by rw [List.length_append, List.length_singleton]; omega, fun l p1 p2 => ?_⟩
      have ins := ins_ex rs.p hzm.2 p1 p2
      have kt := keyT_tup l
      have pt := put_ksO ks2 l
      have hsz : (ksO ks2).length < sizeLine := by
        rw [ksO_len]
        split at kl1 <;> exact lt_size (by omega)
      walk_at "an"
      rw [show keyT (PyData.tuple (l.map PyData.int)) = some l from kt]
      dsimp only
      rw [pt]
      refine ⟨hsz, pkO ks2 l, _, rfl, pkO_nd nd2 l, by have := pkO_len ks2 l; omega, fun t => ?_⟩
      rw [pkO_mem, hk2, List.take_succ, hz]
      constructor
      · rintro ((h | ⟨y, hy, h⟩) | rfl)
        · exact .inl h
        · exact .inr ⟨y, List.mem_append_left _ hy, h⟩
        · exact .inr ⟨z, List.mem_append_right _ (by simp), ins⟩
      · rintro (h | ⟨y, hy, h⟩)
        · exact .inl (.inl h)
        · rcases List.mem_append.mp hy with hy | hy
          · exact .inl (.inr ⟨y, hy, h⟩)
          · obtain rfl : y = z := by simpa using hy
            exact .inr (h.uniq ins)
    · rintro S ⟨ks2, k5', rfl, nd2, kl2, hk2⟩
      rw [List.length_map] at kl2 hk2
      rw [List.take_length] at hk2
      refine ⟨ks2, _, _, _, rfl, nd2, ?_, fun t => ?_⟩
      · split at kl1
        · next e => rw [e] at kl2; simp at kl2; omega
        · omega
      · rw [hk2, htk, or_assoc]
  · rintro S ⟨ks, k3, k4, k5, rfl, nd, kl, hks⟩
    rw [hlm] at kl hks
    rw [List.take_length] at hks
    have hne2 : ∀ x ∈ ksO ks, x.1 ≠ [] := fun x hx => by
      obtain ⟨y, hy, rfl⟩ := List.mem_map.mp hx
      obtain ⟨s, hs, h⟩ := (hks y).mp hy
      rcases h with ⟨rfl, _⟩ | ⟨z, _, _, h⟩
      · exact hne _ hs
      · intro e
        have := (h.2 z).mpr (.inr rfl)
        rw [show y = [] from e] at this
        cases this
    have pm := List.mergeSort_perm ks leR
    have k := k (ks.mergeSort leR) (srt_sorted nd) (fun t => by rw [pm.mem_iff]; exact hks t) (by rw [pm.length_eq]; exact kl)
    walk_at "an"
    rw [ksO_keys, srtD_tups]
    walk_at "an"
    exact k
/-- what comes of sets by so many deeds -/
def Made (top : Int) (c : Nat) (z : Int) : Prop := ∃ s, Lv top c s ∧ MS s top z
/-- the least number of deeds, up to m of them -/
def CostIs (top : Int) (m : Nat) (z : Int) (c : Nat) : Prop := (z = 1 ∧ c = 0) ∨ (z ≠ 1 ∧ ∃ e, e < m ∧ c = e + 1 ∧ Made top e z ∧ ∀ d, d < e → ¬ Made top d z)
structure Cs (cs : List (Int × Nat)) (B : Int → Nat → Prop) : Prop where
  nd : (cs.map (·.1)).Nodup
  m : ∀ z k, (z, k) ∈ cs ↔ B z k
def AddC (B : Int → Nat → Prop) (c : Nat) (P : Int → Prop) : Int → Nat → Prop := fun z k => B z k ∨ (k = c ∧ (∀ k', ¬ B z k') ∧ P z)
def setC (cs : List (Int × Nat)) (z : Int) (c : Nat) : List (Int × Nat) := if z ∈ cs.map (·.1) then cs else cs ++ [(z, c)]
theorem Cs.key {cs : List (Int × Nat)} {B : Int → Nat → Prop} (h : Cs cs B) (z : Int) : z ∈ cs.map (·.1) ↔ ∃ k, B z k := by
  rw [List.mem_map]
  constructor
  · rintro ⟨⟨z', k⟩, hm, rfl⟩
    exact ⟨k, (h.m _ _).mp hm⟩
  · rintro ⟨k, hk⟩
    exact ⟨(z, k), (h.m _ _).mpr hk, rfl⟩
theorem Cs.cong {cs : List (Int × Nat)} {B B' : Int → Nat → Prop} (h : Cs cs B) (e : ∀ z k, B z k ↔ B' z k) : Cs cs B' := ⟨h.nd, fun z k => (h.m z k).trans (e z k)⟩
theorem Cs.set {cs : List (Int × Nat)} {B : Int → Nat → Prop} {c : Nat} {P : Int → Prop} (h : Cs cs (AddC B c P)) (z : Int) : Cs (setC cs z c) (AddC B c fun x => P x ∨ x = z) := by
  have hk := h.key z
  unfold setC
  by_cases hz : z ∈ cs.map (·.1)
  · rw [if_pos hz]
    refine h.cong fun x k => ⟨fun q => q.elim .inl fun q => .inr ⟨q.1, q.2.1, .inl q.2.2⟩, fun q => ?_⟩
    rcases q with q | ⟨q1, q2, q3 | rfl⟩
    · exact .inl q
    · exact .inr ⟨q1, q2, q3⟩
    · obtain ⟨k', hk'⟩ := hk.mp hz
      rcases hk' with h1 | ⟨h1, h2, h3⟩
      · exact absurd h1 (q2 k')
      · exact .inr ⟨q1, q2, h3⟩
  · rw [if_neg hz]
    have hno : ∀ k', ¬ AddC B c P z k' := fun k' q => hz (hk.mpr ⟨k', q⟩)
    refine ⟨?_, fun x k => ?_⟩
    · rw [List.map_append, List.nodup_append]
      refine ⟨h.nd, by simp, fun a ha b hb => ?_⟩
      have : b = z := by simpa using hb
      subst this
      rintro rfl
      exact hz ha
    · rw [List.mem_append, List.mem_singleton, h.m]
      constructor
      · rintro (q | q)
        · exact q.elim .inl fun q => .inr ⟨q.1, q.2.1, .inl q.2.2⟩
        · cases q
          exact .inr ⟨rfl, fun k' q => hno k' (.inl q), .inr rfl⟩
      · rintro (q | ⟨q1, q2, q3 | rfl⟩)
        · exact .inl (.inl q)
        · exact .inl (.inr ⟨q1, q2, q3⟩)
        · exact .inr (by rw [q1])
def csK (cs : List (Int × Nat)) : List (Key × PyData) := cs.map fun p => (Sum.inl p.1, .int (p.2 : Nat))
theorem csK_len (cs : List (Int × Nat)) : (csK cs).length = cs.length := List.length_map ..
theorem get_csK (cs : List (Int × Nat)) (z : Int) : (valK (csK cs) (Sum.inl z)).isSome = decide (z ∈ cs.map (·.1)) := by
  unfold valK csK
  rw [Option.isSome_map, Bool.eq_iff_iff, List.find?_isSome, decide_eq_true_eq]
  constructor
  · rintro ⟨x, hx, h⟩
    obtain ⟨y, hy, rfl⟩ := List.mem_map.mp hx
    have : y.1 = z := by simpa using h
    exact this ▸ List.mem_map_of_mem hy
  · intro h
    obtain ⟨y, hy, rfl⟩ := List.mem_map.mp h
    exact ⟨_, List.mem_map_of_mem hy, by simp⟩
theorem put_csK {cs : List (Int × Nat)} {z : Int} (c : Nat) (h : z ∉ cs.map (·.1)) : put (csK cs) (Sum.inl z) (.int (c : Nat)) = csK (cs ++ [(z, c)]) := by
  unfold put
  have e : ((csK cs).any fun kv => decide (kv.1 = Sum.inl z)) = false := by
    rw [List.any_eq_false]
    intro x hx
    obtain ⟨y, hy, rfl⟩ := List.mem_map.mp hx
    have : y.1 ≠ z := fun e => h (e ▸ List.mem_map_of_mem hy)
    simpa using this
  rw [e, if_neg (by decide)]
  unfold csK
  rw [List.map_append]; rfl
theorem val_csK {cs : List (Int × Nat)} (nd : (cs.map (·.1)).Nodup) {z : Int} {c : Nat} (h : (z, c) ∈ cs) : valK (csK cs) (Sum.inl z) = some (.int (c : Nat)) := by
  induction cs with
  | nil => cases h
  | cons p cs ih =>
    rw [List.map_cons, List.nodup_cons] at nd
    unfold valK csK at ih ⊢
    rw [List.map_cons, List.find?_cons]
    by_cases e : p.1 = z
    · have : p = (z, c) := by
        rcases List.mem_cons.mp h with h | h
        · exact h.symm
        · exact absurd (e ▸ List.mem_map_of_mem h) nd.1
      subst this
      simp
    · have h2 : (z, c) ∈ cs := by
        rcases List.mem_cons.mp h with h | h
        · rw [← h] at e; exact absurd rfl e
        · exact h
      have := ih nd.2 h2
      simpa [e] using this
theorem Made.odd {top : Int} {c : Nat} {z : Int} (h : Made top c z) : z % 2 = 1 ∧ 0 < z ∧ z ≤ top := by
  obtain ⟨s, _, h⟩ := h
  exact MS_odd h
theorem CostIs.odd {top : Int} {m : Nat} {z : Int} {c : Nat} (h1 : 1 ≤ top) (h : CostIs top m z c) : z % 2 = 1 ∧ 0 < z ∧ z ≤ top := by
  rcases h with ⟨rfl, _⟩ | ⟨_, e, _, _, h, _⟩
  · omega
  · exact h.odd
theorem cost_zero (top : Int) (z : Int) (k : Nat) : CostIs top 0 z k ↔ z = 1 ∧ k = 0 := ⟨fun h => h.elim id fun h => by obtain ⟨_, e, h, _⟩ := h; exact absurd h (Nat.not_lt_zero e), .inl⟩
theorem cost_succ (top : Int) (m : Nat) (z : Int) (k : Nat) : CostIs top (m + 1) z k ↔ AddC (CostIs top m) (m + 1) (Made top m) z k := by
  constructor
  · rintro (h | ⟨h1, e, h2, rfl, h3, h4⟩)
    · exact .inl (.inl h)
    · by_cases he : e < m
      · exact .inl (.inr ⟨h1, e, he, rfl, h3, h4⟩)
      · obtain rfl : e = m := by omega
        refine .inr ⟨rfl, fun k' => ?_, h3⟩
        rintro (⟨rfl, _⟩ | ⟨_, d, hd, _, h5, _⟩)
        · exact h1 rfl
        · exact h4 d hd h5
  · rintro ((h | ⟨h1, e, h2, rfl, h3, h4⟩) | ⟨rfl, h2, h3⟩)
    · exact .inl h
    · exact .inr ⟨h1, e, by omega, rfl, h3, h4⟩
    · by_cases hz : z = 1
      · exact absurd (.inl ⟨hz, rfl⟩) (h2 0)
      · refine .inr ⟨hz, m, by omega, rfl, h3, fun d hd h5 => ?_⟩
        obtain ⟨e, he, h6⟩ : ∃ e, Made top e z ∧ ∀ d, d < e → ¬ Made top d z := by
          clear h2 h3
          induction d using Nat.strongRecOn with
          | _ d ih =>
            by_cases q : ∃ d', d' < d ∧ Made top d' z
            · obtain ⟨d', q1, q2⟩ := q
              exact ih d' q1 (by omega) q2
            · exact ⟨d, h5, fun d' q1 q2 => q ⟨d', q1, q2⟩⟩
        by_cases hem : e < m
        · exact h2 (e + 1) (.inr ⟨hz, e, hem, rfl, he, h6⟩)
        · exact h6 d (by omega) h5
theorem Cs.len {cs : List (Int × Nat)} {B : Int → Nat → Prop} (h : Cs cs B) (hB : ∀ z k, B z k → z % 2 = 1 ∧ 0 < z ∧ z ≤ 99) : cs.length ≤ 50 := by
  have := odd_count h.nd fun z hz => by
    obtain ⟨k, hk⟩ := (h.key z).mp hz
    exact hB z k hk
  rwa [List.length_map] at this
def pairD (p : Int × Nat) : PyData := .tuple [.int p.1, .int (p.2 : Nat)]
def prL (p : Int × Nat) : List Int := [p.1, (p.2 : Int)]
theorem pairD_eq (p : Int × Nat) : pairD p = tupI (prL p) := rfl
theorem prL_le {p q : Int × Nat} (h : leR (prL p) (prL q) = true) : p.1 ≤ q.1 := by
  have h : prL p ≤ prL q := of_decide_eq_true h
  apply Classical.byContradiction
  intro hn
  exact List.not_lt.mpr h (List.Lex.rel (by omega : q.1 < p.1))
/-- the costs, rising -/
def CostsAre (top : Int) (m : Nat) (cs : List (Int × Nat)) : Prop := (cs.map (·.1)).Pairwise (· < ·) ∧ ∀ z k, (z, k) ∈ cs ↔ CostIs top m z k
theorem costs_sorted {top : Int} {m : Nat} {cs : List (Int × Nat)} (h : Cs cs (CostIs top m)) : ∃ cs', CostsAre top m cs' ∧ srtD (cs.map pairD) = cs'.map pairD := by
  refine ⟨cs.mergeSort fun a b => leR (prL a) (prL b), ⟨?_, fun z k => ?_⟩, ?_⟩
  · have tr : ∀ a b c : Int × Nat, leR (prL a) (prL b) = true → leR (prL b) (prL c) = true → leR (prL a) (prL c) = true := fun a b c h1 h2 => decide_eq_true (List.le_trans (of_decide_eq_true h1) (of_decide_eq_true h2))
    have tt : ∀ a b : Int × Nat, (leR (prL a) (prL b) || leR (prL b) (prL a)) = true := fun a b => by
      rcases List.le_total (prL a) (prL b) with z | z
      · rw [show leR (prL a) (prL b) = true from decide_eq_true z]; rfl
      · rw [show leR (prL b) (prL a) = true from decide_eq_true z, Bool.or_true]
    have pw := List.pairwise_mergeSort (le := fun a b => leR (prL a) (prL b)) tr tt cs
    have pm := List.mergeSort_perm cs fun a b => leR (prL a) (prL b)
    have nd : ((cs.mergeSort fun a b => leR (prL a) (prL b)).map (·.1)).Nodup := (pm.map (·.1)).nodup_iff.mpr h.nd
    rw [List.pairwise_map]
    have nd2 := List.pairwise_map.mp nd
    exact (pw.and nd2).imp fun ⟨h1, h2⟩ => by
      have := prL_le h1
      omega
  · rw [(List.mergeSort_perm cs _).mem_iff, h.m]
  · rw [show cs.map pairD = (cs.map prL).map tupI by rw [List.map_map]; rfl, srtD_tups]
    rw [show (cs.mergeSort fun a b => leR (prL a) (prL b)).map pairD = ((cs.mergeSort fun a b => leR (prL a) (prL b)).map prL).map tupI by rw [List.map_map]; rfl]
    rw [List.map_mergeSort (f := prL) (r := fun a b => leR (prL a) (prL b)) (s := leR) (fun a _ b _ => rfl)]
theorem CostsAre.uniq {top : Int} {m : Nat} {cs cs' : List (Int × Nat)} (h : CostsAre top m cs) (k : CostsAre top m cs') : cs = cs' := by
  have n1 : cs.Nodup := (List.pairwise_map.mp h.1).imp fun h e => by rw [e] at h; omega
  have n2 : cs'.Nodup := (List.pairwise_map.mp k.1).imp fun h e => by rw [e] at h; omega
  have p : cs.Perm cs' := (List.perm_ext_iff_of_nodup n1 n2).mpr fun ⟨z, c⟩ => (h.2 z c).trans (k.2 z c).symm
  have s1 : cs.Pairwise fun a b => a.1 < b.1 := List.pairwise_map.mp h.1
  have s2 : cs'.Pairwise fun a b => a.1 < b.1 := List.pairwise_map.mp k.1
  exact List.Perm.eq_of_pairwise (le := fun a b => a.1 < b.1) (fun a b _ _ h1 h2 => by omega) s1 s2 p
def b_costs (ξ : Xi) : PTS := sSeq (sDrop (pCallX sx_refuse_far ξ (aC (pD 0) (aC (pD 1) (aN)))))
  (sSeq (sSet 2 (pDct (pPc (pC (.int 1)) (pC (.int 0)) (pPn))))
  (sSeq (sSet 3 (pFz (pLst (aC (pTup (aC (pC (.int 1)) (aN))) (aN)))))
  (sSeq (sFor (iR2 (pC (.int 1)) (pB bAdd (pD 1) (pC (.int 1)))) (gN 4)
  (sCut (sIf (qV (pB cGt (pD 4) (pC (.int 1))))
  (sSet 3 (pFz (pCall sp_longer (aC (pD 3) (aC (pD 0) (aN))))))
  (sNx))
  (sFor (iSq (pD 3)) (gN 5)
  (sFor (iLs (pFz (pCall sp_made (aC (pD 5) (aC (pD 0) (aN)))))) (gN 6)
  (sDrop (pSetd (pV 2) (pD 6) (pD 4)))))))
  (sRet (pU uSrtD (pLcK 2 (gN 6) (qYes) (pTup (aC (pD 6) (aC (pB bIx (pV 2) (pD 6)) (aN)))) [6]))))))
def sx_costs : FSpX := fun ts K X => ∃ top most : Int, ts = [.p (.int top), .p (.int most)] ∧ 1 ≤ top ∧ 0 ≤ most ∧ (Far top most → X (Str.ofString "TooMany") [some (.p (.int top)), some (.p (.int most))]) ∧
  (¬ Far top most → ∀ cs, CostsAre top most.toNat cs → K (.ol (cs.map pairD)) [some (.p (.int top)), some (.p (.int most))])
abbrev sp_costs : FSp := noX sx_costs
theorem vx_costs (ts : List T) (K : T → List (Option T) → Prop) (kx : Str → List (Option T) → Prop) (h : sx_costs ts K kx) : ts.length = 2 ∧ b_costs (fun x S => kx x (post [true, true] ts S)) (endsOf [true, true] ts K) (PL.start 7 ts) := by
  obtain ⟨top, most, rfl, ht1, hm0, k1, k2⟩ := h
  (refine ⟨rfl, ?_⟩; simp only [PL.start, List.map_cons, List.map_nil, List.length_cons, List.length_nil, Nat.reduceAdd, Nat.reduceSub, List.replicate_succ, List.replicate_zero, List.cons_append, List.nil_append])
  walk_at "an"
  refine ⟨top, most, rfl, ?_, fun hf => ?_⟩
  · intro h
    have k1 := k1 h
    walk_at "an"
    exact k1
  have k2 := k2 hf
  have ht : top ≤ 99 := by unfold Far at hf; omega
  have hm4 : most ≤ 4 := by unfold Far at hf; omega
  obtain ⟨m, rfl⟩ : ∃ m : Nat, most = m := ⟨most.toNat, by omega⟩
  rw [Int.toNat_natCast] at k2
  have hd0 : PyData.list [PyData.tuple [PyData.int 1]] = .list (([[1]] : List (List Int)).map tupI) := rfl
  have hk0 : put ([] : List (Key × PyData)) (Sum.inl 1) (PyData.int 0) = csK [(1, 0)] := rfl
  walk_at "an"
  refine ⟨fun i S => ∃ (cs : List (Int × Nat)) (L : List (List Int)) (k4 k5 k6 : Option T), S = [some (.p (.int top)), some (.p (.int m)), some (.od (csK cs)), some (.p (.list (L.map tupI))), k4, k5, k6] ∧ Cs cs (CostIs top i) ∧ (∀ t, t ∈ L ↔ Lv top (i - 1) t) ∧ L.length ≤ 50 ^ (i - 1), ?_, ?_, ?_⟩
  · refine ⟨[(1, 0)], [[1]], _, _, _, rfl, ⟨by simp, fun z k => ?_⟩, fun t => by rw [List.mem_singleton]; rfl, by decide⟩
    rw [cost_zero, List.mem_singleton, Prod.mk.injEq]
  · rintro i d S hd ⟨cs, L, k4, k5, k6, rfl, hcs, hL, hll⟩
    obtain ⟨rfl, hi⟩ := rng_at hd
    have hi4 : i < 4 := by omega
    have lrs : ∀ s ∈ L, RS top s := fun s hs => Lv.rs ht1 ((hL s).mp hs)
    have hll2 : L.length ≤ 2500 := Nat.le_trans hll (by
      rcases (by omega : i - 1 = 0 ∨ i - 1 = 1 ∨ i - 1 = 2) with h | h | h <;> rw [h] <;> decide)
    walk_at "an"
    refine ⟨fun S => ∃ M : List (List Int), S = [some (.p (.int top)), some (.p (.int m)), some (.od (csK cs)), some (.p (.list (M.map tupI))), some (.p (.int (1 + (i : Int)))), k5, k6] ∧ (∀ t, t ∈ M ↔ Lv top i t) ∧ M.length ≤ 50 ^ i, ?_, ?_⟩
    · walk_at "an"
      refine ⟨fun q => ?_, fun q => ?_⟩
      · have q := of_decide_eq_true q
        obtain ⟨e, rfl⟩ : ∃ e, i = e + 1 := ⟨i - 1, by omega⟩
        walk_at "an"
        refine ⟨L, top, rfl, ht1, ht, lrs, by omega, fun s hs => Lv.ne ((hL s).mp hs), fun M hM1 hM2 hM3 => ?_⟩
        have hM4 : ∀ t, t ∈ M ↔ Lv top (e + 1) t := fun t => by
          rw [hM2]
          exact ⟨fun ⟨s, hs, h⟩ => ⟨s, (hL s).mp hs, h⟩, fun ⟨s, hs, h⟩ => ⟨s, (hL s).mpr hs, h⟩⟩
        have hM5 : M.length ≤ 50 ^ (e + 1) := by
          rw [Nat.pow_succ]
          have hll : L.length ≤ 50 ^ e := hll
          omega
        walk_at "an"
        first | exact hM5 | exact ⟨M, rfl, hM4, hM5⟩
      · have q := of_decide_eq_false q
        obtain rfl : i = 0 := by omega
        exact ⟨L, rfl, hL, hll⟩
    rintro S ⟨M, rfl, hM1, hM2⟩
    have mrs : ∀ s ∈ M, RS top s := fun s hs => Lv.rs ht1 ((hM1 s).mp hs)
    have btop : LB 900 top := (small99 ⟨by omega, Int.le_refl _⟩ ht).2
    walk_at "an"
    refine ⟨fun j S => ∃ (cs : List (Int × Nat)) (k5 k6 : Option T), S = [some (.p (.int top)), some (.p (.int m)), some (.od (csK cs)), some (.p (.list (M.map tupI))), some (.p (.int (1 + (i : Int)))), k5, k6] ∧ Cs cs (AddC (CostIs top i) (i + 1) fun z => ∃ s ∈ M.take j, MS s top z), ?_, ?_, ?_⟩
    · refine ⟨cs, _, _, rfl, hcs.cong fun z k => ⟨.inl, fun h => h.elim id fun h => ?_⟩⟩
      obtain ⟨s, hs, _⟩ := h.2.2
      simp at hs
    · rintro j d S hd ⟨cs, k5, k6, rfl, hcs⟩
      obtain ⟨s, hs, rfl⟩ := Option.map_eq_some_iff.mp (List.getElem?_map .. ▸ hd)
      have hsm := List.mem_of_getElem? hs
      have rs := mrs s hsm
      have hsl := rs.len ht
      walk_at "an"
      refine ⟨s, tupI s, top, rfl, .inr rfl, fun x hx => small99 (rs.m x hx).2 ht, by omega, ht, btop, fun N hN1 hN2 hN3 => ?_⟩
      walk_at "an"
      refine ⟨fun n S => ∃ (cs : List (Int × Nat)) (k6 : Option T), S = [some (.p (.int top)), some (.p (.int m)), some (.od (csK cs)), some (.p (.list (M.map tupI))), some (.p (.int (1 + (i : Int)))), some (.p (tupI s)), k6] ∧ Cs cs (AddC (CostIs top i) (i + 1) fun z => (∃ s ∈ M.take j, MS s top z) ∨ z ∈ N.take n), ?_, ?_, ?_⟩
      · refine ⟨cs, _, rfl, hcs.cong fun z k => ?_⟩
        unfold AddC
        simp
      · rintro n d S hd ⟨cs, k6, rfl, hcs⟩
        obtain ⟨z, hz, rfl⟩ := Option.map_eq_some_iff.mp (List.getElem?_map .. ▸ hd)
        have hcl := hcs.len fun z k h => by
          rcases h with h | ⟨_, _, ⟨s, hs, h⟩ | h⟩
          · have := h.odd ht1; omega
          · have := MS_odd h; omega
          · have := MS_odd ((hN2 z).mp (List.mem_of_mem_take h)); omega
        have hsz : (csK cs).length < sizeLine := by rw [csK_len]; exact lt_size (by omega)
        have gk := get_csK cs z
        have st := hcs.set z
        have st2 : Cs (setC cs z (i + 1)) (AddC (CostIs top i) (i + 1) fun x => (∃ s ∈ M.take j, MS s top x) ∨ x ∈ N.take (n + 1)) := st.cong fun x k => by
          unfold AddC
          dsimp only
          rw [List.take_succ, hz, List.mem_append]
          simp [or_assoc]
        unfold setC at st2
        walk_at "an"
        refine ⟨fun d0 hd0 => ?_, fun hno => ?_⟩
        · rw [hd0] at gk
          have hin : z ∈ cs.map (·.1) := of_decide_eq_true gk.symm
          rw [if_pos hin] at st2
          exact ⟨cs, _, rfl, st2⟩
        · rw [hno] at gk
          have hin : ¬ z ∈ cs.map (·.1) := of_decide_eq_false gk.symm
          rw [if_neg hin] at st2
          have pt := put_csK (cs := cs) (i + 1) hin
          rw [show ((i + 1 : Nat) : Int) = 1 + (i : Int) by push_cast; omega] at pt
          rw [pt]
          exact ⟨_, _, rfl, st2⟩
      · rintro S ⟨cs, k6, rfl, hcs⟩
        rw [List.length_map, List.take_length] at hcs
        refine ⟨cs, _, _, rfl, hcs.cong fun z k => ?_⟩
        unfold AddC
        dsimp only
        rw [List.take_succ, hs, hN2]
        simp [or_and_right, exists_or]
    · rintro S ⟨cs, k5, k6, rfl, hcs⟩
      rw [List.length_map, List.take_length] at hcs
      refine ⟨cs, M, _, _, _, rfl, hcs.cong fun z k => ?_, hM1, hM2⟩
      rw [cost_succ]
      unfold AddC Made
      simp only [hM1]
  · rintro S ⟨cs, L, k4, k5, k6, rfl, hcs, hL, hll⟩
    rw [rng_len, show ((m : Int) + 1 - 1).toNat = m by omega] at hcs
    have hcl := hcs.len fun z k h => by have := h.odd ht1; omega
    obtain ⟨cs', hcs', hsrt⟩ := costs_sorted hcs
    have k2 := k2 cs' hcs'
    walk_at "an"
    intro a o kx
    refine ⟨fun j acc S => acc = (cs.take j).map pairD ∧ S = [some (.p (.int top)), some (.p (.int m)), some (.lk a o kx (csK cs)), some (.p (.list (L.map tupI))), k4, k5, none], ⟨rfl, rfl⟩, ?_, ?_, ?_⟩
    · rintro j acc S ⟨_, rfl⟩
      rfl
    · rintro j kv acc S hkv ⟨rfl, rfl⟩
      obtain ⟨⟨z, c⟩, hz, rfl⟩ := Option.map_eq_some_iff.mp (List.getElem?_map .. ▸ hkv)
      have hv := val_csK hcs.nd (List.mem_of_getElem? hz)
      have htk : (cs.take j).map pairD ++ [pairD (z, c)] = (cs.take (j + 1)).map pairD := by
        rw [List.take_succ, hz, List.map_append]; rfl
      have hal : ((cs.take j).map pairD).length < sizeLine := by
        rw [List.length_map, List.length_take]; exact lt_size (by omega)
      have hg : (T.lk a o kx (csK cs)).get (Sum.inl z) = some (some (PyData.int (c : Nat))) := by
        show some (valK (csK cs) (Sum.inl z)) = _
        rw [hv]
      walk_at "an"
      refine ⟨_, hg, ?_⟩
      walk_at "an"
      exact ⟨htk, rfl⟩
    · rintro acc S ⟨rfl, rfl⟩
      rw [csK_len, List.take_length]
      have em : cs.map pairD = (cs.map prL).map tupI := by rw [List.map_map]; rfl
      have c1 : PyData.canLayAll0 (cs.map pairD) = true := by rw [em]; exact lay_tupsU _
      have c2 : PySem.W.AllAlike (cs.map pairD) := by rw [em]; exact alike_tups _
      have c3 : PySem.W.Sortable (cs.map pairD) := by
        rw [em]
        exact sortable_tups fun x hx => by
          obtain ⟨y, _, rfl⟩ := List.mem_map.mp hx
          exact List.cons_ne_nil _ _
      have c4 : ∀ d ∈ cs.map pairD, d.depth ≤ 60 := by rw [em]; exact depth_tups
      walk_at "an"
      rw [hsrt]
      exact k2
end PL.FW

set_option Elab.async false
set_option linter.all false
set_option maxRecDepth 100000
set_option maxHeartbeats 4000000
set_option autoImplicit false
/-! sets as whole numbers by bits; sets without those of which nothing more is made -/
namespace PL.FW
open PySem L2 PL PL.V PL.M
/-- bit i stands just where P says so -/
def Msk (m : Nat) (P : Nat → Prop) : Prop := ∀ i, m.testBit i = true ↔ P i
theorem Msk.uniq {m n : Nat} {P : Nat → Prop} (h : Msk m P) (k : Msk n P) : m = n := Nat.eq_of_testBit_eq fun i => by
  have := (h i).trans (k i).symm
  cases hm : m.testBit i <;> cases hn : n.testBit i <;> simp_all
theorem Msk.cong {m : Nat} {P Q : Nat → Prop} (h : Msk m P) (e : ∀ i, P i ↔ Q i) : Msk m Q := fun i => (h i).trans (e i)
theorem Msk.zero {P : Nat → Prop} (h : ∀ i, ¬ P i) : Msk 0 P := fun i => by simp [h i]
theorem Msk.one (k : Nat) : Msk (2 ^ k) fun i => i = k := fun i => by
  rw [Nat.testBit_two_pow, decide_eq_true_eq]; exact eq_comm
theorem Msk.or {m n : Nat} {P Q : Nat → Prop} (h : Msk m P) (k : Msk n Q) : Msk (m ||| n) fun i => P i ∨ Q i := fun i => by
  rw [Nat.testBit_or, Bool.or_eq_true, h i, k i]
theorem Msk.lt {m b : Nat} {P : Nat → Prop} (h : Msk m P) (hb : ∀ i, P i → i < b) : m < 2 ^ b := by
  apply Nat.lt_pow_two_of_testBit
  intro i hi
  cases hm : m.testBit i
  · rfl
  · exact absurd (hb i ((h i).mp hm)) (by omega)
theorem or_int (m n : Nat) : Builtin.bitOr (m : Int) (n : Int) = ((m ||| n : Nat) : Int) := bitOr_nn (by omega) (by omega)
theorem and_int (m n : Nat) : Builtin.bitAnd (m : Int) (n : Int) = ((m &&& n : Nat) : Int) := PyProof.Rows.bitAnd_pp (by omega) (by omega)
theorem two_int (k : Nat) : (1 : Int) * 2 ^ k = ((2 ^ k : Nat) : Int) := by push_cast; omega
theorem bit_at (m k : Nat) : Builtin.bitAnd ((m : Int) / 2 ^ k) 1 = if m.testBit k = true then 1 else 0 := by
  rw [PyProof.Rows.bitAnd_m1, Nat.testBit_eq_decide_div_mod_eq]
  have : (m : Int) / 2 ^ k = ((m / 2 ^ k : Nat) : Int) := by push_cast; rfl
  rw [this]
  simp only [decide_eq_true_eq]
  split <;> omega
theorem sub_int (m n : Nat) : (Builtin.bitAnd (m : Int) (n : Int) = (n : Int)) ↔ ∀ i, n.testBit i = true → m.testBit i = true := by
  rw [and_int]
  constructor
  · intro h i hi
    have h : m &&& n = n := by omega
    rw [← h, Nat.testBit_and, Bool.and_eq_true] at hi
    exact hi.1
  · intro h
    have : m &&& n = n := Nat.eq_of_testBit_eq fun i => by
      rw [Nat.testBit_and]
      cases hn : n.testBit i
      · simp
      · rw [h i hn]; rfl
    rw [this]
theorem not_int (m n : Nat) : (Builtin.bitAnd (m : Int) (Builtin.bitNot (n : Int)) = 0) ↔ ∀ i, m.testBit i = true → n.testBit i = true := by
  rw [PyProof.Rows.bitAnd_not, PyProof.Rows.bitAnd_comm]
  rw [show ((m : Int) - Builtin.bitAnd (n : Int) (m : Int) = 0) ↔ (Builtin.bitAnd (n : Int) (m : Int) = (m : Int)) from ⟨fun h => by omega, fun h => by omega⟩]
  exact sub_int n m
/-- a set by bits -/
def mk : List Int → Nat
  | [] => 0
  | x :: s => 2 ^ x.toNat ||| mk s
theorem mk_msk : ∀ {s : List Int}, (∀ x ∈ s, 0 ≤ x) → Msk (mk s) fun i => (i : Int) ∈ s
  | [], _ => Msk.zero fun i => by simp
  | x :: s, h => by
    have hx := h x List.mem_cons_self
    refine ((Msk.one x.toNat).or (mk_msk (s := s) fun y hy => h y (List.mem_cons_of_mem _ hy))).cong fun i => ?_
    rw [List.mem_cons]
    have : i = x.toNat ↔ (i : Int) = x := by omega
    rw [this]
theorem mk_snoc (s : List Int) (z : Int) : mk (s ++ [z]) = mk s ||| 2 ^ z.toNat := by
  induction s with
  | nil => simp [mk]
  | cons x s ih => rw [List.cons_append, mk, mk, ih, Nat.or_assoc]
/-- the same members -/
def Same (s t : List Int) : Prop := ∀ x, x ∈ s ↔ x ∈ t
theorem Same.ms {s t : List Int} {top z : Int} (h : Same s t) : MS s top z ↔ MS t top z := by
  unfold MS
  simp only [show ∀ x, x ∈ s ↔ x ∈ t from h]
theorem mk_same {s t : List Int} (hs : ∀ x ∈ s, 0 ≤ x) (ht : ∀ x ∈ t, 0 ≤ x) : mk s = mk t ↔ Same s t := by
  constructor
  · intro e x
    have h1 := mk_msk hs x.toNat
    have h2 := mk_msk ht x.toNat
    rw [e] at h1
    have h3 : ((x.toNat : Nat) : Int) ∈ s ↔ ((x.toNat : Nat) : Int) ∈ t := h1.symm.trans h2
    constructor
    · intro hx
      have h0 := hs x hx
      rw [show ((x.toNat : Nat) : Int) = x by omega] at h3
      exact h3.mp hx
    · intro hx
      have h0 := ht x hx
      rw [show ((x.toNat : Nat) : Int) = x by omega] at h3
      exact h3.mpr hx
  · intro h
    exact (mk_msk hs).uniq ((mk_msk ht).cong fun i => (h i).symm)
/-- sets that come of 1 by so many more, by turns of putting in -/
def Lw (top : Int) : Nat → List Int → Prop
  | 0, t => t = [1]
  | k + 1, t => ∃ s z, t = s ++ [z] ∧ Lw top k s ∧ MS s top z ∧ z ∉ s
theorem Lw.m {top : Int} (h1 : 1 ≤ top) : ∀ {k : Nat} {t : List Int}, Lw top k t → t.Nodup ∧ t.length = k + 1 ∧ ∀ x ∈ t, x % 2 = 1 ∧ 0 < x ∧ x ≤ top
  | 0, t, h => by
    have h : t = [1] := h
    subst h
    exact ⟨by simp, rfl, fun x hx => by rw [List.mem_singleton.mp hx]; omega⟩
  | k + 1, t, ⟨s, z, e, hs, hz, hn⟩ => by
    subst e
    obtain ⟨a, b, c⟩ := Lw.m h1 hs
    refine ⟨?_, by rw [List.length_append, b]; rfl, fun x hx => ?_⟩
    · rw [List.nodup_append]
      refine ⟨a, by simp, fun x hx y hy => ?_⟩
      rw [List.mem_singleton.mp hy]
      rintro rfl
      exact hn hx
    · rcases List.mem_append.mp hx with hx | hx
      · exact c x hx
      · rw [List.mem_singleton.mp hx]; exact MS_odd hz
theorem ins_any {s : List Int} {z : Int} (h : s.Pairwise (· < ·)) (hz : z ∉ s) : ∃ t, Ins s z t := by
  have p := List.mergeSort_perm (s ++ [z]) fun a b => decide (a ≤ b)
  have q : ((s ++ [z]).mergeSort fun a b => decide (a ≤ b)).Pairwise (· ≤ ·) := by
    have := List.pairwise_mergeSort (le := fun (a b : Int) => decide (a ≤ b)) (fun a b c h1 h2 => decide_eq_true (by have := of_decide_eq_true h1; have := of_decide_eq_true h2; omega))
      (fun a b => by rcases Int.le_total a b with h | h <;> simp [h]) (s ++ [z])
    exact this.imp fun h => of_decide_eq_true h
  exact ⟨_, ins_ex h hz p q⟩
theorem lw_lv {top : Int} (h1 : 1 ≤ top) : ∀ {k : Nat} {t : List Int}, Lw top k t → ∃ u, Lv top k u ∧ Same t u
  | 0, t, h => ⟨[1], rfl, fun x => by rw [show t = [1] from h]⟩
  | k + 1, t, ⟨s, z, e, hs, hz, hn⟩ => by
    subst e
    obtain ⟨u, hu, hsu⟩ := lw_lv h1 hs
    have hzu : z ∉ u := fun h => hn ((hsu z).mpr h)
    obtain ⟨w, hw⟩ := ins_any (Lv.rs h1 hu).p hzu
    refine ⟨w, ⟨u, hu, .inr ⟨z, hsu.ms.mp hz, hzu, hw⟩⟩, fun x => ?_⟩
    rw [List.mem_append, List.mem_singleton, hw.2, hsu x]
theorem lv_lw {top : Int} : ∀ {k : Nat} {t : List Int}, Lv top k t → (∃ u, Lw top k u ∧ Same u t) ∨ ∀ z, MS t top z → z ∈ t
  | 0, t, h => .inl ⟨[1], rfl, fun x => by rw [show t = [1] from h]⟩
  | k + 1, t, ⟨s, hs, h⟩ => by
    rcases h with ⟨rfl, h⟩ | ⟨z, hz, hn, h⟩
    · exact .inr h
    · rcases lv_lw hs with ⟨u, hu, hus⟩ | hd
      · refine .inl ⟨u ++ [z], ⟨u, z, rfl, hu, hus.ms.mpr hz, fun q => hn ((hus z).mp q)⟩, fun x => ?_⟩
        rw [List.mem_append, List.mem_singleton, h.2, hus x]
      · exact absurd (hd z hz) hn
theorem lv_old {top : Int} : ∀ {k : Nat} {t : List Int}, Lv top k t → ∀ z ∈ t, z = 1 ∨ ∃ d, d < k ∧ Made top d z
  | 0, t, h, z, hz => by
    rw [show t = [1] from h] at hz
    exact .inl (List.mem_singleton.mp hz)
  | k + 1, t, ⟨s, hs, h⟩, z, hz => by
    rcases h with ⟨rfl, _⟩ | ⟨y, hy, hn, h⟩
    · rcases lv_old hs z hz with e | ⟨d, hd, h⟩
      · exact .inl e
      · exact .inr ⟨d, by omega, h⟩
    · rcases (h.2 z).mp hz with hz | rfl
      · rcases lv_old hs z hz with e | ⟨d, hd, h⟩
        · exact .inl e
        · exact .inr ⟨d, by omega, h⟩
      · exact .inr ⟨k, by omega, s, hs, hy⟩
/-- made of sets, or of those of which something more is made -/
def MadeW (top : Int) (c : Nat) (z : Int) : Prop := ∃ s, Lw top c s ∧ MS s top z
theorem madeW {top : Int} (h1 : 1 ≤ top) {c : Nat} {z : Int} (hz : z ≠ 1) (hn : ∀ d, d < c → ¬ Made top d z) : MadeW top c z ↔ Made top c z := by
  constructor
  · rintro ⟨s, hs, h⟩
    obtain ⟨u, hu, e⟩ := lw_lv h1 hs
    exact ⟨u, hu, e.ms.mp h⟩
  · rintro ⟨t, ht, h⟩
    rcases lv_lw ht with ⟨u, hu, e⟩ | hd
    · exact ⟨u, hu, e.ms.mpr h⟩
    · rcases lv_old ht z (hd z h) with e | ⟨d, hd, h⟩
      · exact absurd e hz
      · exact absurd h (hn d hd)
theorem not_cost {top : Int} {m : Nat} {z : Int} : (∀ k, ¬ CostIs top m z k) ↔ z ≠ 1 ∧ ∀ d, d < m → ¬ Made top d z := by
  constructor
  · intro h
    have hz : z ≠ 1 := fun e => h 0 (.inl ⟨e, rfl⟩)
    refine ⟨hz, fun d hd hm => ?_⟩
    induction d using Nat.strongRecOn with
    | _ d ih =>
      by_cases q : ∃ d', d' < d ∧ Made top d' z
      · obtain ⟨d', q1, q2⟩ := q
        exact ih d' q1 (by omega) q2
      · exact h (d + 1) (.inr ⟨hz, d, hd, rfl, hm, fun d' q1 q2 => q ⟨d', q1, q2⟩⟩)
  · rintro ⟨h1, h2⟩ k (⟨e, _⟩ | ⟨_, e, he, _, hm, _⟩)
    · exact h1 e
    · exact h2 e he hm
theorem cost_succW {top : Int} (h1 : 1 ≤ top) (m : Nat) (z : Int) (k : Nat) : CostIs top (m + 1) z k ↔ AddC (CostIs top m) (m + 1) (MadeW top m) z k := by
  rw [cost_succ]
  unfold AddC
  constructor
  · rintro (h | ⟨e, h, q⟩)
    · exact .inl h
    · have := not_cost.mp h
      exact .inr ⟨e, h, (madeW h1 this.1 this.2).mpr q⟩
  · rintro (h | ⟨e, h, q⟩)
    · exact .inl h
    · have := not_cost.mp h
      exact .inr ⟨e, h, (madeW h1 this.1 this.2).mp q⟩
end PL.FW

--@ norm
set_option Elab.async false
set_option linter.all false
set_option maxRecDepth 100000
set_option maxHeartbeats 4000000
set_option autoImplicit false
namespace K32
open PySem L2 PL PL.V PL.M PL.FW
def b_core : PTS := sSeq (sIf (qV (pB cEq (pD 0) (pC (.int 0))))
  (sRet (pTup (aC (pC (.int 0)) (aC (pC (.int 0)) (aC (pC (.int 0)) (aN))))))
  (sNx))
  (sSeq (sSet 1 (pU uAbs (pD 0)))
  (sSeq (sSet 2 (pB bSub (pU uBits (pB bAnd (pD 1) (pU uNeg (pD 1)))) (pC (.int 1))))
  (sSeq (sSet 3 (pC (.int 1)))
  (sCut (sIf (qV (pB cLt (pD 0) (pC (.int 0))))
  (sSet 3 (pU uNeg (pC (.int 1))))
  (sNx))
  (sRet (pTup (aC (pB bShr (pD 1) (pD 2)) (aC (pD 2) (aC (pD 3) (aN))))))))))
abbrev sp_core : FSp := PL.M.sp_core
theorem v_core (ts : List T) (K : T → List (Option T) → Prop) (h : sp_core ts K) : ts.length = 1 ∧ b_core (endsOf [true] ts K) (PL.start 4 ts) := PL.M.v_core ts K h
def b_made_of_two : PTS := sSeq (sSet 3 (pLst (aN)))
  (sSeq (sSet 4 (pD 0))
  (sSeq (sWh (qV (pB cLe (pD 4) (pB bAdd (pD 2) (pD 1))))
  (sSeq (sFor (iTp (pTup (aC (pFz (pB bAdd (pD 4) (pD 1))) (aC (pB bSub (pD 4) (pD 1)) (aN))))) (gN 5)
  (sSeq (sSet 6 (pB bIx (pCall sp_core (aC (pD 5) (aN))) (pC (.int 0))))
  (sIfC (qCh fLt fLe (pC (.int 0)) (pD 6) (pD 2))
  (sDrop (pMeth lAppend (pV 3) (aC (pD 6) aN)))
  (sNx))))
  (sSet 4 (pB bMul (pC (.int 2)) (pD 4)))))
  (sRet (pM 3))))
abbrev sp_made_of_two : FSp := PL.M.sp_made_of_two
theorem v_made_of_two (ts : List T) (K : T → List (Option T) → Prop) (h : sp_made_of_two ts K) : ts.length = 3 ∧ b_made_of_two (endsOf [true, true, true] ts K) (PL.start 7 ts) := PL.M.v_made_of_two ts K h
def b_made : PTS := sSeq (sSet 2 (pDctN))
  (sSeq (sFor (iSq (pD 0)) (gN 3)
  (sFor (iSq (pD 0)) (gN 4)
  (sFor (iLs (pFz (pCall sp_made_of_two (aC (pD 3) (aC (pD 4) (aC (pD 1) (aN))))))) (gN 5)
  (sSetIx (pV 2) (pD 5) (pC (.bool true))))))
  (sRet (pU uSorted (pV 2))))
abbrev sp_made : FSp := PL.M.sp_made
theorem v_made (ts : List T) (K : T → List (Option T) → Prop) (h : sp_made ts K) : ts.length = 2 ∧ b_made (endsOf [true, true] ts K) (PL.start 6 ts) := PL.M.v_made ts K h
def b_refuse_far (ξ : Xi) : PTS := sIfC (qOr (qV (pB cGt (pD 0) (pC (.int 99)))) (qOr (qV (pB cGt (pD 1) (pC (.int 4)))) (qAnd (qV (pB cGt (pD 0) (pC (.int 31)))) (qV (pB cGt (pD 1) (pC (.int 3)))))))
  (sRaise ξ "TooMany")
  (sNx)
abbrev sx_refuse_far : FSpX := PL.FW.sx_refuse_far
abbrev sp_refuse_far : FSp := noX sx_refuse_far
theorem vx_refuse_far (ts : List T) (K : T → List (Option T) → Prop) (kx : Str → List (Option T) → Prop) (h : sx_refuse_far ts K kx) : ts.length = 2 ∧ b_refuse_far (fun x S => kx x (post [true, true] ts S)) (endsOf [true, true] ts K) (PL.start 2 ts) := PL.FW.vx_refuse_far ts K kx h
def b_longer : PTS := sSeq (sSet 2 (pDctO))
  (sSeq (sFor (iSq (pD 0)) (gN 3)
  (sSeq (sSet 4 (pFz (pLc (iLs (pFz (pCall sp_made (aC (pD 3) (aC (pD 1) (aN)))))) (gN 5) (qV (pB cNi (pD 5) (pD 3))) (pD 5) [5])))
  (sCut (sIf (qV (pB cEq (pD 4) (pLst (aN))))
  (sSetIxO (pV 2) (pD 3) (pC (.bool true)))
  (sNx))
  (sFor (iSq (pD 4)) (gN 5)
  (sSetIxO (pV 2) (pU uTuple (pU uSortedT (pB bCatT (pD 3) (pTup (aC (pD 5) (aN)))))) (pC (.bool true)))))))
  (sRet (pU uSrtO (pV 2))))
abbrev sp_longer : FSp := PL.FW.sp_longer
theorem v_longer (ts : List T) (K : T → List (Option T) → Prop) (h : sp_longer ts K) : ts.length = 2 ∧ b_longer (endsOf [true, true] ts K) (PL.start 6 ts) := PL.FW.v_longer ts K h
def b_costs (ξ : Xi) : PTS := sSeq (sDrop (pCallX sx_refuse_far ξ (aC (pD 0) (aC (pD 1) (aN)))))
  (sSeq (sSet 2 (pDct (pPc (pC (.int 1)) (pC (.int 0)) (pPn))))
  (sSeq (sSet 3 (pFz (pLst (aC (pTup (aC (pC (.int 1)) (aN))) (aN)))))
  (sSeq (sFor (iR2 (pC (.int 1)) (pB bAdd (pD 1) (pC (.int 1)))) (gN 4)
  (sCut (sIf (qV (pB cGt (pD 4) (pC (.int 1))))
  (sSet 3 (pFz (pCall sp_longer (aC (pD 3) (aC (pD 0) (aN))))))
  (sNx))
  (sFor (iSq (pD 3)) (gN 5)
  (sFor (iLs (pFz (pCall sp_made (aC (pD 5) (aC (pD 0) (aN)))))) (gN 6)
  (sDrop (pSetd (pV 2) (pD 6) (pD 4)))))))
  (sRet (pU uSrtD (pLcK 2 (gN 6) (qYes) (pTup (aC (pD 6) (aC (pB bIx (pV 2) (pD 6)) (aN)))) [6]))))))
abbrev sx_costs : FSpX := PL.FW.sx_costs
abbrev sp_costs : FSp := noX sx_costs
theorem vx_costs (ts : List T) (K : T → List (Option T) → Prop) (kx : Str → List (Option T) → Prop) (h : sx_costs ts K kx) : ts.length = 2 ∧ b_costs (fun x S => kx x (post [true, true] ts S)) (endsOf [true, true] ts K) (PL.start 7 ts) := PL.FW.vx_costs ts K kx h
def b_law_pen : PTS := sRet (pLst (aC (pC (.int 0)) (aC (pC (.int 0)) (aC (pD 0) (aN)))))
def sp_law_pen : FSp := fun ts K => ∃ ns : List Int, ts = [.p (.list (ns.map .int))] ∧ K (pen 0 0 ns) [some (.p (.list (ns.map .int)))]
theorem v_law_pen (ts : List T) (K : T → List (Option T) → Prop) (h : sp_law_pen ts K) : ts.length = 1 ∧ b_law_pen (endsOf [true] ts K) (PL.start 1 ts) := by
  obtain ⟨ns, rfl, k⟩ := h
  (refine ⟨rfl, ?_⟩; simp only [PL.start, List.map_cons, List.map_nil, List.length_cons, List.length_nil, Nat.reduceAdd, Nat.reduceSub, List.replicate_succ, List.replicate_zero, List.cons_append, List.nil_append])
  walk_at "sn"
  exact k
def b_law_pick : PTS := sSeq (sIf (qV (pB cGt (pB bIx (pV 0) (pC (.int 0))) (pC (.int 0))))
  (sSeq (sSet 5 (pB bMod (pB bIx (pV 0) (pC (.int 0))) (pD 1)))
  (sSeq (sSetIx (pV 0) (pC (.int 0)) (pB bDiv (pB bIx (pV 0) (pC (.int 0))) (pD 1)))
  (sRet (pD 5))))
  (sNx))
  (sSeq (sSet 2 (pB bIx (pV 0) (pC (.int 1))))
  (sSeq (sSetIx (pV 0) (pC (.int 1)) (pB bAdd (pD 2) (pC (.int 1))))
  (sSeq (sSet 3 (pC (.int 37)))
  (sCut (sIf (qV (pB cGt (pU uLen (pB bIx (pV 0) (pC (.int 2)))) (pC (.int 0))))
  (sSet 3 (pB bIx (pB bIx (pV 0) (pC (.int 2))) (pB bMod (pD 2) (pU uLen (pB bIx (pV 0) (pC (.int 2)))))))
  (sNx))
  (sSeq (sIfC (qAnd (qV (pB cLt (pD 2) (pU uLen (pB bIx (pV 0) (pC (.int 2)))))) (qV (pB cGe (pU uAbs (pD 3)) (pB bPow (pC (.int 10)) (pC (.int 18))))))
  (sSeq (sSetIx (pV 0) (pC (.int 0)) (pB bDiv (pU uAbs (pD 3)) (pD 1)))
  (sRet (pB bMod (pU uAbs (pD 3)) (pD 1))))
  (sNx))
  (sSeq (sSet 4 (pB bMod (pB bMul (pB bAdd (pB bAdd (pB bMod (pD 3) (pC (.int 2147483549))) (pB bMul (pC (.int 60013)) (pD 2))) (pC (.int 41))) (pC (.int 39373))) (pC (.int 2147483647))))
  (sSeq (sSet 4 (pB bMod (pB bMul (pD 4) (pB bAdd (pB bAdd (pB bMod (pD 4) (pC (.int 65521))) (pD 2)) (pC (.int 3)))) (pC (.int 2147483629))))
  (sRet (pB bMod (pB bDiv (pD 4) (pC (.int 7))) (pD 1))))))))))
abbrev sp_law_pick : FSp := spPick
theorem v_law_pick (ts : List T) (K : T → List (Option T) → Prop) (h : sp_law_pick ts K) : ts.length = 2 ∧ b_law_pick (endsOf [true, true] ts K) (PL.start 6 ts) :=
  vPick (c1 := 37) (m1 := 2147483549) (k1 := 60013) (t1 := 41) (f1 := 39373) (p1 := 2147483647) (m2 := 65521) (t2 := 3) (p2 := 2147483629) (dv := 7) (by constructor <;> decide) ts K h
def b_law_bounds : PTS := sSeq (sSet 1 (pCall sp_law_pick (aC (pV 0) (aC (pC (.int 12)) (aN)))))
  (sSeq (sIf (qV (pB cEq (pD 1) (pC (.int 0))))
  (sRet (pLst (aC (pC (.int 31)) (aC (pC (.int 4)) (aN)))))
  (sNx))
  (sSeq (sIf (qV (pB cEq (pD 1) (pC (.int 1))))
  (sRet (pLst (aC (pB bAdd (pC (.int 32)) (pCall sp_law_pick (aC (pV 0) (aC (pC (.int 68)) (aN))))) (aC (pCall sp_law_pick (aC (pV 0) (aC (pC (.int 4)) (aN)))) (aN)))))
  (sNx))
  (sSeq (sIf (qV (pB cLt (pD 1) (pC (.int 6))))
  (sRet (pLst (aC (pB bAdd (pC (.int 32)) (pCall sp_law_pick (aC (pV 0) (aC (pC (.int 24)) (aN))))) (aC (pCall sp_law_pick (aC (pV 0) (aC (pC (.int 4)) (aN)))) (aN)))))
  (sNx))
  (sSeq (sIf (qV (pB cLt (pD 1) (pC (.int 9))))
  (sRet (pLst (aC (pB bAdd (pC (.int 1)) (pCall sp_law_pick (aC (pV 0) (aC (pC (.int 31)) (aN))))) (aC (pCall sp_law_pick (aC (pV 0) (aC (pC (.int 4)) (aN)))) (aN)))))
  (sNx))
  (sRet (pLst (aC (pB bAdd (pC (.int 1)) (pCall sp_law_pick (aC (pV 0) (aC (pC (.int 15)) (aN))))) (aC (pCall sp_law_pick (aC (pV 0) (aC (pC (.int 5)) (aN)))) (aN)))))))))
def sp_law_bounds : FSp := fun ts K => ∃ (g a : Int) (ns : List Int), ts = [pen g a ns] ∧ 0 ≤ g ∧ 0 ≤ a ∧ a ≤ 2 ^ 30 ∧
  ∀ (top m : Int) (t : Option T), 1 ≤ top → 0 ≤ m → ¬ Far top m → K (.ol [.int top, .int m]) [t]
theorem v_law_bounds (ts : List T) (K : T → List (Option T) → Prop) (h : sp_law_bounds ts K) : ts.length = 1 ∧ b_law_bounds (endsOf [true] ts K) (PL.start 2 ts) := by
  obtain ⟨g, a, ns, rfl, hg, ha, ha', k⟩ := h
  unfold Far at k
  (refine ⟨rfl, ?_⟩; simp only [PL.start, List.map_cons, List.map_nil, List.length_cons, List.length_nil, Nat.reduceAdd, Nat.reduceSub, List.replicate_succ, List.replicate_zero, List.cons_append, List.nil_append])
  walk_at "an"
  refine ⟨_, _, _, _, rfl, by omega, by omega, by omega, by omega, by omega, fun r0 g0 a0 r0l r0h g0l a0l a0h => ?_⟩
  walk_at "an"
  refine ⟨fun q => ?_, fun q => ?_⟩
  · walk_at "an"
    exact k _ _ _ (by decide) (by decide) (by decide)
  walk_at "an"
  refine ⟨fun q => ?_, fun q => ?_⟩
  · walk_at "an"
    refine ⟨_, _, _, _, rfl, by omega, by omega, by omega, by omega, by omega, fun r1 g1 a1 r1l r1h g1l a1l a1h => ?_⟩
    walk_at "an"
    refine ⟨_, _, _, _, rfl, by omega, by omega, by omega, by omega, by omega, fun r2 g2 a2 r2l r2h g2l a2l a2h => ?_⟩
    walk_at "an"
    exact k _ _ _ (by omega) (by omega) (by omega)
  walk_at "an"
  refine ⟨fun q => ?_, fun q => ?_⟩
  · walk_at "an"
    refine ⟨_, _, _, _, rfl, by omega, by omega, by omega, by omega, by omega, fun r1 g1 a1 r1l r1h g1l a1l a1h => ?_⟩
    walk_at "an"
    refine ⟨_, _, _, _, rfl, by omega, by omega, by omega, by omega, by omega, fun r2 g2 a2 r2l r2h g2l a2l a2h => ?_⟩
    walk_at "an"
    exact k _ _ _ (by omega) (by omega) (by omega)
  walk_at "an"
  refine ⟨fun q => ?_, fun q => ?_⟩
  · walk_at "an"
    refine ⟨_, _, _, _, rfl, by omega, by omega, by omega, by omega, by omega, fun r1 g1 a1 r1l r1h g1l a1l a1h => ?_⟩
    walk_at "an"
    refine ⟨_, _, _, _, rfl, by omega, by omega, by omega, by omega, by omega, fun r2 g2 a2 r2l r2h g2l a2l a2h => ?_⟩
    walk_at "an"
    exact k _ _ _ (by omega) (by omega) (by omega)
  walk_at "an"
  refine ⟨_, _, _, _, rfl, by omega, by omega, by omega, by omega, by omega, fun r1 g1 a1 r1l r1h g1l a1l a1h => ?_⟩
  walk_at "an"
  refine ⟨_, _, _, _, rfl, by omega, by omega, by omega, by omega, by omega, fun r2 g2 a2 r2l r2h g2l a2l a2h => ?_⟩
  walk_at "an"
  exact k _ _ _ (by omega) (by omega) (by omega)
def b_law_odd : PTS := sSeq (sWh (qV (pB cEq (pB bMod (pD 0) (pC (.int 2))) (pC (.int 0))))
  (sSet 0 (pB bDiv (pD 0) (pC (.int 2)))))
  (sRet (pD 0))
def sp_law_odd : FSp := fun ts K => ∃ x : Int, ts = [.p (.int x)] ∧ 1 ≤ x ∧ x ≤ 100000 ∧ ∀ t, K (.p (.int (odd x))) [t]
theorem v_law_odd (ts : List T) (K : T → List (Option T) → Prop) (h : sp_law_odd ts K) : ts.length = 1 ∧ b_law_odd (endsOf [false] ts K) (PL.start 1 ts) := by
  obtain ⟨x, rfl, h1, h2, k⟩ := h
  (refine ⟨rfl, ?_⟩; simp only [PL.start, List.map_cons, List.map_nil, List.length_cons, List.length_nil, Nat.reduceAdd, Nat.reduceSub, List.replicate_succ, List.replicate_zero, List.cons_append, List.nil_append])
  walk_at "sn"
  refine ⟨fun m S => ∃ y : Int, S = [some (.p (.int y))] ∧ m = y.toNat ∧ 1 ≤ y ∧ odd y = odd x, ⟨_, x, rfl, rfl, h1, rfl⟩, ?_⟩
  rintro m S ⟨y, rfl, rfl, hy, ho⟩
  walk_at "an"
  refine ⟨fun q => ?_, fun q => ?_⟩
  · have q := eqT q
    walk_at "sn"
    refine ⟨divS 40 (by decide) (by decide), ?_⟩
    walk_at "sn"
    refine ⟨_, by omega, _, rfl, rfl, by omega, ?_⟩
    rw [← ho]
    unfold odd
    rw [oddN_even (n := y.natAbs) (by omega), show (y / 2).natAbs = y.natAbs / 2 by omega]
  · have q := eqF q
    walk_at "sn"
    have : odd y = y := by
      unfold odd
      rw [oddN_odd (by omega)]; omega
    rw [← this, ho]
    exact k _
theorem odd_neg (x : Int) : odd (-x) = odd x := by unfold odd; rw [Int.natAbs_neg]
theorem odd_abs (x : Int) : odd (if x < 0 then -x else x) = odd x := by
  split
  · exact odd_neg x
  · rfl
theorem odd_pos {x : Int} (h : x ≠ 0) : 0 < odd x ∧ odd x ≤ (x.natAbs : Int) := by
  unfold odd
  obtain ⟨k, m, e⟩ := odd_part x.natAbs (by omega)
  rw [e, oddN_pow]
  have : 1 ≤ 2 ^ k := Nat.one_le_two_pow
  have : 2 * m + 1 ≤ 2 ^ k * (2 * m + 1) := Nat.le_mul_of_pos_left _ (by omega)
  omega
theorem odd_zero : odd 0 = 0 := by unfold odd; rw [show Int.natAbs 0 = 0 from rfl, oddN_zero]; rfl
def b_law_pair : PTS := sSeq (sSet 3 (pC (.int 0)))
  (sSeq (sFor (iLs (pFz (pLst (aC (pTup (aC (pD 0) (aC (pD 1) (aN)))) (aC (pTup (aC (pD 1) (aC (pD 0) (aN)))) (aN)))))) (gTupP 2 (gConsP (gN 4) (gConsP (gN 5) (gNilP))))
  (sWh (qV (pB cLe (pD 4) (pB bAdd (pD 2) (pD 5))))
  (sSeq (sFor (iTp (pTup (aC (pFz (pB bAdd (pD 4) (pD 5))) (aC (pU uAbs (pB bSub (pD 4) (pD 5))) (aN))))) (gN 6)
  (sIfC (qAnd (qV (pB cGt (pD 6) (pC (.int 0)))) (qV (pB cLe (pCall sp_law_odd (aC (pD 6) (aN))) (pD 2))))
  (sSet 3 (pB bOr (pD 3) (pB bShl (pC (.int 1)) (pCall sp_law_odd (aC (pD 6) (aN))))))
  (sNx)))
  (sSet 4 (pB bMul (pC (.int 2)) (pD 4))))))
  (sRet (pD 3)))
/-- what either one, shifted, makes with the other -/
def PT (top a b : Int) (z : Nat) : Prop := MT a b top z ∨ MT b a top z
def sp_law_pair : FSp := fun ts K => ∃ u v top : Int, ts = [.p (.int u), .p (.int v), .p (.int top)] ∧ 1 ≤ u ∧ u ≤ 99 ∧ 1 ≤ v ∧ v ≤ 99 ∧ 1 ≤ top ∧ top ≤ 99 ∧
  ∀ m : Nat, Msk m (PT top u v) → K (.p (.int (m : Nat))) [some (.p (.int u)), some (.p (.int v)), some (.p (.int top))]
theorem v_law_pair (ts : List T) (K : T → List (Option T) → Prop) (h : sp_law_pair ts K) : ts.length = 3 ∧ b_law_pair (endsOf [true, true, true] ts K) (PL.start 7 ts) := by
  obtain ⟨u, v, top, rfl, hu1, hu2, hv1, hv2, ht1, ht2, k⟩ := h
  (refine ⟨rfl, ?_⟩; simp only [PL.start, List.map_cons, List.map_nil, List.length_cons, List.length_nil, Nat.reduceAdd, Nat.reduceSub, List.replicate_succ, List.replicate_zero, List.cons_append, List.nil_append])
  walk_at "an"
  refine ⟨fun i S => ∃ (n : Nat) (k4 k5 k6 : Option T), S = [some (.p (.int u)), some (.p (.int v)), some (.p (.int top)), some (.p (.int (n : Nat))), k4, k5, k6] ∧ Msk n fun z => (0 < i ∧ MT u v top z) ∨ (1 < i ∧ MT v u top z), ?_, ?_, ?_⟩
  · exact ⟨0, _, _, _, rfl, Msk.zero fun i => by omega⟩
  · rintro i d S hd ⟨n, k4, k5, k6, rfl, hn⟩
    obtain ⟨lo, hi, rfl, hlo1, hlo2, hhi1, hhi2, hst⟩ : ∃ lo hi : Int, d = .tuple [.int lo, .int hi] ∧ 1 ≤ lo ∧ lo ≤ 99 ∧ 1 ≤ hi ∧ hi ≤ 99 ∧
        ∀ z : Nat, ((0 < i + 1 ∧ MT u v top z) ∨ (1 < i + 1 ∧ MT v u top z)) ↔ ((0 < i ∧ MT u v top z) ∨ (1 < i ∧ MT v u top z)) ∨ MT lo hi top z := by
      have hil : i < 2 := (List.getElem?_eq_some_iff.mp hd).1
      rcases (show i = 0 ∨ i = 1 by omega) with rfl | rfl
      · cases hd; exact ⟨u, v, rfl, hu1, hu2, hv1, hv2, fun z => by simp⟩
      · cases hd; exact ⟨v, u, rfl, hv1, hv2, hu1, hu2, fun z => by simp⟩
    generalize hQ : (fun z : Nat => (0 < i ∧ MT u v top z) ∨ (1 < i ∧ MT v u top z)) = Q at hn
    have hst : ∀ z : Nat, ((0 < i + 1 ∧ MT u v top z) ∨ (1 < i + 1 ∧ MT v u top z)) ↔ Q z ∨ MT lo hi top z := fun z => by rw [hst z, ← hQ]
    have bs : LB 8 (top + hi) := LB.of (by omega)
    walk_at "an"
    refine ⟨fun m S => ∃ (j n : Nat) (k6 : Option T), S = [some (.p (.int u)), some (.p (.int v)), some (.p (.int top)), some (.p (.int (n : Nat))), some (.p (.int (lo * 2 ^ j))), some (.p (.int hi)), k6] ∧ m = 10 - j ∧ j ≤ 10 ∧
      Msk n (fun z => Q z ∨ ∃ e : Nat, e < j ∧ lo * 2 ^ e ≤ top + hi ∧ ((z : Int) = odd (lo * 2 ^ e + hi) ∨ (z : Int) = odd (lo * 2 ^ e - hi)) ∧ 0 < (z : Int) ∧ (z : Int) ≤ top) ∧ ∀ e : Nat, e < j → lo * 2 ^ e ≤ top + hi, ?_, ?_⟩
    · refine ⟨10, 0, n, k6, by simp, rfl, by decide, hn.cong fun z => ⟨.inl, fun h => h.elim id fun ⟨e, h, _⟩ => absurd h (Nat.not_lt_zero e)⟩, fun e h => absurd h (Nat.not_lt_zero e)⟩
    · rintro m S ⟨j, n, k6, rfl, rfl, hj, hn, hall⟩
      have hp := pow2_pos j
      walk_at "an"
      refine ⟨fun q => ?_, fun q => ?_⟩
      · have q := dT q
        have hj8 : j < 8 := pow_le_bits hlo1 bs q
        have h1 : 1 ≤ lo * 2 ^ j := by
          have := Int.mul_le_mul hlo1 (show (1 : Int) ≤ 2 ^ j by omega) (by decide) (by omega)
          omega
        generalize hlow : lo * 2 ^ j = low at *
        generalize hR : (fun z : Nat => Q z ∨ ∃ e : Nat, e < j ∧ lo * 2 ^ e ≤ top + hi ∧ ((z : Int) = odd (lo * 2 ^ e + hi) ∨ (z : Int) = odd (lo * 2 ^ e - hi)) ∧ 0 < (z : Int) ∧ (z : Int) ≤ top) = R at hn
        walk_at "an"
        refine ⟨fun i S => ∃ (n : Nat) (k6 : Option T), S = [some (.p (.int u)), some (.p (.int v)), some (.p (.int top)), some (.p (.int (n : Nat))), some (.p (.int low)), some (.p (.int hi)), k6] ∧
          Msk n (fun z => R z ∨ (((0 < i ∧ (z : Int) = odd (low + hi)) ∨ (1 < i ∧ (z : Int) = odd (low - hi))) ∧ 0 < (z : Int) ∧ (z : Int) ≤ top)), ⟨n, _, rfl, hn.cong fun z => ⟨.inl, fun h => h.elim id fun h => by omega⟩⟩, ?_, ?_⟩
        · rintro n' d S hd ⟨n, k6, rfl, hn⟩
          have hn2 : n' < 2 := (List.getElem?_eq_some_iff.mp hd).1
          obtain ⟨x, rfl, hx0, hx9, hx⟩ : ∃ x : Int, d = .int x ∧ 0 ≤ x ∧ x ≤ 100000 ∧ ((n' = 0 ∧ odd x = odd (low + hi)) ∨ (n' = 1 ∧ odd x = odd (low - hi))) := by
            rcases (show n' = 0 ∨ n' = 1 by omega) with rfl | rfl
            · cases hd; exact ⟨low + hi, rfl, by omega, by omega, .inl ⟨rfl, rfl⟩⟩
            · cases hd
              exact ⟨_, rfl, by split <;> omega, by split <;> omega, .inr ⟨rfl, odd_abs _⟩⟩
          have hstep : ∀ z : Nat, ((((0 < n' + 1 ∧ (z : Int) = odd (low + hi)) ∨ (1 < n' + 1 ∧ (z : Int) = odd (low - hi))) ∧ 0 < (z : Int) ∧ (z : Int) ≤ top)) ↔
              (((0 < n' ∧ (z : Int) = odd (low + hi)) ∨ (1 < n' ∧ (z : Int) = odd (low - hi))) ∧ 0 < (z : Int) ∧ (z : Int) ≤ top) ∨ ((z : Int) = odd x ∧ 0 < (z : Int) ∧ (z : Int) ≤ top) := fun z => by
            rcases hx with ⟨rfl, e⟩ | ⟨rfl, e⟩ <;> rw [e] <;> omega
          walk_at "an"
          refine ifC (0 < x ∧ odd x ≤ top) (¬ (0 < x ∧ odd x ≤ top)) ?_ (fun h => ?_) (fun h => ?_)
          · walk_at "an"
            refine ⟨fun q => ?_, fun q => ⟨fun z => (by cases z), fun _ => ⟨rfl, fun z => dF q z.1⟩⟩⟩
            have q := dT q
            walk_at "an"
            intro t
            walk_at "an"
            exact ⟨fun q2 => ⟨rfl, q, dT q2⟩, fun q2 => ⟨rfl, fun z => dF q2 z.2⟩⟩
          · have op := odd_pos (x := x) (by omega)
            walk_at "an"
            intro t
            obtain ⟨o, ho⟩ : ∃ o : Nat, odd x = o := ⟨(odd x).toNat, by omega⟩
            rw [ho] at op h hstep ⊢
            walk_at "an"
            refine ⟨LB.shlOk (a := 3) (LB.of (by decide)) (by omega) (by omega), ?_⟩
            rw [Int.toNat_natCast, two_int]
            walk_at "an"
            rw [or_int]
            refine ⟨n ||| 2 ^ o, _, rfl, (hn.or (Msk.one o)).cong fun z => ?_⟩
            rw [hstep z, or_assoc]
            have : z = o ↔ (z : Int) = (o : Int) ∧ 0 < (z : Int) ∧ (z : Int) ≤ top := by omega
            rw [this]
          · refine ⟨n, _, rfl, hn.cong fun z => ?_⟩
            rw [hstep z]
            constructor
            · exact fun h => h.elim .inl fun h => .inr (.inl h)
            · rintro (h1 | h1 | ⟨h1, h2, h3⟩)
              · exact .inl h1
              · exact .inr h1
              · by_cases hx00 : x = 0
                · rw [hx00, odd_zero] at h1; omega
                · exact absurd ⟨by omega, by omega⟩ h
        · rintro S ⟨n, k6, rfl, hn⟩
          walk_at "an"
          rw [show 2 * low = lo * 2 ^ (j + 1) by
            have e : (2 : Int) ^ (j + 1) = 2 ^ j * 2 := Int.pow_succ ..
            rw [← hlow, e, Int.mul_comm 2, Int.mul_assoc]]
          refine ⟨10 - (j + 1), by omega, j + 1, n, _, rfl, rfl, by omega, hn.cong fun z => ?_, fun e he => ?_⟩
          · rw [← hR]
            dsimp only
            constructor
            · rintro ((h | ⟨e, he, h⟩) | ⟨h1, h2⟩)
              · exact .inl h
              · exact .inr ⟨e, by omega, h⟩
              · refine .inr ⟨j, Nat.lt_succ_self j, by rw [hlow]; exact q, ?_, h2⟩
                rw [hlow]
                exact h1.elim (fun h => .inl h.2) fun h => .inr h.2
            · rintro (h | ⟨e, he, h1, h2, h3⟩)
              · exact .inl (.inl h)
              · by_cases hej : e = j
                · subst hej
                  rw [hlow] at h2
                  exact .inr ⟨h2.elim (fun h => .inl ⟨Nat.zero_lt_succ _, h⟩) fun h => .inr ⟨Nat.succ_lt_succ (Nat.zero_lt_succ _), h⟩, h3⟩
                · exact .inl (.inr ⟨e, by omega, h1, h2, h3⟩)
          · by_cases hej : e = j
            · rw [hej, hlow]; exact q
            · exact hall e (by omega)
      · have q := dF q
        refine ⟨n, _, _, _, rfl, hn.cong fun z => ?_⟩
        rw [hst z]
        unfold MT
        constructor
        · rintro (h | ⟨e, he, h⟩)
          · exact .inl h
          · exact .inr ⟨e, h⟩
        · rintro (h | ⟨e, h⟩)
          · exact .inl h
          · refine .inr ⟨e, ?_, h⟩
            apply Classical.byContradiction
            intro hn
            have : (2 : Int) ^ j ≤ 2 ^ e := by exact_mod_cast Nat.pow_le_pow_right (by decide) (by omega : j ≤ e)
            have := Int.mul_le_mul_of_nonneg_left this (by omega : 0 ≤ lo)
            omega
  · rintro S ⟨n, k4, k5, k6, rfl, hn⟩
    have hn : Msk n (PT top u v) := hn.cong fun z => by
      unfold PT
      simp
    walk_at "an"
    exact k n hn
/-- what is told of pairs -/
structure Prs (top : Int) (P : List (List Int × PyData)) : Prop where
  nd : (P.map (·.1)).Nodup
  m : ∀ k d, (k, d) ∈ P → ∃ (a b : Int) (m : Nat), k = [a, b] ∧ (a % 2 = 1 ∧ 0 < a ∧ a ≤ top) ∧ (b % 2 = 1 ∧ 0 < b ∧ b ≤ top) ∧ d = .int (m : Nat) ∧ Msk m (PT top a b)
theorem Prs.nil (top : Int) : Prs top [] := ⟨by simp, fun k d h => by cases h⟩
theorem Prs.len {top : Int} {P : List (List Int × PyData)} (h : Prs top P) (ht : top ≤ 99) : P.length ≤ 2500 := by
  have hk : ∀ k ∈ P.map (·.1), ∃ a b : Int, k = [a, b] ∧ (a % 2 = 1 ∧ 0 < a ∧ a ≤ top) ∧ (b % 2 = 1 ∧ 0 < b ∧ b ≤ top) := fun k hk => by
    obtain ⟨⟨k', d⟩, hm, rfl⟩ := List.mem_map.mp hk
    obtain ⟨a, b, m, e, ha, hb, _⟩ := h.m k' d hm
    exact ⟨a, b, e, ha, hb⟩
  have nd2 : ((P.map (·.1)).map fun k => ((k.getD 0 0 / 2) * 50 + k.getD 1 0 / 2).toNat).Nodup := by
    unfold List.Nodup
    rw [List.pairwise_map]
    refine List.Pairwise.imp_of_mem (fun {x y} hx hy hxy e => hxy ?_) h.nd
    obtain ⟨a, b, rfl, ha, hb⟩ := hk x hx
    obtain ⟨c, d, rfl, hc, hd⟩ := hk y hy
    have e : ((a / 2) * 50 + b / 2).toNat = ((c / 2) * 50 + d / 2).toNat := e
    have h1 : a = c := by omega
    have h2 : b = d := by omega
    rw [h1, h2]
  have := nat_nodup_len _ (List.range 2500) nd2 fun x hx => by
    obtain ⟨k, hkm, rfl⟩ := List.mem_map.mp hx
    obtain ⟨a, b, rfl, ha, hb⟩ := hk k hkm
    rw [List.mem_range]
    show ((a / 2) * 50 + b / 2).toNat < 2500
    omega
  rw [List.length_map, List.length_map, List.length_range] at this
  exact this
theorem valO_mem {P : List (List Int × PyData)} {k : List Int} {d : PyData} (h : valO P k = some d) : (k, d) ∈ P := by
  unfold valO at h
  obtain ⟨⟨k', d'⟩, h1, rfl⟩ := Option.map_eq_some_iff.mp h
  have := List.find?_some h1
  have e : k' = k := of_decide_eq_true this
  exact e ▸ List.mem_of_find?_eq_some h1
theorem valO_none {P : List (List Int × PyData)} {k : List Int} (h : valO P k = none) : k ∉ P.map (·.1) := by
  intro hk
  obtain ⟨⟨k', d'⟩, h1, rfl⟩ := List.mem_map.mp hk
  unfold valO at h
  rw [Option.map_eq_none_iff] at h
  have := List.find?_eq_none.mp h _ h1
  simp at this
theorem putO_none {P : List (List Int × PyData)} {k : List Int} {d : PyData} (h : valO P k = none) : putO P k d = P ++ [(k, d)] := by
  unfold putO
  rw [h]; rfl
theorem valO_snoc {P : List (List Int × PyData)} {k : List Int} {d : PyData} (h : valO P k = none) : valO (P ++ [(k, d)]) k = some d := by
  unfold valO at h ⊢
  rw [Option.map_eq_none_iff] at h
  rw [List.find?_append, h]
  simp
theorem Prs.put {top : Int} {P : List (List Int × PyData)} (h : Prs top P) {a b : Int} {m : Nat} (hn : valO P [a, b] = none) (ha : a % 2 = 1 ∧ 0 < a ∧ a ≤ top) (hb : b % 2 = 1 ∧ 0 < b ∧ b ≤ top) (hm : Msk m (PT top a b)) : Prs top (P ++ [([a, b], .int (m : Nat))]) := by
  refine ⟨?_, fun k d hk => ?_⟩
  · rw [List.map_append, List.nodup_append]
    refine ⟨h.nd, by simp, fun x hx y hy => ?_⟩
    have : y = [a, b] := by simpa using hy
    subst this
    rintro rfl
    exact valO_none hn hx
  · rcases List.mem_append.mp hk with hk | hk
    · exact h.m k d hk
    · cases List.mem_singleton.mp hk
      exact ⟨a, b, m, rfl, ha, hb, rfl, hm⟩
def enD (e : List Int × Nat) : PyData := .tuple [.list (e.1.map .int), .int (e.2 : Nat)]
def enK (E : List (List Int × Nat)) : List (Key × PyData) := E.map fun e => (Sum.inl ((mk e.1 : Nat) : Int), enD e)
theorem enK_len (E : List (List Int × Nat)) : (enK E).length = E.length := List.length_map ..
theorem get_enK (E : List (List Int × Nat)) (m : Nat) : (valK (enK E) (Sum.inl (m : Int))).isSome = decide (∃ e ∈ E, mk e.1 = m) := by
  unfold valK enK
  rw [Option.isSome_map, Bool.eq_iff_iff, List.find?_isSome, decide_eq_true_eq]
  constructor
  · rintro ⟨x, hx, h⟩
    obtain ⟨y, hy, rfl⟩ := List.mem_map.mp hx
    exact ⟨y, hy, by have : ((mk y.1 : Nat) : Int) = (m : Int) := by simpa using h
                     omega⟩
  · rintro ⟨e, he, h⟩
    exact ⟨_, List.mem_map_of_mem he, by simp [h]⟩
theorem put_enK {E : List (List Int × Nat)} {e : List Int × Nat} (h : ¬ ∃ f ∈ E, mk f.1 = mk e.1) : put (enK E) (Sum.inl ((mk e.1 : Nat) : Int)) (enD e) = enK (E ++ [e]) := by
  unfold put
  have e1 : ((enK E).any fun kv => decide (kv.1 = Sum.inl ((mk e.1 : Nat) : Int))) = false := by
    rw [List.any_eq_false]
    intro x hx
    obtain ⟨y, hy, rfl⟩ := List.mem_map.mp hx
    have : mk y.1 ≠ mk e.1 := fun z => h ⟨y, hy, z⟩
    have : ((mk y.1 : Nat) : Int) ≠ ((mk e.1 : Nat) : Int) := by omega
    simpa using this
  rw [e1, if_neg (by decide)]
  unfold enK
  rw [List.map_append]; rfl
theorem val_enK {E : List (List Int × Nat)} (nd : (E.map fun e => mk e.1).Nodup) {e : List Int × Nat} (h : e ∈ E) : valK (enK E) (Sum.inl ((mk e.1 : Nat) : Int)) = some (enD e) := by
  induction E with
  | nil => cases h
  | cons p E ih =>
    rw [List.map_cons, List.nodup_cons] at nd
    unfold valK enK at ih ⊢
    rw [List.map_cons, List.find?_cons]
    by_cases c : mk p.1 = mk e.1
    · have : p = e := by
        rcases List.mem_cons.mp h with h | h
        · exact h.symm
        · exact absurd (c ▸ List.mem_map_of_mem (f := fun e => mk e.1) h) nd.1
      subst this
      simp
    · have h2 : e ∈ E := by
        rcases List.mem_cons.mp h with h | h
        · exact absurd (by rw [h]) c
        · exact h
      have := ih nd.2 h2
      have c' : ¬ ((mk p.1 : Nat) : Int) = ((mk e.1 : Nat) : Int) := by omega
      simpa [c'] using this
/-- sets, each with what is made of it -/
structure En (top : Int) (c : Nat) (E : List (List Int × Nat)) : Prop where
  nd : (E.map fun e => mk e.1).Nodup
  l : ∀ e ∈ E, Lw top c e.1 ∧ Msk e.2 fun z => MS e.1 top z
  c : ∀ s, Lw top c s → ∃ e ∈ E, Same e.1 s
theorem ms_snoc {s : List Int} {z top x : Int} : MS (s ++ [z]) top x ↔ MS s top x ∨ ∃ o ∈ s ++ [z], MT o z top x ∨ MT z o top x := by
  unfold MS
  constructor
  · rintro ⟨u, hu, v, hv, h⟩
    rcases List.mem_append.mp hu with hu1 | hu1
    · rcases List.mem_append.mp hv with hv1 | hv1
      · exact .inl ⟨u, hu1, v, hv1, h⟩
      · rw [List.mem_singleton.mp hv1] at h
        exact .inr ⟨u, hu, .inl h⟩
    · rw [List.mem_singleton.mp hu1] at h
      exact .inr ⟨v, hv, .inr h⟩
  · rintro (⟨u, hu, v, hv, h⟩ | ⟨o, ho, h⟩)
    · exact ⟨u, List.mem_append_left _ hu, v, List.mem_append_left _ hv, h⟩
    · rcases h with h | h
      · exact ⟨o, ho, z, by simp, h⟩
      · exact ⟨z, by simp, o, ho, h⟩
def b_law_longer : PTS := sSeq (sSet 3 (pDctN))
  (sSeq (sForK 0 (gN 4)
  (sSeq (sAsg (gTupP 2 (gConsP (gN 5) (gConsP (gN 6) (gNilP)))) (pB bIx (pV 0) (pD 4)))
  (sFor (iR3 (pC (.int 1)) (pB bAdd (pD 1) (pC (.int 1))) (pC (.int 2))) (gN 7)
  (sSeq (sSet 8 (pB bOr (pD 4) (pB bShl (pC (.int 1)) (pD 7))))
  (sIfC (qAnd (qV (pB cEq (pB bAnd (pB bShr (pD 6) (pD 7)) (pC (.int 1))) (pC (.int 1)))) (qAnd (qV (pB cNe (pD 8) (pD 4))) (qV (pB cNi (pD 8) (pV 3)))))
  (sSeq (sSet 9 (pD 6))
  (sSeq (sFor (iLs (pFz (pB bAdd (pD 5) (pLst (aC (pD 7) (aN)))))) (gN 10)
  (sCut (sIf (qV (pB (cInO true) (pTup (aC (pD 10) (aC (pD 7) (aN)))) (pV 2)))
  (sSetIxO (pV 2) (pTup (aC (pD 10) (aC (pD 7) (aN)))) (pCall sp_law_pair (aC (pD 10) (aC (pD 7) (aC (pD 1) (aN))))))
  (sNx))
  (sSet 9 (pB bOr (pD 9) (pB bIxO (pV 2) (pTup (aC (pD 10) (aC (pD 7) (aN)))))))))
  (sSetIx (pV 3) (pD 8) (pTup (aC (pFz (pB bAdd (pD 5) (pLst (aC (pD 7) (aN))))) (aC (pD 9) (aN)))))))
  (sNx))))))
  (sRet (pM 3)))
structure Fi (top : Int) (E F : List (List Int × Nat)) (l : Nat) (C : List Int → Int → Prop) : Prop where
  nd : (F.map fun e => mk e.1).Nodup
  f : ∀ f ∈ F, ∃ e ∈ E, ∃ z, f.1 = e.1 ++ [z] ∧ MS e.1 top z ∧ z ∉ e.1 ∧ Msk f.2 fun x => MS f.1 top x
  c : ∀ s z, C s z → ∃ f ∈ F, mk f.1 = mk (s ++ [z])
  l : F.length ≤ l
def sp_law_longer : FSp := fun ts K => ∃ (E : List (List Int × Nat)) (c : Nat) (top : Int) (P : List (List Int × PyData)), ts = [.od (enK E), .p (.int top), .ot P] ∧ 1 ≤ top ∧ top ≤ 99 ∧ c ≤ 10 ∧ En top c E ∧ E.length ≤ 2500 ∧ Prs top P ∧
  ∀ F P', En top (c + 1) F → F.length ≤ 50 * E.length → Prs top P' → K (.od (enK F)) [some (.od (enK E)), some (.p (.int top)), some (.ot P')]
theorem v_law_longer (ts : List T) (K : T → List (Option T) → Prop) (h : sp_law_longer ts K) : ts.length = 3 ∧ b_law_longer (endsOf [true, true, true] ts K) (PL.start 11 ts) := by
  obtain ⟨E, c, top, P, rfl, ht1, ht, hc, en, hel, pr, k⟩ := h
  (refine ⟨rfl, ?_⟩; simp only [PL.start, List.map_cons, List.map_nil, List.length_cons, List.length_nil, Nat.reduceAdd, Nat.reduceSub, List.replicate_succ, List.replicate_zero, List.cons_append, List.nil_append])
  walk_at "an"
  intro la lo lk
  refine ⟨fun j S => ∃ (F : List (List Int × Nat)) (P : List (List Int × PyData)) (k4 k5 k6 k7 k8 k9 k10 : Option T), S = [some (.lk la lo lk (enK E)), some (.p (.int top)), some (.ot P), some (.od (enK F)), k4, k5, k6, k7, k8, k9, k10] ∧ Prs top P ∧ Fi top E F (50 * j) fun s z => ∃ e ∈ E.take j, s = e.1 ∧ MS s top z ∧ z ∉ s, ?_, ?_, ?_, ?_⟩
  · exact ⟨[], P, _, _, _, _, _, _, _, rfl, pr, ⟨by simp, (fun f hf => by cases hf), (fun s z h => by simp at h), by simp⟩⟩
  · rintro j S ⟨F, P, k4, k5, k6, k7, k8, k9, k10, rfl, _⟩
    rfl
  · rintro j kv S hkv ⟨F, P, k4, k5, k6, k7, k8, k9, k10, rfl, pr, fi⟩
    obtain ⟨e, he, rfl⟩ := Option.map_eq_some_iff.mp (List.getElem?_map .. ▸ hkv)
    have hj := (List.getElem?_eq_some_iff.mp he).1
    have hem := List.mem_of_getElem? he
    have hg : (T.lk la lo lk (enK E)).get (Sum.inl ((mk e.1 : Nat) : Int)) = some (some (enD e)) := by
      show some (valK (enK E) _) = _
      rw [val_enK en.nd hem]
    obtain ⟨el, eg⟩ := en.l e hem
    obtain ⟨em1, em2, em3⟩ := el.m ht1
    have hmk := mk_msk (s := e.1) fun x hx => by have := em3 x hx; omega
    obtain ⟨own, gn⟩ := e
    dsimp only at hg el eg em1 em2 em3 hmk
    walk_at "an"
    refine ⟨_, hg, ?_⟩
    walk_at "an"
    refine ⟨((top + 1) / 2).toNat, rgc_two (by omega) (by omega), ?_⟩
    refine ⟨fun n S => ∃ (F : List (List Int × Nat)) (P : List (List Int × PyData)) (k7 k8 k9 k10 : Option T), S = [some (.lk la lo lk (enK E)), some (.p (.int top)), some (.ot P), some (.od (enK F)), some (.p (.int (mk own : Nat))), some (.p (.list (own.map .int))), some (.p (.int (gn : Nat))), k7, k8, k9, k10] ∧ Prs top P ∧
      Fi top E F (50 * j + n) fun s z => (∃ e ∈ E.take j, s = e.1 ∧ MS s top z ∧ z ∉ s) ∨ (s = own ∧ MS s top z ∧ z ∉ s ∧ z < 1 + 2 * (n : Int)), ?_, ?_, ?_⟩
    · refine ⟨F, P, _, _, _, _, rfl, pr, fi.nd, fi.f, fun s z h => ?_, fi.l⟩
      rcases h with h | ⟨rfl, h1, h2, h3⟩
      · exact fi.c s z h
      · have := MS_odd h1
        omega
    · rintro n d S hd ⟨F, P, k7, k8, k9, k10, rfl, pr, fi⟩
      obtain ⟨rfl, hn⟩ := rng3_at hd
      obtain ⟨z, hz⟩ : ∃ z : Nat, (1 : Int) + (n : Int) * 2 = z := ⟨1 + n * 2, by push_cast; rfl⟩
      rw [hz]
      have hz9 : z ≤ 99 ∧ z % 2 = 1 ∧ (z : Int) ≤ top := by omega
      have hmore : mk own ||| 2 ^ z = mk (own ++ [(z : Int)]) := by rw [mk_snoc, Int.toNat_natCast]
      have hbit := bit_at gn z
      have hb2 : gn.testBit z = true ↔ MS own top z := eg z
      have hb3 : mk own ||| 2 ^ z = mk own ↔ (z : Int) ∈ own := by
        constructor
        · intro h
          have := (hmk z)
          rw [← h, Nat.testBit_or, Nat.testBit_two_pow_self, Bool.or_true] at this
          exact this.mp rfl
        · intro h
          refine Nat.eq_of_testBit_eq fun i => ?_
          rw [Nat.testBit_or, Nat.testBit_two_pow]
          by_cases e : z = i
          · subst e
            rw [(hmk z).mpr h]; rfl
          · rw [decide_eq_false e, Bool.or_false]
      have hml : mk own < 2 ^ 100 := hmk.lt fun i hi => by have := em3 _ hi; omega
      have hgl : gn < 2 ^ 100 := eg.lt fun i hi => by have := MS_odd hi; omega
      have hgf := get_enK F (mk (own ++ [(z : Int)]))
      have stay : (MS own top z → (z : Int) ∉ own → ∃ f ∈ F, mk f.1 = mk (own ++ [(z : Int)])) → Fi top E F (50 * j + (n + 1)) fun s z => (∃ e ∈ E.take j, s = e.1 ∧ MS s top z ∧ z ∉ s) ∨ (s = own ∧ MS s top z ∧ z ∉ s ∧ z < 1 + 2 * ((n + 1 : Nat) : Int)) := fun q => by
        refine ⟨fi.nd, fi.f, fun s y h => ?_, by have := fi.l; omega⟩
        rcases h with h | ⟨rfl, h1, h2, h3⟩
        · exact fi.c s y (.inl h)
        · by_cases hy : y < 1 + 2 * (n : Int)
          · exact fi.c _ y (.inr ⟨rfl, h1, h2, hy⟩)
          · have := MS_odd h1
            obtain rfl : y = (z : Int) := by push_cast at h3; omega
            exact q h1 h2
      have lz : LB 101 (2 ^ z : Int) := (LB.pow z).mono (by omega)
      walk_at "an"
      refine ⟨LB.shlOk (a := 3) (LB.of (by decide)) (by omega) (by omega), ?_⟩
      rw [Int.toNat_natCast, two_int]
      walk_at "an"
      rw [or_int, hmore]
      refine ifC (MS own top z ∧ (z : Int) ∉ own ∧ ¬ ∃ f ∈ F, mk f.1 = mk (own ++ [(z : Int)])) (MS own top z → (z : Int) ∉ own → ∃ f ∈ F, mk f.1 = mk (own ++ [(z : Int)])) ?_ (fun h => ?_) (fun h => ?_)
      · have hbd : decide (Builtin.bitAnd ((gn : Int) / 2 ^ z) 1 = 1) = gn.testBit z := by
          rw [Bool.eq_iff_iff, decide_eq_true_eq, hbit]
          split <;> simp_all
        walk_at "an"
        rw [Int.toNat_natCast, hbd]
        refine ⟨fun q => ?_, fun q => ⟨fun z => (by cases z), fun _ => ⟨rfl, fun h => ?_⟩⟩⟩
        · have q : gn.testBit z = true := by simpa using q
          walk_at "an"
          refine ⟨fun q1 => ?_, fun q1 => ⟨fun z => (by cases z), fun _ => ⟨rfl, fun _ h => ?_⟩⟩⟩
          · have q1 := neT q1
            have q1 : (z : Int) ∉ own := fun h => q1 (by rw [← hmore, hb3.mpr h])
            walk_at "an"
            rw [hgf, nxTT]
            exact ⟨fun q2 => ⟨rfl, hb2.mp q, q1, by rw [Bool.not_eq_true', decide_eq_false_iff_not] at q2; exact q2⟩, fun q2 => ⟨rfl, fun _ _ => by rw [Bool.not_eq_false', decide_eq_true_eq] at q2; exact q2⟩⟩
          · have q1 := neF q1
            rw [← hmore] at q1
            exact absurd (hb3.mp (by omega)) h
        · rw [hb2.mpr h] at q
          simp at q
      · obtain ⟨h1, h2, h3⟩ := h
        have hol : (own ++ [(z : Int)]).length ≤ 20 := by rw [List.length_append, em2]; simp; omega
        have hod : ∀ o ∈ own ++ [(z : Int)], o % 2 = 1 ∧ 0 < o ∧ o ≤ top := fun o ho => by
          rcases List.mem_append.mp ho with ho | ho
          · exact em3 o ho
          · rw [List.mem_singleton.mp ho]; omega
        have hln : own.map PyData.int ++ [PyData.int (z : Int)] = (own ++ [(z : Int)]).map .int := by rw [List.map_append]; rfl
        walk_at "an"
        rw [hln]
        refine ⟨fun t S => ∃ (r : Nat) (P : List (List Int × PyData)) (k10 : Option T), S = [some (.lk la lo lk (enK E)), some (.p (.int top)), some (.ot P), some (.od (enK F)), some (.p (.int (mk own : Nat))), some (.p (.list (own.map .int))), some (.p (.int (gn : Nat))), some (.p (.int z)), some (.p (.int (mk (own ++ [(z : Int)]) : Nat))), some (.p (.int (r : Nat))), k10] ∧
          Prs top P ∧ Msk r fun x => MS own top x ∨ ∃ o ∈ (own ++ [(z : Int)]).take t, PT top o z x, ?_, ?_, ?_⟩
        · exact ⟨gn, P, _, rfl, pr, eg.cong fun x => by simp⟩
        · rintro t d S hd ⟨r, P, k10, rfl, pr, hr⟩
          obtain ⟨o, ho, rfl⟩ := Option.map_eq_some_iff.mp (List.getElem?_map .. ▸ hd)
          have hom := hod o (List.mem_of_getElem? ho)
          have hpl := pr.len ht
          have hpsz : P.length < sizeLine := lt_size (by omega)
          walk_at "an"
          refine ⟨fun S => ∃ (P : List (List Int × PyData)) (m : Nat), S = [some (.lk la lo lk (enK E)), some (.p (.int top)), some (.ot P), some (.od (enK F)), some (.p (.int (mk own : Nat))), some (.p (.list (own.map .int))), some (.p (.int (gn : Nat))), some (.p (.int z)), some (.p (.int (mk (own ++ [(z : Int)]) : Nat))), some (.p (.int (r : Nat))), some (.p (.int o))] ∧
            Prs top P ∧ valO P [o, (z : Int)] = some (.int (m : Nat)) ∧ Msk m (PT top o z), ?_, ?_⟩
          · walk_at "an"
            refine ⟨fun q => ?_, fun q => ?_⟩
            · have q : valO P [o, (z : Int)] = none := by
                cases hvo : valO P [o, (z : Int)] with
                | none => rfl
                | some d => rw [hvo] at q; cases q
              walk_at "an"
              refine ⟨o, z, top, rfl, by omega, by omega, by omega, by omega, ht1, ht, fun m hm => ?_⟩
              walk_at "an"
              rw [putO_none q]
              exact ⟨_, m, rfl, pr.put q hom (by omega) hm, valO_snoc q, hm⟩
            · obtain ⟨d, hd⟩ : ∃ d, valO P [o, (z : Int)] = some d := by
                cases hvo : valO P [o, (z : Int)] with
                | none => rw [hvo] at q; cases q
                | some d => exact ⟨d, rfl⟩
              obtain ⟨a, b, m, e1, _, _, rfl, hm⟩ := pr.m _ _ (valO_mem hd)
              obtain ⟨rfl, e2⟩ := List.cons.inj e1
              obtain ⟨rfl, _⟩ := List.cons.inj e2
              exact ⟨P, m, rfl, pr, hd, hm⟩
          · rintro S ⟨P, m, rfl, pr, hv, hm⟩
            walk_at "an"
            refine ⟨_, hv, ?_⟩
            walk_at "an"
            rw [or_int]
            refine ⟨r ||| m, P, _, rfl, pr, (hr.or hm).cong fun x => ?_⟩
            rw [List.take_succ, ho]
            simp [or_assoc, or_and_right, exists_or]
        · rintro S ⟨r, P, k10, rfl, pr, hr⟩
          rw [List.length_map, List.take_length] at hr
          have hr : Msk r fun x => MS (own ++ [(z : Int)]) top x := hr.cong fun x => ms_snoc.symm
          have hpe := put_enK (E := F) (e := (own ++ [(z : Int)], r)) h3
          have hed : enD (own ++ [(z : Int)], r) = PyData.tuple [(T.ol (own.map PyData.int ++ [PyData.int (z : Int)])).dat, PyData.int (r : Int)] := by
            unfold enD
            dsimp only
            rw [← hln]; rfl
          have hfl : (enK F).length < sizeLine := by
            rw [enK_len]
            have := fi.l
            exact lt_size (by omega)
          walk_at "an"
          rw [← hed, hpe]
          refine ⟨F ++ [(own ++ [(z : Int)], r)], P, _, _, _, _, rfl, pr, ?_, ?_, ?_, ?_⟩
          · rw [List.map_append, List.nodup_append]
            refine ⟨fi.nd, by simp, fun x hx y hy => ?_⟩
            have : y = mk (own ++ [(z : Int)]) := by simpa using hy
            subst this
            rintro rfl
            obtain ⟨f, hf, e⟩ := List.mem_map.mp hx
            exact h3 ⟨f, hf, e⟩
          · intro f hf
            rcases List.mem_append.mp hf with hf | hf
            · exact fi.f f hf
            · rw [List.mem_singleton.mp hf]
              exact ⟨(own, gn), hem, z, rfl, h1, h2, hr⟩
          · intro s y hy
            by_cases hyz : s = own ∧ y = (z : Int)
            · obtain ⟨rfl, rfl⟩ := hyz
              exact ⟨_, List.mem_append_right _ (List.mem_singleton_self _), rfl⟩
            · have hc : (∃ e ∈ E.take j, s = e.1 ∧ MS s top y ∧ y ∉ s) ∨ (s = own ∧ MS s top y ∧ y ∉ s ∧ y < 1 + 2 * (n : Int)) := by
                rcases hy with hy | ⟨rfl, g1, g2, g3⟩
                · exact .inl hy
                · have := MS_odd g1
                  refine .inr ⟨rfl, g1, g2, ?_⟩
                  have : y ≠ (z : Int) := fun e => hyz ⟨rfl, e⟩
                  push_cast at g3
                  omega
              obtain ⟨f, hf, e⟩ := fi.c s y hc
              exact ⟨f, List.mem_append_left _ hf, e⟩
          · rw [List.length_append]
            have := fi.l
            simp
            omega
      · exact ⟨F, P, _, _, _, _, rfl, pr, stay h⟩
    · rintro S ⟨F, P, k7, k8, k9, k10, rfl, pr, fi⟩
      rw [rng3_len] at fi
      refine ⟨F, P, _, _, _, _, _, _, _, rfl, pr, fi.nd, fi.f, fun s z h => ?_, by have := fi.l; omega⟩
      obtain ⟨e, he2, rfl, h1, h2⟩ := h
      rw [List.take_succ, he] at he2
      rcases List.mem_append.mp he2 with he2 | he2
      · exact fi.c _ z (.inl ⟨e, he2, rfl, h1, h2⟩)
      · obtain rfl : e = (own, gn) := by simpa using he2
        have := MS_odd h1
        exact fi.c _ z (.inr ⟨rfl, h1, h2, by omega⟩)
  · rintro S ⟨F, P, k4, k5, k6, k7, k8, k9, k10, rfl, pr, fi⟩
    rw [enK_len, List.take_length] at fi
    have hF : En top (c + 1) F := by
      refine ⟨fi.nd, fun f hf => ?_, fun t ht => ?_⟩
      · obtain ⟨e, he, z, e1, h1, h2, h3⟩ := fi.f f hf
        exact ⟨⟨e.1, z, e1, (en.l e he).1, h1, h2⟩, h3⟩
      · obtain ⟨s, z, rfl, hs, hz, hn⟩ := ht
        obtain ⟨e, he, hse⟩ := en.c s hs
        obtain ⟨f, hf, hm⟩ := fi.c e.1 z ⟨e, he, rfl, hse.ms.mpr hz, fun h => hn ((hse z).mp h)⟩
        obtain ⟨e', he', z', e1, h1, h2, _⟩ := fi.f f hf
        have m1 := ((en.l e' he').1.m ht1).2.2
        have m2 := ((en.l e he).1.m ht1).2.2
        refine ⟨f, hf, fun x => ?_⟩
        have := (mk_same (s := f.1) (t := e.1 ++ [z]) (fun x hx => ?_) (fun x hx => ?_)).mp hm x
        · rw [this, List.mem_append, List.mem_append, hse x]
        · rw [e1] at hx
          rcases List.mem_append.mp hx with hx | hx
          · have := m1 x hx; omega
          · rw [List.mem_singleton.mp hx]; have := MS_odd h1; omega
        · rcases List.mem_append.mp hx with hx | hx
          · have := m2 x hx; omega
          · rw [List.mem_singleton.mp hx]; have := MS_odd hz; omega
    have k := k F P hF fi.l pr
    walk_at "an"
    exact k
theorem En.start {top : Int} {m : Nat} (h : Msk m (PT top 1 1)) : En top 0 [([1], m)] := by
  refine ⟨by simp, fun e he => ?_, fun s hs => ⟨_, List.mem_singleton_self _, ?_⟩⟩
  · rw [List.mem_singleton.mp he]
    refine ⟨rfl, h.cong fun z => ?_⟩
    unfold PT MS
    simp
  · rw [show s = [1] from hs]
    exact fun x => Iff.rfl
theorem En.made {top : Int} {c : Nat} {E : List (List Int × Nat)} (h : En top c E) (z : Int) : MadeW top c z ↔ ∃ e ∈ E, MS e.1 top z := by
  constructor
  · rintro ⟨s, hs, hz⟩
    obtain ⟨e, he, hse⟩ := h.c s hs
    exact ⟨e, he, hse.ms.mpr hz⟩
  · rintro ⟨e, he, hz⟩
    exact ⟨e.1, (h.l e he).1, hz⟩
def b_law_due : PTS := sSeq (sSet 2 (pDct (pPc (pC (.int 1)) (pC (.int 0)) (pPn))))
  (sSeq (sSet 3 (pDct (pPc (pC (.int 2)) (pTup (aC (pFz (pLst (aC (pC (.int 1)) (aN)))) (aC (pCall sp_law_pair (aC (pC (.int 1)) (aC (pC (.int 1)) (aC (pD 0) (aN))))) (aN)))) (pPn))))
  (sSeq (sSet 4 (pDctO))
  (sSeq (sFor (iR2 (pC (.int 1)) (pB bAdd (pD 1) (pC (.int 1)))) (gN 5)
  (sCut (sIf (qV (pB cGt (pD 5) (pC (.int 1))))
  (sSet 3 (pCall sp_law_longer (aC (pV 3) (aC (pD 0) (aC (pV 4) (aN))))))
  (sNx))
  (sForK 3 (gN 6)
  (sFor (iR3 (pC (.int 1)) (pB bAdd (pD 0) (pC (.int 1))) (pC (.int 2))) (gN 7)
  (sIfC (qAnd (qV (pB cEq (pB bAnd (pB bShr (pB bIx (pB bIx (pV 3) (pD 6)) (pC (.int 1))) (pD 7)) (pC (.int 1))) (pC (.int 1)))) (qV (pB cNi (pD 7) (pV 2))))
  (sSetIx (pV 2) (pD 7) (pD 5))
  (sNx))))))
  (sRet (pU uSrtD (pLcK 2 (gN 7) (qYes) (pTup (aC (pD 7) (aC (pB bIx (pV 2) (pD 7)) (aN)))) [7]))))))
def sp_law_due : FSp := fun ts K => ∃ (top : Int) (m : Nat), ts = [.p (.int top), .p (.int m)] ∧ 1 ≤ top ∧ top ≤ 99 ∧ m ≤ 4 ∧ ∀ cs, CostsAre top m cs → cs.length ≤ 50 → K (.ol (cs.map pairD)) [some (.p (.int top)), some (.p (.int m))]
theorem v_law_due (ts : List T) (K : T → List (Option T) → Prop) (h : sp_law_due ts K) : ts.length = 2 ∧ b_law_due (endsOf [true, true] ts K) (PL.start 8 ts) := by
  obtain ⟨top, m, rfl, ht1, ht, hm4, k⟩ := h
  have hk0 : put ([] : List (Key × PyData)) (Sum.inl 1) (PyData.int 0) = csK [(1, 0)] := rfl
  (refine ⟨rfl, ?_⟩; simp only [PL.start, List.map_cons, List.map_nil, List.length_cons, List.length_nil, Nat.reduceAdd, Nat.reduceSub, List.replicate_succ, List.replicate_zero, List.cons_append, List.nil_append])
  walk_at "an"
  refine ⟨1, 1, top, rfl, by decide, by decide, by decide, by decide, ht1, ht, fun p hp => ?_⟩
  have hk1 : put ([] : List (Key × PyData)) (Sum.inl 2) (PyData.tuple [PyData.list [PyData.int 1], PyData.int (p : Nat)]) = enK [([1], p)] := rfl
  walk_at "an"
  refine ⟨fun i S => ∃ (cs : List (Int × Nat)) (E : List (List Int × Nat)) (P : List (List Int × PyData)) (k5 k6 k7 : Option T), S = [some (.p (.int top)), some (.p (.int m)), some (.od (csK cs)), some (.od (enK E)), some (.ot P), k5, k6, k7] ∧ Cs cs (CostIs top i) ∧ En top (i - 1) E ∧ E.length ≤ 50 ^ (i - 1) ∧ Prs top P, ?_, ?_, ?_⟩
  · refine ⟨[(1, 0)], [([1], p)], [], _, _, _, rfl, ⟨by simp, fun z k => ?_⟩, En.start hp, Nat.le_refl 1, Prs.nil _⟩
    rw [cost_zero, List.mem_singleton, Prod.mk.injEq]
  · rintro i d S hd ⟨cs, E, P, k5, k6, k7, rfl, hcs, hE, hEl, pr⟩
    obtain ⟨rfl, hi⟩ := rng_at hd
    have hi4 : i < 4 := by omega
    have hll2 : E.length ≤ 2500 := Nat.le_trans hEl (by
      rcases (by omega : i - 1 = 0 ∨ i - 1 = 1 ∨ i - 1 = 2) with h | h | h <;> rw [h] <;> decide)
    walk_at "an"
    refine ⟨fun S => ∃ (E : List (List Int × Nat)) (P : List (List Int × PyData)), S = [some (.p (.int top)), some (.p (.int m)), some (.od (csK cs)), some (.od (enK E)), some (.ot P), some (.p (.int (1 + (i : Int)))), k6, k7] ∧ En top i E ∧ E.length ≤ 50 ^ i ∧ Prs top P, ?_, ?_⟩
    · walk_at "an"
      refine ⟨fun q => ?_, fun q => ?_⟩
      · have q := of_decide_eq_true q
        obtain ⟨e, rfl⟩ : ∃ e, i = e + 1 := ⟨i - 1, by omega⟩
        walk_at "an"
        refine ⟨E, e, top, P, rfl, ht1, ht, by omega, hE, hll2, pr, fun F P' hF hFl pr' => ?_⟩
        have hFl : F.length ≤ 50 ^ (e + 1) := by
          rw [Nat.pow_succ]
          have hEl : E.length ≤ 50 ^ e := hEl
          omega
        walk_at "an"
        first | exact ⟨F, P', rfl, hF, hFl, pr'⟩ | exact ⟨hF, hFl, pr'⟩ | skip
      · have q := of_decide_eq_false q
        obtain rfl : i = 0 := by omega
        exact ⟨E, P, rfl, hE, hEl, pr⟩
    rintro S ⟨E, P, rfl, hE, hEl, pr⟩
    walk_at "an"
    intro la lo lk
    refine ⟨fun j S => ∃ (cs : List (Int × Nat)) (k6 k7 : Option T), S = [some (.p (.int top)), some (.p (.int m)), some (.od (csK cs)), some (.lk la lo lk (enK E)), some (.ot P), some (.p (.int (1 + (i : Int)))), k6, k7] ∧ Cs cs (AddC (CostIs top i) (i + 1) fun x => ∃ e ∈ E.take j, MS e.1 top x), ?_, ?_, ?_, ?_⟩
    · refine ⟨cs, _, _, rfl, hcs.cong fun z k => ⟨.inl, fun h => h.elim id fun h => ?_⟩⟩
      obtain ⟨s, hs, _⟩ := h.2.2
      simp at hs
    · rintro j S ⟨cs, k6, k7, rfl, _⟩
      rfl
    · rintro j kv S hkv ⟨cs, k6, k7, rfl, hcs⟩
      obtain ⟨e, he, rfl⟩ := Option.map_eq_some_iff.mp (List.getElem?_map .. ▸ hkv)
      have hj := (List.getElem?_eq_some_iff.mp he).1
      have hem := List.mem_of_getElem? he
      have hg : (T.lk la lo lk (enK E)).get (Sum.inl ((mk e.1 : Nat) : Int)) = some (some (enD e)) := by
        show some (valK (enK E) _) = _
        rw [val_enK hE.nd hem]
      obtain ⟨el, eg⟩ := hE.l e hem
      obtain ⟨own, gn⟩ := e
      dsimp only at hg el eg
      have hgl : gn < 2 ^ 100 := eg.lt fun i hi => by have := MS_odd hi; omega
      walk_at "an"
      refine ⟨((top + 1) / 2).toNat, rgc_two (by omega) (by omega), ?_⟩
      refine ⟨fun n S => ∃ (cs : List (Int × Nat)) (k7 : Option T), S = [some (.p (.int top)), some (.p (.int m)), some (.od (csK cs)), some (.lk la lo lk (enK E)), some (.ot P), some (.p (.int (1 + (i : Int)))), some (.p (.int (mk own : Nat))), k7] ∧ Cs cs (AddC (CostIs top i) (i + 1) fun x => (∃ e ∈ E.take j, MS e.1 top x) ∨ (MS own top x ∧ x < 1 + 2 * (n : Int))), ?_, ?_, ?_⟩
      · refine ⟨cs, _, rfl, hcs.cong fun z k => ⟨fun h => h.elim .inl fun h => .inr ⟨h.1, h.2.1, .inl h.2.2⟩, fun h => h.elim .inl fun h => .inr ⟨h.1, h.2.1, h.2.2.elim id fun h => ?_⟩⟩⟩
        have := MS_odd h.1
        omega
      · rintro n d S hd ⟨cs, k7, rfl, hcs⟩
        obtain ⟨rfl, hn⟩ := rng3_at hd
        obtain ⟨z, hz⟩ : ∃ z : Nat, (1 : Int) + (n : Int) * 2 = z := ⟨1 + n * 2, by push_cast; rfl⟩
        rw [hz]
        have hz9 : z ≤ 99 ∧ z % 2 = 1 ∧ (z : Int) ≤ top := by omega
        have hbit := bit_at gn z
        have hb2 : gn.testBit z = true ↔ MS own top z := eg z
        have hbd : decide (Builtin.bitAnd ((gn : Int) / 2 ^ z) 1 = 1) = gn.testBit z := by
          rw [Bool.eq_iff_iff, decide_eq_true_eq, hbit]
          split <;> simp_all
        have hlt : ∀ x : Int, MS own top x → (x < 1 + 2 * ((n + 1 : Nat) : Int) ↔ x < 1 + 2 * (n : Int) ∨ x = (z : Int)) := fun x hx => by
          have := MS_odd hx
          push_cast
          omega
        have hcl := hcs.len fun z k h => by
          rcases h with h | ⟨_, _, ⟨s, hs, h⟩ | ⟨h, _⟩⟩
          · have := h.odd ht1; omega
          · have := MS_odd h; omega
          · have := MS_odd h; omega
        have hsz : (csK cs).length < sizeLine := by rw [csK_len]; exact lt_size (by omega)
        have gk := get_csK cs z
        have st : MS own top z → Cs (setC cs z (i + 1)) (AddC (CostIs top i) (i + 1) fun x => (∃ e ∈ E.take j, MS e.1 top x) ∨ (MS own top x ∧ x < 1 + 2 * ((n + 1 : Nat) : Int))) := fun hm => (hcs.set z).cong fun x k => by
          unfold AddC
          dsimp only
          constructor
          · rintro (h | ⟨h1, h2, (h3 | h3) | rfl⟩)
            · exact .inl h
            · exact .inr ⟨h1, h2, .inl h3⟩
            · exact .inr ⟨h1, h2, .inr ⟨h3.1, (hlt x h3.1).mpr (.inl h3.2)⟩⟩
            · exact .inr ⟨h1, h2, .inr ⟨hm, (hlt _ hm).mpr (.inr rfl)⟩⟩
          · rintro (h | ⟨h1, h2, h3 | h3⟩)
            · exact .inl h
            · exact .inr ⟨h1, h2, .inl (.inl h3)⟩
            · rcases (hlt x h3.1).mp h3.2 with h4 | h4
              · exact .inr ⟨h1, h2, .inl (.inr ⟨h3.1, h4⟩)⟩
              · exact .inr ⟨h1, h2, .inr h4⟩
        have stay : (MS own top z → (z : Int) ∈ cs.map (·.1)) → Cs cs (AddC (CostIs top i) (i + 1) fun x => (∃ e ∈ E.take j, MS e.1 top x) ∨ (MS own top x ∧ x < 1 + 2 * ((n + 1 : Nat) : Int))) := fun hm => by
          by_cases hm2 : MS own top z
          · have := st hm2
            unfold setC at this
            rwa [if_pos (hm hm2)] at this
          · refine hcs.cong fun x k => ?_
            unfold AddC
            dsimp only
            constructor
            · rintro (h | ⟨h1, h2, h3 | h3⟩)
              · exact .inl h
              · exact .inr ⟨h1, h2, .inl h3⟩
              · exact .inr ⟨h1, h2, .inr ⟨h3.1, (hlt x h3.1).mpr (.inl h3.2)⟩⟩
            · rintro (h | ⟨h1, h2, h3 | h3⟩)
              · exact .inl h
              · exact .inr ⟨h1, h2, .inl h3⟩
              · rcases (hlt x h3.1).mp h3.2 with h4 | h4
                · exact .inr ⟨h1, h2, .inr ⟨h3.1, h4⟩⟩
                · exact absurd (h4 ▸ h3.1) hm2
        walk_at "an"
        refine ifC (MS own top z ∧ (z : Int) ∉ cs.map (·.1)) (MS own top z → (z : Int) ∈ cs.map (·.1)) ?_ (fun h => ?_) (fun h => ?_)
        · walk_at "an"
          refine ⟨_, hg, ?_⟩
          walk_at "an"
          rw [Int.toNat_natCast, hbd]
          refine ⟨fun q => ?_, fun q => ⟨fun z => (by cases z), fun _ => ⟨rfl, fun h => ?_⟩⟩⟩
          · have q : gn.testBit z = true := by simpa using q
            walk_at "an"
            rw [gk, nxTT]
            exact ⟨fun q2 => ⟨rfl, hb2.mp q, by rw [Bool.not_eq_true', decide_eq_false_iff_not] at q2; exact q2⟩, fun q2 => ⟨rfl, fun _ => by rw [Bool.not_eq_false', decide_eq_true_eq] at q2; exact q2⟩⟩
          · rw [hb2.mpr h] at q
            simp at q
        · have st := st h.1
          unfold setC at st
          rw [if_neg h.2] at st
          have pt := put_csK (cs := cs) (i + 1) h.2
          rw [show ((i + 1 : Nat) : Int) = 1 + (i : Int) by push_cast; omega] at pt
          walk_at "an"
          rw [pt]
          first | exact ⟨hsz, _, _, rfl, st⟩ | exact ⟨_, _, rfl, st⟩
        · exact ⟨cs, _, rfl, stay h⟩
      · rintro S ⟨cs, k7, rfl, hcs⟩
        rw [rng3_len] at hcs
        refine ⟨cs, _, _, rfl, hcs.cong fun z k => ?_⟩
        unfold AddC
        dsimp only
        rw [List.take_succ, he]
        constructor
        · rintro (h | ⟨h1, h2, ⟨e, he, h3⟩ | h3⟩)
          · exact .inl h
          · exact .inr ⟨h1, h2, e, List.mem_append_left _ he, h3⟩
          · exact .inr ⟨h1, h2, (own, gn), List.mem_append_right _ (by simp), h3.1⟩
        · rintro (h | ⟨h1, h2, e, he, h3⟩)
          · exact .inl h
          · rcases List.mem_append.mp he with he | he
            · exact .inr ⟨h1, h2, .inl ⟨e, he, h3⟩⟩
            · obtain rfl : e = (own, gn) := by simpa using he
              have := MS_odd h3
              exact .inr ⟨h1, h2, .inr ⟨h3, by omega⟩⟩
    · rintro S ⟨cs, k6, k7, rfl, hcs⟩
      rw [enK_len, List.take_length] at hcs
      refine ⟨cs, E, P, _, _, _, rfl, hcs.cong fun z k => ?_, hE, hEl, pr⟩
      rw [cost_succW ht1]
      unfold AddC
      simp only [hE.made]
  · rintro S ⟨cs, E, P, k5, k6, k7, rfl, hcs, hE, hEl, pr⟩
    rw [rng_len, show ((m : Int) + 1 - 1).toNat = m by omega] at hcs
    have hcl := hcs.len fun z k h => by have := h.odd ht1; omega
    obtain ⟨cs', hcs', hsrt⟩ := costs_sorted hcs
    have hcl' : cs'.length ≤ 50 := by
      have := congrArg List.length hsrt
      rw [List.length_map] at this
      rw [← this]
      unfold srtD
      rw [(List.mergeSort_perm _ _).length_eq, List.length_map]
      exact hcl
    have k := k cs' hcs' hcl'
    walk_at "an"
    intro a o kx
    refine ⟨fun j acc S => acc = (cs.take j).map pairD ∧ S = [some (.p (.int top)), some (.p (.int m)), some (.lk a o kx (csK cs)), some (.od (enK E)), some (.ot P), k5, k6, none], ⟨rfl, rfl⟩, ?_, ?_, ?_⟩
    · rintro j acc S ⟨_, rfl⟩
      rfl
    · rintro j kv acc S hkv ⟨rfl, rfl⟩
      obtain ⟨⟨z, c⟩, hz, rfl⟩ := Option.map_eq_some_iff.mp (List.getElem?_map .. ▸ hkv)
      have hv := val_csK hcs.nd (List.mem_of_getElem? hz)
      have htk : (cs.take j).map pairD ++ [pairD (z, c)] = (cs.take (j + 1)).map pairD := by
        rw [List.take_succ, hz, List.map_append]; rfl
      have hal : ((cs.take j).map pairD).length < sizeLine := by
        rw [List.length_map, List.length_take]; exact lt_size (by omega)
      have hg : (T.lk a o kx (csK cs)).get (Sum.inl z) = some (some (PyData.int (c : Nat))) := by
        show some (valK (csK cs) (Sum.inl z)) = _
        rw [hv]
      walk_at "an"
      refine ⟨_, hg, ?_⟩
      walk_at "an"
      exact ⟨htk, rfl⟩
    · rintro acc S ⟨rfl, rfl⟩
      rw [csK_len, List.take_length]
      have em : cs.map pairD = (cs.map prL).map tupI := by rw [List.map_map]; rfl
      have c1 : PyData.canLayAll0 (cs.map pairD) = true := by rw [em]; exact lay_tupsU _
      have c2 : PySem.W.AllAlike (cs.map pairD) := by rw [em]; exact alike_tups _
      have c3 : PySem.W.Sortable (cs.map pairD) := by
        rw [em]
        exact sortable_tups fun x hx => by
          obtain ⟨y, _, rfl⟩ := List.mem_map.mp hx
          exact List.cons_ne_nil _ _
      have c4 : ∀ d ∈ cs.map pairD, d.depth ≤ 60 := by rw [em]; exact depth_tups
      walk_at "an"
      rw [hsrt]
      exact k
def b_law_same : PTS := sSeq (sIfC (qOr (qNot (qV (pU (uIsi "list") (pD 0)))) (qV (pB cNe (pD 0) (pD 1))))
  (sRet (pC (.bool false)))
  (sNx))
  (sSeq (sFor (iSq (pD 0)) (gN 2)
  (sIfC (qOr (qNot (qV (pU (uIsi "tuple") (pD 2)))) (qOr (qV (pU (uIsi "bool") (pB bIx (pD 2) (pC (.int 0))))) (qV (pU (uIsi "bool") (pB bIx (pD 2) (pC (.int 1)))))))
  (sRet (pC (.bool false)))
  (sNx)))
  (sRet (pC (.bool true))))
theorem pairs_shaped (cs : List (Int × Nat)) : SeqAt.shaped (.list (cs.map pairD)) = true := by
  have em : cs.map pairD = (cs.map prL).map tupI := by rw [List.map_map]; rfl
  unfold SeqAt.shaped
  rw [Bool.and_eq_true, decide_eq_true_eq]
  refine ⟨by rw [em]; exact lay_tupsU _, ?_⟩
  have := dep_map pairD 1 (fun p => by simp [pairD, PyData.depth, PyData.depthAll]) cs
  show PyData.depthAll _ + 1 ≤ 64
  omega
def sp_law_same : FSp := fun ts K => ∃ cs : List (Int × Nat), ts = [.p (.list (cs.map pairD)), .p (.list (cs.map pairD))] ∧ K (.p (.bool true)) [some (.p (.list (cs.map pairD))), some (.p (.list (cs.map pairD)))]
theorem v_law_same (ts : List T) (K : T → List (Option T) → Prop) (h : sp_law_same ts K) : ts.length = 2 ∧ b_law_same (endsOf [true, true] ts K) (PL.start 3 ts) := by
  obtain ⟨cs, rfl, k⟩ := h
  have sh := pairs_shaped cs
  (refine ⟨rfl, ?_⟩; simp only [PL.start, List.map_cons, List.map_nil, List.length_cons, List.length_nil, Nat.reduceAdd, Nat.reduceSub, List.replicate_succ, List.replicate_zero, List.cons_append, List.nil_append])
  refine ifC False True ?_ (fun h => h.elim) (fun _ => ?_)
  · walk_at "an"
    exact bF (by rw [shp_refl sh]; rfl) ⟨rfl, trivial⟩
  walk_at "an"
  refine ⟨fun i S => ∃ k2 : Option T, S = [some (.p (.list (cs.map pairD))), some (.p (.list (cs.map pairD))), k2] ∧ True, ⟨_, rfl, trivial⟩, ?_, ?_⟩
  · rintro i d S hd ⟨k2, rfl, _⟩
    obtain ⟨⟨z, c⟩, hz, rfl⟩ := Option.map_eq_some_iff.mp (List.getElem?_map .. ▸ hd)
    walk_at "an"
    refine ifC False True ?_ (fun h => h.elim) (fun _ => ?_)
    · walk_at "an"
    exact ⟨_, rfl, trivial⟩
  · rintro S ⟨k2, rfl, _⟩
    walk_at "an"
    exact k
def b_law : PTS := sSeq (sAsg (gTupP 2 (gConsP (gN 1) (gConsP (gN 2) (gNilP)))) (pFz (pCall sp_law_bounds (aC (pCall sp_law_pen (aC (pD 0) (aN))) (aN)))))
  (sSeq (sSet 3 (pFz (pCall sp_law_due (aC (pD 1) (aC (pD 2) (aN))))))
  (sSeq (sSet 4 (pCall sp_costs (aC (pD 1) (aC (pD 2) (aN)))))
  (sSeq (sIf (qNot (qV (pCall sp_law_same (aC (pL 4) (aC (pD 3) (aN))))))
  (sRet (pC (.bool false)))
  (sNx))
  (sSeq (sIf (qV (pB cLt (pD 1) (pC (.int 16))))
  (sSeq (sDrop (pMeth lAppend (pV 4) (aC (pTup (aC (pC (.int 0)) (aC (pC (.int 0)) (aN)))) aN)))
  (sRet (pCall sp_law_same (aC (pFz (pCall sp_costs (aC (pD 1) (aC (pD 2) (aN))))) (aC (pD 3) (aN))))))
  (sNx))
  (sRet (pC (.bool true)))))))
def sp_law : FSp := fun ts K => ∃ ns : List Int, ts = [.p (.list (ns.map .int))] ∧ ns.length ≤ 63 ∧ K (.p (.bool true)) [some (.p (.list (ns.map .int)))]
theorem v_law (ts : List T) (K : T → List (Option T) → Prop) (h : sp_law ts K) : ts.length = 1 ∧ b_law (endsOf [true] ts K) (PL.start 5 ts) := by
  obtain ⟨ns, rfl, hn, k⟩ := h
  (refine ⟨rfl, ?_⟩; simp only [PL.start, List.map_cons, List.map_nil, List.length_cons, List.length_nil, Nat.reduceAdd, Nat.reduceSub, List.replicate_succ, List.replicate_zero, List.cons_append, List.nil_append])
  walk_at "an"
  refine ⟨_, _, _, rfl, by decide, by decide, by decide, fun top m t ht1 hm0 hf => ?_⟩
  have ht : top ≤ 99 := by unfold Far at hf; omega
  have hm4 : m ≤ 4 := by unfold Far at hf; omega
  obtain ⟨m, rfl⟩ : ∃ n : Nat, m = n := ⟨m.toNat, by omega⟩
  walk_at "an"
  refine ⟨top, m, rfl, ht1, ht, by omega, fun cs hcs hcl => ⟨rfl, rfl, ?_⟩⟩
  walk_at "an"
  refine ⟨top, m, rfl, ht1, hm0, fun h => absurd h hf, fun _ cs' hcs' => ⟨rfl, ?_⟩⟩
  rw [Int.toNat_natCast] at hcs'
  obtain rfl := hcs'.uniq hcs
  walk_at "an"
  refine ⟨fun q => ?_, fun q => ?_⟩
  · have hsz : (cs'.map pairD).length < sizeLine := by rw [List.length_map]; exact lt_size (by omega)
    walk_at "an"
    refine ⟨top, m, rfl, ht1, hm0, fun h => absurd h hf, fun _ cs2 hcs2 => ⟨rfl, rfl, ?_⟩⟩
    rw [Int.toNat_natCast] at hcs2
    obtain rfl := hcs2.uniq hcs
    walk_at "an"
    exact k
  · walk_at "an"
    exact k
theorem lawOk : LawSp 63 sp_law := fun ns h => ⟨ns, rfl, h, rfl⟩
end K32

set_option Elab.async false
set_option linter.all false
set_option maxRecDepth 100000
set_option maxHeartbeats 4000000
set_option autoImplicit false
namespace K32
open PySem L2 PL
open PyProof.Rows (envOfC)
def top (i : Nat) : Stmt := PySem.Challenge.pw_shiftsums_k32_what_odd_parts_cost.main.body.getD i (.Pass ⟨0, 0, 0, 0⟩)
structure Txt (K : PySem.W.Frag) (mg : Str → Option Value) : Prop where
  abs : mg "abs" = none
  bool : mg "bool" = none
  isinstance : mg "isinstance" = none
  len : mg "len" = none
  list : mg "list" = none
  range : mg "range" = none
  sorted : mg "sorted" = none
  tuple : mg "tuple" = none
  g_MOST_TOP : ∃ t, mg "MOST_TOP" = some (.int 99 t)
  g_MOST_DEEDS : ∃ t, mg "MOST_DEEDS" = some (.int 4 t)
  g_LESS_TOP : ∃ t, mg "LESS_TOP" = some (.int 31 t)
  g_LESS_DEEDS : ∃ t, mg "LESS_DEEDS" = some (.int 3 t)
structure Errs (K : PySem.W.Frag) (mg : Str → Option Value) : Prop where
  g_TooMany : mg "TooMany" = some (.ref (He.ga K "TooMany"))
  e_TooMany : ErrF K mg "TooMany"
def xb (K : PySem.W.Frag) : Bool := true
abbrev s_core : Stmt := top 4
theorem sc_core : FnScope ["number", "far", "shift", "sign"] ["number"] (defScope s_core) := ⟨rfl, rfl, rfl, by decide +kernel, rfl, by decide +kernel, by decide +kernel⟩
theorem d_core {P : Program} {w : World} {K : PySem.W.Frag} {mg : Str → Option Value} {base : Heap} (T : Txt K mg) (EF : Errs K mg)  {f : Addr} {cdv : Value} {A : Around} {outer : List Env} {s : Shared} {H : Hp} {E : XK} {C : PCx}
    (hr : Room 0 (A.deeper (envOfC "core" (defScope s_core) s.heap.objs.size f cdv))) (hC : C.prot = [true]) (hM : C.mu = [false, false, false, false]) : QSs (cxOf CX0 P w K mg base ["number", "far", "shift", "sign"] "core" (defScope s_core) f cdv A outer s H E).nox C (defBody s_core) b_core := by
  have hu := hu_of hr
  refine qss_cons ?_ ?_
  · refine qs_if ?_ ?_ ?_
    · refine qt_eq hr ?_ ?_
      · exact qe_dat (pv 0)
      · exact qe_int
    · refine qss_one ?_
      refine qs_ret ?_
      refine qe_tup ?_
      refine qa_cons ?_ ?_
      · exact qe_int
      · refine qa_cons ?_ ?_
        · exact qe_int
        · refine qa_cons ?_ ?_
          · exact qe_int
          · exact qa_nil
    · exact qss_nil
  · refine qss_cons ?_ ?_
    · refine qs_set (i := 1) sc_core.nd rfl (by first | exact Or.inl rfl | exact Or.inr rfl) (npr hC (by decide)) ?_
      refine qe_abs T.abs ?_
      exact qe_dat (pv 0)
    · refine qss_cons ?_ ?_
      · refine qs_set (i := 2) sc_core.nd rfl (by first | exact Or.inl rfl | exact Or.inr rfl) (npr hC (by decide)) ?_
        refine qe_sub ?_ ?_
        · refine qe_bits ?_
          refine qe_and ?_ ?_
          · exact qe_dat (pv 1)
          · refine qe_neg ?_
            exact qe_dat (pv 1)
        · exact qe_int
      · refine qss_cons ?_ ?_
        · refine qs_set (i := 3) sc_core.nd rfl (by first | exact Or.inl rfl | exact Or.inr rfl) (npr hC (by decide)) ?_
          exact qe_int
        · refine qss_cut ?_ ?_
          · refine qs_if ?_ ?_ ?_
            · refine qt_lt ?_ ?_
              · exact qe_dat (pv 0)
              · exact qe_int
            · refine qss_one ?_
              refine qs_set (i := 3) sc_core.nd rfl (by first | exact Or.inl rfl | exact Or.inr rfl) (npr hC (by decide)) ?_
              refine qe_neg ?_
              exact qe_int
            · exact qss_nil
          · refine qss_one ?_
            refine qs_ret ?_
            refine qe_tup ?_
            refine qa_cons ?_ ?_
            · refine qe_shr ?_ ?_
              · exact qe_dat (pv 1)
              · exact qe_dat (pv 2)
            · refine qa_cons ?_ ?_
              · exact qe_dat (pv 2)
              · refine qa_cons ?_ ?_
                · exact qe_dat (pv 3)
                · exact qa_nil

abbrev s_refuse_far : Stmt := top 10
theorem sc_refuse_far : FnScope ["top", "most"] ["top", "most"] (defScope s_refuse_far) := ⟨rfl, rfl, rfl, by decide +kernel, rfl, by decide +kernel, by decide +kernel⟩
theorem d_refuse_far {P : Program} {w : World} {K : PySem.W.Frag} {mg : Str → Option Value} {base : Heap} (T : Txt K mg) (EF : Errs K mg)  {f : Addr} {cdv : Value} {A : Around} {outer : List Env} {s : Shared} {H : Hp} {E : XK} {C : PCx}
    (hr : Room 0 (A.deeper (envOfC "refuse_far" (defScope s_refuse_far) s.heap.objs.size f cdv))) (hC : C.prot = [true, true]) (hM : C.mu = [false, false]) {ξ : Xi} (lk : Lk (cxOf (L2.CX P w) P w K mg base ["top", "most"] "refuse_far" (defScope s_refuse_far) f cdv A outer s H E) C ξ) : QSt (cxOf (L2.CX P w) P w K mg base ["top", "most"] "refuse_far" (defScope s_refuse_far) f cdv A outer s H E) C (defBody s_refuse_far) (b_refuse_far ξ) := by
  have hu := hu_of hr
  refine QSs.t ?_
  refine qss_one ?_
  refine qs_ifC ?_ ?_ ?_
  · refine QW.t ?_
    refine qw_or ?_ ?_
    · refine qt_gt ?_ ?_
      · exact qe_dat (pv 0)
      · exact qe_globI T.g_MOST_TOP rfl
    · refine qw_or ?_ ?_
      · refine qt_gt ?_ ?_
        · exact qe_dat (pv 1)
        · exact qe_globI T.g_MOST_DEEDS rfl
      · refine qw_or1 ?_
        refine QW.t ?_
        refine qw_and ?_ ?_
        · refine qt_gt ?_ ?_
          · exact qe_dat (pv 0)
          · exact qe_globI T.g_LESS_TOP rfl
        · refine qw_and1 ?_
          refine qt_gt ?_ ?_
          · exact qe_dat (pv 1)
          · exact qe_globI T.g_LESS_DEEDS rfl
  · refine qss_one ?_
    exact qs_raise0 lk EF.e_TooMany rfl rfl (by decide)
  · exact qss_nil

abbrev s_made_of_two : Stmt := top 11
theorem sc_made_of_two : FnScope ["u", "v", "top", "found", "up", "number", "own"] ["u", "v", "top"] (defScope s_made_of_two) := ⟨rfl, rfl, rfl, by decide +kernel, rfl, by decide +kernel, by decide +kernel⟩
theorem d_made_of_two {P : Program} {w : World} {K : PySem.W.Frag} {mg : Str → Option Value} {base : Heap} (T : Txt K mg) (EF : Errs K mg) (F_core : Def P w K mg base 1 "core" ["number"] sp_core) {f : Addr} {cdv : Value} {A : Around} {outer : List Env} {s : Shared} {H : Hp} {E : XK} {C : PCx}
    (hr : Room 1 (A.deeper (envOfC "made_of_two" (defScope s_made_of_two) s.heap.objs.size f cdv))) (hC : C.prot = [true, true, true]) (hM : C.mu = [false, false, false, true, false, false, false]) : QSs (cxOf CX0 P w K mg base ["u", "v", "top", "found", "up", "number", "own"] "made_of_two" (defScope s_made_of_two) f cdv A outer s H E).nox C (defBody s_made_of_two) b_made_of_two := by
  have hu := hu_of hr
  refine qss_cons ?_ ?_
  · refine qs_set (i := 3) sc_made_of_two.nd rfl (by first | exact Or.inl rfl | exact Or.inr rfl) (npr hC (by decide)) ?_
    refine qe_lst ?_
    exact qa_nil
  · refine qss_cons ?_ ?_
    · refine qs_set (i := 4) sc_made_of_two.nd rfl (by first | exact Or.inl rfl | exact Or.inr rfl) (npr hC (by decide)) ?_
      exact qe_dat (pv 0)
    · refine qss_cons ?_ ?_
      · refine qs_while PassesOwn.never ?_ ?_
        · refine qt_le ?_ ?_
          · exact qe_dat (pv 4)
          · refine qe_add ?_ ?_
            · exact qe_dat (pv 2)
            · exact qe_dat (pv 1)
        · refine qss_cons ?_ ?_
          · refine qs_for PassesOwn.never rfl ?_ ?_ ?_
            · refine qi_tup ?_
              refine qe_tup ?_
              refine qa_cons ?_ ?_
              · refine qe_frz ?_
                refine qe_add ?_ ?_
                · exact qe_dat (pv 4)
                · exact qe_dat (pv 1)
              · refine qa_cons ?_ ?_
                · refine qe_sub ?_ ?_
                  · exact qe_dat (pv 4)
                  · exact qe_dat (pv 1)
                · exact qa_nil
            · exact qg_name (i := 5) sc_made_of_two.nd rfl (by first | exact Or.inl rfl | exact Or.inr rfl) (npr hC (by decide))
            · refine qss_cons ?_ ?_
              · refine qs_set (i := 6) sc_made_of_two.nd rfl (by first | exact Or.inl rfl | exact Or.inr rfl) (npr hC (by decide)) ?_
                refine qe_ix hu ?_ ?_ (fun _ _ => rfl)
                · refine qe_callD F_core (hr.mono (by decide)) rfl ?_
                  refine qa_cons ?_ ?_
                  · exact qe_dat (pv 5)
                  · exact qa_nil
                · exact qe_int
              · refine qss_one ?_
                refine qs_ifC ?_ ?_ ?_
                · refine qt_ch (f := fLt) (f' := fLe) op_lt op_le ?_ ?_ ?_
                  · exact qe_int
                  · exact qe_dat (pv 6)
                  · exact qe_dat (pv 2)
                · refine qss_one ?_
                  refine qs_drop ?_
                  refine qe_append ?_ ?_
                  · exact qe_var (pv 3) (ismu hM rfl)
                  · exact qe_dat (pv 6)
                · exact qss_nil
          · refine qss_one ?_
            refine qs_set (i := 4) sc_made_of_two.nd rfl (by first | exact Or.inl rfl | exact Or.inr rfl) (npr hC (by decide)) ?_
            refine qe_mul ?_ ?_
            · exact qe_int
            · exact qe_dat (pv 4)
      · refine qss_one ?_
        refine qs_ret ?_
        exact qe_mv (pv 3)

abbrev s_made : Stmt := top 12
theorem sc_made : FnScope ["cores", "top", "found", "u", "v", "own"] ["cores", "top"] (defScope s_made) := ⟨rfl, rfl, rfl, by decide +kernel, rfl, by decide +kernel, by decide +kernel⟩
theorem d_made {P : Program} {w : World} {K : PySem.W.Frag} {mg : Str → Option Value} {base : Heap} (T : Txt K mg) (EF : Errs K mg) (F_made_of_two : Def P w K mg base 2 "made_of_two" ["u", "v", "top"] sp_made_of_two) {f : Addr} {cdv : Value} {A : Around} {outer : List Env} {s : Shared} {H : Hp} {E : XK} {C : PCx}
    (hr : Room 2 (A.deeper (envOfC "made" (defScope s_made) s.heap.objs.size f cdv))) (hC : C.prot = [true, true]) (hM : C.mu = [false, false, true, false, false, false]) : QSs (cxOf CX0 P w K mg base ["cores", "top", "found", "u", "v", "own"] "made" (defScope s_made) f cdv A outer s H E).nox C (defBody s_made) b_made := by
  have hu := hu_of hr
  refine qss_cons ?_ ?_
  · refine qs_set (i := 2) sc_made.nd rfl (by first | exact Or.inl rfl | exact Or.inr rfl) (npr hC (by decide)) ?_
    exact qe_dnew
  · refine qss_cons ?_ ?_
    · refine qs_for PassesOwn.never rfl ?_ ?_ ?_
      · refine qi_sq ?_
        exact qe_dat (pv 0)
      · exact qg_name (i := 3) sc_made.nd rfl (by first | exact Or.inl rfl | exact Or.inr rfl) (npr hC (by decide))
      · refine qss_one ?_
        refine qs_for PassesOwn.never rfl ?_ ?_ ?_
        · refine qi_sq ?_
          exact qe_dat (pv 0)
        · exact qg_name (i := 4) sc_made.nd rfl (by first | exact Or.inl rfl | exact Or.inr rfl) (npr hC (by decide))
        · refine qss_one ?_
          refine qs_for PassesOwn.never rfl ?_ ?_ ?_
          · refine qi_list ?_
            refine qe_frz ?_
            refine qe_callD F_made_of_two (hr.mono (by decide)) rfl ?_
            refine qa_cons ?_ ?_
            · exact qe_dat (pv 3)
            · refine qa_cons ?_ ?_
              · exact qe_dat (pv 4)
              · refine qa_cons ?_ ?_
                · exact qe_dat (pv 1)
                · exact qa_nil
          · exact qg_name (i := 5) sc_made.nd rfl (by first | exact Or.inl rfl | exact Or.inr rfl) (npr hC (by decide))
          · refine qss_one ?_
            refine qs_setix hu ?_ ?_ ?_
            · exact qe_bl
            · exact qe_var (pv 2) (ismu hM rfl)
            · exact qe_dat (pv 5)
    · refine qss_one ?_
      refine qs_ret ?_
      refine qe_sorted1 rfl T.sorted ?_
      exact qe_var (pv 2) (ismu hM rfl)

abbrev s_longer : Stmt := top 13
theorem sc_longer : FnScope ["sets", "top", "found", "some", "more", "own"] ["sets", "top"] (defScope s_longer) := ⟨rfl, rfl, rfl, by decide +kernel, rfl, by decide +kernel, by decide +kernel⟩
theorem d_longer {P : Program} {w : World} {K : PySem.W.Frag} {mg : Str → Option Value} {base : Heap} (T : Txt K mg) (EF : Errs K mg) (F_made : Def P w K mg base 3 "made" ["cores", "top"] sp_made) {f : Addr} {cdv : Value} {A : Around} {outer : List Env} {s : Shared} {H : Hp} {E : XK} {C : PCx}
    (hr : Room 3 (A.deeper (envOfC "longer" (defScope s_longer) s.heap.objs.size f cdv))) (hC : C.prot = [true, true]) (hM : C.mu = [false, false, true, false, false, false]) : QSs (cxOf CX0 P w K mg base ["sets", "top", "found", "some", "more", "own"] "longer" (defScope s_longer) f cdv A outer s H E).nox C (defBody s_longer) b_longer := by
  have hu := hu_of hr
  refine qss_cons ?_ ?_
  · refine qs_set (i := 2) sc_longer.nd rfl (by first | exact Or.inl rfl | exact Or.inr rfl) (npr hC (by decide)) ?_
    exact qe_dnewO
  · refine qss_cons ?_ ?_
    · refine qs_for PassesOwn.never rfl ?_ ?_ ?_
      · refine qi_sq ?_
        exact qe_dat (pv 0)
      · exact qg_name (i := 3) sc_longer.nd rfl (by first | exact Or.inl rfl | exact Or.inr rfl) (npr hC (by decide))
      · refine qss_cons ?_ ?_
        · refine qs_setLcF [("own", 5)] rfl sc_longer.nd (blkOk_by (N := ["sets", "top", "found", "some", "more", "own"]) (sc := defScope s_longer) (own := [("own", 5)]) (by decide +kernel)) (ownV_of hM hC (by decide)) (i := 4) rfl rfl (npr hC (by decide)) (sw_true rfl rfl rfl (by decide +kernel)) ?_ (fun _ => ?_) (fun _ => ?_) (fun _ => ?_)
          · refine qi_list ?_
            refine qe_frz ?_
            refine qe_callD F_made (hr.mono (by decide)) rfl ?_
            refine qa_cons ?_ ?_
            · exact qe_dat (pv 3)
            · refine qa_cons ?_ ?_
              · exact qe_dat (pv 1)
              · exact qa_nil
          · exact qgb_name (i := 5) sc_longer.nd rfl (by first | exact Or.inl rfl | exact Or.inr rfl) (npr hC (by decide)) (nomu hM (by decide)) (by decide)
          · refine qts_one ?_
            refine qt_ni hr ?_ ?_
            · exact qe_dat (pv 5)
            · exact qe_dat (pv 3)
          · exact qe_dat (pv 5)
        · refine qss_cut ?_ ?_
          · refine qs_if ?_ ?_ ?_
            · refine qt_eq hr ?_ ?_
              · exact qe_dat (pv 4)
              · refine qe_lst ?_
                exact qa_nil
            · refine qss_one ?_
              refine qs_setixO hu ?_ ?_ ?_
              · exact qe_bl
              · exact qe_var (pv 2) (ismu hM rfl)
              · exact qe_dat (pv 3)
            · exact qss_nil
          · refine qss_one ?_
            refine qs_for PassesOwn.never rfl ?_ ?_ ?_
            · refine qi_sq ?_
              exact qe_dat (pv 4)
            · exact qg_name (i := 5) sc_longer.nd rfl (by first | exact Or.inl rfl | exact Or.inr rfl) (npr hC (by decide))
            · refine qss_one ?_
              refine qs_setixO hu ?_ ?_ ?_
              · exact qe_bl
              · exact qe_var (pv 2) (ismu hM rfl)
              · refine qe_tuple1 T.tuple ?_
                refine qe_sortedT T.sorted ?_
                refine qe_catT ?_ ?_
                · exact qe_dat (pv 3)
                · refine qe_tup ?_
                  refine qa_cons ?_ ?_
                  · exact qe_dat (pv 5)
                  · exact qa_nil
    · refine qss_one ?_
      refine qs_ret ?_
      refine qe_srtO rfl hr T.sorted ?_
      exact qe_var (pv 2) (ismu hM rfl)

abbrev s_costs : Stmt := top 14
theorem sc_costs : FnScope ["top", "most", "found", "sets", "count", "some", "own"] ["top", "most"] (defScope s_costs) := ⟨rfl, rfl, rfl, by decide +kernel, rfl, by decide +kernel, by decide +kernel⟩
theorem d_costs {P : Program} {w : World} {K : PySem.W.Frag} {mg : Str → Option Value} {base : Heap} (T : Txt K mg) (EF : Errs K mg) (F_refuse_far : DefX P w K mg base 1 "refuse_far" ["top", "most"] sx_refuse_far) (F_longer : Def P w K mg base 4 "longer" ["sets", "top"] sp_longer) (F_made : Def P w K mg base 3 "made" ["cores", "top"] sp_made) {f : Addr} {cdv : Value} {A : Around} {outer : List Env} {s : Shared} {H : Hp} {E : XK} {C : PCx}
    (hr : Room 4 (A.deeper (envOfC "costs" (defScope s_costs) s.heap.objs.size f cdv))) (hC : C.prot = [true, true]) (hM : C.mu = [false, false, true, false, false, false, false]) {ξ : Xi} (lk : Lk (cxOf (L2.CX P w) P w K mg base ["top", "most", "found", "sets", "count", "some", "own"] "costs" (defScope s_costs) f cdv A outer s H E) C ξ) : QSt (cxOf (L2.CX P w) P w K mg base ["top", "most", "found", "sets", "count", "some", "own"] "costs" (defScope s_costs) f cdv A outer s H E) C (defBody s_costs) (b_costs ξ) := by
  have hu := hu_of hr
  refine QSs.t ?_
  refine qss_cons ?_ ?_
  · refine qs_drop ?_
    refine qe_callDX F_refuse_far lk (hr.mono (by decide)) rfl ?_
    refine qa_cons ?_ ?_
    · exact qe_dat (pv 0)
    · refine qa_cons ?_ ?_
      · exact qe_dat (pv 1)
      · exact qa_nil
  · refine qss_cons ?_ ?_
    · refine qs_set (i := 2) sc_costs.nd rfl (by first | exact Or.inl rfl | exact Or.inr rfl) (npr hC (by decide)) ?_
      refine qe_dct ?_
      refine qps_cons ?_ ?_ ?_
      · exact qe_int
      · exact qe_int
      · exact qps_nil
    · refine qss_cons ?_ ?_
      · refine qs_set (i := 3) sc_costs.nd rfl (by first | exact Or.inl rfl | exact Or.inr rfl) (npr hC (by decide)) ?_
        refine qe_frz ?_
        refine qe_lst ?_
        refine qa_cons ?_ ?_
        · refine qe_tup ?_
          refine qa_cons ?_ ?_
          · exact qe_int
          · exact qa_nil
        · exact qa_nil
      · refine qss_cons ?_ ?_
        · refine qs_for (passes_of rfl) rfl ?_ ?_ ?_
          · refine qi_range2 T.range ?_ ?_
            · exact qe_int
            · refine qe_add ?_ ?_
              · exact qe_dat (pv 1)
              · exact qe_int
          · exact qg_name (i := 4) sc_costs.nd rfl (by first | exact Or.inl rfl | exact Or.inr rfl) (npr hC (by decide))
          · refine qss_cut ?_ ?_
            · refine qs_if ?_ ?_ ?_
              · refine qt_gt ?_ ?_
                · exact qe_dat (pv 4)
                · exact qe_int
              · refine qss_one ?_
                refine qs_set (i := 3) sc_costs.nd rfl (by first | exact Or.inl rfl | exact Or.inr rfl) (npr hC (by decide)) ?_
                refine qe_frz ?_
                refine qe_callD F_longer (hr.mono (by decide)) rfl ?_
                refine qa_cons ?_ ?_
                · exact qe_dat (pv 3)
                · refine qa_cons ?_ ?_
                  · exact qe_dat (pv 0)
                  · exact qa_nil
              · exact qss_nil
            · refine qss_one ?_
              refine qs_for (passes_of rfl) rfl ?_ ?_ ?_
              · refine qi_sq ?_
                exact qe_dat (pv 3)
              · exact qg_name (i := 5) sc_costs.nd rfl (by first | exact Or.inl rfl | exact Or.inr rfl) (npr hC (by decide))
              · refine qss_one ?_
                refine qs_for (passes_of rfl) rfl ?_ ?_ ?_
                · refine qi_list ?_
                  refine qe_frz ?_
                  refine qe_callD F_made (hr.mono (by decide)) rfl ?_
                  refine qa_cons ?_ ?_
                  · exact qe_dat (pv 5)
                  · refine qa_cons ?_ ?_
                    · exact qe_dat (pv 0)
                    · exact qa_nil
                · exact qg_name (i := 6) sc_costs.nd rfl (by first | exact Or.inl rfl | exact Or.inr rfl) (npr hC (by decide))
                · refine qss_one ?_
                  refine qs_drop ?_
                  refine qe_setd ?_ ?_ ?_
                  · exact qe_var (pv 2) (ismu hM rfl)
                  · exact qe_dat (pv 6)
                  · exact qe_dat (pv 4)
        · refine qss_one ?_
          refine qs_ret ?_
          refine qe_srtD hr T.sorted ?_
          refine qe_lcK [("own", 6)] rfl sc_costs.nd (blkOk_by (N := ["top", "most", "found", "sets", "count", "some", "own"]) (sc := defScope s_costs) (own := [("own", 6)]) (by decide +kernel)) (ownV_of hM hC (by decide)) (pv 2) (fun _ => ?_) (fun _ => ?_) (fun _ => ?_)
          · exact qgb_name (i := 6) sc_costs.nd rfl (by first | exact Or.inl rfl | exact Or.inr rfl) (npr hC (by decide)) (nomu hM (by decide)) (by decide)
          · exact qts_nil
          · refine qe_tup ?_
            refine qa_cons ?_ ?_
            · exact qe_dat (pv 6)
            · refine qa_cons ?_ ?_
              · refine qe_ix hu ?_ ?_ (fun _ _ => rfl)
                · exact qe_var (pv 2) (ismu hM rfl)
                · exact qe_dat (pv 6)
              · exact qa_nil

abbrev s_law_pen : Stmt := top 16
theorem sc_law_pen : FnScope ["_law_script"] ["_law_script"] (defScope s_law_pen) := ⟨rfl, rfl, rfl, by decide +kernel, rfl, by decide +kernel, by decide +kernel⟩
theorem d_law_pen {P : Program} {w : World} {K : PySem.W.Frag} {mg : Str → Option Value} {base : Heap} (T : Txt K mg) (EF : Errs K mg)  {f : Addr} {cdv : Value} {A : Around} {outer : List Env} {s : Shared} {H : Hp} {E : XK} {C : PCx}
    (hr : Room 0 (A.deeper (envOfC "_law_pen" (defScope s_law_pen) s.heap.objs.size f cdv))) (hC : C.prot = [true]) (hM : C.mu = [false]) : QSs (cxOf CX0 P w K mg base ["_law_script"] "_law_pen" (defScope s_law_pen) f cdv A outer s H E).nox C (defBody s_law_pen) b_law_pen := by
  have hu := hu_of hr
  refine qss_one ?_
  refine qs_ret ?_
  refine qe_lst ?_
  refine qa_cons ?_ ?_
  · exact qe_int
  · refine qa_cons ?_ ?_
    · exact qe_int
    · refine qa_cons ?_ ?_
      · exact qe_dat (pv 0)
      · exact qa_nil

abbrev s_law_pick : Stmt := top 17
theorem sc_law_pick : FnScope ["_law_pen_here", "_law_many", "_law_at", "_law_cell", "_law_mixed", "_law_digit"] ["_law_pen_here", "_law_many"] (defScope s_law_pick) := ⟨rfl, rfl, rfl, by decide +kernel, rfl, by decide +kernel, by decide +kernel⟩
theorem d_law_pick {P : Program} {w : World} {K : PySem.W.Frag} {mg : Str → Option Value} {base : Heap} (T : Txt K mg) (EF : Errs K mg)  {f : Addr} {cdv : Value} {A : Around} {outer : List Env} {s : Shared} {H : Hp} {E : XK} {C : PCx}
    (hr : Room 0 (A.deeper (envOfC "_law_pick" (defScope s_law_pick) s.heap.objs.size f cdv))) (hC : C.prot = [true, true]) (hM : C.mu = [true, false, false, false, false, false]) : QSs (cxOf CX0 P w K mg base ["_law_pen_here", "_law_many", "_law_at", "_law_cell", "_law_mixed", "_law_digit"] "_law_pick" (defScope s_law_pick) f cdv A outer s H E).nox C (defBody s_law_pick) b_law_pick := by
  have hu := hu_of hr
  refine qss_cons ?_ ?_
  · refine qs_if ?_ ?_ ?_
    · refine qt_gt ?_ ?_
      · refine qe_ix hu ?_ ?_ (fun _ _ => rfl)
        · exact qe_var (pv 0) (ismu hM rfl)
        · exact qe_int
      · exact qe_int
    · refine qss_cons ?_ ?_
      · refine qs_set (i := 5) sc_law_pick.nd rfl (by first | exact Or.inl rfl | exact Or.inr rfl) (npr hC (by decide)) ?_
        refine qe_mod ?_ ?_
        · refine qe_ix hu ?_ ?_ (fun _ _ => rfl)
          · exact qe_var (pv 0) (ismu hM rfl)
          · exact qe_int
        · exact qe_dat (pv 1)
      · refine qss_cons ?_ ?_
        · refine qs_setix hu ?_ ?_ ?_
          · refine qe_div ?_ ?_
            · refine qe_ix hu ?_ ?_ (fun _ _ => rfl)
              · exact qe_var (pv 0) (ismu hM rfl)
              · exact qe_int
            · exact qe_dat (pv 1)
          · exact qe_var (pv 0) (ismu hM rfl)
          · exact qe_int
        · refine qss_one ?_
          refine qs_ret ?_
          exact qe_dat (pv 5)
    · exact qss_nil
  · refine qss_cons ?_ ?_
    · refine qs_set (i := 2) sc_law_pick.nd rfl (by first | exact Or.inl rfl | exact Or.inr rfl) (npr hC (by decide)) ?_
      refine qe_ix hu ?_ ?_ (fun _ _ => rfl)
      · exact qe_var (pv 0) (ismu hM rfl)
      · exact qe_int
    · refine qss_cons ?_ ?_
      · refine qs_setix hu ?_ ?_ ?_
        · refine qe_add ?_ ?_
          · exact qe_dat (pv 2)
          · exact qe_int
        · exact qe_var (pv 0) (ismu hM rfl)
        · exact qe_int
      · refine qss_cons ?_ ?_
        · refine qs_set (i := 3) sc_law_pick.nd rfl (by first | exact Or.inl rfl | exact Or.inr rfl) (npr hC (by decide)) ?_
          exact qe_int
        · refine qss_cut ?_ ?_
          · refine qs_if ?_ ?_ ?_
            · refine qt_gt ?_ ?_
              · refine qe_len T.len ?_
                refine qe_ix hu ?_ ?_ (fun _ _ => rfl)
                · exact qe_var (pv 0) (ismu hM rfl)
                · exact qe_int
              · exact qe_int
            · refine qss_one ?_
              refine qs_set (i := 3) sc_law_pick.nd rfl (by first | exact Or.inl rfl | exact Or.inr rfl) (npr hC (by decide)) ?_
              refine qe_ix hu ?_ ?_ (fun _ _ => rfl)
              · refine qe_ix hu ?_ ?_ (fun _ _ => rfl)
                · exact qe_var (pv 0) (ismu hM rfl)
                · exact qe_int
              · refine qe_mod ?_ ?_
                · exact qe_dat (pv 2)
                · refine qe_len T.len ?_
                  refine qe_ix hu ?_ ?_ (fun _ _ => rfl)
                  · exact qe_var (pv 0) (ismu hM rfl)
                  · exact qe_int
            · exact qss_nil
          · refine qss_cons ?_ ?_
            · refine qs_ifC ?_ ?_ ?_
              · refine QW.t ?_
                refine qw_and ?_ ?_
                · refine qt_lt ?_ ?_
                  · exact qe_dat (pv 2)
                  · refine qe_len T.len ?_
                    refine qe_ix hu ?_ ?_ (fun _ _ => rfl)
                    · exact qe_var (pv 0) (ismu hM rfl)
                    · exact qe_int
                · refine qw_and1 ?_
                  refine qt_ge ?_ ?_
                  · refine qe_abs T.abs ?_
                    exact qe_dat (pv 3)
                  · refine qe_pow ?_ ?_
                    · exact qe_int
                    · exact qe_int
              · refine qss_cons ?_ ?_
                · refine qs_setix hu ?_ ?_ ?_
                  · refine qe_div ?_ ?_
                    · refine qe_abs T.abs ?_
                      exact qe_dat (pv 3)
                    · exact qe_dat (pv 1)
                  · exact qe_var (pv 0) (ismu hM rfl)
                  · exact qe_int
                · refine qss_one ?_
                  refine qs_ret ?_
                  refine qe_mod ?_ ?_
                  · refine qe_abs T.abs ?_
                    exact qe_dat (pv 3)
                  · exact qe_dat (pv 1)
              · exact qss_nil
            · refine qss_cons ?_ ?_
              · refine qs_set (i := 4) sc_law_pick.nd rfl (by first | exact Or.inl rfl | exact Or.inr rfl) (npr hC (by decide)) ?_
                refine qe_mod ?_ ?_
                · refine qe_mul ?_ ?_
                  · refine qe_add ?_ ?_
                    · refine qe_add ?_ ?_
                      · refine qe_mod ?_ ?_
                        · exact qe_dat (pv 3)
                        · exact qe_int
                      · refine qe_mul ?_ ?_
                        · exact qe_int
                        · exact qe_dat (pv 2)
                    · exact qe_int
                  · exact qe_int
                · exact qe_int
              · refine qss_cons ?_ ?_
                · refine qs_set (i := 4) sc_law_pick.nd rfl (by first | exact Or.inl rfl | exact Or.inr rfl) (npr hC (by decide)) ?_
                  refine qe_mod ?_ ?_
                  · refine qe_mul ?_ ?_
                    · exact qe_dat (pv 4)
                    · refine qe_add ?_ ?_
                      · refine qe_add ?_ ?_
                        · refine qe_mod ?_ ?_
                          · exact qe_dat (pv 4)
                          · exact qe_int
                        · exact qe_dat (pv 2)
                      · exact qe_int
                  · exact qe_int
                · refine qss_one ?_
                  refine qs_ret ?_
                  refine qe_mod ?_ ?_
                  · refine qe_div ?_ ?_
                    · exact qe_dat (pv 4)
                    · exact qe_int
                  · exact qe_dat (pv 1)

abbrev s_law_bounds : Stmt := top 18
theorem sc_law_bounds : FnScope ["_law_pen_here", "_law_way"] ["_law_pen_here"] (defScope s_law_bounds) := ⟨rfl, rfl, rfl, by decide +kernel, rfl, by decide +kernel, by decide +kernel⟩
theorem d_law_bounds {P : Program} {w : World} {K : PySem.W.Frag} {mg : Str → Option Value} {base : Heap} (T : Txt K mg) (EF : Errs K mg) (F_law_pick : Def P w K mg base 1 "_law_pick" ["_law_pen_here", "_law_many"] sp_law_pick) {f : Addr} {cdv : Value} {A : Around} {outer : List Env} {s : Shared} {H : Hp} {E : XK} {C : PCx}
    (hr : Room 1 (A.deeper (envOfC "_law_bounds" (defScope s_law_bounds) s.heap.objs.size f cdv))) (hC : C.prot = [true]) (hM : C.mu = [true, false]) : QSs (cxOf CX0 P w K mg base ["_law_pen_here", "_law_way"] "_law_bounds" (defScope s_law_bounds) f cdv A outer s H E).nox C (defBody s_law_bounds) b_law_bounds := by
  have hu := hu_of hr
  refine qss_cons ?_ ?_
  · refine qs_set (i := 1) sc_law_bounds.nd rfl (by first | exact Or.inl rfl | exact Or.inr rfl) (npr hC (by decide)) ?_
    refine qe_callD F_law_pick (hr.mono (by decide)) rfl ?_
    refine qa_cons ?_ ?_
    · exact qe_var (pv 0) (ismu hM rfl)
    · refine qa_cons ?_ ?_
      · exact qe_int
      · exact qa_nil
  · refine qss_cons ?_ ?_
    · refine qs_if ?_ ?_ ?_
      · refine qt_eq hr ?_ ?_
        · exact qe_dat (pv 1)
        · exact qe_int
      · refine qss_one ?_
        refine qs_ret ?_
        refine qe_lst ?_
        refine qa_cons ?_ ?_
        · exact qe_int
        · refine qa_cons ?_ ?_
          · exact qe_int
          · exact qa_nil
      · exact qss_nil
    · refine qss_cons ?_ ?_
      · refine qs_if ?_ ?_ ?_
        · refine qt_eq hr ?_ ?_
          · exact qe_dat (pv 1)
          · exact qe_int
        · refine qss_one ?_
          refine qs_ret ?_
          refine qe_lst ?_
          refine qa_cons ?_ ?_
          · refine qe_add ?_ ?_
            · exact qe_int
            · refine qe_callD F_law_pick (hr.mono (by decide)) rfl ?_
              refine qa_cons ?_ ?_
              · exact qe_var (pv 0) (ismu hM rfl)
              · refine qa_cons ?_ ?_
                · exact qe_int
                · exact qa_nil
          · refine qa_cons ?_ ?_
            · refine qe_callD F_law_pick (hr.mono (by decide)) rfl ?_
              refine qa_cons ?_ ?_
              · exact qe_var (pv 0) (ismu hM rfl)
              · refine qa_cons ?_ ?_
                · exact qe_int
                · exact qa_nil
            · exact qa_nil
        · exact qss_nil
      · refine qss_cons ?_ ?_
        · refine qs_if ?_ ?_ ?_
          · refine qt_lt ?_ ?_
            · exact qe_dat (pv 1)
            · exact qe_int
          · refine qss_one ?_
            refine qs_ret ?_
            refine qe_lst ?_
            refine qa_cons ?_ ?_
            · refine qe_add ?_ ?_
              · exact qe_int
              · refine qe_callD F_law_pick (hr.mono (by decide)) rfl ?_
                refine qa_cons ?_ ?_
                · exact qe_var (pv 0) (ismu hM rfl)
                · refine qa_cons ?_ ?_
                  · exact qe_int
                  · exact qa_nil
            · refine qa_cons ?_ ?_
              · refine qe_callD F_law_pick (hr.mono (by decide)) rfl ?_
                refine qa_cons ?_ ?_
                · exact qe_var (pv 0) (ismu hM rfl)
                · refine qa_cons ?_ ?_
                  · exact qe_int
                  · exact qa_nil
              · exact qa_nil
          · exact qss_nil
        · refine qss_cons ?_ ?_
          · refine qs_if ?_ ?_ ?_
            · refine qt_lt ?_ ?_
              · exact qe_dat (pv 1)
              · exact qe_int
            · refine qss_one ?_
              refine qs_ret ?_
              refine qe_lst ?_
              refine qa_cons ?_ ?_
              · refine qe_add ?_ ?_
                · exact qe_int
                · refine qe_callD F_law_pick (hr.mono (by decide)) rfl ?_
                  refine qa_cons ?_ ?_
                  · exact qe_var (pv 0) (ismu hM rfl)
                  · refine qa_cons ?_ ?_
                    · exact qe_int
                    · exact qa_nil
              · refine qa_cons ?_ ?_
                · refine qe_callD F_law_pick (hr.mono (by decide)) rfl ?_
                  refine qa_cons ?_ ?_
                  · exact qe_var (pv 0) (ismu hM rfl)
                  · refine qa_cons ?_ ?_
                    · exact qe_int
                    · exact qa_nil
                · exact qa_nil
            · exact qss_nil
          · refine qss_one ?_
            refine qs_ret ?_
            refine qe_lst ?_
            refine qa_cons ?_ ?_
            · refine qe_add ?_ ?_
              · exact qe_int
              · refine qe_callD F_law_pick (hr.mono (by decide)) rfl ?_
                refine qa_cons ?_ ?_
                · exact qe_var (pv 0) (ismu hM rfl)
                · refine qa_cons ?_ ?_
                  · exact qe_int
                  · exact qa_nil
            · refine qa_cons ?_ ?_
              · refine qe_callD F_law_pick (hr.mono (by decide)) rfl ?_
                refine qa_cons ?_ ?_
                · exact qe_var (pv 0) (ismu hM rfl)
                · refine qa_cons ?_ ?_
                  · exact qe_int
                  · exact qa_nil
              · exact qa_nil

abbrev s_law_odd : Stmt := top 19
theorem sc_law_odd : FnScope ["_law_number"] ["_law_number"] (defScope s_law_odd) := ⟨rfl, rfl, rfl, by decide +kernel, rfl, by decide +kernel, by decide +kernel⟩
theorem d_law_odd {P : Program} {w : World} {K : PySem.W.Frag} {mg : Str → Option Value} {base : Heap} (T : Txt K mg) (EF : Errs K mg)  {f : Addr} {cdv : Value} {A : Around} {outer : List Env} {s : Shared} {H : Hp} {E : XK} {C : PCx}
    (hr : Room 0 (A.deeper (envOfC "_law_odd" (defScope s_law_odd) s.heap.objs.size f cdv))) (hC : C.prot = [false]) (hM : C.mu = [false]) : QSs (cxOf CX0 P w K mg base ["_law_number"] "_law_odd" (defScope s_law_odd) f cdv A outer s H E).nox C (defBody s_law_odd) b_law_odd := by
  have hu := hu_of hr
  refine qss_cons ?_ ?_
  · refine qs_while PassesOwn.never ?_ ?_
    · refine qt_eq hr ?_ ?_
      · refine qe_mod ?_ ?_
        · exact qe_dat (pv 0)
        · exact qe_int
      · exact qe_int
    · refine qss_one ?_
      refine qs_set (i := 0) sc_law_odd.nd rfl (by first | exact Or.inl rfl | exact Or.inr rfl) (npr hC (by decide)) ?_
      refine qe_div ?_ ?_
      · exact qe_dat (pv 0)
      · exact qe_int
  · refine qss_one ?_
    refine qs_ret ?_
    exact qe_dat (pv 0)

abbrev s_law_pair : Stmt := top 20
theorem sc_law_pair : FnScope ["_law_one", "_law_other", "_law_top", "_law_found", "_law_low", "_law_high", "_law_number"] ["_law_one", "_law_other", "_law_top"] (defScope s_law_pair) := ⟨rfl, rfl, rfl, by decide +kernel, rfl, by decide +kernel, by decide +kernel⟩
theorem d_law_pair {P : Program} {w : World} {K : PySem.W.Frag} {mg : Str → Option Value} {base : Heap} (T : Txt K mg) (EF : Errs K mg) (F_law_odd : Def P w K mg base 1 "_law_odd" ["_law_number"] sp_law_odd) {f : Addr} {cdv : Value} {A : Around} {outer : List Env} {s : Shared} {H : Hp} {E : XK} {C : PCx}
    (hr : Room 1 (A.deeper (envOfC "_law_pair" (defScope s_law_pair) s.heap.objs.size f cdv))) (hC : C.prot = [true, true, true]) (hM : C.mu = [false, false, false, false, false, false, false]) : QSs (cxOf CX0 P w K mg base ["_law_one", "_law_other", "_law_top", "_law_found", "_law_low", "_law_high", "_law_number"] "_law_pair" (defScope s_law_pair) f cdv A outer s H E).nox C (defBody s_law_pair) b_law_pair := by
  have hu := hu_of hr
  refine qss_cons ?_ ?_
  · refine qs_set (i := 3) sc_law_pair.nd rfl (by first | exact Or.inl rfl | exact Or.inr rfl) (npr hC (by decide)) ?_
    exact qe_int
  · refine qss_cons ?_ ?_
    · refine qs_for PassesOwn.never rfl ?_ ?_ ?_
      · refine qi_list ?_
        refine qe_frz ?_
        refine qe_lst ?_
        refine qa_cons ?_ ?_
        · refine qe_tup ?_
          refine qa_cons ?_ ?_
          · exact qe_dat (pv 0)
          · refine qa_cons ?_ ?_
            · exact qe_dat (pv 1)
            · exact qa_nil
        · refine qa_cons ?_ ?_
          · refine qe_tup ?_
            refine qa_cons ?_ ?_
            · exact qe_dat (pv 1)
            · refine qa_cons ?_ ?_
              · exact qe_dat (pv 0)
              · exact qa_nil
          · exact qa_nil
      · refine qg_tup rfl ?_
        refine qgs_cons ?_ ?_
        · exact qg_name (i := 4) sc_law_pair.nd rfl (by first | exact Or.inl rfl | exact Or.inr rfl) (npr hC (by decide))
        · refine qgs_cons ?_ ?_
          · exact qg_name (i := 5) sc_law_pair.nd rfl (by first | exact Or.inl rfl | exact Or.inr rfl) (npr hC (by decide))
          · exact qgs_nil
      · refine qss_one ?_
        refine qs_while PassesOwn.never ?_ ?_
        · refine qt_le ?_ ?_
          · exact qe_dat (pv 4)
          · refine qe_add ?_ ?_
            · exact qe_dat (pv 2)
            · exact qe_dat (pv 5)
        · refine qss_cons ?_ ?_
          · refine qs_for PassesOwn.never rfl ?_ ?_ ?_
            · refine qi_tup ?_
              refine qe_tup ?_
              refine qa_cons ?_ ?_
              · refine qe_frz ?_
                refine qe_add ?_ ?_
                · exact qe_dat (pv 4)
                · exact qe_dat (pv 5)
              · refine qa_cons ?_ ?_
                · refine qe_abs T.abs ?_
                  refine qe_sub ?_ ?_
                  · exact qe_dat (pv 4)
                  · exact qe_dat (pv 5)
                · exact qa_nil
            · exact qg_name (i := 6) sc_law_pair.nd rfl (by first | exact Or.inl rfl | exact Or.inr rfl) (npr hC (by decide))
            · refine qss_one ?_
              refine qs_ifC ?_ ?_ ?_
              · refine QW.t ?_
                refine qw_and ?_ ?_
                · refine qt_gt ?_ ?_
                  · exact qe_dat (pv 6)
                  · exact qe_int
                · refine qw_and1 ?_
                  refine qt_le ?_ ?_
                  · refine qe_callD F_law_odd (hr.mono (by decide)) rfl ?_
                    refine qa_cons ?_ ?_
                    · exact qe_dat (pv 6)
                    · exact qa_nil
                  · exact qe_dat (pv 2)
              · refine qss_one ?_
                refine qs_set (i := 3) sc_law_pair.nd rfl (by first | exact Or.inl rfl | exact Or.inr rfl) (npr hC (by decide)) ?_
                refine qe_or ?_ ?_
                · exact qe_dat (pv 3)
                · refine qe_shl ?_ ?_
                  · exact qe_int
                  · refine qe_callD F_law_odd (hr.mono (by decide)) rfl ?_
                    refine qa_cons ?_ ?_
                    · exact qe_dat (pv 6)
                    · exact qa_nil
              · exact qss_nil
          · refine qss_one ?_
            refine qs_set (i := 4) sc_law_pair.nd rfl (by first | exact Or.inl rfl | exact Or.inr rfl) (npr hC (by decide)) ?_
            refine qe_mul ?_ ?_
            · exact qe_int
            · exact qe_dat (pv 4)
    · refine qss_one ?_
      refine qs_ret ?_
      exact qe_dat (pv 3)

abbrev s_law_longer : Stmt := top 21
theorem sc_law_longer : FnScope ["_law_sets", "_law_top", "_law_pairs", "_law_found", "_law_mask", "_law_own", "_law_gained", "_law_number", "_law_more", "_law_reach", "_law_other"] ["_law_sets", "_law_top", "_law_pairs"] (defScope s_law_longer) := ⟨rfl, rfl, rfl, by decide +kernel, rfl, by decide +kernel, by decide +kernel⟩
theorem d_law_longer {P : Program} {w : World} {K : PySem.W.Frag} {mg : Str → Option Value} {base : Heap} (T : Txt K mg) (EF : Errs K mg) (F_law_pair : Def P w K mg base 2 "_law_pair" ["_law_one", "_law_other", "_law_top"] sp_law_pair) {f : Addr} {cdv : Value} {A : Around} {outer : List Env} {s : Shared} {H : Hp} {E : XK} {C : PCx}
    (hr : Room 2 (A.deeper (envOfC "_law_longer" (defScope s_law_longer) s.heap.objs.size f cdv))) (hC : C.prot = [true, true, true]) (hM : C.mu = [true, false, true, true, false, false, false, false, false, false, false]) : QSs (cxOf CX0 P w K mg base ["_law_sets", "_law_top", "_law_pairs", "_law_found", "_law_mask", "_law_own", "_law_gained", "_law_number", "_law_more", "_law_reach", "_law_other"] "_law_longer" (defScope s_law_longer) f cdv A outer s H E).nox C (defBody s_law_longer) b_law_longer := by
  have hu := hu_of hr
  refine qss_cons ?_ ?_
  · refine qs_set (i := 3) sc_law_longer.nd rfl (by first | exact Or.inl rfl | exact Or.inr rfl) (npr hC (by decide)) ?_
    exact qe_dnew
  · refine qss_cons ?_ ?_
    · refine qs_forK (i := 0) PassesOwn.never rfl (pv 0) ?_ ?_
      · exact qg_name (i := 4) sc_law_longer.nd rfl (by first | exact Or.inl rfl | exact Or.inr rfl) (npr hC (by decide))
      · refine qss_cons ?_ ?_
        · refine qs_asg ?_ ?_
          · refine qe_ix hu ?_ ?_ (fun _ _ => rfl)
            · exact qe_var (pv 0) (ismu hM rfl)
            · exact qe_dat (pv 4)
          · refine qg_tup rfl ?_
            refine qgs_cons ?_ ?_
            · exact qg_name (i := 5) sc_law_longer.nd rfl (by first | exact Or.inl rfl | exact Or.inr rfl) (npr hC (by decide))
            · refine qgs_cons ?_ ?_
              · exact qg_name (i := 6) sc_law_longer.nd rfl (by first | exact Or.inl rfl | exact Or.inr rfl) (npr hC (by decide))
              · exact qgs_nil
        · refine qss_one ?_
          refine qs_for PassesOwn.never rfl ?_ ?_ ?_
          · refine qi_range3 T.range ?_ ?_ ?_
            · exact qe_int
            · refine qe_add ?_ ?_
              · exact qe_dat (pv 1)
              · exact qe_int
            · exact qe_int
          · exact qg_name (i := 7) sc_law_longer.nd rfl (by first | exact Or.inl rfl | exact Or.inr rfl) (npr hC (by decide))
          · refine qss_cons ?_ ?_
            · refine qs_set (i := 8) sc_law_longer.nd rfl (by first | exact Or.inl rfl | exact Or.inr rfl) (npr hC (by decide)) ?_
              refine qe_or ?_ ?_
              · exact qe_dat (pv 4)
              · refine qe_shl ?_ ?_
                · exact qe_int
                · exact qe_dat (pv 7)
            · refine qss_one ?_
              refine qs_ifC ?_ ?_ ?_
              · refine QW.t ?_
                refine qw_and ?_ ?_
                · refine qt_eq hr ?_ ?_
                  · refine qe_and ?_ ?_
                    · refine qe_shr ?_ ?_
                      · exact qe_dat (pv 6)
                      · exact qe_dat (pv 7)
                    · exact qe_int
                  · exact qe_int
                · refine qw_and ?_ ?_
                  · refine qt_ne hr ?_ ?_
                    · exact qe_dat (pv 8)
                    · exact qe_dat (pv 4)
                  · refine qw_and1 ?_
                    refine qt_ni hr ?_ ?_
                    · exact qe_dat (pv 8)
                    · exact qe_var (pv 3) (ismu hM rfl)
              · refine qss_cons ?_ ?_
                · refine qs_set (i := 9) sc_law_longer.nd rfl (by first | exact Or.inl rfl | exact Or.inr rfl) (npr hC (by decide)) ?_
                  exact qe_dat (pv 6)
                · refine qss_cons ?_ ?_
                  · refine qs_for PassesOwn.never rfl ?_ ?_ ?_
                    · refine qi_list ?_
                      refine qe_frz ?_
                      refine qe_add ?_ ?_
                      · exact qe_dat (pv 5)
                      · refine qe_lst ?_
                        refine qa_cons ?_ ?_
                        · exact qe_dat (pv 7)
                        · exact qa_nil
                    · exact qg_name (i := 10) sc_law_longer.nd rfl (by first | exact Or.inl rfl | exact Or.inr rfl) (npr hC (by decide))
                    · refine qss_cut ?_ ?_
                      · refine qs_if ?_ ?_ ?_
                        · refine qt_niO hr ?_ ?_
                          · refine qe_tup ?_
                            refine qa_cons ?_ ?_
                            · exact qe_dat (pv 10)
                            · refine qa_cons ?_ ?_
                              · exact qe_dat (pv 7)
                              · exact qa_nil
                          · exact qe_var (pv 2) (ismu hM rfl)
                        · refine qss_one ?_
                          refine qs_setixO hu ?_ ?_ ?_
                          · refine qe_callD F_law_pair (hr.mono (by decide)) rfl ?_
                            refine qa_cons ?_ ?_
                            · exact qe_dat (pv 10)
                            · refine qa_cons ?_ ?_
                              · exact qe_dat (pv 7)
                              · refine qa_cons ?_ ?_
                                · exact qe_dat (pv 1)
                                · exact qa_nil
                          · exact qe_var (pv 2) (ismu hM rfl)
                          · refine qe_tup ?_
                            refine qa_cons ?_ ?_
                            · exact qe_dat (pv 10)
                            · refine qa_cons ?_ ?_
                              · exact qe_dat (pv 7)
                              · exact qa_nil
                        · exact qss_nil
                      · refine qss_one ?_
                        refine qs_set (i := 9) sc_law_longer.nd rfl (by first | exact Or.inl rfl | exact Or.inr rfl) (npr hC (by decide)) ?_
                        refine qe_or ?_ ?_
                        · exact qe_dat (pv 9)
                        · refine qe_ixO hu ?_ ?_ (fun _ _ => rfl)
                          · exact qe_var (pv 2) (ismu hM rfl)
                          · refine qe_tup ?_
                            refine qa_cons ?_ ?_
                            · exact qe_dat (pv 10)
                            · refine qa_cons ?_ ?_
                              · exact qe_dat (pv 7)
                              · exact qa_nil
                  · refine qss_one ?_
                    refine qs_setix hu ?_ ?_ ?_
                    · refine qe_tup ?_
                      refine qa_cons ?_ ?_
                      · refine qe_frz ?_
                        refine qe_add ?_ ?_
                        · exact qe_dat (pv 5)
                        · refine qe_lst ?_
                          refine qa_cons ?_ ?_
                          · exact qe_dat (pv 7)
                          · exact qa_nil
                      · refine qa_cons ?_ ?_
                        · exact qe_dat (pv 9)
                        · exact qa_nil
                    · exact qe_var (pv 3) (ismu hM rfl)
                    · exact qe_dat (pv 8)
              · exact qss_nil
    · refine qss_one ?_
      refine qs_ret ?_
      exact qe_mv (pv 3)

abbrev s_law_due : Stmt := top 22
theorem sc_law_due : FnScope ["_law_top", "_law_most", "_law_due_here", "_law_sets", "_law_pairs", "_law_count", "_law_mask", "_law_number"] ["_law_top", "_law_most"] (defScope s_law_due) := ⟨rfl, rfl, rfl, by decide +kernel, rfl, by decide +kernel, by decide +kernel⟩
theorem d_law_due {P : Program} {w : World} {K : PySem.W.Frag} {mg : Str → Option Value} {base : Heap} (T : Txt K mg) (EF : Errs K mg) (F_law_pair : Def P w K mg base 2 "_law_pair" ["_law_one", "_law_other", "_law_top"] sp_law_pair) (F_law_longer : Def P w K mg base 3 "_law_longer" ["_law_sets", "_law_top", "_law_pairs"] sp_law_longer) {f : Addr} {cdv : Value} {A : Around} {outer : List Env} {s : Shared} {H : Hp} {E : XK} {C : PCx}
    (hr : Room 3 (A.deeper (envOfC "_law_due" (defScope s_law_due) s.heap.objs.size f cdv))) (hC : C.prot = [true, true]) (hM : C.mu = [false, false, true, true, true, false, false, false]) : QSs (cxOf CX0 P w K mg base ["_law_top", "_law_most", "_law_due_here", "_law_sets", "_law_pairs", "_law_count", "_law_mask", "_law_number"] "_law_due" (defScope s_law_due) f cdv A outer s H E).nox C (defBody s_law_due) b_law_due := by
  have hu := hu_of hr
  refine qss_cons ?_ ?_
  · refine qs_set (i := 2) sc_law_due.nd rfl (by first | exact Or.inl rfl | exact Or.inr rfl) (npr hC (by decide)) ?_
    refine qe_dct ?_
    refine qps_cons ?_ ?_ ?_
    · exact qe_int
    · exact qe_int
    · exact qps_nil
  · refine qss_cons ?_ ?_
    · refine qs_set (i := 3) sc_law_due.nd rfl (by first | exact Or.inl rfl | exact Or.inr rfl) (npr hC (by decide)) ?_
      refine qe_dct ?_
      refine qps_cons ?_ ?_ ?_
      · exact qe_int
      · refine qe_tup ?_
        refine qa_cons ?_ ?_
        · refine qe_frz ?_
          refine qe_lst ?_
          refine qa_cons ?_ ?_
          · exact qe_int
          · exact qa_nil
        · refine qa_cons ?_ ?_
          · refine qe_callD F_law_pair (hr.mono (by decide)) rfl ?_
            refine qa_cons ?_ ?_
            · exact qe_int
            · refine qa_cons ?_ ?_
              · exact qe_int
              · refine qa_cons ?_ ?_
                · exact qe_dat (pv 0)
                · exact qa_nil
          · exact qa_nil
      · exact qps_nil
    · refine qss_cons ?_ ?_
      · refine qs_set (i := 4) sc_law_due.nd rfl (by first | exact Or.inl rfl | exact Or.inr rfl) (npr hC (by decide)) ?_
        exact qe_dnewO
      · refine qss_cons ?_ ?_
        · refine qs_for PassesOwn.never rfl ?_ ?_ ?_
          · refine qi_range2 T.range ?_ ?_
            · exact qe_int
            · refine qe_add ?_ ?_
              · exact qe_dat (pv 1)
              · exact qe_int
          · exact qg_name (i := 5) sc_law_due.nd rfl (by first | exact Or.inl rfl | exact Or.inr rfl) (npr hC (by decide))
          · refine qss_cut ?_ ?_
            · refine qs_if ?_ ?_ ?_
              · refine qt_gt ?_ ?_
                · exact qe_dat (pv 5)
                · exact qe_int
              · refine qss_one ?_
                refine qs_set (i := 3) sc_law_due.nd rfl (by first | exact Or.inl rfl | exact Or.inr rfl) (npr hC (by decide)) ?_
                refine qe_callD F_law_longer (hr.mono (by decide)) rfl ?_
                refine qa_cons ?_ ?_
                · exact qe_var (pv 3) (ismu hM rfl)
                · refine qa_cons ?_ ?_
                  · exact qe_dat (pv 0)
                  · refine qa_cons ?_ ?_
                    · exact qe_var (pv 4) (ismu hM rfl)
                    · exact qa_nil
              · exact qss_nil
            · refine qss_one ?_
              refine qs_forK (i := 3) PassesOwn.never rfl (pv 3) ?_ ?_
              · exact qg_name (i := 6) sc_law_due.nd rfl (by first | exact Or.inl rfl | exact Or.inr rfl) (npr hC (by decide))
              · refine qss_one ?_
                refine qs_for PassesOwn.never rfl ?_ ?_ ?_
                · refine qi_range3 T.range ?_ ?_ ?_
                  · exact qe_int
                  · refine qe_add ?_ ?_
                    · exact qe_dat (pv 0)
                    · exact qe_int
                  · exact qe_int
                · exact qg_name (i := 7) sc_law_due.nd rfl (by first | exact Or.inl rfl | exact Or.inr rfl) (npr hC (by decide))
                · refine qss_one ?_
                  refine qs_ifC ?_ ?_ ?_
                  · refine QW.t ?_
                    refine qw_and ?_ ?_
                    · refine qt_eq hr ?_ ?_
                      · refine qe_and ?_ ?_
                        · refine qe_shr ?_ ?_
                          · refine qe_ix hu ?_ ?_ (fun _ _ => rfl)
                            · refine qe_ix hu ?_ ?_ (fun _ _ => rfl)
                              · exact qe_var (pv 3) (ismu hM rfl)
                              · exact qe_dat (pv 6)
                            · exact qe_int
                          · exact qe_dat (pv 7)
                        · exact qe_int
                      · exact qe_int
                    · refine qw_and1 ?_
                      refine qt_ni hr ?_ ?_
                      · exact qe_dat (pv 7)
                      · exact qe_var (pv 2) (ismu hM rfl)
                  · refine qss_one ?_
                    refine qs_setix hu ?_ ?_ ?_
                    · exact qe_dat (pv 5)
                    · exact qe_var (pv 2) (ismu hM rfl)
                    · exact qe_dat (pv 7)
                  · exact qss_nil
        · refine qss_one ?_
          refine qs_ret ?_
          refine qe_srtD hr T.sorted ?_
          refine qe_lcK [("_law_number", 7)] rfl sc_law_due.nd (blkOk_by (N := ["_law_top", "_law_most", "_law_due_here", "_law_sets", "_law_pairs", "_law_count", "_law_mask", "_law_number"]) (sc := defScope s_law_due) (own := [("_law_number", 7)]) (by decide +kernel)) (ownV_of hM hC (by decide)) (pv 2) (fun _ => ?_) (fun _ => ?_) (fun _ => ?_)
          · exact qgb_name (i := 7) sc_law_due.nd rfl (by first | exact Or.inl rfl | exact Or.inr rfl) (npr hC (by decide)) (nomu hM (by decide)) (by decide)
          · exact qts_nil
          · refine qe_tup ?_
            refine qa_cons ?_ ?_
            · exact qe_dat (pv 7)
            · refine qa_cons ?_ ?_
              · refine qe_ix hu ?_ ?_ (fun _ _ => rfl)
                · exact qe_var (pv 2) (ismu hM rfl)
                · exact qe_dat (pv 7)
              · exact qa_nil

abbrev s_law_same : Stmt := top 23
theorem sc_law_same : FnScope ["_law_found", "_law_due_here", "_law_pair_here"] ["_law_found", "_law_due_here"] (defScope s_law_same) := ⟨rfl, rfl, rfl, by decide +kernel, rfl, by decide +kernel, by decide +kernel⟩
theorem d_law_same {P : Program} {w : World} {K : PySem.W.Frag} {mg : Str → Option Value} {base : Heap} (T : Txt K mg) (EF : Errs K mg)  {f : Addr} {cdv : Value} {A : Around} {outer : List Env} {s : Shared} {H : Hp} {E : XK} {C : PCx}
    (hr : Room 0 (A.deeper (envOfC "_law_same" (defScope s_law_same) s.heap.objs.size f cdv))) (hC : C.prot = [true, true]) (hM : C.mu = [false, false, false]) : QSs (cxOf CX0 P w K mg base ["_law_found", "_law_due_here", "_law_pair_here"] "_law_same" (defScope s_law_same) f cdv A outer s H E).nox C (defBody s_law_same) b_law_same := by
  have hu := hu_of hr
  refine qss_cons ?_ ?_
  · refine qs_ifC ?_ ?_ ?_
    · refine QW.t ?_
      refine qw_or ?_ ?_
      · refine qt_not ?_
        refine qt_val ?_
        refine qe_isi T.isinstance ?_ T.list (by decide +kernel) (by decide)
        exact qe_dat (pv 0)
      · refine qw_or1 ?_
        refine qt_ne hr ?_ ?_
        · exact qe_dat (pv 0)
        · exact qe_dat (pv 1)
    · refine qss_one ?_
      refine qs_ret ?_
      exact qe_bl
    · exact qss_nil
  · refine qss_cons ?_ ?_
    · refine qs_for PassesOwn.never rfl ?_ ?_ ?_
      · refine qi_sq ?_
        exact qe_dat (pv 0)
      · exact qg_name (i := 2) sc_law_same.nd rfl (by first | exact Or.inl rfl | exact Or.inr rfl) (npr hC (by decide))
      · refine qss_one ?_
        refine qs_ifC ?_ ?_ ?_
        · refine QW.t ?_
          refine qw_or ?_ ?_
          · refine qt_not ?_
            refine qt_val ?_
            refine qe_isi T.isinstance ?_ T.tuple (by decide +kernel) (by decide)
            exact qe_dat (pv 2)
          · refine qw_or ?_ ?_
            · refine qt_val ?_
              refine qe_isi T.isinstance ?_ T.bool (by decide +kernel) (by decide)
              refine qe_ix hu ?_ ?_ (fun _ _ => rfl)
              · exact qe_dat (pv 2)
              · exact qe_int
            · refine qw_or1 ?_
              refine qt_val ?_
              refine qe_isi T.isinstance ?_ T.bool (by decide +kernel) (by decide)
              refine qe_ix hu ?_ ?_ (fun _ _ => rfl)
              · exact qe_dat (pv 2)
              · exact qe_int
        · refine qss_one ?_
          refine qs_ret ?_
          exact qe_bl
        · exact qss_nil
    · refine qss_one ?_
      refine qs_ret ?_
      exact qe_bl

abbrev s_law : Stmt := top 24
theorem sc_law : FnScope ["_law_script", "_law_top", "_law_most", "_law_due_here", "_law_found"] ["_law_script"] (defScope s_law) := ⟨rfl, rfl, rfl, by decide +kernel, rfl, by decide +kernel, by decide +kernel⟩
theorem d_law {P : Program} {w : World} {K : PySem.W.Frag} {mg : Str → Option Value} {base : Heap} (T : Txt K mg) (EF : Errs K mg) (F_law_bounds : Def P w K mg base 2 "_law_bounds" ["_law_pen_here"] sp_law_bounds) (F_law_due : Def P w K mg base 4 "_law_due" ["_law_top", "_law_most"] sp_law_due) (F_costs : DefX P w K mg base 5 "costs" ["top", "most"] sx_costs) (F_law_pen : Def P w K mg base 1 "_law_pen" ["_law_script"] sp_law_pen) (F_law_same : Def P w K mg base 1 "_law_same" ["_law_found", "_law_due_here"] sp_law_same) {f : Addr} {cdv : Value} {A : Around} {outer : List Env} {s : Shared} {H : Hp} {E : XK} {C : PCx}
    (hr : Room 5 (A.deeper (envOfC "law" (defScope s_law) s.heap.objs.size f cdv))) (hC : C.prot = [true]) (hM : C.mu = [false, false, false, false, true]) : QSs (cxOf CX0 P w K mg base ["_law_script", "_law_top", "_law_most", "_law_due_here", "_law_found"] "law" (defScope s_law) f cdv A outer s H E).nox C (defBody s_law) b_law := by
  have hu := hu_of hr
  refine qss_cons ?_ ?_
  · refine qs_asg ?_ ?_
    · refine qe_frz ?_
      refine qe_callD F_law_bounds (hr.mono (by decide)) rfl ?_
      refine qa_cons ?_ ?_
      · refine qe_callD F_law_pen (hr.mono (by decide)) rfl ?_
        refine qa_cons ?_ ?_
        · exact qe_dat (pv 0)
        · exact qa_nil
      · exact qa_nil
    · refine qg_tup rfl ?_
      refine qgs_cons ?_ ?_
      · exact qg_name (i := 1) sc_law.nd rfl (by first | exact Or.inl rfl | exact Or.inr rfl) (npr hC (by decide))
      · refine qgs_cons ?_ ?_
        · exact qg_name (i := 2) sc_law.nd rfl (by first | exact Or.inl rfl | exact Or.inr rfl) (npr hC (by decide))
        · exact qgs_nil
  · refine qss_cons ?_ ?_
    · refine qs_set (i := 3) sc_law.nd rfl (by first | exact Or.inl rfl | exact Or.inr rfl) (npr hC (by decide)) ?_
      refine qe_frz ?_
      refine qe_callD F_law_due (hr.mono (by decide)) rfl ?_
      refine qa_cons ?_ ?_
      · exact qe_dat (pv 1)
      · refine qa_cons ?_ ?_
        · exact qe_dat (pv 2)
        · exact qa_nil
    · refine qss_cons ?_ ?_
      · refine qs_set (i := 4) sc_law.nd rfl (by first | exact Or.inl rfl | exact Or.inr rfl) (npr hC (by decide)) ?_
        refine qe_callD F_costs.no (hr.mono (by decide)) rfl ?_
        refine qa_cons ?_ ?_
        · exact qe_dat (pv 1)
        · refine qa_cons ?_ ?_
          · exact qe_dat (pv 2)
          · exact qa_nil
      · refine qss_cons ?_ ?_
        · refine qs_if ?_ ?_ ?_
          · refine qt_not ?_
            refine qt_val ?_
            refine qe_callD F_law_same (hr.mono (by decide)) rfl ?_
            refine qa_cons ?_ ?_
            · exact qe_lend (pv 4) (ismu hM rfl)
            · refine qa_cons ?_ ?_
              · exact qe_dat (pv 3)
              · exact qa_nil
          · refine qss_one ?_
            refine qs_ret ?_
            exact qe_bl
          · exact qss_nil
        · refine qss_cons ?_ ?_
          · refine qs_if ?_ ?_ ?_
            · refine qt_lt ?_ ?_
              · exact qe_dat (pv 1)
              · exact qe_int
            · refine qss_cons ?_ ?_
              · refine qs_drop ?_
                refine qe_append ?_ ?_
                · exact qe_var (pv 4) (ismu hM rfl)
                · refine qe_tup ?_
                  refine qa_cons ?_ ?_
                  · exact qe_int
                  · refine qa_cons ?_ ?_
                    · exact qe_int
                    · exact qa_nil
              · refine qss_one ?_
                refine qs_ret ?_
                refine qe_callD F_law_same (hr.mono (by decide)) rfl ?_
                refine qa_cons ?_ ?_
                · refine qe_frz ?_
                  refine qe_callD F_costs.no (hr.mono (by decide)) rfl ?_
                  refine qa_cons ?_ ?_
                  · exact qe_dat (pv 1)
                  · refine qa_cons ?_ ?_
                    · exact qe_dat (pv 2)
                    · exact qa_nil
                · refine qa_cons ?_ ?_
                  · exact qe_dat (pv 3)
                  · exact qa_nil
            · exact qss_nil
          · refine qss_one ?_
            refine qs_ret ?_
            exact qe_bl

section
variable {P : Program} {w : World} {K : PySem.W.Frag} {mg : Str → Option Value} {base : Heap}
structure Ats (K : PySem.W.Frag) (mg : Str → Option Value) : Prop where
  T : Txt K mg
  E : Errs K mg
  core : At K mg "core" s_core ["number"]
  refuse_far : At K mg "refuse_far" s_refuse_far ["top", "most"]
  made_of_two : At K mg "made_of_two" s_made_of_two ["u", "v", "top"]
  made : At K mg "made" s_made ["cores", "top"]
  longer : At K mg "longer" s_longer ["sets", "top"]
  costs : At K mg "costs" s_costs ["top", "most"]
  law_pen : At K mg "_law_pen" s_law_pen ["_law_script"]
  law_pick : At K mg "_law_pick" s_law_pick ["_law_pen_here", "_law_many"]
  law_bounds : At K mg "_law_bounds" s_law_bounds ["_law_pen_here"]
  law_odd : At K mg "_law_odd" s_law_odd ["_law_number"]
  law_pair : At K mg "_law_pair" s_law_pair ["_law_one", "_law_other", "_law_top"]
  law_longer : At K mg "_law_longer" s_law_longer ["_law_sets", "_law_top", "_law_pairs"]
  law_due : At K mg "_law_due" s_law_due ["_law_top", "_law_most"]
  law_same : At K mg "_law_same" s_law_same ["_law_found", "_law_due_here"]
  law : At K mg "law" s_law ["_law_script"]
theorem D_core (Z : Ats K mg) : Def P w K mg base 1 "core" ["number"] sp_core :=
  Z.core.def sc_core (by decide) (fun f cdv A outer s H E C hr hC hM => d_core Z.T Z.E  hr hC hM) v_core
theorem DX_refuse_far (Z : Ats K mg) : DefX P w K mg base 1 "refuse_far" ["top", "most"] sx_refuse_far :=
  Z.refuse_far.defX sc_refuse_far (by decide) (fun f cdv A outer s H E C ξ hr hC hM lk => d_refuse_far Z.T Z.E  hr hC hM lk) vx_refuse_far
theorem D_refuse_far (Z : Ats K mg) : Def P w K mg base 1 "refuse_far" ["top", "most"] sp_refuse_far := (DX_refuse_far Z).no
theorem D_made_of_two (Z : Ats K mg) : Def P w K mg base 2 "made_of_two" ["u", "v", "top"] sp_made_of_two :=
  Z.made_of_two.def sc_made_of_two (by decide) (fun f cdv A outer s H E C hr hC hM => d_made_of_two Z.T Z.E (D_core Z) hr hC hM) v_made_of_two
theorem D_made (Z : Ats K mg) : Def P w K mg base 3 "made" ["cores", "top"] sp_made :=
  Z.made.def sc_made (by decide) (fun f cdv A outer s H E C hr hC hM => d_made Z.T Z.E (D_made_of_two Z) hr hC hM) v_made
theorem D_longer (Z : Ats K mg) : Def P w K mg base 4 "longer" ["sets", "top"] sp_longer :=
  Z.longer.def sc_longer (by decide) (fun f cdv A outer s H E C hr hC hM => d_longer Z.T Z.E (D_made Z) hr hC hM) v_longer
theorem DX_costs (Z : Ats K mg) : DefX P w K mg base 5 "costs" ["top", "most"] sx_costs :=
  Z.costs.defX sc_costs (by decide) (fun f cdv A outer s H E C ξ hr hC hM lk => d_costs Z.T Z.E (DX_refuse_far Z) (D_longer Z) (D_made Z) hr hC hM lk) vx_costs
theorem D_costs (Z : Ats K mg) : Def P w K mg base 5 "costs" ["top", "most"] sp_costs := (DX_costs Z).no
theorem D_law_pen (Z : Ats K mg) : Def P w K mg base 1 "_law_pen" ["_law_script"] sp_law_pen :=
  Z.law_pen.def sc_law_pen (by decide) (fun f cdv A outer s H E C hr hC hM => d_law_pen Z.T Z.E  hr hC hM) v_law_pen
theorem D_law_pick (Z : Ats K mg) : Def P w K mg base 1 "_law_pick" ["_law_pen_here", "_law_many"] sp_law_pick :=
  Z.law_pick.def sc_law_pick (by decide) (fun f cdv A outer s H E C hr hC hM => d_law_pick Z.T Z.E  hr hC hM) v_law_pick
theorem D_law_bounds (Z : Ats K mg) : Def P w K mg base 2 "_law_bounds" ["_law_pen_here"] sp_law_bounds :=
  Z.law_bounds.def sc_law_bounds (by decide) (fun f cdv A outer s H E C hr hC hM => d_law_bounds Z.T Z.E (D_law_pick Z) hr hC hM) v_law_bounds
theorem D_law_odd (Z : Ats K mg) : Def P w K mg base 1 "_law_odd" ["_law_number"] sp_law_odd :=
  Z.law_odd.def sc_law_odd (by decide) (fun f cdv A outer s H E C hr hC hM => d_law_odd Z.T Z.E  hr hC hM) v_law_odd
theorem D_law_pair (Z : Ats K mg) : Def P w K mg base 2 "_law_pair" ["_law_one", "_law_other", "_law_top"] sp_law_pair :=
  Z.law_pair.def sc_law_pair (by decide) (fun f cdv A outer s H E C hr hC hM => d_law_pair Z.T Z.E (D_law_odd Z) hr hC hM) v_law_pair
theorem D_law_longer (Z : Ats K mg) : Def P w K mg base 3 "_law_longer" ["_law_sets", "_law_top", "_law_pairs"] sp_law_longer :=
  Z.law_longer.def sc_law_longer (by decide) (fun f cdv A outer s H E C hr hC hM => d_law_longer Z.T Z.E (D_law_pair Z) hr hC hM) v_law_longer
theorem D_law_due (Z : Ats K mg) : Def P w K mg base 4 "_law_due" ["_law_top", "_law_most"] sp_law_due :=
  Z.law_due.def sc_law_due (by decide) (fun f cdv A outer s H E C hr hC hM => d_law_due Z.T Z.E (D_law_pair Z) (D_law_longer Z) hr hC hM) v_law_due
theorem D_law_same (Z : Ats K mg) : Def P w K mg base 1 "_law_same" ["_law_found", "_law_due_here"] sp_law_same :=
  Z.law_same.def sc_law_same (by decide) (fun f cdv A outer s H E C hr hC hM => d_law_same Z.T Z.E  hr hC hM) v_law_same
theorem D_law (Z : Ats K mg) : Def P w K mg base 6 "law" ["_law_script"] sp_law :=
  Z.law.def sc_law (by decide) (fun f cdv A outer s H E C hr hC hM => d_law Z.T Z.E (D_law_bounds Z) (D_law_due Z) (DX_costs Z) (D_law_pen Z) (D_law_same Z) hr hC hM) v_law
end
open PySem.Spec PyProof.Rows
def e_core : He.DefD := ⟨("core", none), "core", "core", defArgs s_core, defBody s_core, defScope s_core, [], []⟩
def e_refuse_far : He.DefD := ⟨("refuse_far", none), "refuse_far", "refuse_far", defArgs s_refuse_far, defBody s_refuse_far, defScope s_refuse_far, [], []⟩
def e_made_of_two : He.DefD := ⟨("made_of_two", none), "made_of_two", "made_of_two", defArgs s_made_of_two, defBody s_made_of_two, defScope s_made_of_two, [], []⟩
def e_made : He.DefD := ⟨("made", none), "made", "made", defArgs s_made, defBody s_made, defScope s_made, [], []⟩
def e_longer : He.DefD := ⟨("longer", none), "longer", "longer", defArgs s_longer, defBody s_longer, defScope s_longer, [], []⟩
def e_costs : He.DefD := ⟨("costs", none), "costs", "costs", defArgs s_costs, defBody s_costs, defScope s_costs, [], []⟩
def e_law_pen : He.DefD := ⟨("_law_pen", none), "_law_pen", "_law_pen", defArgs s_law_pen, defBody s_law_pen, defScope s_law_pen, [], []⟩
def e_law_pick : He.DefD := ⟨("_law_pick", none), "_law_pick", "_law_pick", defArgs s_law_pick, defBody s_law_pick, defScope s_law_pick, [], []⟩
def e_law_bounds : He.DefD := ⟨("_law_bounds", none), "_law_bounds", "_law_bounds", defArgs s_law_bounds, defBody s_law_bounds, defScope s_law_bounds, [], []⟩
def e_law_odd : He.DefD := ⟨("_law_odd", none), "_law_odd", "_law_odd", defArgs s_law_odd, defBody s_law_odd, defScope s_law_odd, [], []⟩
def e_law_pair : He.DefD := ⟨("_law_pair", none), "_law_pair", "_law_pair", defArgs s_law_pair, defBody s_law_pair, defScope s_law_pair, [], []⟩
def e_law_longer : He.DefD := ⟨("_law_longer", none), "_law_longer", "_law_longer", defArgs s_law_longer, defBody s_law_longer, defScope s_law_longer, [], []⟩
def e_law_due : He.DefD := ⟨("_law_due", none), "_law_due", "_law_due", defArgs s_law_due, defBody s_law_due, defScope s_law_due, [], []⟩
def e_law_same : He.DefD := ⟨("_law_same", none), "_law_same", "_law_same", defArgs s_law_same, defBody s_law_same, defScope s_law_same, [], []⟩
def e_law : He.DefD := ⟨("law", none), "law", "law", defArgs s_law, defBody s_law, defScope s_law, [], []⟩
def fn : List He.DefD := [e_core, e_refuse_far, e_made_of_two, e_made, e_longer, e_costs, e_law_pen, e_law_pick, e_law_bounds, e_law_odd, e_law_pair, e_law_longer, e_law_due, e_law_same, e_law]
def fa : List He.Fa := [.glo "core", .glo "refuse_far", .glo "made_of_two", .glo "made", .glo "longer", .glo "costs", .glo "_law_pen", .glo "_law_pick", .glo "_law_bounds", .glo "_law_odd", .glo "_law_pair", .glo "_law_longer", .glo "_law_due", .glo "_law_same", .glo "law", .free "abs", .free "bool", .free "isinstance", .free "len", .free "list", .free "range", .free "sorted", .free "tuple", .int "MOST_TOP" 99, .int "MOST_DEEDS" 4, .int "LESS_TOP" 31, .int "LESS_DEEDS" 3, .glo "TooMany", .exc "TooMany"]
abbrev RR : PySem.W.OpenRow := PySem.W.OpenLaw.row PySem.Challenge.rw_shiftsums_k32_what_odd_parts_cost
abbrev hk : PySem.W.Hook := hookX 4 fa fn xb
def ob (s : PySem.W.SharedT) : AlX := obsXG 4 fa fn xb (HandSHeadRun.getT s)
theorem ob_eq (s : PySem.W.SharedT) : ob s = hk.obs s.abs := obsXG_eq (HandSHeadRun.getT_eq s)
theorem run (w : World) : HandSHeadRun.RunEq RR (PySem.W.view RR.prog [24]) hk ob 8000 ["core", "refuse_far", "made_of_two", "made", "longer", "costs", "_law_pen", "_law_pick", "_law_bounds", "_law_odd", "_law_pair", "_law_longer", "_law_due", "_law_same", "MOST_TOP", "MOST_DEEDS", "LESS_TOP", "LESS_DEEDS", "ShiftError", "TooMany"] w := by
  intro os
  kernel_rfl
theorem facts {P : Program} {w : World} {K : PySem.W.Frag} {h : Heap} {mg : Str → Option Value} {f : Addr} (X : K.In h) (G : h.Ns mainGlobals mg) (hfa : mg ("law" : Str) = some (.ref f)) (c : He.SaysD fa fn K) (cx : xb K = true) :
    ∃ fd : FuncData, (∀ (s : Shared) (v : Value), BindsTo s fd ⟨[v], []⟩ [("_law_script", v)]) ∧ ∀ base : Heap, K.In base → base.Ns mainGlobals mg → FnOk P w K mg base CX0 6 f fd ["_law_script"] (lift K sp_law) := by
  have Z : Ats K mg := ⟨⟨He.free_ok X G (c.fact 15 (f := .free "abs") rfl), He.free_ok X G (c.fact 16 (f := .free "bool") rfl), He.free_ok X G (c.fact 17 (f := .free "isinstance") rfl), He.free_ok X G (c.fact 18 (f := .free "len") rfl), He.free_ok X G (c.fact 19 (f := .free "list") rfl), He.free_ok X G (c.fact 20 (f := .free "range") rfl), He.free_ok X G (c.fact 21 (f := .free "sorted") rfl), He.free_ok X G (c.fact 22 (f := .free "tuple") rfl), He.int_ok X G (c.fact 23 (f := .int "MOST_TOP" 99) rfl), He.int_ok X G (c.fact 24 (f := .int "MOST_DEEDS" 4) rfl), He.int_ok X G (c.fact 25 (f := .int "LESS_TOP" 31) rfl), He.int_ok X G (c.fact 26 (f := .int "LESS_DEEDS" 3) rfl)⟩, ⟨He.glo_ok X G (c.fact 27 (f := .glo "TooMany") rfl), errF_of X G (c.fact 27 (f := .glo "TooMany") rfl) (c.fact 28 (f := .exc "TooMany") rfl)⟩, 
    (At.mk' X G c 0 0 rfl rfl fun _ _ _ _ _ _ us hl => match us, hl with | [_], _ => rfl),
    (At.mk' X G c 1 1 rfl rfl fun _ _ _ _ _ _ us hl => match us, hl with | [_, _], _ => rfl),
    (At.mk' X G c 2 2 rfl rfl fun _ _ _ _ _ _ us hl => match us, hl with | [_, _, _], _ => rfl),
    (At.mk' X G c 3 3 rfl rfl fun _ _ _ _ _ _ us hl => match us, hl with | [_, _], _ => rfl),
    (At.mk' X G c 4 4 rfl rfl fun _ _ _ _ _ _ us hl => match us, hl with | [_, _], _ => rfl),
    (At.mk' X G c 5 5 rfl rfl fun _ _ _ _ _ _ us hl => match us, hl with | [_, _], _ => rfl),
    (At.mk' X G c 6 6 rfl rfl fun _ _ _ _ _ _ us hl => match us, hl with | [_], _ => rfl),
    (At.mk' X G c 7 7 rfl rfl fun _ _ _ _ _ _ us hl => match us, hl with | [_, _], _ => rfl),
    (At.mk' X G c 8 8 rfl rfl fun _ _ _ _ _ _ us hl => match us, hl with | [_], _ => rfl),
    (At.mk' X G c 9 9 rfl rfl fun _ _ _ _ _ _ us hl => match us, hl with | [_], _ => rfl),
    (At.mk' X G c 10 10 rfl rfl fun _ _ _ _ _ _ us hl => match us, hl with | [_, _, _], _ => rfl),
    (At.mk' X G c 11 11 rfl rfl fun _ _ _ _ _ _ us hl => match us, hl with | [_, _, _], _ => rfl),
    (At.mk' X G c 12 12 rfl rfl fun _ _ _ _ _ _ us hl => match us, hl with | [_, _], _ => rfl),
    (At.mk' X G c 13 13 rfl rfl fun _ _ _ _ _ _ us hl => match us, hl with | [_, _], _ => rfl),
    (At.mk' X G c 14 14 rfl rfl fun _ _ _ _ _ _ us hl => match us, hl with | [_], _ => rfl)⟩
  obtain ⟨fd, F⟩ := c.def_ 14 (d := e_law) rfl
  have e := hfa.symm.trans (He.glo_ok X G (c.fact 14 (f := .glo "law") rfl))
  cases e
  have b := FunD.bindsA (ps := ["_law_script"]) F fun _ _ _ _ _ _ us hl => match us, hl with | [_], _ => rfl
  exact ⟨fd, fun s v => b s [v] rfl, fun base _ _ => fn_ok (PL.fun_of F) sc_law (by decide) (fun cdv A outer s H E C hr hC hM => d_law Z.T Z.E (D_law_bounds Z) (D_law_due Z) (DX_costs Z) (D_law_pen Z) (D_law_same Z) hr hC hM) v_law⟩
end K32
open PySem PySem.W PySem.Calls PyProof.Rows
set_option maxRecDepth 100000 in
set_option maxHeartbeats 0 in
theorem PySem.Challenge.cw_shiftsums_k32_what_odd_parts_cost_holds : PySem.Challenge.rw_shiftsums_k32_what_odd_parts_cost.Holds := by
  w_on; o_law
  refine HandSHeadRun.head_any (r := OpenLaw.row PySem.Challenge.rw_shiftsums_k32_what_odd_parts_cost) (q := view (OpenLaw.row PySem.Challenge.rw_shiftsums_k32_what_odd_parts_cost).prog [24]) (H := K32.hk) (ob := K32.ob) (M := 8000) (loose := ["core", "refuse_far", "made_of_two", "made", "longer", "costs", "_law_pen", "_law_pick", "_law_bounds", "_law_odd", "_law_pair", "_law_longer", "_law_due", "_law_same", "MOST_TOP", "MOST_DEEDS", "LESS_TOP", "LESS_DEEDS", "ShiftError", "TooMany"]) (d := HandSHeadRun.topDef (OpenLaw.row PySem.Challenge.rw_shiftsums_k32_what_odd_parts_cost).prog 24) (kwd := []) K32.ob_eq
    (by kernel_rfl) (fun s => by kernel_rfl) K32.run (by kernel_rfl) (by kernel_rfl) (by kernel_rfl) (by rfl) (by first | assumption | decide +kernel) (by decide +kernel) ⟨rfl, rfl, rfl, rfl, rfl, by decide +kernel⟩ ?hw ?hc
  case hw => w_witness2
  case hc =>
    refine L2.walk_ofE (l := PySem.Challenge.rw_shiftsums_k32_what_odd_parts_cost) (n := 63) (k := 6) (x := "_law_script") (CX := L2.CX0) rfl (by decide) (by kernel_rfl) ⟨rfl, by decide, by decide⟩ ?F (fun _ _ _ _ z => z)
    intro w mg fa h Y G hmg0
    obtain ⟨K, KX, c, cx⟩ := Y
    have hmg : mg ("law" : PySem.Str) = some (.ref fa) := by
      have e : (HandSHeadRun.topDef (OpenLaw.row PySem.Challenge.rw_shiftsums_k32_what_odd_parts_cost).prog 24).name = ("law" : PySem.Str) := by kernel_rfl
      rw [← e]
      exact hmg0
    obtain ⟨fd, hb, hF⟩ := K32.facts (P := (PySem.Challenge.rw_shiftsums_k32_what_odd_parts_cost).prog) (w := w) KX G hmg c cx
    exact ⟨K, fd, PL.lift K K32.sp_law, KX, hb, fun H a ns hl _ hS => PL.lift_law K32.lawOk H a ns hl hS, hF⟩

