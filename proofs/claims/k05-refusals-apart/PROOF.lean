import PyProof.Rows.All
import Wide.All
import OpenK.AllK
import Wide.FinOn
import KE.KDictZip
import KE.KItemsList
import HandS.ListItems
import HandS.ExcValue
import HandS.ForMost
import KE.KExcIs
import HandS.DeepEq
import KE.KEqNest
import HandS.Exc
import HandS.ExcOwn
import HandS.CallSlots
import HandS.TryMany
import HandS.TryElse
import HandS.TryOnly
import HandS.Wide
import HandS.WideBits
import HandS.Defaults
import HandS.Rev
import HandS.WordsExc
import HandS.IsInst
import HandS.More
import HandS.RaiseMore
import HandS.HeadHook2
import HandS.HeadEnd
import HandS.Conv
import HandS.ExcIs
import HandS.ExcField
import HandS.ExcInit
import HandS.Flt
import HandS.Codes
import KE.KStateDown
import HandS.Head0
import HandS.Head1
import HandS.Head2
import PySem.Challenge.RW_holdlane_k05_refusals_apart
set_option Elab.async false
set_option linter.all false
set_option maxRecDepth 100000
set_option maxHeartbeats 4000000
namespace Ab
open PySem PySem.Spec PyProof.Rows L2
/-! ### deep data by value, mutable cells by address -/
inductive D where
  | non | bl (b : Bool) | int (i : Int) | str (x : Str)
  | lst (xs : List D) | tup (xs : List D) | dic (kvs : List (Key × D)) | obj (C : Addr) (fs : List (Str × D))
  | scr (ns : List Int) | cell (a : Addr) | exc (a C dd : Addr) (f : Str) (v : D) | xob (C : Addr) (fs : List (Str × D))
inductive MO where
  | lst (xs : List D) | dic (lk : Bool) (kvs : List (Key × D)) | ins (C : Addr) (fs : List (Str × D))
abbrev Mu := Addr → Option MO
def mset (m : Mu) (a : Addr) (x : MO) : Mu := fun b => if b = a then some x else m b
def mdel (m : Mu) (a : Addr) : Mu := fun b => if b = a then none else m b
theorem mset_same {m : Mu} {a : Addr} {x : MO} : mset m a x a = some x := if_pos rfl
theorem mset_ne {m : Mu} {a b : Addr} {x : MO} (h : b ≠ a) : mset m a x b = m b := if_neg h
theorem mset_mset {m : Mu} {a : Addr} {x y : MO} : mset (mset m a x) a y = mset m a y := by
  funext b; unfold mset; split <;> rfl
theorem mset_comm {m : Mu} {a b : Addr} {x y : MO} (h : a ≠ b) : mset (mset m a x) b y = mset (mset m b y) a x := by
  funext c; unfold mset
  by_cases h1 : c = a
  · subst h1; rw [if_neg h, if_pos rfl, if_pos rfl]
  · rw [if_neg h1, if_neg h1]
theorem mdel_mset {m : Mu} {a : Addr} {x : MO} (h : m a = none) : mdel (mset m a x) a = m := by
  funext c; unfold mdel mset
  by_cases h1 : c = a
  · subst h1; rw [if_pos rfl, h]
  · rw [if_neg h1, if_neg h1]
mutual
inductive Rep (K : PySem.W.Frag) (F : Hp) : V → D → Prop
  | non : Rep K F .non .non
  | bl (b : Bool) : Rep K F (.bl b) (.bl b)
  | int (i : Int) : Rep K F (.int i) (.int i)
  | str (x : Str) : Rep K F (.str x) (.str x)
  | lst {a : Addr} {xs : List V} {ds : List D} : F a = some (.lst xs) → RepL K F xs ds → Rep K F (.ref a) (.lst ds)
  | tup {a : Addr} {xs : List V} {ds : List D} : SqT K F a xs → RepL K F xs ds → Rep K F (.ref a) (.tup ds)
  | dic {a : Addr} {kvs : List (Key × V)} {es : List (Key × D)} : F a = some (.dK kvs) → RepK K F kvs es → Rep K F (.ref a) (.dic es)
  | obj {a C dx : Addr} {fs : List (Str × V)} {es : List (Str × D)} : F a = some (.ins C dx fs) → RepF K F fs es → Rep K F (.ref a) (.obj C es)
  | scr {a : Addr} {ns : List Int} : SqL K F a (ns.map V.int) → Rep K F (.ref a) (.scr ns)
  | cell (a : Addr) : Rep K F (.ref a) (.cell a)
  | exc {a C dd : Addr} {f : Str} {v : V} {d : D} : F dd = some (.xd [(f, v)]) → Rep K F v d → Rep K F (.ref a) (.exc a C dd f d)
  | xob0 {a C : Addr} : F a = some (ExO (.ref C) a) → Rep K F (.ref a) (.xob C [])
  | xob1 {a C dd : Addr} {f : Str} {v : V} {d : D} : F a = some (exo a C (some dd)) → F dd = some (exd dd [(f, v)]) → Rep K F v d → Rep K F (.ref a) (.xob C [(f, d)])
inductive RepL (K : PySem.W.Frag) (F : Hp) : List V → List D → Prop
  | nil : RepL K F [] []
  | cons {v : V} {vs : List V} {d : D} {ds : List D} : Rep K F v d → RepL K F vs ds → RepL K F (v :: vs) (d :: ds)
inductive RepK (K : PySem.W.Frag) (F : Hp) : List (Key × V) → List (Key × D) → Prop
  | nil : RepK K F [] []
  | cons {k : Key} {v : V} {vs : List (Key × V)} {d : D} {ds : List (Key × D)} : Rep K F v d → RepK K F vs ds → RepK K F ((k, v) :: vs) ((k, d) :: ds)
inductive RepF (K : PySem.W.Frag) (F : Hp) : List (Str × V) → List (Str × D) → Prop
  | nil : RepF K F [] []
  | cons {k : Str} {v : V} {vs : List (Str × V)} {d : D} {ds : List (Str × D)} : Rep K F v d → RepF K F vs ds → RepF K F ((k, v) :: vs) ((k, d) :: ds)
end
theorem rd_mono {F F' : Hp} {a : Addr} {u : HO} (s : Same F F') (h : Rd F a u) : Rd F' a u := h.elim (fun h => .inl (s _ _ h)) fun ⟨o, h⟩ => .inr ⟨o, s _ _ h⟩
theorem sqT_mono {K : PySem.W.Frag} {F F' : Hp} {a : Addr} {xs : List V} (s : Same F F') (h : SqT K F a xs) : SqT K F' a xs := h.imp (rd_mono s) id
theorem sqL_mono {K : PySem.W.Frag} {F F' : Hp} {a : Addr} {xs : List V} (s : Same F F') (h : SqL K F a xs) : SqL K F' a xs := h.imp (rd_mono s) id
section
variable {K : PySem.W.Frag} {F F' : Hp}
mutual
theorem Rep.mono (s : Same F F') : ∀ {v : V} {d : D}, Rep K F v d → Rep K F' v d
  | _, _, .non => .non
  | _, _, .bl b => .bl b
  | _, _, .int i => .int i
  | _, _, .str x => .str x
  | _, _, .lst h r => .lst (s _ _ h) (RepL.mono s r)
  | _, _, .tup h r => .tup (sqT_mono s h) (RepL.mono s r)
  | _, _, .dic h r => .dic (s _ _ h) (RepK.mono s r)
  | _, _, .obj h r => .obj (s _ _ h) (RepF.mono s r)
  | _, _, .scr h => .scr (sqL_mono s h)
  | _, _, .cell a => .cell a
  | _, _, .exc h r => .exc (s _ _ h) (Rep.mono s r)
  | _, _, .xob0 h => .xob0 (s _ _ h)
  | _, _, .xob1 h h2 r => .xob1 (s _ _ h) (s _ _ h2) (Rep.mono s r)
theorem RepL.mono (s : Same F F') : ∀ {v : List V} {d : List D}, RepL K F v d → RepL K F' v d
  | _, _, .nil => .nil
  | _, _, .cons h r => .cons (Rep.mono s h) (RepL.mono s r)
theorem RepK.mono (s : Same F F') : ∀ {v : List (Key × V)} {d : List (Key × D)}, RepK K F v d → RepK K F' v d
  | _, _, .nil => .nil
  | _, _, .cons h r => .cons (Rep.mono s h) (RepK.mono s r)
theorem RepF.mono (s : Same F F') : ∀ {v : List (Str × V)} {d : List (Str × D)}, RepF K F v d → RepF K F' v d
  | _, _, .nil => .nil
  | _, _, .cons h r => .cons (Rep.mono s h) (RepF.mono s r)
end
theorem RepL.length : ∀ {vs : List V} {ds : List D}, RepL K F vs ds → vs.length = ds.length
  | _, _, .nil => rfl
  | _, _, .cons _ r => congrArg Nat.succ r.length
theorem RepL.get : ∀ {vs : List V} {ds : List D} {i : Nat} {v : V}, RepL K F vs ds → vs[i]? = some v → ∃ d, ds[i]? = some d ∧ Rep K F v d
  | _, _, _, _, .nil, e => by simp at e
  | _, _, 0, _, .cons r _, e => by simp at e; subst e; exact ⟨_, rfl, r⟩
  | _, _, i + 1, v, .cons _ t, e => by
    obtain ⟨d, h1, h2⟩ := RepL.get (i := i) (v := v) t (by simpa using e)
    exact ⟨d, by simpa using h1, h2⟩
theorem RepL.getD : ∀ {vs : List V} {ds : List D} {i : Nat} {d : D}, RepL K F vs ds → ds[i]? = some d → ∃ v, vs[i]? = some v ∧ Rep K F v d
  | _, _, _, _, .nil, e => by simp at e
  | _, _, 0, _, .cons r _, e => by simp at e; subst e; exact ⟨_, rfl, r⟩
  | _, _, i + 1, v, .cons _ t, e => by
    obtain ⟨d, h1, h2⟩ := RepL.getD (i := i) (d := v) t (by simpa using e)
    exact ⟨d, by simpa using h1, h2⟩
theorem RepL.append : ∀ {xs ys : List V} {ds es : List D}, RepL K F xs ds → RepL K F ys es → RepL K F (xs ++ ys) (ds ++ es)
  | _, _, _, _, .nil, s => s
  | _, _, _, _, .cons r t, s => .cons r (RepL.append t s)
theorem RepL.one {v : V} {d : D} (h : Rep K F v d) : RepL K F [v] [d] := .cons h .nil
theorem RepL.take : ∀ {xs : List V} {ds : List D} (n : Nat), RepL K F xs ds → RepL K F (xs.take n) (ds.take n)
  | _, _, 0, _ => .nil
  | _, _, _ + 1, .nil => .nil
  | _, _, n + 1, .cons r t => .cons r (RepL.take n t)
theorem RepL.drop : ∀ {xs : List V} {ds : List D} (n : Nat), RepL K F xs ds → RepL K F (xs.drop n) (ds.drop n)
  | _, _, 0, r => r
  | _, _, _ + 1, .nil => .nil
  | _, _, n + 1, .cons _ t => RepL.drop n t
theorem RepL.set {v : V} {d : D} (h : Rep K F v d) : ∀ {xs : List V} {ds : List D} (n : Nat), RepL K F xs ds → RepL K F (xs.set n v) (ds.set n d)
  | _, _, _, .nil => .nil
  | _, _, 0, .cons _ t => .cons h t
  | _, _, n + 1, .cons q t => .cons q (RepL.set h n t)
theorem RepL.reverse {xs : List V} {ds : List D} (h : RepL K F xs ds) : RepL K F xs.reverse ds.reverse := by
  induction xs generalizing ds with
  | nil => cases h; exact .nil
  | cons x xs ih =>
    cases h with
    | cons h1 h2 => rw [List.reverse_cons, List.reverse_cons]; exact (ih h2).append (.one h1)
theorem RepL.eraseIdx : ∀ {xs : List V} {ds : List D} (n : Nat), RepL K F xs ds → RepL K F (xs.eraseIdx n) (ds.eraseIdx n)
  | _, _, _, .nil => .nil
  | _, _, 0, .cons _ t => t
  | _, _, n + 1, .cons q t => .cons q (RepL.eraseIdx n t)
theorem RepL.dropLast {xs : List V} {ds : List D} (h : RepL K F xs ds) : RepL K F xs.dropLast ds.dropLast := by
  rw [List.dropLast_eq_take, List.dropLast_eq_take, h.length]; exact h.take _
theorem RepK.length : ∀ {vs : List (Key × V)} {ds : List (Key × D)}, RepK K F vs ds → vs.length = ds.length
  | _, _, .nil => rfl
  | _, _, .cons _ r => congrArg Nat.succ r.length
theorem RepK.keys : ∀ {vs : List (Key × V)} {ds : List (Key × D)}, RepK K F vs ds → vs.map (·.1) = ds.map (·.1)
  | _, _, .nil => rfl
  | _, _, .cons _ r => congrArg (List.cons _) r.keys
theorem RepK.get : ∀ {vs : List (Key × V)} {ds : List (Key × D)} {i : Nat} {k : Key} {v : V}, RepK K F vs ds → vs[i]? = some (k, v) → ∃ d, ds[i]? = some (k, d) ∧ Rep K F v d
  | _, _, _, _, _, .nil, e => by simp at e
  | _, _, 0, _, _, .cons r _, e => by
    simp at e; obtain ⟨rfl, rfl⟩ := e; exact ⟨_, rfl, r⟩
  | _, _, i + 1, k, v, .cons _ t, e => by
    obtain ⟨d, h1, h2⟩ := RepK.get (i := i) (k := k) (v := v) t (by simpa using e)
    exact ⟨d, by simpa using h1, h2⟩
end
/-- look-up, store, removal in a dict -/
def lkp {α : Type} (kvs : List (Key × α)) (k : Key) : Option α := (kvs.find? fun kv => decide (kv.1 = k)).map (·.2)
def put {α : Type} (kvs : List (Key × α)) (k : Key) (v : α) : List (Key × α) :=
  if (kvs.any fun kv => decide (kv.1 = k)) = true then kvs.map (fun kv => if kv.1 = k then (kv.1, v) else kv) else kvs ++ [(k, v)]
def drp {α : Type} (kvs : List (Key × α)) (k : Key) : List (Key × α) := kvs.filter fun kv => decide (kv.1 ≠ k)
def putF (f : Str) (v : D) : List (Str × D) → List (Str × D)
  | [] => [(f, v)]
  | (g, w) :: r => if g = f then (g, v) :: r else (g, w) :: putF f v r
section
variable {K : PySem.W.Frag} {F F' : Hp}
theorem RepK.lkp_some : ∀ {vs : List (Key × V)} {ds : List (Key × D)} {k : Key} {d : D}, RepK K F vs ds → lkp ds k = some d → ∃ v, valV vs k = some v ∧ Rep K F v d
  | _, _, _, _, .nil, e => by simp [lkp] at e
  | _, _, k, d, .cons (k := k') (ds := ds0) h r, e => by
    by_cases q : k' = k
    · simp [lkp, q] at e; subst e; exact ⟨_, valV_pos q, h⟩
    · have e' : lkp ds0 k = some d := by simpa [lkp, q] using e
      obtain ⟨v, h1, h2⟩ := RepK.lkp_some r e'
      exact ⟨v, (valV_neg q).trans h1, h2⟩
theorem RepK.lkp_isSome {vs : List (Key × V)} {ds : List (Key × D)} (r : RepK K F vs ds) (k : Key) : (valV vs k).isSome = (lkp ds k).isSome := by
  induction vs generalizing ds with
  | nil => cases r; rfl
  | cons p vs ih =>
    cases r with
    | @cons k' v _ d _ h r =>
      by_cases q : k' = k
      · rw [valV_pos q]; simp [lkp, q]
      · rw [valV_neg q, ih r]; simp [lkp, q]
theorem RepK.any {vs : List (Key × V)} {ds : List (Key × D)} (r : RepK K F vs ds) (k : Key) : (vs.any fun kv => decide (kv.1 = k)) = (ds.any fun kv => decide (kv.1 = k)) := by
  induction vs generalizing ds with
  | nil => cases r; rfl
  | cons p vs ih => cases r with
    | cons h r => simp only [List.any_cons, ih r]
theorem RepK.map {vs : List (Key × V)} {ds : List (Key × D)} {k : Key} {v : V} {d : D} (h : Rep K F v d) (r : RepK K F vs ds) : RepK K F (vs.map fun kv => if kv.1 = k then (kv.1, v) else kv) (ds.map fun kv => if kv.1 = k then (kv.1, d) else kv) := by
  induction vs generalizing ds with
  | nil => cases r; exact .nil
  | cons p vs ih =>
    cases r with
    | @cons k' _ _ _ _ q r =>
      simp only [List.map_cons]
      by_cases e : k' = k
      · rw [if_pos e, if_pos e]; exact .cons h (ih r)
      · rw [if_neg e, if_neg e]; exact .cons q (ih r)
theorem RepK.append : ∀ {vs ws : List (Key × V)} {ds es : List (Key × D)}, RepK K F vs ds → RepK K F ws es → RepK K F (vs ++ ws) (ds ++ es)
  | _, _, _, _, .nil, s => s
  | _, _, _, _, .cons r t, s => .cons r (RepK.append t s)
theorem RepK.put {vs : List (Key × V)} {ds : List (Key × D)} {k : Key} {v : V} {d : D} (h : Rep K F v d) (r : RepK K F vs ds) : RepK K F (putK vs k v) (put ds k d) := by
  unfold putK Ab.put
  rw [r.any k]
  split
  · exact r.map h
  · exact r.append (.cons h .nil)
theorem RepK.drp {vs : List (Key × V)} {ds : List (Key × D)} {k : Key} (r : RepK K F vs ds) : RepK K F (dropK vs k) (drp ds k) := by
  unfold dropK Ab.drp
  induction vs generalizing ds with
  | nil => cases r; exact .nil
  | cons p vs ih =>
    cases r with
    | @cons k' _ _ _ _ q r =>
      rw [List.filter_cons, List.filter_cons]
      by_cases e : decide (k' ≠ k) = true
      · rw [if_pos e, if_pos e]; exact .cons q (ih r)
      · rw [if_neg e, if_neg e]; exact ih r
theorem RepF.look : ∀ {vs : List (Str × V)} {ds : List (Str × D)} {f : Str} {d : D}, RepF K F vs ds → ds.lookup f = some d → ∃ v, vs.lookup f = some v ∧ Rep K F v d
  | _, _, _, _, .nil, e => by simp at e
  | _, _, f, d, .cons (k := g) h r, e => by
    rw [List.lookup_cons] at e ⊢
    cases q : (f == g) with
    | true => rw [q] at e; cases e; exact ⟨_, rfl, h⟩
    | false => rw [q] at e; exact RepF.look r e
theorem RepF.look_none : ∀ {vs : List (Str × V)} {ds : List (Str × D)} {f : Str}, RepF K F vs ds → ds.lookup f = none → vs.lookup f = none
  | _, _, _, .nil, _ => rfl
  | _, _, f, .cons (k := g) h r, e => by
    rw [List.lookup_cons] at e ⊢
    cases q : (f == g) with
    | true => rw [q] at e; cases e
    | false => rw [q] at e; exact RepF.look_none r e
theorem RepF.length : ∀ {vs : List (Str × V)} {ds : List (Str × D)}, RepF K F vs ds → vs.length = ds.length
  | _, _, .nil => rfl
  | _, _, .cons _ r => congrArg Nat.succ r.length
theorem RepF.put {v : V} {d : D} {f : Str} (h : Rep K F v d) : ∀ {vs : List (Str × V)} {ds : List (Str × D)}, RepF K F vs ds → RepF K F (L2.putF f v vs) (putF f d ds)
  | _, _, .nil => .cons h .nil
  | _, _, .cons (k := g) q r => by
    unfold L2.putF putF
    by_cases e : g = f
    · rw [if_pos e, if_pos e]; exact .cons h r
    · rw [if_neg e, if_neg e]; exact .cons q (RepF.put h r)
end
/-! ### the state: F what is frozen, H the heap, m the cells, r what else stays exactly -/
def At (K : PySem.W.Frag) (F H : Hp) (a : Addr) : MO → Prop
  | .lst ds => ∃ xs, H a = some (.lst xs) ∧ RepL K F xs ds
  | .dic false es => ∃ kvs, H a = some (.dK kvs) ∧ RepK K F kvs es
  | .dic true es => ∃ o kvs, H a = some (.frz o (.dK kvs)) ∧ RepK K F kvs es
  | .ins C es => ∃ dx fs, H a = some (.ins C dx fs) ∧ RepF K F fs es
structure Sn (K : PySem.W.Frag) (F H : Hp) (m : Mu) (r : Hp) : Prop where
  cov : ∀ b u, F b = some u → H b = some u ∨ ∃ o kvs, u = .dK kvs ∧ H b = some (.frz o u)
  mu : ∀ a x, m a = some x → F a = none ∧ At K F H a x
  fr : ∀ a o, r a = some o → H a = some o ∧ ((∃ ob u, o = .frz ob u) ∨ (F a = none ∧ m a = none))
section
variable {K : PySem.W.Frag} {F F' H H' : Hp} {m : Mu} {r : Hp} {a p : Addr} {u o : HO} {x : MO}
theorem same_new (h : F p = none) : Same F (upd F p u) := fun b o e => by rw [upd_ne (ne_of_none e h)]; exact e
theorem At.some (h : At K F H a x) : ∃ o, H a = some o := by
  cases x with
  | lst _ => obtain ⟨_, h, _⟩ := h; exact ⟨_, h⟩
  | dic lk _ => cases lk with
    | false => obtain ⟨_, h, _⟩ := h; exact ⟨_, h⟩
    | true => obtain ⟨_, _, h, _⟩ := h; exact ⟨_, h⟩
  | ins _ _ => obtain ⟨_, _, h, _⟩ := h; exact ⟨_, h⟩
theorem At.mono (s : Same F F') (e : H' a = H a) (h : At K F H a x) : At K F' H' a x := by
  cases x with
  | lst _ => obtain ⟨_, h, q⟩ := h; exact ⟨_, e.trans h, q.mono s⟩
  | dic lk _ => cases lk with
    | false => obtain ⟨_, h, q⟩ := h; exact ⟨_, e.trans h, q.mono s⟩
    | true => obtain ⟨_, _, h, q⟩ := h; exact ⟨_, _, e.trans h, q.mono s⟩
  | ins _ _ => obtain ⟨_, _, h, q⟩ := h; exact ⟨_, _, e.trans h, q.mono s⟩
namespace Sn
theorem F_none (h : Sn K F H m r) (hp : H p = none) : F p = none := by
  cases e : F p with
  | none => rfl
  | some u => rcases h.cov p u e with q | ⟨_, _, _, q⟩ <;> rw [hp] at q <;> cases q
theorem m_none (h : Sn K F H m r) (hp : H p = none) : m p = none := by
  cases e : m p with
  | none => rfl
  | some x => obtain ⟨o, q⟩ := (h.mu p x e).2.some; rw [hp] at q; cases q
theorem r_none (h : Sn K F H m r) (hp : H p = none) : r p = none := by
  cases e : r p with
  | none => rfl
  | some x => have q := (h.fr p x e).1; rw [hp] at q; cases q
/-- a new frozen thing -/
theorem new (h : Sn K F H m r) (hp : H p = none) (u : HO) : Sn K (upd F p u) (upd H p u) m r := by
  have s : Same F (upd F p u) := same_new (h.F_none hp)
  refine ⟨fun b v e => ?_, fun a x e => ?_, fun a o e => ?_⟩
  · by_cases hb : b = p
    · subst hb; rw [upd_same] at e; cases e; exact .inl upd_same
    · rw [upd_ne hb] at e ⊢; exact h.cov b v e
  · have ne : a ≠ p := fun z => by subst z; rw [h.m_none hp] at e; cases e
    exact ⟨by rw [upd_ne ne]; exact (h.mu a x e).1, (h.mu a x e).2.mono s (upd_ne ne)⟩
  · have ne : a ≠ p := fun z => by subst z; rw [h.r_none hp] at e; cases e
    rw [upd_ne ne, upd_ne ne]; exact h.fr a o e
theorem same (h : Sn K F H m r) (hp : H p = none) (u : HO) : Same F (upd F p u) := same_new (h.F_none hp)
/-- a new cell -/
theorem newM (h : Sn K F H m r) (hp : H p = none) (q : At K F (upd H p o) p x) : Sn K F (upd H p o) (mset m p x) r := by
  refine ⟨fun b v e => ?_, fun a y e => ?_, fun a u e => ?_⟩
  · have ne : b ≠ p := fun z => by subst z; rw [h.F_none hp] at e; cases e
    rw [upd_ne ne]; exact h.cov b v e
  · by_cases hb : a = p
    · subst hb; rw [mset_same] at e; cases e; exact ⟨h.F_none hp, q⟩
    · rw [mset_ne hb] at e; exact ⟨(h.mu a y e).1, (h.mu a y e).2.mono (Same.refl F) (upd_ne hb)⟩
  · have ne : a ≠ p := fun z => by subst z; rw [h.r_none hp] at e; cases e
    rw [upd_ne ne, mset_ne ne]; exact h.fr a u e
/-- a new thing that nobody names -/
theorem newG (h : Sn K F H m r) (hp : H p = none) (o : HO) : Sn K F (upd H p o) m r := by
  refine ⟨fun b v e => ?_, fun a y e => ?_, fun a u e => ?_⟩
  · have ne : b ≠ p := fun z => by subst z; rw [h.F_none hp] at e; cases e
    rw [upd_ne ne]; exact h.cov b v e
  · have ne : a ≠ p := fun z => by subst z; rw [h.m_none hp] at e; cases e
    exact ⟨(h.mu a y e).1, (h.mu a y e).2.mono (Same.refl F) (upd_ne ne)⟩
  · have ne : a ≠ p := fun z => by subst z; rw [h.r_none hp] at e; cases e
    rw [upd_ne ne]; exact h.fr a u e
/-- a new thing held exactly -/
theorem newR (h : Sn K F H m r) (hp : H p = none) (o : HO) : Sn K F (upd H p o) m (upd r p o) := by
  have g := h.newG hp o
  refine ⟨g.cov, g.mu, fun a u e => ?_⟩
  by_cases hb : a = p
  · subst hb; rw [upd_same] at e; cases e; exact ⟨upd_same, .inr ⟨h.F_none hp, h.m_none hp⟩⟩
  · rw [upd_ne hb] at e; exact g.fr a u e
/-- a cell changed: what stood there was not locked -/
theorem upM {y : MO} {u : HO} (h : Sn K F H m r) (hm : m a = some x) (ha : H a = some u) (nu : ∀ ob w, u ≠ .frz ob w) (q : At K F (upd H a o) a y) : Sn K F (upd H a o) (mset m a y) r := by
  refine ⟨fun b v e => ?_, fun b z e => ?_, fun b w e => ?_⟩
  · have ne : b ≠ a := fun z => by subst z; rw [(h.mu _ _ hm).1] at e; cases e
    rw [upd_ne ne]; exact h.cov b v e
  · by_cases hb : b = a
    · subst hb; rw [mset_same] at e; cases e; exact ⟨(h.mu _ _ hm).1, q⟩
    · rw [mset_ne hb] at e; exact ⟨(h.mu b z e).1, (h.mu b z e).2.mono (Same.refl F) (upd_ne hb)⟩
  · have ne : b ≠ a := fun z => by
      subst z
      obtain ⟨e1, e2⟩ := h.fr b w e
      rcases e2 with ⟨ob, w', e2⟩ | ⟨_, e2⟩
      · rw [ha] at e1; cases e1; exact nu _ _ e2
      · rw [hm] at e2; cases e2
    rw [upd_ne ne, mset_ne ne]; exact h.fr b w e
/-- less is told of the cells -/
theorem sub {m' : Mu} (h : Sn K F H m' r) (e : ∀ a x, m a = some x → m' a = some x) : Sn K F H m r :=
  ⟨h.cov, fun a x q => h.mu a x (e a x q), fun a o q => ⟨(h.fr a o q).1, (h.fr a o q).2.imp id fun ⟨z1, z2⟩ => ⟨z1, by
    cases w : m a with
    | none => rfl
    | some x => rw [e a x w] at z2; cases z2⟩⟩⟩
/-- a list's cell is frozen -/
theorem frzL {ds : List D} (h : Sn K F H m r) (e : m a = some (.lst ds)) : ∃ F', Same F F' ∧ Sn K F' H (mdel m a) r ∧ Rep K F' (.ref a) (.lst ds) := by
  obtain ⟨hF, xs, ha, q⟩ := h.mu a _ e
  have s : Same F (upd F a (.lst xs)) := same_new hF
  refine ⟨upd F a (.lst xs), s, ⟨fun b v w => ?_, fun b y w => ?_, fun b o w => ?_⟩, .lst upd_same (q.mono s)⟩
  · by_cases hb : b = a
    · subst hb; rw [upd_same] at w; cases w; exact .inl ha
    · rw [upd_ne hb] at w; exact h.cov b v w
  · have ne : b ≠ a := fun z => by subst z; unfold mdel at w; rw [if_pos rfl] at w; cases w
    have w' : m b = some y := by unfold mdel at w; rw [if_neg ne] at w; exact w
    exact ⟨by rw [upd_ne ne]; exact (h.mu b y w').1, (h.mu b y w').2.mono s rfl⟩
  · obtain ⟨e1, e2⟩ := h.fr b o w
    refine ⟨e1, e2.imp id fun ⟨z1, z2⟩ => ?_⟩
    have ne : b ≠ a := fun z => by subst z; rw [e] at z2; cases z2
    exact ⟨by rw [upd_ne ne]; exact z1, by unfold mdel; rw [if_neg ne]; exact z2⟩
theorem frzD {es : List (Key × D)} (h : Sn K F H m r) (e : m a = some (.dic false es)) : ∃ F', Same F F' ∧ Sn K F' H (mdel m a) r ∧ Rep K F' (.ref a) (.dic es) := by
  obtain ⟨hF, xs, ha, q⟩ := h.mu a _ e
  have s : Same F (upd F a (.dK xs)) := same_new hF
  refine ⟨upd F a (.dK xs), s, ⟨fun b v w => ?_, fun b y w => ?_, fun b o w => ?_⟩, .dic upd_same (q.mono s)⟩
  · by_cases hb : b = a
    · subst hb; rw [upd_same] at w; cases w; exact .inl ha
    · rw [upd_ne hb] at w; exact h.cov b v w
  · have ne : b ≠ a := fun z => by subst z; unfold mdel at w; rw [if_pos rfl] at w; cases w
    have w' : m b = some y := by unfold mdel at w; rw [if_neg ne] at w; exact w
    exact ⟨by rw [upd_ne ne]; exact (h.mu b y w').1, (h.mu b y w').2.mono s rfl⟩
  · obtain ⟨e1, e2⟩ := h.fr b o w
    refine ⟨e1, e2.imp id fun ⟨z1, z2⟩ => ?_⟩
    have ne : b ≠ a := fun z => by subst z; rw [e] at z2; cases z2
    exact ⟨by rw [upd_ne ne]; exact z1, by unfold mdel; rw [if_neg ne]; exact z2⟩
theorem frzI {C : Addr} {es : List (Str × D)} (h : Sn K F H m r) (e : m a = some (.ins C es)) : ∃ F', Same F F' ∧ Sn K F' H (mdel m a) r ∧ Rep K F' (.ref a) (.obj C es) := by
  obtain ⟨hF, dx, xs, ha, q⟩ := h.mu a _ e
  have s : Same F (upd F a (.ins C dx xs)) := same_new hF
  refine ⟨upd F a (.ins C dx xs), s, ⟨fun b v w => ?_, fun b y w => ?_, fun b o w => ?_⟩, .obj upd_same (q.mono s)⟩
  · by_cases hb : b = a
    · subst hb; rw [upd_same] at w; cases w; exact .inl ha
    · rw [upd_ne hb] at w; exact h.cov b v w
  · have ne : b ≠ a := fun z => by subst z; unfold mdel at w; rw [if_pos rfl] at w; cases w
    have w' : m b = some y := by unfold mdel at w; rw [if_neg ne] at w; exact w
    exact ⟨by rw [upd_ne ne]; exact (h.mu b y w').1, (h.mu b y w').2.mono s rfl⟩
  · obtain ⟨e1, e2⟩ := h.fr b o w
    refine ⟨e1, e2.imp id fun ⟨z1, z2⟩ => ?_⟩
    have ne : b ≠ a := fun z => by subst z; rw [e] at z2; cases z2
    exact ⟨by rw [upd_ne ne]; exact z1, by unfold mdel; rw [if_neg ne]; exact z2⟩
end Sn
/-- what is read: a list, a tuple -/
theorem Sn.rd (h : Sn K F H m r) {a : Addr} {u : HO} (e : Rd F a u) : Rd H a u := by
  rcases e with e | ⟨o, e⟩
  · rcases h.cov a u e with q | ⟨o, _, _, q⟩
    · exact .inl q
    · exact .inr ⟨o, q⟩
  · rcases h.cov a _ e with q | ⟨_, _, z, _⟩
    · exact .inr ⟨o, q⟩
    · cases z
theorem Sn.sqL (h : Sn K F H m r) {a : Addr} {xs : List V} (e : SqL K F a xs) : SqL K H a xs := e.imp h.rd id
theorem Sn.sqT (h : Sn K F H m r) {a : Addr} {xs : List V} (e : SqT K F a xs) : SqT K H a xs := e.imp h.rd id
theorem Sn.lst (h : Sn K F H m r) {a : Addr} {xs : List V} (e : F a = some (.lst xs)) : H a = some (.lst xs) := by
  rcases h.cov a _ e with q | ⟨_, _, z, _⟩
  · exact q
  · cases z
theorem Sn.ins (h : Sn K F H m r) {a C dx : Addr} {fs : List (Str × V)} (e : F a = some (.ins C dx fs)) : H a = some (.ins C dx fs) := by
  rcases h.cov a _ e with q | ⟨_, _, z, _⟩
  · exact q
  · cases z
theorem Sn.xd (h : Sn K F H m r) {a : Addr} {fs : List (Str × V)} (e : F a = some (.xd fs)) : H a = some (.xd fs) := by
  rcases h.cov a _ e with q | ⟨_, _, z, _⟩
  · exact q
  · cases z
end
/-! ### names -/
abbrev De := List (Option D)
def EnvOk (K : PySem.W.Frag) (F : Hp) (s : L2.St) (e : De) : Prop := s.length = e.length ∧ ∀ (i : Nat) (d : D), e[i]? = some (some d) → ∃ v, s[i]? = some (some v) ∧ Rep K F v d
section
variable {K : PySem.W.Frag} {F F' : Hp} {s : L2.St} {e : De}
theorem EnvOk.mono (h : EnvOk K F s e) (k : Same F F') : EnvOk K F' s e := ⟨h.1, fun i d q => let ⟨v, h1, h2⟩ := h.2 i d q; ⟨v, h1, h2.mono k⟩⟩
theorem EnvOk.set (h : EnvOk K F s e) {v : V} {d : D} (r : Rep K F v d) (i : Nat) : EnvOk K F (s.set i (some v)) (e.set i (some d)) := by
  refine ⟨by rw [List.length_set, List.length_set]; exact h.1, fun j d' q => ?_⟩
  by_cases hj : i = j
  · subst hj
    by_cases hl : i < e.length
    · rw [List.getElem?_set_self hl] at q; cases q
      exact ⟨v, List.getElem?_set_self (h.1 ▸ hl), r⟩
    · rw [List.getElem?_eq_none (by rw [List.length_set]; omega)] at q; cases q
  · rw [List.getElem?_set_ne hj] at q ⊢; exact h.2 j d' q
theorem EnvOk.clr (h : EnvOk K F s e) (i : Nat) : EnvOk K F (s.set i none) (e.set i none) := by
  refine ⟨by rw [List.length_set, List.length_set]; exact h.1, fun j d' q => ?_⟩
  by_cases hj : i = j
  · subst hj
    by_cases hl : i < e.length
    · rw [List.getElem?_set_self hl] at q; cases q
    · rw [List.getElem?_eq_none (by rw [List.length_set]; omega)] at q; cases q
  · rw [List.getElem?_set_ne hj] at q ⊢; exact h.2 j d' q
/-- a slot may be forgotten on the data's side alone -/
theorem EnvOk.sub {e' : De} (h : EnvOk K F s e) (hl : e'.length = e.length) (k : ∀ (i : Nat) (d : D), e'[i]? = some (some d) → e[i]? = some (some d)) : EnvOk K F s e' := ⟨h.1.trans hl.symm, fun i d q => h.2 i d (k i d q)⟩
def wipeA (e : De) : List Nat → De
  | [] => e
  | v :: vs => (wipeA e vs).set v none
theorem EnvOk.wipe (h : EnvOk K F s e) : ∀ vs : List Nat, EnvOk K F (L2.wipe s vs) (wipeA e vs)
  | [] => h
  | v :: vs => (EnvOk.wipe h vs).clr v
theorem EnvOk.start {N : List Str} {vs : List V} {ds : List D} (r : RepL K F vs ds) : EnvOk K F (L2.start N vs) (ds.map some ++ List.replicate (N.length - ds.length) none) := by
  have hl := r.length
  refine ⟨by unfold L2.start; rw [List.length_append, List.length_append, List.length_map, List.length_map, List.length_replicate, List.length_replicate, hl], fun i d q => ?_⟩
  by_cases hi : i < ds.length
  · rw [List.getElem?_append_left (by rw [List.length_map]; exact hi), List.getElem?_map] at q
    cases hd : ds[i]? with
    | none => rw [hd] at q; cases q
    | some d' =>
      rw [hd] at q; cases q
      obtain ⟨v, h1, h2⟩ := r.getD hd
      refine ⟨v, ?_, h2⟩
      unfold L2.start
      rw [List.getElem?_append_left (by rw [List.length_map, hl]; exact hi), List.getElem?_map, h1]; rfl
  · rw [List.getElem?_append_right (by rw [List.length_map]; omega), List.getElem?_replicate] at q
    split at q <;> cases q
end
end Ab
namespace Ab
open PySem PySem.Spec PyProof.Rows L2
structure Ex where
  C : Addr
  fl : Option (Str × D)
abbrev XA := Ex → Mu → Prop
abbrev QD := D → Mu → Prop
abbrev AE := De → Mu → QD → XA → Prop
abbrev AT := De → Mu → (Bool → Mu → Prop) → XA → Prop
abbrev AA := De → Mu → (List D → Mu → Prop) → XA → Prop
structure AEnds where
  nx : De → Mu → Prop
  rt : QD
  bk : De → Mu → Prop
  ct : De → Mu → Prop
  ex : Ex → De → Mu → Prop
abbrev AS := AEnds → De → Mu → Prop
def RepX (K : PySem.W.Frag) (F H : Hp) (m : Mu) (cls : Value) (dd : Option Addr) (x : Ex) : Prop :=
  cls = .ref x.C ∧ (x.fl = none → dd = none) ∧ ∀ f d, x.fl = some (f, d) → ∃ a v, dd = some a ∧ F a = some (.xd [(f, v)]) ∧ Rep K F v d
/-! ### what a reading's ends must do for the data's ends -/
def GE (K : PySem.W.Frag) (F r : Hp) (Q : QD) (Qc : VK) : Prop := ∀ F' H' m' v d, Same F F' → Sn K F' H' m' r → Rep K F' v d → Q d m' → Qc v H'
def GT (K : PySem.W.Frag) (F r : Hp) (Q : Bool → Mu → Prop) (Qc : Bool → Hp → Prop) : Prop := ∀ F' H' m' b, Same F F' → Sn K F' H' m' r → Q b m' → Qc b H'
def GA (K : PySem.W.Frag) (F r : Hp) (Q : List D → Mu → Prop) (Qc : List V → Hp → Prop) : Prop := ∀ F' H' m' v d, Same F F' → Sn K F' H' m' r → RepL K F' v d → Q d m' → Qc v H'
def GX (K : PySem.W.Frag) (F r : Hp) (s : L2.St) (X : XA) (W : WX) : Prop := ∀ F' H' m' cls dd x, Same F F' → Sn K F' H' m' r → RepX K F' H' m' cls dd x → X x m' → W cls dd s H'
theorem GE.mono {K : PySem.W.Frag} {F F' r : Hp} {Q : QD} {Qc : VK} (g : GE K F r Q Qc) (k : Same F F') : GE K F' r Q Qc := fun F2 H m v d s => g F2 H m v d (k.trans s)
theorem GT.mono {K : PySem.W.Frag} {F F' r : Hp} {Q : Bool → Mu → Prop} {Qc : Bool → Hp → Prop} (g : GT K F r Q Qc) (k : Same F F') : GT K F' r Q Qc := fun F2 H m v s => g F2 H m v (k.trans s)
theorem GA.mono {K : PySem.W.Frag} {F F' r : Hp} {Q : List D → Mu → Prop} {Qc : List V → Hp → Prop} (g : GA K F r Q Qc) (k : Same F F') : GA K F' r Q Qc := fun F2 H m v d s => g F2 H m v d (k.trans s)
theorem GX.mono {K : PySem.W.Frag} {F F' r : Hp} {s : L2.St} {X : XA} {W : WX} (g : GX K F r s X W) (k : Same F F') : GX K F' r s X W := fun F2 H m c d x s => g F2 H m c d x (k.trans s)
def cE (K : PySem.W.Frag) (W : WX) (a : AE) : TE := fun s H Qc => ∃ F e m r Q X, EnvOk K F s e ∧ Sn K F H m r ∧ a e m Q X ∧ GE K F r Q Qc ∧ GX K F r s X W
def cT (K : PySem.W.Frag) (W : WX) (a : AT) : TT := fun s H Qc => ∃ F e m r Q X, EnvOk K F s e ∧ Sn K F H m r ∧ a e m Q X ∧ GT K F r Q Qc ∧ GX K F r s X W
def cA (K : PySem.W.Frag) (W : WX) (a : AA) : TA := fun s H Qc => ∃ F e m r Q X, EnvOk K F s e ∧ Sn K F H m r ∧ a e m Q X ∧ GA K F r Q Qc ∧ GX K F r s X W
structure GS (K : PySem.W.Frag) (F r : Hp) (A : AEnds) (D : Ends) (W : WX) : Prop where
  nx : ∀ F' H' m' s e, Same F F' → EnvOk K F' s e → Sn K F' H' m' r → A.nx e m' → D.nx s H'
  rt : ∀ F' H' m' v d, Same F F' → Sn K F' H' m' r → Rep K F' v d → A.rt d m' → D.rt v H'
  bk : ∀ F' H' m' s e, Same F F' → EnvOk K F' s e → Sn K F' H' m' r → A.bk e m' → D.bk s H'
  ct : ∀ F' H' m' s e, Same F F' → EnvOk K F' s e → Sn K F' H' m' r → A.ct e m' → D.ct s H'
  ex : ∀ F' H' m' s e cls dd x, Same F F' → EnvOk K F' s e → Sn K F' H' m' r → RepX K F' H' m' cls dd x → A.ex x e m' → W cls dd s H'
theorem GS.mono {K : PySem.W.Frag} {F F' r : Hp} {A : AEnds} {D : Ends} {W : WX} (g : GS K F r A D W) (k : Same F F') : GS K F' r A D W :=
  ⟨fun F2 H m s e q => g.nx F2 H m s e (k.trans q), fun F2 H m v d q => g.rt F2 H m v d (k.trans q), fun F2 H m s e q => g.bk F2 H m s e (k.trans q), fun F2 H m s e q => g.ct F2 H m s e (k.trans q), fun F2 H m s e c d x q => g.ex F2 H m s e c d x (k.trans q)⟩
theorem GS.gx {K : PySem.W.Frag} {F r : Hp} {A : AEnds} {D : Ends} {W : WX} (g : GS K F r A D W) {s : L2.St} {e : De} (h : EnvOk K F s e) : GX K F r s (fun x m => A.ex x e m) W :=
  fun F' H' m' cls dd x q n rx hx => g.ex F' H' m' s e cls dd x q (h.mono q) n rx hx
def cS (K : PySem.W.Frag) (W : WX) (a : AS) : TS := fun D s H => ∃ F e m r A, EnvOk K F s e ∧ Sn K F H m r ∧ a A e m ∧ GS K F r A D W
/-! ### the judgements -/
def QE (X : Cx) (e : Expr) (a : AE) : Prop := ∀ W, Takes X W → PE X e (cE X.K W a)
def QT (X : Cx) (e : Expr) (a : AT) : Prop := ∀ W, Takes X W → PT X e (cT X.K W a)
def QW (X : Cx) (e : Expr) (a : AT) : Prop := ∀ W, Takes X W → PW X e (cT X.K W a)
def QA (X : Cx) (es : List Expr) (a : AA) : Prop := ∀ W, Takes X W → PA X es (cA X.K W a)
def QS (X : Cx) (st : Stmt) (a : AS) : Prop := ∀ W, Takes X W → PassesOwn (model X.prog X.w) X.A X.env X.xe → PS X st (cS X.K W a)
def QSs (X : Cx) (st : List Stmt) (a : AS) : Prop := ∀ W, Takes X W → PassesOwn (model X.prog X.w) X.A X.env X.xe → PSs X st (cS X.K W a)
theorem _root_.L2.PE.imp {X : Cx} {e : Expr} {t t' : TE} (h : PE X e t) (k : ∀ s H Q, t' s H Q → t s H Q) : PE X e t' := ⟨fun pins s σ H Q I q => h.run pins s σ H Q I (k _ _ _ q)⟩
theorem _root_.L2.PT.imp {X : Cx} {e : Expr} {t t' : TT} (h : PT X e t) (k : ∀ s H Q, t' s H Q → t s H Q) : PT X e t' := ⟨fun pins s σ H Q I q => h.run pins s σ H Q I (k _ _ _ q)⟩
theorem _root_.L2.PW.imp {X : Cx} {e : Expr} {t t' : TT} (h : PW X e t) (k : ∀ s H Q, t' s H Q → t s H Q) : PW X e t' := ⟨fun w pins s σ H Q I q => h.run w pins s σ H Q I (k _ _ _ q)⟩
theorem _root_.L2.PA.imp {X : Cx} {e : List Expr} {t t' : TA} (h : PA X e t) (k : ∀ s H Q, t' s H Q → t s H Q) : PA X e t' := ⟨fun w pins s σ H Q I q => h.run w pins s σ H Q I (k _ _ _ q)⟩
theorem _root_.L2.PS.imp {X : Cx} {e : Stmt} {t t' : TS} (h : PS X e t) (k : ∀ D s H, t' D s H → t D s H) : PS X e t' := ⟨fun pins s σ H D I q => h.run pins s σ H D I (k _ _ _ q)⟩
theorem _root_.L2.PSs.imp {X : Cx} {e : List Stmt} {t t' : TS} (h : PSs X e t) (k : ∀ D s H, t' D s H → t D s H) : PSs X e t' := ⟨fun pins s σ H D I q => h.run pins s σ H D I (k _ _ _ q)⟩
/-! ### expressions: names, constants -/
def aVar (i : Nat) : AE := fun e m Q _ => ∃ d, e[i]? = some (some d) ∧ Q d m
def aC (d : D) : AE := fun _ m Q _ => Q d m
section
variable {X : Cx} {a b c : Expr} {es : List Expr} {pos : Pos}
theorem qv (i : Nat) {x : Str} (hN : X.N[i]? = some x := by rfl) (hv : Vis X.env.scope x := by first | exact Or.inl rfl | exact Or.inr (Or.inl rfl) | exact Or.inr (Or.inr rfl)) (hd : (x == ("__debug__" : Str)) = false := by decide)
    (hcd : (x == ("__classdict__" : Str)) = false := by decide) : QE X (.Name x pos) (aVar i) := fun W tk => (pe_var hN hv hd hcd).imp fun s H Qc ⟨F, e, m, r, Q, X, he, hs, ⟨d, h1, h2⟩, g, gx⟩ => by
  obtain ⟨v, q1, q2⟩ := he.2 i d h1
  exact ⟨v, q1, g F H m v d (Same.refl F) hs q2 h2⟩
theorem q_lit {v : V} {d : D} (h : PE X a (tC v)) (r : ∀ F, Rep X.K F v d) : QE X a (aC d) := fun W tk => h.imp fun s H Qc ⟨F, e, m, r', Q, X, he, hs, h, g, gx⟩ => g F H m v d (Same.refl F) hs (r F) h
theorem q_int {i j} : QE X (.Constant (.int i) j pos) (aC (.int i)) := q_lit pe_int fun _ => .int _
theorem q_bl {b j} : QE X (.Constant (.bool b) j pos) (aC (.bl b)) := q_lit pe_bl fun _ => .bl _
theorem q_non {j} : QE X (.Constant .none j pos) (aC .non) := q_lit pe_non fun _ => .non
theorem q_str {x j} : QE X (.Constant (.str x) j pos) (aC (.str x)) := q_lit pe_str fun _ => .str _
theorem q_glob {x : Str} {v : V} {u : Value} {d : D} (hm : X.mg x = some u) (r : RelV v u) (rd : ∀ F, Rep X.K F v d) (hg : Gl X x := by rfl) (hd : (x == ("__debug__" : Str)) = false := by decide) : QE X (.Name x pos) (aC d) := q_lit (pe_glob hg hm r hd) rd
/-! ### operators -/
abbrev B1 := D → Mu → QD → Prop
abbrev B2 := D → D → Mu → QD → Prop
abbrev BA := List D → Mu → QD → Prop
abbrev BM := D → List D → Mu → QD → Prop
def S1 (K : PySem.W.Frag) (rd : V → Hp → VK → Prop) (b : B1) : Prop := ∀ F H m r v d Q Qc, Sn K F H m r → Rep K F v d → b d m Q → GE K F r Q Qc → rd v H Qc
def S2 (K : PySem.W.Frag) (rd : R2) (b : B2) : Prop := ∀ F H m r v u d e Q Qc, Sn K F H m r → Rep K F v d → Rep K F u e → b d e m Q → GE K F r Q Qc → rd v u H Qc
def SA (K : PySem.W.Frag) (rd : List V → Hp → VK → Prop) (b : BA) : Prop := ∀ F H m r vs ds Q Qc, Sn K F H m r → RepL K F vs ds → b ds m Q → GE K F r Q Qc → rd vs H Qc
def SM (K : PySem.W.Frag) (rd : V → List V → Hp → VK → Prop) (b : BM) : Prop := ∀ F H m r v d vs ds Q Qc, Sn K F H m r → Rep K F v d → RepL K F vs ds → b d ds m Q → GE K F r Q Qc → rd v vs H Qc
def aOp1 (b : B1) (t : AE) : AE := fun e m Q X => t e m (fun d m1 => b d m1 Q) X
def aOp (b : B2) (t u : AE) : AE := fun e m Q X => t e m (fun d m1 => u e m1 (fun d2 m2 => b d d2 m2 Q) X) X
def aB (t : AE) : AT := fun e m Q X => t e m (fun d m1 => ∃ k, d = .bl k ∧ Q k m1) X
theorem low2 {K : PySem.W.Frag} {W : WX} {ta tb : AE} {rd : R2} {b : B2} (hs : S2 K rd b) {s : L2.St} {H : Hp} {Qc : VK} (h : cE K W (aOp b ta tb) s H Qc) : tOp rd (cE K W ta) (cE K W tb) s H Qc := by
  obtain ⟨F, e, m, r, Q, X, he, hn, h, g, gx⟩ := h
  refine ⟨F, e, m, r, _, X, he, hn, h, fun F1 H1 m1 v d s1 n1 r1 q1 => ?_, gx⟩
  refine ⟨F1, e, m1, r, _, X, he.mono s1, n1, q1, fun F2 H2 m2 u d2 s2 n2 r2 q2 => ?_, gx.mono s1⟩
  exact hs F2 H2 m2 r v u d d2 Q Qc n2 (r1.mono s2) r2 q2 (g.mono (s1.trans s2))
theorem low1 {K : PySem.W.Frag} {W : WX} {ta : AE} {rd : V → Hp → VK → Prop} {b : B1} (hs : S1 K rd b) {s : L2.St} {H : Hp} {Qc : VK} (h : cE K W (aOp1 b ta) s H Qc) : tUn rd (cE K W ta) s H Qc := by
  obtain ⟨F, e, m, r, Q, X, he, hn, h, g, gx⟩ := h
  exact ⟨F, e, m, r, _, X, he, hn, h, fun F1 H1 m1 v d s1 n1 r1 q1 => hs F1 H1 m1 r v d Q Qc n1 r1 q1 (g.mono s1), gx⟩
theorem q_bin {op : Operator} {rd : R2} {bb : B2} {ta tb : AE} (ho : OpR X (binaryOp op) rd) (hs : S2 X.K rd bb) (ha : QE X a ta) (hb : QE X b tb) : QE X (.BinOp a op b pos) (aOp bb ta tb) :=
  fun W tk => (pe_op ho (ha W tk) (hb W tk)).imp fun _ _ _ h => low2 hs h
theorem q_cmp {op : CmpOp} {rd : R2} {bb : B2} {ta tb : AE} (ho : OpR X (compareOp op) rd) (hs : S2 X.K rd bb) (ha : QE X a ta) (hb : QE X b tb) (hm : behindInMarks op b = false) : QE X (.Compare a [op] [b] pos) (aOp bb ta tb) :=
  fun W tk => (pe_cmpR ho (ha W tk) (hb W tk) hm).imp fun _ _ _ h => low2 hs h
/-- the ends of a test made of a bool's ends -/
theorem cE_of_B {K : PySem.W.Frag} {W : WX} {t : AE} {s : L2.St} {H : Hp} {Qc : Bool → Hp → Prop} (h : cT K W (aB t) s H Qc) : cE K W t s H (fun x H' => ∃ k, x = .bl k ∧ Qc k H') := by
  obtain ⟨F, e, m, r, Q, X, he, hn, h, g, gx⟩ := h
  refine ⟨F, e, m, r, _, X, he, hn, h, fun F1 H1 m1 v d s1 n1 r1 q1 => ?_, gx⟩
  obtain ⟨k, rfl, q⟩ := q1
  cases r1
  exact ⟨k, rfl, g F1 H1 m1 k s1 n1 q⟩
theorem qt_cmp {op : CmpOp} {rd : R2} {bb : B2} {ta tb : AE} (ho : OpR X (compareOp op) rd) (hs : S2 X.K rd bb) (ha : QE X a ta) (hb : QE X b tb) (hm : behindInMarks op b = false) : QT X (.Compare a [op] [b] pos) (aB (aOp bb ta tb)) :=
  fun W tk => (pt_cmpR ho (ha W tk) (hb W tk) hm).imp fun _ _ _ h => low2 hs (cE_of_B h)
theorem qt_val {t : AE} (h : QE X a t) (he : ∀ whole, isTrue a X.env whole = (do let v ← whole; standAt a.pos; holding [v] (truthy v)) := by intro _; rfl) : QT X a (aB t) :=
  fun W tk => (pt_val (h W tk) he).imp fun _ _ _ h => cE_of_B h
theorem q_un {op : UnaryOp} {rd : V → Hp → VK → Prop} {bb : B1} {ta : AE} (ho : UnR X (unaryOp op) rd) (hs : S1 X.K rd bb) (ha : QE X a ta) : QE X (.UnaryOp op a pos) (aOp1 bb ta) :=
  fun W tk => (pe_un ho (ha W tk)).imp fun _ _ _ h => low1 hs h
/-- chains -/
def aChain (b b' : B2) (ta tb tc : AE) : AE := fun e m Q X => ta e m (fun x m1 => tb e m1 (fun y m2 => b x y m2 fun z m3 => ∃ k, z = .bl k ∧ if k = true then tc e m3 (fun w m4 => b' y w m4 Q) X else Q (.bl false) m3) X) X
/-! ### and, or, not -/
def aAnd (t u : AT) : AT := fun e m Q X => t e m (fun c m1 => if c = true then u e m1 Q X else Q false m1) X
def aOr (t u : AT) : AT := fun e m Q X => t e m (fun c m1 => if c = true then Q true m1 else u e m1 Q X) X
def aNot (t : AT) : AT := fun e m Q X => t e m (fun c m1 => Q (!c) m1) X
def aAndV (t u : AE) : AE := fun e m Q X => t e m (fun d m1 => ∃ c, d = .bl c ∧ if c = true then u e m1 Q X else Q (.bl false) m1) X
def aOrV (t u : AE) : AE := fun e m Q X => t e m (fun d m1 => ∃ c, d = .bl c ∧ if c = true then Q (.bl true) m1 else u e m1 Q X) X
def aNotV (t : AE) : AE := fun e m Q X => t e m (fun d m1 => ∃ c, d = .bl c ∧ Q (.bl (!c)) m1) X
def aIf (t : AT) (u v : AE) : AE := fun e m Q X => t e m (fun c m1 => if c = true then u e m1 Q X else v e m1 Q X) X
variable {rest : List Expr} {t u : AT} {ta tb tc : AE}
theorem qw_and1 (h : QT X a t) : QW X (.BoolOp .And [a] pos) t := fun W tk => pw_and1 (h W tk)
theorem qw_or1 (h : QT X a t) : QW X (.BoolOp .Or [a] pos) t := fun W tk => pw_or1 (h W tk)
theorem qw_and (h : QT X a t) (h2 : QW X (.BoolOp .And (b :: rest) pos) u) : QW X (.BoolOp .And (a :: b :: rest) pos) (aAnd t u) := fun W tk => (pw_and (h W tk) (h2 W tk)).imp fun s H Qc h => by
  obtain ⟨F, e, m, r, Q, X, he, hn, h, g, gx⟩ := h
  refine ⟨F, e, m, r, _, X, he, hn, h, fun F1 H1 m1 c s1 n1 q1 => ?_, gx⟩
  cases c with
  | true => exact ⟨F1, e, m1, r, Q, X, he.mono s1, n1, q1, g.mono s1, gx.mono s1⟩
  | false => exact g F1 H1 m1 false s1 n1 q1
theorem qw_or (h : QT X a t) (h2 : QW X (.BoolOp .Or (b :: rest) pos) u) : QW X (.BoolOp .Or (a :: b :: rest) pos) (aOr t u) := fun W tk => (pw_or (h W tk) (h2 W tk)).imp fun s H Qc h => by
  obtain ⟨F, e, m, r, Q, X, he, hn, h, g, gx⟩ := h
  refine ⟨F, e, m, r, _, X, he, hn, h, fun F1 H1 m1 c s1 n1 q1 => ?_, gx⟩
  cases c with
  | false => exact ⟨F1, e, m1, r, Q, X, he.mono s1, n1, q1, g.mono s1, gx.mono s1⟩
  | true => exact g F1 H1 m1 true s1 n1 q1
theorem QW.pt (h : QW X a t) : QT X a t := fun W tk => (h W tk).pt
theorem qt_not (h : QT X a t) : QT X (.UnaryOp .Not a pos) (aNot t) := fun W tk => (pt_not (h W tk)).imp fun s H Qc h => by
  obtain ⟨F, e, m, r, Q, X, he, hn, h, g, gx⟩ := h
  exact ⟨F, e, m, r, _, X, he, hn, h, fun F1 H1 m1 c s1 n1 q1 => g F1 H1 m1 (!c) s1 n1 q1, gx⟩
theorem q_one {op} (h : QE X a ta) : QE X (.BoolOp op [a] pos) ta := fun W tk => pe_one (h W tk)
theorem q_and (h : QE X a ta) (h2 : QE X (.BoolOp .And (b :: rest) pos) tb) : QE X (.BoolOp .And (a :: b :: rest) pos) (aAndV ta tb) := fun W tk => (pe_and (h W tk) (h2 W tk)).imp fun s H Qc h => by
  obtain ⟨F, e, m, r, Q, X, he, hn, h, g, gx⟩ := h
  refine ⟨F, e, m, r, _, X, he, hn, h, fun F1 H1 m1 v d s1 n1 r1 q1 => ?_, gx⟩
  obtain ⟨c, rfl, q1⟩ := q1
  cases r1
  refine ⟨c, rfl, ?_⟩
  cases c with
  | true => exact ⟨F1, e, m1, r, Q, X, he.mono s1, n1, q1, g.mono s1, gx.mono s1⟩
  | false => exact g F1 H1 m1 _ _ s1 n1 (.bl false) q1
theorem q_or (h : QE X a ta) (h2 : QE X (.BoolOp .Or (b :: rest) pos) tb) : QE X (.BoolOp .Or (a :: b :: rest) pos) (aOrV ta tb) := fun W tk => (pe_or (h W tk) (h2 W tk)).imp fun s H Qc h => by
  obtain ⟨F, e, m, r, Q, X, he, hn, h, g, gx⟩ := h
  refine ⟨F, e, m, r, _, X, he, hn, h, fun F1 H1 m1 v d s1 n1 r1 q1 => ?_, gx⟩
  obtain ⟨c, rfl, q1⟩ := q1
  cases r1
  refine ⟨c, rfl, ?_⟩
  cases c with
  | false => exact ⟨F1, e, m1, r, Q, X, he.mono s1, n1, q1, g.mono s1, gx.mono s1⟩
  | true => exact g F1 H1 m1 _ _ s1 n1 (.bl true) q1
theorem q_not (h : QE X a ta) : QE X (.UnaryOp .Not a pos) (aNotV ta) := fun W tk => (pe_not (h W tk)).imp fun s H Qc h => by
  obtain ⟨F, e, m, r, Q, X, he, hn, h, g, gx⟩ := h
  refine ⟨F, e, m, r, _, X, he, hn, h, fun F1 H1 m1 v d s1 n1 r1 q1 => ?_, gx⟩
  obtain ⟨c, rfl, q1⟩ := q1
  cases r1
  exact ⟨c, rfl, g F1 H1 m1 _ _ s1 n1 (.bl (!c)) q1⟩
theorem q_if (h : QT X c t) (ha : QE X a ta) (hb : QE X b tb) : QE X (.IfExp c a b pos) (aIf t ta tb) := fun W tk => (pe_ifExp (h W tk) (ha W tk) (hb W tk)).imp fun s H Qc h => by
  obtain ⟨F, e, m, r, Q, X, he, hn, h, g, gx⟩ := h
  refine ⟨F, e, m, r, _, X, he, hn, h, fun F1 H1 m1 c s1 n1 q1 => ?_, gx⟩
  cases c with
  | true => exact ⟨F1, e, m1, r, Q, X, he.mono s1, n1, q1, g.mono s1, gx.mono s1⟩
  | false => exact ⟨F1, e, m1, r, Q, X, he.mono s1, n1, q1, g.mono s1, gx.mono s1⟩
/-! ### argument lists, displays -/
def aNil : AA := fun _ m Q _ => Q [] m
def aCons (t : AE) (u : AA) : AA := fun e m Q X => t e m (fun d m1 => u e m1 (fun ds m2 => Q (d :: ds) m2) X) X
theorem qa_nil : QA X [] aNil := fun W tk => pa_nil.imp fun s H Qc ⟨F, e, m, r, Q, X, he, hn, h, g, gx⟩ => g F H m [] [] (Same.refl F) hn .nil h
theorem qa_cons {tr : AA} (ha : QE X a ta) (hr : QA X es tr) (hs : starEach (a :: es) X.env = (false, eval a X.env) :: starEach es X.env := by rfl) : QA X (a :: es) (aCons ta tr) :=
  fun W tk => (pa_cons (ha W tk) (hr W tk) hs).imp fun s H Qc h => by
    obtain ⟨F, e, m, r, Q, X, he, hn, h, g, gx⟩ := h
    refine ⟨F, e, m, r, _, X, he, hn, h, fun F1 H1 m1 v d s1 n1 r1 q1 => ?_, gx⟩
    refine ⟨F1, e, m1, r, _, X, he.mono s1, n1, q1, fun F2 H2 m2 vs ds s2 n2 r2 q2 => ?_, gx.mono s1⟩
    exact g F2 H2 m2 (v :: vs) (d :: ds) (s1.trans s2) n2 (.cons (r1.mono s2) r2) q2
/-- a new list: frozen, or a cell -/
def newL (mt : Bool) (ds : List D) (m : Mu) (Q : QD) : Prop := match mt with
  | false => Q (.lst ds) m
  | true => ∀ p, m p = none → Q (.cell p) (mset m p (.lst ds))
theorem newL_ok {K : PySem.W.Frag} {F H : Hp} {m : Mu} {r : Hp} {mt : Bool} {ds : List D} {xs : List V} {Q : QD} {Qc : VK} (hn : Sn K F H m r) (hr : RepL K F xs ds) (h : newL mt ds m Q) (g : GE K F r Q Qc) (p : Addr) (hp : H p = none) : Qc (.ref p) (upd H p (.lst xs)) := by
  cases mt with
  | false => exact g _ _ m _ _ (hn.same hp _) (hn.new hp _) (.lst upd_same (hr.mono (hn.same hp _))) h
  | true => exact g F _ _ _ _ (Same.refl F) (hn.newM (x := .lst ds) hp ⟨xs, upd_same, hr⟩) (.cell p) (h p (hn.m_none hp))
def aTup (t : AA) : AE := fun e m Q X => t e m (fun ds m1 => ds.length ≤ sizeLine ∧ Q (.tup ds) m1) X
def aLst (mt : Bool) (t : AA) : AE := fun e m Q X => t e m (fun ds m1 => ds.length ≤ sizeLine ∧ newL mt ds m1 Q) X
variable {tr : AA}
theorem q_tup {x1} (h : QA X es tr) : QE X (.Tuple es x1 pos) (aTup tr) := fun W tk => (pe_tup (h W tk)).imp fun s H Qc h => by
  obtain ⟨F, e, m, r, Q, X, he, hn, h, g, gx⟩ := h
  refine ⟨F, e, m, r, _, X, he, hn, h, fun F1 H1 m1 v d s1 n1 r1 q1 => ?_, gx⟩
  refine ⟨by rw [r1.length]; exact q1.1, fun p hp => ?_⟩
  exact g _ _ m1 _ _ (s1.trans (n1.same hp _)) (n1.new hp _) (.tup (.inl (.inl upd_same)) (r1.mono (n1.same hp _))) q1.2
theorem q_lst (mt : Bool) (h : QA X es tr) : QE X (.List es pos) (aLst mt tr) := fun W tk => (pe_lst (h W tk)).imp fun s H Qc h => by
  obtain ⟨F, e, m, r, Q, X, he, hn, h, g, gx⟩ := h
  refine ⟨F, e, m, r, _, X, he, hn, h, fun F1 H1 m1 v d s1 n1 r1 q1 => ?_, gx⟩
  exact ⟨by rw [r1.length]; exact q1.1, fun p hp => newL_ok n1 r1 q1.2 (g.mono s1) p hp⟩
/-! ### calls of builtins, of methods of builtin types -/
def aCB (b : BA) (t : AA) : AE := fun e m Q X => t e m (fun ds m1 => b ds m1 Q) X
theorem lowA {K : PySem.W.Frag} {W : WX} {t : AA} {rd : List V → Hp → VK → Prop} {b : BA} (hs : SA K rd b) {s : L2.St} {H : Hp} {Qc : VK} (h : cE K W (aCB b t) s H Qc) : tCB rd (cA K W t) s H Qc := by
  obtain ⟨F, e, m, r, Q, X, he, hn, h, g, gx⟩ := h
  exact ⟨F, e, m, r, _, X, he, hn, h, fun F1 H1 m1 v d s1 n1 r1 q1 => hs F1 H1 m1 r v d Q Qc n1 r1 q1 (g.mono s1), gx⟩
variable {id x T name : Str} {rd : List V → Hp → VK → Prop} {bb : BA}
theorem q_callB {id : String} {p : Pos} (hc : CallR X (.builtin id) rd) (hs : SA X.K rd bb) (hm : X.mg x = none) (hv : bootBuiltins x = some (.builtin id)) (ha : QA X (a :: es) tr) (hg : Gl X x := by rfl) (hn : x ≠ "__name__" := by decide) (hdb : (x == ("__debug__" : Str)) = false := by decide)
    (he : starEach (a :: es) X.env = (false, eval a X.env) :: starEach es X.env := by rfl) (hpl : (backTo pos (starEach es X.env)).any (·.1) = false := by rfl) : QE X (.Call (.Name x p) (a :: es) [] pos) (aCB bb tr) :=
  fun W tk => (pe_callB hc hg hm hv (ha W tk) hn hdb he hpl).imp fun _ _ _ h => lowA hs h
theorem q_callTy {T : String} {p : Pos} (hc : CallR X (.type T) rd) (hs : SA X.K rd bb) (hm : X.mg x = none) (hv : bootBuiltins x = some (.type T)) (ha : QA X (a :: es) tr) (hg : Gl X x := by rfl) (hn : x ≠ "__name__" := by decide) (hdb : (x == ("__debug__" : Str)) = false := by decide)
    (he : starEach (a :: es) X.env = (false, eval a X.env) :: starEach es X.env := by rfl) (hpl : (backTo pos (starEach es X.env)).any (·.1) = false := by rfl) : QE X (.Call (.Name x p) (a :: es) [] pos) (aCB bb tr) :=
  fun W tk => (pe_callTy hc hg hm hv (ha W tk) hn hdb he hpl).imp fun _ _ _ h => lowA hs h
end
end Ab
namespace Ab
open PySem PySem.Spec PyProof.Rows L2
/-! ### views -/
def oL : Option MO → Option (List D)
  | some (.lst xs) => some xs
  | _ => none
def oK : Option MO → Option (List (Key × D))
  | some (.dic _ kvs) => some kvs
  | _ => none
def oF : Option MO → Option (Addr × List (Str × D))
  | some (.ins C fs) => some (C, fs)
  | _ => none
def asX (m : Mu) : D → Option (List D)
  | .lst xs => some xs
  | .cell a => oL (m a)
  | _ => none
def asS (m : Mu) : D → Option (List D)
  | .lst xs => some xs
  | .tup xs => some xs
  | .scr ns => some (ns.map D.int)
  | .cell a => oL (m a)
  | _ => none
def asK (m : Mu) : D → Option (List (Key × D))
  | .dic kvs => some kvs
  | .cell a => oK (m a)
  | _ => none
def asF (m : Mu) : D → Option (Addr × List (Str × D))
  | .obj C fs => some (C, fs)
  | .cell a => oF (m a)
  | _ => none
def keyD : D → Option Key
  | .int i => some (.inl i)
  | .str x => some (.inr x)
  | _ => none
section
variable {K : PySem.W.Frag} {F H : Hp} {m : Mu} {r : Hp} {v : V} {d : D}
theorem asX_ok {xs : List D} (hn : Sn K F H m r) (hr : Rep K F v d) (h : asX m d = some xs) : ∃ p vs, v = .ref p ∧ H p = some (.lst vs) ∧ RepL K F vs xs := by
  cases d with
  | lst ys => cases h; cases hr with | lst e q => exact ⟨_, _, rfl, hn.lst e, q⟩
  | cell a =>
    cases hr
    have h : oL (m a) = some xs := h
    cases e : m a with
    | none => rw [e] at h; cases h
    | some o =>
      rw [e] at h
      cases o with
      | lst ys =>
        cases h
        obtain ⟨_, vs, h1, h2⟩ := hn.mu a _ e
        exact ⟨_, _, rfl, h1, h2⟩
      | _ => cases h
  | _ => cases h
theorem rl_ints : ∀ {ns : List Int}, RepL K F (ns.map V.int) (ns.map D.int)
  | [] => .nil
  | _ :: _ => .cons (.int _) rl_ints
theorem asS_ok {xs : List D} (hn : Sn K F H m r) (hr : Rep K F v d) (h : asS m d = some xs) : ∃ p vs, v = .ref p ∧ (SqL K H p vs ∨ SqT K H p vs) ∧ RepL K F vs xs := by
  cases d with
  | lst ys => cases h; cases hr with | lst e q => exact ⟨_, _, rfl, .inl (.inl (.inl (hn.lst e))), q⟩
  | tup ys => cases h; cases hr with | tup e q => exact ⟨_, _, rfl, .inr (hn.sqT e), q⟩
  | scr ns => cases h; cases hr with | scr e => exact ⟨_, _, rfl, .inl (hn.sqL e), rl_ints⟩
  | cell a =>
    obtain ⟨p, vs, e, h1, h2⟩ := asX_ok (xs := xs) hn hr h
    exact ⟨p, vs, e, .inl (.inl (.inl h1)), h2⟩
  | _ => cases h
theorem asK_ok {xs : List (Key × D)} (hn : Sn K F H m r) (hr : Rep K F v d) (h : asK m d = some xs) : ∃ p kvs, v = .ref p ∧ Rd H p (.dK kvs) ∧ RepK K F kvs xs := by
  cases d with
  | dic ys => cases h; cases hr with | dic e q => exact ⟨_, _, rfl, hn.rd (.inl e), q⟩
  | cell a =>
    cases hr
    have h : oK (m a) = some xs := h
    cases e : m a with
    | none => rw [e] at h; cases h
    | some o =>
      rw [e] at h
      cases o with
      | dic lk ys =>
        cases h
        cases lk with
        | false => obtain ⟨_, vs, h1, h2⟩ := hn.mu a _ e; exact ⟨_, _, rfl, .inl h1, h2⟩
        | true => obtain ⟨_, o, vs, h1, h2⟩ := hn.mu a _ e; exact ⟨_, _, rfl, .inr ⟨_, h1⟩, h2⟩
      | _ => cases h
  | _ => cases h
theorem asF_ok {C : Addr} {fs : List (Str × D)} (hn : Sn K F H m r) (hr : Rep K F v d) (h : asF m d = some (C, fs)) : ∃ p dx gs, v = .ref p ∧ H p = some (.ins C dx gs) ∧ RepF K F gs fs := by
  cases d with
  | obj _ _ => cases h; cases hr with | obj e q => exact ⟨_, _, _, rfl, hn.ins e, q⟩
  | cell a =>
    cases hr
    have h : oF (m a) = some (C, fs) := h
    cases e : m a with
    | none => rw [e] at h; cases h
    | some o =>
      rw [e] at h
      cases o with
      | ins _ _ => cases h; obtain ⟨_, dx, gs, h1, h2⟩ := hn.mu a _ e; exact ⟨_, _, _, rfl, h1, h2⟩
      | _ => cases h
  | _ => cases h
theorem key_ok {k : Key} (hr : Rep K F v d) (h : keyD d = some k) : v = kV k := by
  cases d with
  | int i => cases h; cases hr; rfl
  | str x => cases h; cases hr; rfl
  | _ => cases h
theorem Rep.int_inv {i : Int} (h : Rep K F v (.int i)) : v = .int i := by cases h; rfl
theorem Rep.str_inv {x : Str} (h : Rep K F v (.str x)) : v = .str x := by cases h; rfl
theorem Rep.bl_inv {x : Bool} (h : Rep K F v (.bl x)) : v = .bl x := by cases h; rfl
theorem Rep.non_inv (h : Rep K F v .non) : v = .non := by cases h; rfl
end
/-! ### equality of data -/
mutual
def py : D → PyData
  | .non => .none
  | .bl b => .bool b
  | .int i => .int i
  | .str x => .str x
  | .lst xs => .list (pys xs)
  | .tup xs => .tuple (pys xs)
  | _ => .none
def pys : List D → List PyData
  | [] => []
  | x :: xs => py x :: pys xs
end
def eqD (d e : D) : Bool := PyData.eqv (py d) (py e)
inductive OkD : Nat → D → Prop
  | non {n : Nat} : OkD n .non
  | bl {n : Nat} {b : Bool} : OkD n (.bl b)
  | int {n : Nat} {i : Int} : OkD n (.int i)
  | str {n : Nat} {x : Str} : PyData.strOk x = true → OkD n (.str x)
  | lst {n : Nat} {xs : List D} : (∀ x, x ∈ xs → OkD n x) → OkD (n + 1) (.lst xs)
  | tup {n : Nat} {xs : List D} : (∀ x, x ∈ xs → OkD n x) → OkD (n + 1) (.tup xs)
theorem depthAll_le {n : Nat} : ∀ {xs : List PyData}, (∀ x, x ∈ xs → x.depth ≤ n) → PyData.depthAll xs ≤ n
  | [], _ => by unfold PyData.depthAll; omega
  | x :: xs, h => by
    unfold PyData.depthAll
    have h1 := h x (List.mem_cons_self ..)
    have h2 := depthAll_le (xs := xs) fun y hy => h y (List.mem_cons_of_mem _ hy)
    omega
theorem canAll {xs : List PyData} : (∀ x, x ∈ xs → x.canLay0 = true) → PyData.canLayAll0 xs = true := by
  induction xs with
  | nil => intro _; unfold PyData.canLayAll0; rfl
  | cons x xs ih =>
    intro h
    unfold PyData.canLayAll0
    rw [h x (List.mem_cons_self ..), ih fun y hy => h y (List.mem_cons_of_mem _ hy)]; rfl
theorem mem_pys {xs : List D} {y : PyData} (h : y ∈ pys xs) : ∃ x, x ∈ xs ∧ y = py x := by
  induction xs with
  | nil => unfold pys at h; cases h
  | cons x xs ih =>
    unfold pys at h
    rcases List.mem_cons.mp h with h | h
    · exact ⟨x, List.mem_cons_self .., h⟩
    · obtain ⟨z, h1, h2⟩ := ih h; exact ⟨z, List.mem_cons_of_mem _ h1, h2⟩
theorem OkD.shape {n : Nat} {d : D} (h : OkD n d) : (py d).canLay0 = true ∧ (py d).depth ≤ n := by
  induction h with
  | non => exact ⟨by unfold py PyData.canLay0; rfl, by unfold py PyData.depth; omega⟩
  | bl => exact ⟨by unfold py PyData.canLay0; rfl, by unfold py PyData.depth; omega⟩
  | int => exact ⟨by unfold py PyData.canLay0; rfl, by unfold py PyData.depth; omega⟩
  | str hx => exact ⟨by unfold py PyData.canLay0; exact hx, by unfold py PyData.depth; omega⟩
  | lst h ih =>
    refine ⟨?_, ?_⟩
    · unfold py PyData.canLay0
      exact canAll fun y hy => by obtain ⟨x, h1, rfl⟩ := mem_pys hy; exact (ih x h1).1
    · unfold py PyData.depth
      exact Nat.succ_le_succ (depthAll_le fun y hy => by obtain ⟨x, h1, rfl⟩ := mem_pys hy; exact (ih x h1).2)
  | tup h ih =>
    refine ⟨?_, ?_⟩
    · unfold py PyData.canLay0
      exact canAll fun y hy => by obtain ⟨x, h1, rfl⟩ := mem_pys hy; exact (ih x h1).1
    · unfold py PyData.depth
      exact Nat.succ_le_succ (depthAll_le fun y hy => by obtain ⟨x, h1, rfl⟩ := mem_pys hy; exact (ih x h1).2)
theorem OkD.mono {n k : Nat} {d : D} (h : OkD n d) (hk : n ≤ k) : OkD k d := by
  induction h generalizing k with
  | non => exact .non
  | bl => exact .bl
  | int => exact .int
  | str hx => exact .str hx
  | lst h ih => cases k with | zero => omega | succ k => exact .lst fun x hx => ih x hx (by omega)
  | tup h ih => cases k with | zero => omega | succ k => exact .tup fun x hx => ih x hx (by omega)
theorem OkD.shaped {n : Nat} {d : D} (h : OkD n d) (hn : n ≤ 64) : SeqAt.shaped (py d) = true := by
  obtain ⟨h1, h2⟩ := h.shape
  unfold SeqAt.shaped
  rw [h1, decide_eq_true (Nat.le_trans h2 hn)]; rfl
theorem dpAll_of {K : PySem.W.Frag} {F H : Hp} : ∀ {vs : List V} {xs : List D}, RepL K F vs xs → (∀ x, x ∈ xs → ∀ v, Rep K F v x → Dp K H v (py x)) → DpAll K H vs (pys xs)
  | _, _, .nil, _ => by unfold pys; exact .nil
  | _, _, .cons h r, f => by unfold pys; exact .cons (f _ (List.mem_cons_self ..) _ h) (dpAll_of r fun x hx => f x (List.mem_cons_of_mem _ hx))
theorem OkD.dp {K : PySem.W.Frag} {F H : Hp} {m : Mu} {r : Hp} (hn : Sn K F H m r) {n : Nat} {d : D} (h : OkD n d) : ∀ v, Rep K F v d → Dp K H v (py d) := by
  induction h with
  | non => intro v hr; cases hr; unfold py; exact .non
  | bl => intro v hr; cases hr; unfold py; exact .bl _
  | int => intro v hr; cases hr; unfold py; exact .int _
  | str hx => intro v hr; cases hr; unfold py; exact .str _
  | lst h ih => intro v hr; cases hr with | lst e q => unfold py; exact .lst (.inl (.inl (hn.lst e))) (dpAll_of q ih)
  | tup h ih => intro v hr; cases hr with | tup e q => unfold py; exact .tup (hn.sqT e) (dpAll_of q ih)
/-- a cell's list as it stands -/
def vw (m : Mu) : D → D
  | .cell a => (match oL (m a) with | some xs => .lst xs | none => .cell a)
  | d => d
theorem OkD.dpv {K : PySem.W.Frag} {F H : Hp} {m : Mu} {r : Hp} (hn : Sn K F H m r) {n : Nat} {d : D} (h : OkD n (vw m d)) {v : V} (hr : Rep K F v d) : Dp K H v (py (vw m d)) := by
  cases d with
  | cell a =>
    have e2 : vw m (.cell a) = (match oL (m a) with | some xs => .lst xs | none => .cell a) := rfl
    cases e : oL (m a) with
    | none => rw [e2, e] at h; cases h
    | some xs =>
      rw [e2, e] at h ⊢
      obtain ⟨p, vs, rfl, h1, h2⟩ := asX_ok (xs := xs) hn hr e
      show Dp K H _ (py (.lst xs))
      unfold py
      have h' : OkD n (.lst xs) := h
      cases h' with
      | lst h => exact .lst (.inl (.inl h1)) (dpAll_of h2 fun x hx v hv => (h x hx).dp hn v hv)
  | _ => exact h.dp hn v hr
/-! ### the operators -/
section
variable {X : Cx}
def bAdd (mt : Bool) : B2 := fun d e m Q => match d, e with
  | .int i, .int j => Q (.int (i + j)) m
  | .str x, .str y => x.length + y.length ≤ sizeLine ∧ Q (.str (x ++ y)) m
  | d, e => ∃ xs ys, asX m d = some xs ∧ asX m e = some ys ∧ xs.length + ys.length ≤ sizeLine ∧ newL mt (xs ++ ys) m Q
theorem s_add {K : PySem.W.Frag} (mt : Bool) : S2 K (fun x y H Q => rI0 (fun i j => .int (i + j)) x y H Q ∨ ((∃ i j, x = .str i ∧ y = .str j ∧ i.length + j.length ≤ sizeLine ∧ Q (.str (i ++ j)) H) ∨ rCat x y H Q)) (bAdd mt) := by
  intro F H m r v u d e Q Qc hn h1 h2 h g
  unfold bAdd at h
  split at h
  · cases h1; cases h2; exact .inl ⟨_, _, rfl, rfl, g F H m _ _ (Same.refl F) hn (.int _) h⟩
  · cases h1; cases h2; exact .inr (.inl ⟨_, _, rfl, rfl, h.1, g F H m _ _ (Same.refl F) hn (.str _) h.2⟩)
  · obtain ⟨xs, ys, a1, a2, hl, q⟩ := h
    obtain ⟨p, vs, rfl, e1, r1⟩ := asX_ok hn h1 a1
    obtain ⟨p2, vs2, rfl, e2, r2⟩ := asX_ok hn h2 a2
    refine .inr (.inr ⟨p, p2, vs, vs2, rfl, rfl, e1, e2, by rw [r1.length, r2.length]; exact hl, fun p hp => ?_⟩)
    exact newL_ok hn (r1.append r2) q g p hp
/-- ints in, a value out -/
def bI (C : Int → Int → Prop) (f : Int → Int → D) : B2 := fun d e m Q => match d, e with
  | .int i, .int j => C i j ∧ Q (f i j) m
  | _, _ => False
def bI0 (f : Int → Int → D) : B2 := fun d e m Q => match d, e with
  | .int i, .int j => Q (f i j) m
  | _, _ => False
theorem s_I {K : PySem.W.Frag} {C C' : Int → Int → Prop} {f : Int → Int → D} {g : Int → Int → V} (hC : ∀ i j, C' i j → C i j) (hfg : ∀ F i j, Rep K F (g i j) (f i j)) : S2 K (rI C g) (bI C' f) := by
  intro F H m r v u d e Q Qc hn h1 h2 h k
  unfold bI at h
  split at h
  · cases h1; cases h2; exact ⟨_, _, rfl, rfl, hC _ _ h.1, k F H m _ _ (Same.refl F) hn (hfg F _ _) h.2⟩
  · exact h.elim
theorem s_I0 {K : PySem.W.Frag} {f : Int → Int → D} {g : Int → Int → V} (hfg : ∀ F i j, Rep K F (g i j) (f i j)) : S2 K (rI0 g) (bI0 f) := by
  intro F H m r v u d e Q Qc hn h1 h2 h k
  unfold bI0 at h
  split at h
  · cases h1; cases h2; exact ⟨_, _, rfl, rfl, k F H m _ _ (Same.refl F) hn (hfg F _ _) h⟩
  · exact h.elim
def bSub : B2 := bI0 fun i j => .int (i - j)
theorem s_sub {K : PySem.W.Frag} : S2 K (rI0 fun i j => .int (i - j)) bSub := s_I0 fun _ _ _ => .int _
def MulOk (i j : Int) : Prop := CMul i j ∨ CMulX i j
theorem MulOk.ok {i j : Int} (h : MulOk i j) : IntMulOk i j := h.elim CMul.ok CMulX.ok
def bMul : B2 := bI MulOk fun i j => .int (i * j)
theorem o_mul : OpR X (binaryOp .Mult) (rI MulOk fun i j => .int (i * j)) := opI fun _ _ _ _ _ _ _ hc q => mul_int q hc.ok
theorem s_mul {K : PySem.W.Frag} : S2 K (rI MulOk fun i j => .int (i * j)) bMul := s_I (fun _ _ h => h) fun _ _ _ => .int _
def bDiv : B2 := bI CDivW fun i j => .int (i / j)
theorem s_div {K : PySem.W.Frag} : S2 K (rI CDivW fun i j => .int (i / j)) bDiv := s_I (fun _ _ h => h) fun _ _ _ => .int _
def bMod : B2 := bI (fun _ j => 0 < j) fun i j => .int (i % j)
theorem s_mod {K : PySem.W.Frag} : S2 K (rI (fun _ j => 0 < j) fun i j => .int (i % j)) bMod := s_I (fun _ _ h => h) fun _ _ _ => .int _
def bPow : B2 := bI CPow fun i j => .int (i ^ j.toNat)
theorem s_pow {K : PySem.W.Frag} : S2 K (rI CPow fun i j => .int (i ^ j.toNat)) bPow := s_I (fun _ _ h => h) fun _ _ _ => .int _
def bShr : B2 := bI (fun _ j => 0 ≤ j) fun i j => .int (i / 2 ^ j.toNat)
theorem s_shr {K : PySem.W.Frag} : S2 K (rI (fun _ j => 0 ≤ j) fun i j => .int (i / 2 ^ j.toNat)) bShr := s_I (fun _ _ h => h) fun _ _ _ => .int _
/-- i & (2 ^ k - 1) -/
def bAnd : B2 := fun d e m Q => ∃ (i : Int) (k : Nat), d = .int i ∧ e = .int (2 ^ k - 1) ∧ Q (.int (i % 2 ^ k)) m
theorem s_and {K : PySem.W.Frag} : S2 K (fun x y H Q => ∃ (i : Int) (k : Nat), x = .int i ∧ y = .int (2 ^ k - 1) ∧ Q (.int (i % 2 ^ k)) H) bAnd := by
  intro F H m r v u d e Q Qc hn h1 h2 h k
  obtain ⟨i, j, rfl, rfl, q⟩ := h
  cases h1; cases h2
  exact ⟨i, j, rfl, rfl, k F H m _ _ (Same.refl F) hn (.int _) q⟩
def bNeg : B1 := fun d m Q => match d with
  | .int i => Q (.int (-i)) m
  | _ => False
theorem s_neg {K : PySem.W.Frag} : S1 K (rU fun i => .int (-i)) bNeg := by
  intro F H m r v d Q Qc hn h1 h k
  unfold bNeg at h
  split at h
  · cases h1; exact ⟨_, rfl, k F H m _ _ (Same.refl F) hn (.int _) h⟩
  · exact h.elim
/-! comparisons -/
def cI (f : Int → Int → Bool) (g : Str → Str → Bool) : B2 := fun d e m Q => match d, e with
  | .int i, .int j => Q (.bl (f i j)) m
  | .str x, .str y => Q (.bl (g x y)) m
  | _, _ => False
theorem s_cI {K : PySem.W.Frag} {f : Int → Int → Bool} {g : Str → Str → Bool} : S2 K (fun x y H Q => rI0 (fun i j => .bl (f i j)) x y H Q ∨ ∃ i j, x = .str i ∧ y = .str j ∧ Q (.bl (g i j)) H) (cI f g) := by
  intro F H m r v u d e Q Qc hn h1 h2 h k
  unfold cI at h
  split at h
  · cases h1; cases h2; exact .inl ⟨_, _, rfl, rfl, k F H m _ _ (Same.refl F) hn (.bl _) h⟩
  · cases h1; cases h2; exact .inr ⟨_, _, rfl, rfl, k F H m _ _ (Same.refl F) hn (.bl _) h⟩
  · exact h.elim
def bLt : B2 := cI (fun i j => decide (i < j)) fun x y => decide (x.cps.toList < y.cps.toList)
def bLe : B2 := cI (fun i j => decide (i ≤ j)) fun x y => !decide (y.cps.toList < x.cps.toList)
def bGt : B2 := cI (fun i j => decide (j < i)) fun x y => decide (y.cps.toList < x.cps.toList)
def bGe : B2 := cI (fun i j => decide (j ≤ i)) fun x y => !decide (x.cps.toList < y.cps.toList)
/-! rules -/
variable {a b c : Expr} {es : List Expr} {pos : Pos} {ta tb tc : AE}
theorem q_add (mt : Bool) (ha : QE X a ta) (hb : QE X b tb) : QE X (.BinOp a .Add b pos) (aOp (bAdd mt) ta tb) := q_bin (op_add.or (op_add_str.or op_cat)) (s_add mt) ha hb
theorem q_sub (ha : QE X a ta) (hb : QE X b tb) : QE X (.BinOp a .Sub b pos) (aOp bSub ta tb) := q_bin op_sub s_sub ha hb
theorem q_mul (ha : QE X a ta) (hb : QE X b tb) : QE X (.BinOp a .Mult b pos) (aOp bMul ta tb) := q_bin o_mul s_mul ha hb
theorem q_div (ha : QE X a ta) (hb : QE X b tb) : QE X (.BinOp a .FloorDiv b pos) (aOp bDiv ta tb) := q_bin op_fdivW s_div ha hb
theorem q_mod (ha : QE X a ta) (hb : QE X b tb) : QE X (.BinOp a .Mod b pos) (aOp bMod ta tb) := q_bin op_mod s_mod ha hb
theorem q_pow (ha : QE X a ta) (hb : QE X b tb) : QE X (.BinOp a .Pow b pos) (aOp bPow ta tb) := q_bin op_pow s_pow ha hb
theorem q_shr (ha : QE X a ta) (hb : QE X b tb) : QE X (.BinOp a .RShift b pos) (aOp bShr ta tb) := q_bin op_shr s_shr ha hb
theorem q_bitand (ha : QE X a ta) (hb : QE X b tb) : QE X (.BinOp a .BitAnd b pos) (aOp bAnd ta tb) := q_bin op_andM s_and ha hb
theorem q_neg (ha : QE X a ta) : QE X (.UnaryOp .USub a pos) (aOp1 bNeg ta) := q_un un_neg s_neg ha
/-- a comparison: its rule and its reading over data -/
def Cm (X : Cx) (op : CmpOp) (bb : B2) : Prop := ∃ rd, OpR X (compareOp op) rd ∧ S2 X.K rd bb
theorem c_lt : Cm X .Lt bLt := ⟨_, op_lt.or op_lt_str, s_cI⟩
theorem c_le : Cm X .LtE bLe := ⟨_, op_le.or op_le_str, s_cI⟩
theorem c_gt : Cm X .Gt bGt := ⟨_, op_gt.or op_gt_str, s_cI⟩
theorem c_ge : Cm X .GtE bGe := ⟨_, op_ge.or op_ge_str, s_cI⟩
def isN : D → Bool
  | .non => true
  | _ => false
def bIs : B2 := fun d e m Q => e = .non ∧ Q (.bl (isN d)) m
def bIsn : B2 := fun d e m Q => e = .non ∧ Q (.bl (!isN d)) m
theorem isN_ok {K : PySem.W.Frag} {F : Hp} {v : V} {d : D} (h : Rep K F v d) : decide (v = .non) = isN d := by
  cases h <;> rfl
theorem c_is : Cm X .Is bIs := ⟨_, op_isN, fun F H m r v u d e Q Qc hn h1 h2 h k => by
  obtain ⟨rfl, q⟩ := h
  cases h2
  refine ⟨rfl, k F H m _ _ (Same.refl F) hn ?_ q⟩
  rw [← isN_ok h1]; exact .bl _⟩
theorem c_isn : Cm X .IsNot bIsn := ⟨_, op_notN, fun F H m r v u d e Q Qc hn h1 h2 h k => by
  obtain ⟨rfl, q⟩ := h
  cases h2
  refine ⟨rfl, k F H m _ _ (Same.refl F) hn ?_ q⟩
  rw [← isN_ok h1]; exact .bl _⟩
/-- == of data: scalars at once, the rest where it is data -/
def DOk (d : D) : Prop := ∃ n, n ≤ 64 ∧ OkD n d
def bEq : B2 := fun d e m Q => match d, e with
  | .int i, .int j => Q (.bl (decide (i = j))) m
  | .str x, .str y => Q (.bl (decide (x = y))) m
  | .bl x, .bl y => Q (.bl (decide (x = y))) m
  | d, e => DOk (vw m d) ∧ DOk (vw m e) ∧ Q (.bl (eqD (vw m d) (vw m e))) m
def bNe : B2 := fun d e m Q => match d, e with
  | .int i, .int j => Q (.bl (!decide (i = j))) m
  | .str x, .str y => Q (.bl (!decide (x = y))) m
  | .bl x, .bl y => Q (.bl (!decide (x = y))) m
  | d, e => DOk (vw m d) ∧ DOk (vw m e) ∧ Q (.bl (!eqD (vw m d) (vw m e))) m
theorem dec_int (i j : Int) : decide (V.int i = V.int j) = decide (i = j) := by
  by_cases h : i = j
  · subst h; simp
  · rw [decide_eq_false h, decide_eq_false fun q => h (V.int.inj q)]
theorem dec_str (i j : Str) : decide (V.str i = V.str j) = decide (i = j) := by
  by_cases h : i = j
  · subst h; simp
  · rw [decide_eq_false h, decide_eq_false fun q => h (V.str.inj q)]
theorem dec_bl (i j : Bool) : decide (V.bl i = V.bl j) = decide (i = j) := by
  cases i <;> cases j <;> rfl
theorem c_eq (hu : X.A.units + 64 < cLine) : Cm X .Eq bEq := ⟨_, op_eq.or (op_eqD hu), fun F H m r v u d e Q Qc hn h1 h2 h k => by
  unfold bEq at h
  split at h
  · cases h1; cases h2; refine .inl ⟨rfl, ?_⟩; rw [dec_int]; exact k F H m _ _ (Same.refl F) hn (.bl _) h
  · cases h1; cases h2; refine .inl ⟨rfl, ?_⟩; rw [dec_str]; exact k F H m _ _ (Same.refl F) hn (.bl _) h
  · cases h1; cases h2; refine .inl ⟨rfl, ?_⟩; rw [dec_bl]; exact k F H m _ _ (Same.refl F) hn (.bl _) h
  · obtain ⟨⟨n1, l1, o1⟩, ⟨n2, l2, o2⟩, q⟩ := h
    exact .inr ⟨_, _, o1.dpv hn h1, o2.dpv hn h2, o1.shaped l1, o2.shaped l2, k F H m _ _ (Same.refl F) hn (.bl _) q⟩⟩
theorem c_ne (hu : X.A.units + 64 < cLine) : Cm X .NotEq bNe := ⟨_, op_ne.or (op_neD hu), fun F H m r v u d e Q Qc hn h1 h2 h k => by
  unfold bNe at h
  split at h
  · cases h1; cases h2; refine .inl ⟨rfl, ?_⟩; rw [dec_int]; exact k F H m _ _ (Same.refl F) hn (.bl _) h
  · cases h1; cases h2; refine .inl ⟨rfl, ?_⟩; rw [dec_str]; exact k F H m _ _ (Same.refl F) hn (.bl _) h
  · cases h1; cases h2; refine .inl ⟨rfl, ?_⟩; rw [dec_bl]; exact k F H m _ _ (Same.refl F) hn (.bl _) h
  · obtain ⟨⟨n1, l1, o1⟩, ⟨n2, l2, o2⟩, q⟩ := h
    exact .inr ⟨_, _, o1.dpv hn h1, o2.dpv hn h2, o1.shaped l1, o2.shaped l2, k F H m _ _ (Same.refl F) hn (.bl _) q⟩⟩
/-- in: a key of a dict, a sign of a text, a flat thing of a list or tuple -/
def flatD : D → Bool
  | .non => true
  | .bl _ => true
  | .int _ => true
  | .str _ => true
  | _ => false
def inD (d : D) (xs : List D) : Bool := xs.any fun y => eqD y d
def bIn (neg : Bool) : B2 := fun d e m Q => match asK m e with
  | some kvs => ∃ k, keyD d = some k ∧ Q (.bl (if neg then !(lkp kvs k).isSome else (lkp kvs k).isSome)) m
  | none => match e with
    | .str y => ∃ c, d = .str ⟨#[c]⟩ ∧ Q (.bl (if neg then !decide (c ∈ y.cps.toList) else decide (c ∈ y.cps.toList))) m
    | e => ∃ xs, asS m e = some xs ∧ flatD d = true ∧ xs.all flatD = true ∧ Q (.bl (if neg then !inD d xs else inD d xs)) m
def rDIn (neg : Bool) : R2 := fun y x H Q => ∃ a o, x = .ref a ∧ DGet H a y o ∧ Q (.bl (if neg then !o.isSome else o.isSome)) H
theorem op_din (hu : X.A.units + 1 < cLine) : OpR X (compareOp .In) (rDIn false) := by
  intro pins s σ H y x iv u Q I ry rx h
  obtain ⟨a, o, rfl, g, q⟩ := h
  cases rx
  exact d_in hu I g ry fun s3 I3 => ⟨.bl o.isSome, H, I3, rfl, q⟩
theorem op_dnotin (hu : X.A.units + 1 < cLine) : OpR X (compareOp .NotIn) (rDIn true) := by
  intro pins s σ H y x iv u Q I ry rx h
  obtain ⟨a, o, rfl, g, q⟩ := h
  cases rx
  exact d_notIn hu I g ry fun s3 I3 => ⟨.bl (!o.isSome), H, I3, rfl, q⟩
theorem flat_ok {K : PySem.W.Frag} {F : Hp} {v : V} {d : D} (h : Rep K F v d) (hf : flatD d = true) : flatV v = true := by
  cases h <;> first | rfl | cases hf
theorem flat_all {K : PySem.W.Frag} {F : Hp} : ∀ {vs : List V} {xs : List D}, RepL K F vs xs → xs.all flatD = true → vs.all flatV = true
  | _, _, .nil, _ => rfl
  | _, _, .cons h r, q => by
    rw [List.all_cons, Bool.and_eq_true] at q ⊢
    exact ⟨flat_ok h q.1, flat_all r q.2⟩
theorem eqV_ok {K : PySem.W.Frag} {F : Hp} {v u : V} {d e : D} (h : Rep K F v d) (h2 : Rep K F u e) (hf : flatD d = true) (hf2 : flatD e = true) : eqV v u = eqD d e := by
  cases h <;> first | (cases hf; done) | (cases h2 <;> first | (cases hf2; done) | (simp [eqV, eqD, py, PyData.eqv]))
theorem inV_ok {K : PySem.W.Frag} {F : Hp} {v : V} {d : D} (h : Rep K F v d) (hf : flatD d = true) : ∀ {vs : List V} {xs : List D}, RepL K F vs xs → xs.all flatD = true → inV v vs = inD d xs
  | _, _, .nil, _ => rfl
  | _, _, .cons h2 r, q => by
    rw [List.all_cons, Bool.and_eq_true] at q
    have ih := inV_ok h hf r q.2
    unfold inV inD at ih ⊢
    rw [List.any_cons, List.any_cons, ih, eqV_ok h2 h q.1 hf]
theorem s_in {K : PySem.W.Frag} (neg : Bool) : S2 K (fun x y H Q => rDIn neg x y H Q ∨ ((∃ (c : Nat) (z : Str), x = .str ⟨#[c]⟩ ∧ y = .str z ∧ Q (.bl (if neg then !decide (c ∈ z.cps.toList) else decide (c ∈ z.cps.toList))) H) ∨ rIn K neg x y H Q)) (bIn neg) := by
  intro F H m r v u d e Q Qc hn h1 h2 h k
  unfold bIn at h
  split at h
  · rename_i kvs hk
    obtain ⟨key, e1, q⟩ := h
    obtain ⟨p, kvs', rfl, e2, r2⟩ := asK_ok hn h2 hk
    refine .inl ⟨p, _, rfl, .inl ⟨kvs', key, e2, key_ok h1 e1, rfl⟩, ?_⟩
    rw [r2.lkp_isSome]
    exact k F H m _ _ (Same.refl F) hn (.bl _) q
  · split at h
    · obtain ⟨c, rfl, q⟩ := h
      cases h1; cases h2
      exact .inr (.inl ⟨c, _, rfl, rfl, k F H m _ _ (Same.refl F) hn (.bl _) q⟩)
    · obtain ⟨xs, e1, f1, f2, q⟩ := h
      obtain ⟨p, vs, rfl, e2, r2⟩ := asS_ok hn h2 e1
      refine .inr (.inr ⟨p, vs, rfl, e2, flat_ok h1 f1, flat_all r2 f2, ?_⟩)
      rw [inV_ok h1 f1 r2 f2]
      exact k F H m _ _ (Same.refl F) hn (.bl _) q
theorem opr_imp {f : Value → Value → Sem Value} {r r' : R2} (h : OpR X f r) (k : ∀ x y H Q, r' x y H Q → r x y H Q) : OpR X f r' := fun pins s σ H x y v u Q I rx ry q => h pins s σ H x y v u Q I rx ry (k _ _ _ _ q)
theorem c_in (hu : X.A.units + 1 < cLine) : Cm X .In (bIn false) := ⟨_, (op_din hu).or (op_in_sign.or op_in_seq), s_in false⟩
theorem c_notin (hu : X.A.units + 1 < cLine) : Cm X .NotIn (bIn true) := ⟨_, (op_dnotin hu).or (op_notIn_sign.or op_notIn_seq), s_in true⟩
theorem q_c {op : CmpOp} {bb : B2} (h : Cm X op bb) (ha : QE X a ta) (hb : QE X b tb) (hm : behindInMarks op b = false := by first | exact nomark _ | rfl) : QE X (.Compare a [op] [b] pos) (aOp bb ta tb) :=
  let ⟨_, h1, h2⟩ := h; q_cmp h1 h2 ha hb hm
theorem qt_c {op : CmpOp} {bb : B2} (h : Cm X op bb) (ha : QE X a ta) (hb : QE X b tb) (hm : behindInMarks op b = false := by first | exact nomark _ | rfl) : QT X (.Compare a [op] [b] pos) (aB (aOp bb ta tb)) :=
  let ⟨_, h1, h2⟩ := h; qt_cmp h1 h2 ha hb hm
end
end Ab
namespace Ab
open PySem PySem.Spec PyProof.Rows L2
section
variable {X : Cx} {a b c : Expr} {es : List Expr} {pos : Pos} {ta tb tc : AE}
/-! ### chains -/
theorem low_chain {K : PySem.W.Frag} {W : WX} {rd rd' : R2} {b1 b2 : B2} (h1 : S2 K rd b1) (h2 : S2 K rd' b2) {s : L2.St} {H : Hp} {Qc : VK} (h : cE K W (aChain b1 b2 ta tb tc) s H Qc) : tChain rd rd' (cE K W ta) (cE K W tb) (cE K W tc) s H Qc := by
  obtain ⟨F, e, m, r, Q, X, he, hn, h, g, gx⟩ := h
  refine ⟨F, e, m, r, _, X, he, hn, h, fun F1 H1 m1 v d s1 n1 r1 q1 => ?_, gx⟩
  refine ⟨F1, e, m1, r, _, X, he.mono s1, n1, q1, fun F2 H2 m2 u d2 s2 n2 r2 q2 => ?_, gx.mono s1⟩
  refine h1 F2 H2 m2 r v u d d2 _ _ n2 (r1.mono s2) r2 q2 fun F3 H3 m3 z dz s3 n3 r3 q3 => ?_
  obtain ⟨k, rfl, q3⟩ := q3
  cases r3
  refine ⟨k, rfl, ?_⟩
  cases k with
  | false => exact g F3 H3 m3 _ _ (s1.trans (s2.trans s3)) n3 (.bl false) q3
  | true =>
    show cE K W tc s H3 _
    refine ⟨F3, e, m3, r, _, X, he.mono (s1.trans (s2.trans s3)), n3, q3, fun F4 H4 m4 w dw s4 n4 r4 q4 => ?_, gx.mono (s1.trans (s2.trans s3))⟩
    exact h2 F4 H4 m4 r u w d2 dw Q Qc n4 (r2.mono (s3.trans s4)) r4 q4 (g.mono (s1.trans (s2.trans (s3.trans s4))))
theorem q_chain {op op' : CmpOp} {b1 b2 : B2} (h1 : Cm X op b1) (h2 : Cm X op' b2) (ha : QE X a ta) (hb : QE X b tb) (hc : QE X c tc) (hm : lastMarks [op, op'] [b, c] = false := by with_unfolding_all rfl) : QE X (.Compare a [op, op'] [b, c] pos) (aChain b1 b2 ta tb tc) := by
  obtain ⟨r1, o1, s1⟩ := h1
  obtain ⟨r2, o2, s2⟩ := h2
  exact fun W tk => (pe_chain o1 o2 (ha W tk) (hb W tk) (hc W tk) hm).imp fun _ _ _ h => low_chain s1 s2 h
theorem qt_chain {op op' : CmpOp} {b1 b2 : B2} (h1 : Cm X op b1) (h2 : Cm X op' b2) (ha : QE X a ta) (hb : QE X b tb) (hc : QE X c tc) (hm : lastMarks [op, op'] [b, c] = false := by with_unfolding_all rfl) : QT X (.Compare a [op, op'] [b, c] pos) (aB (aChain b1 b2 ta tb tc)) := by
  obtain ⟨r1, o1, s1⟩ := h1
  obtain ⟨r2, o2, s2⟩ := h2
  exact fun W tk => (pt_chain o1 o2 (ha W tk) (hb W tk) (hc W tk) hm).imp fun _ _ _ h => low_chain s1 s2 (cE_of_B h)
/-! ### subscripts -/
theorem ix_dict (hu : X.A.units + 1 < cLine) : IxR X (fun x y H Q => ∃ a v, x = .ref a ∧ DGet H a y (some v) ∧ Q v H) := by
  intro value slice pins s σ H x y v u Q I rx ry h hs
  obtain ⟨p, z, rfl, g, q⟩ := h
  cases rx
  exact tail_any (dict_typeIs I g) PySem.F.slot_dict_getitem.lookup (d_getItem hu I g ry fun w' s3 I3 rw' => ⟨z, H, I3, rw', q⟩) hs
def bIx : B2 := fun d e m Q => match asK m d with
  | some kvs => ∃ k v, keyD e = some k ∧ lkp kvs k = some v ∧ Q v m
  | none => match d with
    | .str x => ∃ i c, e = .int i ∧ x.length ≤ sizeLine ∧ atI x.cps.toList i = some c ∧ Q (.str ⟨#[c]⟩) m
    | d => ∃ xs i v, asS m d = some xs ∧ e = .int i ∧ atI xs i = some v ∧ Q v m
theorem RepL.atI {K : PySem.W.Frag} {F : Hp} {vs : List V} {xs : List D} {i : Int} {d : D} (r : RepL K F vs xs) (h : L2.atI xs i = some d) : ∃ v, L2.atI vs i = some v ∧ Rep K F v d := by
  unfold L2.atI at h ⊢
  rw [r.length]
  cases e : ixN xs.length i with
  | none => rw [e] at h; cases h
  | some j =>
    rw [e] at h
    obtain ⟨v, h1, h2⟩ := r.getD (show xs[j]? = some d from h)
    exact ⟨v, h1, h2⟩
theorem s_ix {K : PySem.W.Frag} : S2 K (fun x y H Q => (∃ a v, x = .ref a ∧ DGet H a y (some v) ∧ Q v H) ∨ rIx K x y H Q) bIx := by
  intro F H m r v u d e Q Qc hn h1 h2 h k
  unfold bIx at h
  split at h
  · rename_i kvs hk
    obtain ⟨key, z, e1, e3, q⟩ := h
    obtain ⟨p, kvs', rfl, e2, r2⟩ := asK_ok hn h1 hk
    obtain ⟨w, e4, rw⟩ := r2.lkp_some e3
    exact .inl ⟨p, w, rfl, .inl ⟨kvs', key, e2, key_ok h2 e1, e4.symm⟩, k F H m _ _ (Same.refl F) hn rw q⟩
  · split at h
    · obtain ⟨i, c, rfl, hl, ha, q⟩ := h
      cases h1; cases h2
      exact .inr (.inr (.inr ⟨_, i, c, rfl, rfl, hl, ha, k F H m _ _ (Same.refl F) hn (.str _) q⟩))
    · obtain ⟨xs, i, z, e1, rfl, ha, q⟩ := h
      obtain ⟨p, vs, rfl, e2, r2⟩ := asS_ok hn h1 e1
      cases h2
      obtain ⟨w, e4, rw⟩ := r2.atI ha
      rcases e2 with e2 | e2
      · exact .inr (.inl ⟨p, vs, i, w, rfl, rfl, e2, e4, k F H m _ _ (Same.refl F) hn rw q⟩)
      · exact .inr (.inr (.inl ⟨p, vs, i, w, rfl, rfl, e2, e4, k F H m _ _ (Same.refl F) hn rw q⟩))
theorem q_ix (hu : X.A.units + 1 < cLine) (ha : QE X a ta) (hb : QE X b tb) (hs : PlainIx b := by exact fun _ _ => rfl) : QE X (.Subscript a b pos) (aOp bIx ta tb) :=
  fun W tk => (pe_ix ((ix_dict hu).or ix_seq) (ha W tk) (hb W tk) hs).imp fun _ _ _ h => low2 s_ix h
/-! ### slices -/
abbrev AO := De → Mu → (Option Int → Mu → Prop) → XA → Prop
def aNoP : AO := fun _ m Q _ => Q none m
def aP (t : AE) : AO := fun e m Q X => t e m (fun d m1 => ∃ i, d = .int i ∧ Q (some i) m1) X
def asLL (m : Mu) : D → Option (List D)
  | .lst xs => some xs
  | .scr ns => some (ns.map D.int)
  | .cell a => oL (m a)
  | _ => none
theorem asLL_ok {K : PySem.W.Frag} {F H : Hp} {m : Mu} {r : Hp} {v : V} {d : D} {xs : List D} (hn : Sn K F H m r) (hr : Rep K F v d) (h : asLL m d = some xs) : ∃ p vs, v = .ref p ∧ SqL K H p vs ∧ RepL K F vs xs := by
  cases d with
  | lst ys => cases h; cases hr with | lst e q => exact ⟨_, _, rfl, .inl (.inl (hn.lst e)), q⟩
  | scr ns => cases h; cases hr with | scr e => exact ⟨_, _, rfl, hn.sqL e, rl_ints⟩
  | cell a =>
    obtain ⟨p, vs, e, h1, h2⟩ := asX_ok (xs := xs) hn hr h
    exact ⟨p, vs, e, .inl (.inl h1), h2⟩
  | _ => cases h
def cut {α : Type} (xs : List α) (lo hi : Option Int) : List α := (xs.drop (HT.sIx xs.length 0 lo)).take (HT.sIx xs.length xs.length hi - HT.sIx xs.length 0 lo)
theorem RepL.cut {K : PySem.W.Frag} {F : Hp} {vs : List V} {xs : List D} {lo hi : Option Int} (r : RepL K F vs xs) : RepL K F (cutV vs lo hi) (cut xs lo hi) := by
  unfold cutV Ab.cut
  rw [r.length]
  exact (r.drop _).take _
def bSl (mt : Bool) (d : D) (lo hi : Option Int) (m : Mu) (Q : QD) : Prop := match d with
  | .str x => x.length ≤ sizeLine ∧ Q (.str (cutS x lo hi)) m
  | .tup xs => ¬ (HT.sIx xs.length 0 lo = 0 ∧ HT.sIx xs.length xs.length hi = xs.length) ∧ Q (.tup (cut xs lo hi)) m
  | d => ∃ xs, asLL m d = some xs ∧ newL mt (cut xs lo hi) m Q
def aSl (mt : Bool) (t : AE) (lo hi : AO) : AE := fun e m Q X => t e m (fun d m1 => lo e m1 (fun l m2 => hi e m2 (fun h m3 => bSl mt d l h m3 Q) X) X) X
def cO (K : PySem.W.Frag) (W : WX) (a : AO) : TO := fun s H Qc => ∃ F e m r Q X, EnvOk K F s e ∧ Sn K F H m r ∧ a e m Q X ∧ (∀ F' H' m' o, Same F F' → Sn K F' H' m' r → Q o m' → Qc o H') ∧ GX K F r s X W
def QO (X : Cx) (e : Option Expr) (a : AO) : Prop := ∀ W, Takes X W → PO X e (cO X.K W a)
theorem qo_none : QO X none aNoP := fun W tk => ⟨fun pins s σ H Q I h => po_none.run pins s σ H Q I (by
  obtain ⟨F, e, m, r, Q, X, he, hn, h, g, gx⟩ := h
  exact g F H m none (Same.refl F) hn h)⟩
theorem qo_some (ha : QE X a ta) : QO X (some a) (aP ta) := fun W tk => ⟨fun pins s σ H Q I h => (po_some (ha W tk)).run pins s σ H Q I (by
  obtain ⟨F, e, m, r, Q, X, he, hn, h, g, gx⟩ := h
  refine ⟨F, e, m, r, _, X, he, hn, h, fun F1 H1 m1 v d s1 n1 r1 q1 => ?_, gx⟩
  obtain ⟨i, rfl, q⟩ := q1
  cases r1
  exact ⟨i, rfl, g F1 H1 m1 _ s1 n1 q⟩)⟩
theorem q_slice (mt : Bool) {lo hi : Option Expr} {tl th : AO} {p2 : Pos} (ha : QE X a ta) (hl : QO X lo tl) (hh : QO X hi th) : QE X (.Subscript a (.Slice lo hi none p2) pos) (aSl mt ta tl th) :=
  fun W tk => (pe_slice (sl_list.or (sl_str.or sl_tup)) (ha W tk) (hl W tk) (hh W tk)).imp fun s H Qc h => by
    obtain ⟨F, e, m, r, Q, X, he, hn, h, g, gx⟩ := h
    refine ⟨F, e, m, r, _, X, he, hn, h, fun F1 H1 m1 v d s1 n1 r1 q1 => ?_, gx⟩
    refine ⟨F1, e, m1, r, _, X, he.mono s1, n1, q1, fun F2 H2 m2 l s2 n2 q2 => ?_, gx.mono s1⟩
    refine ⟨F2, e, m2, r, _, X, he.mono (s1.trans s2), n2, q2, fun F3 H3 m3 u s3 n3 q3 => ?_, gx.mono (s1.trans s2)⟩
    have r3 := r1.mono (s2.trans s3)
    have g3 := g.mono (s1.trans (s2.trans s3))
    unfold bSl at q3
    split at q3
    · cases r3; exact .inr (.inl ⟨_, rfl, q3.1, g3 F3 H3 m3 _ _ (Same.refl _) n3 (.str _) q3.2⟩)
    · cases r3 with
      | tup e1 q =>
        refine .inr (.inr ⟨_, _, rfl, n3.sqT e1, by rw [q.length]; exact q3.1, fun p hp => ?_⟩)
        exact g3 _ _ m3 _ _ (n3.same hp _) (n3.new hp _) (.tup (.inl (.inl upd_same)) (q.cut.mono (n3.same hp _))) q3.2
    · obtain ⟨xs, e1, q⟩ := q3
      obtain ⟨p, vs, rfl, e2, r2⟩ := asLL_ok n3 r3 e1
      exact .inl ⟨p, vs, rfl, e2, fun p hp => newL_ok n3 r2.cut q g3 p hp⟩
/-! ### attributes -/
structure OkC (K : PySem.W.Frag) (C : Addr) (f : Str) : Prop where
  c : Cls K C
  n : NoAttr K C f
def aFld (K : PySem.W.Frag) (f : Str) (t : AE) : AE := fun e m Q X => t e m (fun d m1 => ∃ C fs v, asF m1 d = some (C, fs) ∧ OkC K C f ∧ fs.lookup f = some v ∧ Q v m1) X
theorem q_fld {f : Str} (ha : QE X a ta) (hb : attributeBase a f X.env (eval a X.env) = eval a X.env := by rfl) : QE X (.Attribute a f pos) (aFld X.K f ta) :=
  fun W tk => (pe_fld (ha W tk) hb).imp fun s H Qc h => by
    obtain ⟨F, e, m, r, Q, X, he, hn, h, g, gx⟩ := h
    refine ⟨F, e, m, r, _, X, he, hn, h, fun F1 H1 m1 v d s1 n1 r1 q1 => ?_, gx⟩
    obtain ⟨C, fs, z, e1, ok, e2, q⟩ := q1
    obtain ⟨p, dx, gs, rfl, e3, r3⟩ := asF_ok n1 r1 e1
    obtain ⟨w, e4, rw⟩ := r3.look e2
    exact ⟨p, C, dx, gs, w, rfl, e3, ok.c, ok.n, e4, g F1 H1 m1 _ _ s1 n1 rw q⟩
/-! ### calls of defs -/
/-- a def's promise over data -/
abbrev ASp := List D → Mu → QD → XA → Prop
def spOf (K : PySem.W.Frag) (a : ASp) : Sp := fun vs H Q E => ∃ F m r ds AQ AX, Sn K F H m r ∧ RepL K F vs ds ∧ a ds m AQ AX ∧ GE K F r AQ Q ∧
  (∀ F' H' m' cls dd x, Same F F' → Sn K F' H' m' r → RepX K F' H' m' cls dd x → AX x m' → E cls dd H')
def aCall (sp : ASp) (dvs : List D) (t : AA) : AE := fun e m Q X => t e m (fun ds m1 => sp (ds ++ dvs) m1 Q X) X
theorem low_call {K : PySem.W.Frag} {W : WX} {t : AA} {sp : ASp} {dvs : List D} {dv : List V} (hd : ∀ F, RepL K F dv dvs) {s : L2.St} {H : Hp} {Qc : VK} (h : cE K W (aCall sp dvs t) s H Qc) :
    tCallSD (spOf K sp) dv (fun s c d H => W c d s H) (cA K W t) s H Qc := by
  obtain ⟨F, e, m, r, Q, X, he, hn, h, g, gx⟩ := h
  refine ⟨F, e, m, r, _, X, he, hn, h, fun F1 H1 m1 v d s1 n1 r1 q1 => ?_, gx⟩
  exact ⟨F1, m1, r, _, Q, X, n1, r1.append (hd F1), q1, g.mono s1, gx.mono s1⟩
/-- a def as it stands behind the top -/
structure Df (P : Program) (w : World) (K : PySem.W.Frag) (mg : Str → Option Value) (base : Heap) (k : Nat) (x : Str) (dvs : List D) (sp : ASp) : Prop where
  ex : ∃ (f : Addr) (fd : FuncData) (ps : List Str) (dv : List V) (ds : List Value), FnOk P w K mg base (L2.CX P w) k f fd ps (spOf K sp) ∧ mg x = some (.ref f) ∧ PySem.W.keepIn K (.ref f) = true ∧ Binds K fd ps ds ∧ Vals dv ds ∧ ∀ F, RepL K F dv dvs
theorem q_call {k j : Nat} {x : Str} {dvs : List D} {sp : ASp} {t : AA} {p : Pos} (G : Df X.prog X.w X.K X.mg X.base k x dvs sp) (hr : Room j X.A) (hk : k ≤ j) (ha : QA X (a :: es) t) (hg : Gl X x := by rfl) (hdb : (x == ("__debug__" : Str)) = false := by decide)
    (he : starEach (a :: es) X.env = (false, eval a X.env) :: starEach es X.env := by rfl) (hpl : (backTo pos (starEach es X.env)).any (·.1) = false := by rfl) : QE X (.Call (.Name x p) (a :: es) [] pos) (aCall sp dvs t) := by
  obtain ⟨f, fd, ps, dv, ds, F, hm, hkp, hb, hv, hd⟩ := G.ex
  exact fun W tk => (pe_callSD F (hr.mono hk) hg hm hkp hb hv (fun s => passAt tk s) (ha W tk) hdb he hpl).imp fun s H Qc h => low_call hd h
/-! ### calls of methods: the class of the receiver tells which -/
structure Mt (P : Program) (w : World) (K : PySem.W.Frag) (mg : Str → Option Value) (base : Heap) (k : Nat) (m : Str) (C : Addr) (dvs : List D) (sp : ASp) : Prop where
  ex : ∃ (f : Addr) (fd : FuncData) (ps : List Str) (dv : List V) (ds : List Value), FnOk P w K mg base (L2.CX P w) k f fd ps (spOf K sp) ∧ Cls K C ∧ Meth K C m f ∧ Binds K fd ps ds ∧ Vals dv ds ∧ ∀ F, RepL K F dv dvs
/-- T: each class with its defaults and its promise -/
def aMeth (m : Str) (T : List (Addr × List D × ASp)) (t : AE) (u : AA) : AE := fun e mu Q X => t e mu (fun d m1 => ∃ C fs dvs sp, asF m1 d = some (C, fs) ∧ fs.lookup m = none ∧ (C, dvs, sp) ∈ T ∧ u e m1 (fun ds m2 => sp (d :: (ds ++ dvs)) m2 Q X) X) X
def tMethP (m : Str) (Has : Addr → Sp → List V → Prop) (E : L2.St → XK) (ta : TE) (t : TA) : TE := fun s H Q => ta s H fun x H1 => ∃ a C dx fs sp dv, x = .ref a ∧ H1 a = some (.ins C dx fs) ∧ fs.lookup m = none ∧ Has C sp dv ∧
  t s H1 fun vs H2 => sp (x :: (vs ++ dv)) H2 Q (E s)
theorem pe_methP {pl : Sem Bool} {k : Nat} {m : Str} {o e : Expr} {ta : TE} {t : TA} {apos : Pos} {Has : Addr → Sp → List V → Prop} {E : L2.St → XK} (he : PE X o ta) (hr : Room k X.A)
    (hT : ∀ C sp dv, Has C sp dv → ∃ (f : Addr) (fd : FuncData) (ps : List Str) (ds : List Value), FnOk X.prog X.w X.K X.mg X.base (L2.CX X.prog X.w) k f fd ps sp ∧ Cls X.K C ∧ Meth X.K C m f ∧ Binds X.K fd ps ds ∧ Vals dv ds)
    (hx : ∀ s, PassesAt (L2.CX X.prog X.w) X s (E s)) (ha : PA X (e :: es) t)
    (hst : starEach (e :: es) X.env = (false, eval e X.env) :: starEach es X.env := by rfl) (hpl : (backTo pos (starEach es X.env)).any (·.1) = false := by rfl)
    (ht : eval (.Call (.Attribute o m apos) (e :: es) [] pos) X.env = (do
      let ov ← eval o X.env
      standAt apos.atName
      let (f, first) ← holding [ov] (getMethod ov m pl)
      callWith pos f first (backTo pos (starEach (e :: es) X.env)) (backToKw pos (keywordEach [] X.env))) := by rfl) :
    PE X (.Call (.Attribute o m apos) (e :: es) [] pos) (tMethP m Has E ta t) := by
  refine ⟨fun pins s σ H Q I h => ?_⟩
  refine PySem.W.methodCall_KW (pl := pl) (thn (he.run pins s σ H _ I h) fun u s1 ⟨x, H1, I1, rx, a, C, dx, fs, sp, dv, ex, ea, l, hh, q⟩ => ?_) ht
  subst ex
  obtain rfl : u = Value.ref a := rx
  obtain ⟨f, fd, ps, ds, F, c, hm, hb, hd⟩ := hT C sp dv hh
  refine getmeth_ok I1 ea c hm l ?_
  refine PySem.W.callWith_K (first := [.ref a]) (h₀ := X.base) I.ok.mod.kin hm.kp (thn (ha.run pos pins s1 σ H1 _ I1 q) fun us s2 ⟨vs, H2, I2, r, q2⟩ => ⟨I2.kIn, ?_⟩) hst hpl
  exact run_fnSD (us := .ref a :: us) (vs := .ref a :: vs) F hr hb hd (hx σ) I2 (.cons rfl r) q2
theorem pe_methP0 {pl : Sem Bool} {k : Nat} {m : Str} {o : Expr} {ta : TE} {apos : Pos} {Has : Addr → Sp → List V → Prop} {E : L2.St → XK} (he : PE X o ta) (hr : Room k X.A)
    (hT : ∀ C sp dv, Has C sp dv → ∃ (f : Addr) (fd : FuncData) (ps : List Str) (ds : List Value), FnOk X.prog X.w X.K X.mg X.base (L2.CX X.prog X.w) k f fd ps sp ∧ Cls X.K C ∧ Meth X.K C m f ∧ Binds X.K fd ps ds ∧ Vals dv ds)
    (hx : ∀ s, PassesAt (L2.CX X.prog X.w) X s (E s))
    (ht : eval (.Call (.Attribute o m apos) [] [] pos) X.env = (do
      let ov ← eval o X.env
      standAt apos.atName
      let (f, first) ← holding [ov] (getMethod ov m pl)
      callWith pos f first (backTo pos (starEach [] X.env)) (backToKw pos (keywordEach [] X.env))) := by rfl) :
    PE X (.Call (.Attribute o m apos) [] [] pos) (tMethP m Has E ta tNil) := by
  refine ⟨fun pins s σ H Q I h => ?_⟩
  refine PySem.W.methodCall_KW (pl := pl) (thn (he.run pins s σ H _ I h) fun u s1 ⟨x, H1, I1, rx, a, C, dx, fs, sp, dv, ex, ea, l, hh, q⟩ => ?_) ht
  subst ex
  obtain rfl : u = Value.ref a := rx
  obtain ⟨f, fd, ps, ds, F, c, hm, hb, hd⟩ := hT C sp dv hh
  refine getmeth_ok I1 ea c hm l ?_
  exact PySem.W.callWith_K0 (first := [.ref a]) I1.kIn hm.kp (run_fnSD (us := [.ref a]) (vs := [.ref a]) F hr hb hd (hx σ) I1 (.cons rfl .nil) q)
/-- the table's methods stand -/
def MtT (P : Program) (w : World) (K : PySem.W.Frag) (mg : Str → Option Value) (base : Heap) (k : Nat) (m : Str) (T : List (Addr × List D × ASp)) : Prop := ∀ C dvs sp, (C, dvs, sp) ∈ T → Mt P w K mg base k m C dvs sp
theorem mt_has {k : Nat} {m : Str} {T : List (Addr × List D × ASp)} (h : MtT X.prog X.w X.K X.mg X.base k m T) {j : Nat} (hk : k ≤ j) : ∃ Has : Addr → Sp → List V → Prop,
    (∀ C sp dv, Has C sp dv → ∃ (f : Addr) (fd : FuncData) (ps : List Str) (ds : List Value), FnOk X.prog X.w X.K X.mg X.base (L2.CX X.prog X.w) j f fd ps sp ∧ Cls X.K C ∧ Meth X.K C m f ∧ Binds X.K fd ps ds ∧ Vals dv ds) ∧
    ∀ C dvs a, (C, dvs, a) ∈ T → ∃ dv, Has C (spOf X.K a) dv ∧ ∀ F, RepL X.K F dv dvs :=
  ⟨fun C sp dv => ∃ (f : Addr) (fd : FuncData) (ps : List Str) (ds : List Value), FnOk X.prog X.w X.K X.mg X.base (L2.CX X.prog X.w) j f fd ps sp ∧ Cls X.K C ∧ Meth X.K C m f ∧ Binds X.K fd ps ds ∧ Vals dv ds,
    fun _ _ _ z => z, fun C dvs a hm => let ⟨f, fd, ps, dv, ds, F, c, me, b, v, r⟩ := (h C dvs a hm).ex; ⟨dv, ⟨f, fd, ps, ds, F.mono hk, c, me, b, v⟩, r⟩⟩
theorem low_meth {K : PySem.W.Frag} {W : WX} {m : Str} {T : List (Addr × List D × ASp)} {t : AA} {Has : Addr → Sp → List V → Prop} (hH : ∀ C dvs a, (C, dvs, a) ∈ T → ∃ dv, Has C (spOf K a) dv ∧ ∀ F, RepL K F dv dvs) {s : L2.St} {H : Hp} {Qc : VK}
    (h : cE K W (aMeth m T ta t) s H Qc) : tMethP m Has (fun s c d H => W c d s H) (cE K W ta) (cA K W t) s H Qc := by
  obtain ⟨F, e, mu, r, Q, X, he, hn, h, g, gx⟩ := h
  refine ⟨F, e, mu, r, _, X, he, hn, h, fun F1 H1 m1 v d s1 n1 r1 q1 => ?_, gx⟩
  obtain ⟨C, fs, dvs, sp, e1, l, hT, q⟩ := q1
  obtain ⟨p, dx, gs, rfl, e3, r3⟩ := asF_ok n1 r1 e1
  obtain ⟨dv, hh, rd⟩ := hH C dvs sp hT
  refine ⟨p, C, dx, gs, _, dv, rfl, e3, r3.look_none l, hh, ?_⟩
  refine ⟨F1, e, m1, r, _, X, he.mono s1, n1, q, fun F2 H2 m2 vs ds s2 n2 r2 q2 => ?_, gx.mono s1⟩
  exact ⟨F2, m2, r, _, Q, X, n2, .cons (r1.mono s2) (r2.append (rd F2)), q2, g.mono (s1.trans s2), gx.mono (s1.trans s2)⟩
theorem q_meth {pl : Sem Bool} {k j : Nat} {m : Str} {T : List (Addr × List D × ASp)} {o e : Expr} {t : AA} {apos : Pos} (hT : MtT X.prog X.w X.K X.mg X.base k m T) (hr : Room j X.A) (hk : k ≤ j) (ho : QE X o ta) (ha : QA X (e :: es) t)
    (hst : starEach (e :: es) X.env = (false, eval e X.env) :: starEach es X.env := by rfl) (hpl : (backTo pos (starEach es X.env)).any (·.1) = false := by rfl)
    (ht : eval (.Call (.Attribute o m apos) (e :: es) [] pos) X.env = (do
      let ov ← eval o X.env
      standAt apos.atName
      let (f, first) ← holding [ov] (getMethod ov m pl)
      callWith pos f first (backTo pos (starEach (e :: es) X.env)) (backToKw pos (keywordEach [] X.env))) := by rfl) :
    QE X (.Call (.Attribute o m apos) (e :: es) [] pos) (aMeth m T ta t) := by
  obtain ⟨Has, h1, h2⟩ := mt_has hT hk
  exact fun W tk => (pe_methP (pl := pl) (Has := Has) (ho W tk) hr h1 (fun s => passAt tk s) (ha W tk) hst hpl ht).imp fun s H Qc h => low_meth h2 h
theorem q_meth0 {pl : Sem Bool} {k j : Nat} {m : Str} {T : List (Addr × List D × ASp)} {o : Expr} {apos : Pos} (hT : MtT X.prog X.w X.K X.mg X.base k m T) (hr : Room j X.A) (hk : k ≤ j) (ho : QE X o ta)
    (ht : eval (.Call (.Attribute o m apos) [] [] pos) X.env = (do
      let ov ← eval o X.env
      standAt apos.atName
      let (f, first) ← holding [ov] (getMethod ov m pl)
      callWith pos f first (backTo pos (starEach [] X.env)) (backToKw pos (keywordEach [] X.env))) := by rfl) :
    QE X (.Call (.Attribute o m apos) [] [] pos) (aMeth m T ta aNil) := by
  obtain ⟨Has, h1, h2⟩ := mt_has hT hk
  refine fun W tk => (pe_methP0 (pl := pl) (Has := Has) (ho W tk) hr h1 (fun s => passAt tk s) ht).imp fun s H Qc h => ?_
  obtain ⟨F, e, mu, r, Q, X, he, hn, h, g, gx⟩ := h
  refine ⟨F, e, mu, r, _, X, he, hn, h, fun F1 H1 m1 v d s1 n1 r1 q1 => ?_, gx⟩
  obtain ⟨C, fs, dvs, sp, e1, l, hT, q⟩ := q1
  obtain ⟨p, dx, gs, rfl, e3, r3⟩ := asF_ok n1 r1 e1
  obtain ⟨dv, hh, rd⟩ := h2 C dvs sp hT
  exact ⟨p, C, dx, gs, _, dv, rfl, e3, r3.look_none l, hh, F1, m1, r, _, Q, X, n1, .cons r1 (rd F1), q, g.mono s1, gx.mono s1⟩
/-! ### a new instance -/
def aMake (C : Addr) (sp : ASp) (dvs : List D) (t : AA) : AE := fun e m Q X => t e m (fun ds m1 => ∀ x, m1 x = none → sp (.cell x :: (ds ++ dvs)) (mset m1 x (.ins C [])) (fun d m2 => d = .non ∧ Q (.cell x) m2) X) X
structure Mkr (P : Program) (w : World) (K : PySem.W.Frag) (mg : Str → Option Value) (base : Heap) (k : Nat) (x : Str) (C : Addr) (dvs : List D) (sp : ASp) : Prop where
  ex : ∃ (f : Addr) (fd : FuncData) (ps : List Str) (dv : List V) (ds : List Value), FnOk P w K mg base (L2.CX P w) k f fd ps (spOf K sp) ∧ mg x = some (.ref C) ∧ Mk K C f ∧ Binds K fd ps ds ∧ Vals dv ds ∧ ∀ F, RepL K F dv dvs
theorem run_makeSD {k : Nat} {f C : Addr} {fd : FuncData} {ps : List Str} {sp : Sp} {dvs : List V} {ds : List Value} {E : XK} {pins : List (Addr × Obj)} {σ : L2.St} {H : Hp} {s : Shared} {Q : VK} {us : List Value} {vs : List V} (M : Mk X.K C f) (F : FnOk X.prog X.w X.K X.mg X.base (L2.CX X.prog X.w) k f fd ps sp) (hr : Room (k + 1) X.A) (hb : Binds X.K fd ps ds) (hd : Vals dvs ds)
    (hx : PassesAt (L2.CX X.prog X.w) X σ E) (I : Inv X pins σ H s) (r : Vals vs us)
    (h : ∀ x dx, H x = none → H dx = none → dx ≠ x → sp (.ref x :: (vs ++ dvs)) (upd (upd H dx (.own x)) x (.ins C dx [])) (fun v H2 => v = .non ∧ Q (.ref x) H2) E) :
    wpAny (model X.prog X.w) X.A (call (.ref C) us) (EP X pins σ Q) X.xe s := by
  have hq := h (s.heap.objs.size + 1) s.heap.objs.size (I.hok.fresh (Nat.le_succ _)) (I.hok.fresh (Nat.le_refl _)) (Nat.ne_of_lt (Nat.lt_succ_self _))
  have I2 := Inv.made (C := C) I
  have r2 : Vals (V.ref (s.heap.objs.size + 1) :: (vs ++ dvs)) (Value.ref (s.heap.objs.size + 1) :: (us ++ ds)) := .cons rfl (r.append hd)
  have hl : (Value.ref (s.heap.objs.size + 1) :: us ++ ds).length = ps.length := by
    have e := r2.length
    rw [F.len _ _ _ _ hq] at e
    exact e.symm
  refine wpAny_call (make_map (f := f) I.kIn M.makes M.init (beq_iff_eq.mp M.fn) (codeAny_mono (F.run _ X.stack _ _ ⟨Value.ref (s.heap.objs.size + 1) :: us, []⟩ (Value.ref (s.heap.objs.size + 1) :: (us ++ ds)) _ _ E (hr.make C us [])
    (I2.env0.make C us []) (hb _ (Value.ref (s.heap.objs.size + 1) :: us) I2.kIn hl) r2 hq) fun r s' hq' => ?_))
  cases r with
  | error e => exact hx pins _ _ e s' I2 hq'
  | ok fl =>
    cases fl with
    | ret u =>
      obtain ⟨v, H', I3, rv, ev, q3⟩ := I2.after hq'
      subst ev
      exact ⟨rv, ⟨V.ref (s.heap.objs.size + 1), H', I3, rfl, q3⟩⟩
    | next => exact False.elim hq'
    | brk => exact False.elim hq'
    | cont => exact False.elim hq'
def tMakeSD (C : Addr) (sp : Sp) (dvs : List V) (E : L2.St → XK) (t : TA) : TE := fun σ H Q => t σ H fun vs H1 => ∀ x dx, H1 x = none → H1 dx = none → dx ≠ x →
  sp (.ref x :: (vs ++ dvs)) (upd (upd H1 dx (.own x)) x (.ins C dx [])) (fun v H2 => v = .non ∧ Q (.ref x) H2) (E σ)
theorem q_make {k j : Nat} {x : Str} {C : Addr} {dvs : List D} {sp : ASp} {t : AA} {p : Pos} (G : Mkr X.prog X.w X.K X.mg X.base k x C dvs sp) (hr : Room j X.A) (hk : k + 1 ≤ j) (ha : QA X (a :: es) t) (hg : Gl X x := by rfl) (hdb : (x == ("__debug__" : Str)) = false := by decide)
    (he : starEach (a :: es) X.env = (false, eval a X.env) :: starEach es X.env := by rfl) (hpl : (backTo pos (starEach es X.env)).any (·.1) = false := by rfl) : QE X (.Call (.Name x p) (a :: es) [] pos) (aMake C sp dvs t) := by
  obtain ⟨f, fd, ps, dv, ds, F, hm, M, hb, hv, hd⟩ := G.ex
  refine fun W tk => PE.imp (t := tMakeSD C (spOf X.K sp) dv (fun s c d H => W c d s H) (cA X.K W t)) ⟨fun pins s σ H Q I h => ?_⟩ fun s H Qc h => ?_
  · refine wpAny_Call_Name_kw (ld_glob I hg hm ?_ hdb)
    refine PySem.W.callWith_K (h₀ := X.base) I.ok.mod.kin M.kp (thn ((ha W tk).run pos pins s σ H _ I h) fun us s1 ⟨vs, H1, I1, r, q⟩ => ⟨I1.kIn, ?_⟩) he hpl
    exact run_makeSD M F (hr.mono hk) hb hv (passAt tk σ) I1 r q
  · obtain ⟨F, e, m, r, Q, X, he, hn, h, g, gx⟩ := h
    refine ⟨F, e, m, r, _, X, he, hn, h, fun F1 H1 m1 vs ds s1 n1 r1 q1 => fun x dx hx hdx ne => ?_, gx⟩
    have n2 := (n1.newG hdx (.own x)).newM (p := x) (o := .ins C dx []) (x := .ins C []) (by rw [upd_ne (Ne.symm ne)]; exact hx) ⟨dx, [], upd_same, .nil⟩
    refine ⟨F1, _, r, _, _, X, n2, .cons (.cell x) (r1.append (hd F1)), q1 x (n1.m_none hx), fun F2 H2 m2 v d s2 nn2 r2 q2 => ?_, gx.mono s1⟩
    obtain ⟨rfl, q2⟩ := q2
    cases r2
    exact ⟨rfl, g F2 H2 m2 _ _ (s1.trans s2) nn2 (.cell x) q2⟩
end
end Ab
namespace Ab
open PySem PySem.Spec PyProof.Rows L2
section
variable {X : Cx} {a b c : Expr} {es : List Expr} {pos : Pos} {ta tb tc : AE} {st : Stmt} {rest : List Stmt} {t u : AS} {tt : AT}
/-! ### blocks -/
def aNext : AS := fun A e m => A.nx e m
def aSeq (t u : AS) : AS := fun A e m => t { A with nx := u A } e m
def aBreak : AS := fun A e m => A.bk e m
def aCont : AS := fun A e m => A.ct e m
theorem qss_nil : QSs X [] aNext := fun W tk po => pss_nil.imp fun D s H ⟨F, e, m, r, A, he, hn, h, g⟩ => g.nx F H m s e (Same.refl F) he hn h
theorem qss_cons (h1 : QS X st t) (h2 : QSs X rest u) : QSs X (st :: rest) (aSeq t u) := fun W tk po => (pss_cons (h1 W tk po) (h2 W tk po)).imp fun D s H ⟨F, e, m, r, A, he, hn, h, g⟩ =>
  ⟨F, e, m, r, _, he, hn, h, ⟨fun F1 H1 m1 s1 e1 k he1 n1 q => ⟨F1, e1, m1, r, A, he1, n1, q, g.mono k⟩, g.rt, g.bk, g.ct, g.ex⟩⟩
theorem qss_one (h1 : QS X st t) : QSs X [st] t := fun W tk po => pss_one (h1 W tk po)
theorem qs_pass : QS X (.Pass pos) aNext := fun W tk po => ps_pass.imp fun D s H ⟨F, e, m, r, A, he, hn, h, g⟩ => g.nx F H m s e (Same.refl F) he hn h
theorem qs_break : QS X (.Break pos) aBreak := fun W tk po => ps_break.imp fun D s H ⟨F, e, m, r, A, he, hn, h, g⟩ => g.bk F H m s e (Same.refl F) he hn h
theorem qs_continue : QS X (.Continue pos) aCont := fun W tk po => ps_continue.imp fun D s H ⟨F, e, m, r, A, he, hn, h, g⟩ => g.ct F H m s e (Same.refl F) he hn h
theorem qs_doc {x j pos'} : QS X (.Expr (.Constant (.str x) j pos) pos') aNext := fun W tk po => ps_doc.imp fun D s H ⟨F, e, m, r, A, he, hn, h, g⟩ => g.nx F H m s e (Same.refl F) he hn h
/-- an expression within a statement -/
def aE (t : AE) (A : AEnds) (e : De) (m : Mu) (Q : QD) : Prop := t e m Q fun x m => A.ex x e m
theorem use_E {K : PySem.W.Frag} {W : WX} {F r : Hp} {A : AEnds} {D : Ends} {s : L2.St} {e : De} {m : Mu} {H : Hp} {Q : QD} {Qc : VK} (he : EnvOk K F s e) (hn : Sn K F H m r) (g : GS K F r A D W) (h : aE ta A e m Q) (k : GE K F r Q Qc) : cE K W ta s H Qc :=
  ⟨F, e, m, r, _, _, he, hn, h, k, g.gx he⟩
def aDrop (t : AE) : AS := fun A e m => aE t A e m fun _ m1 => A.nx e m1
def aRet (t : AE) : AS := fun A e m => aE t A e m A.rt
def aRetN : AS := fun A _ m => A.rt .non m
theorem qs_expr (ha : QE X a ta) (hs : swapsWith a none pos.line X.env = pure false := by rfl) : QS X (.Expr a pos) (aDrop ta) := fun W tk po => (ps_expr (ha W tk) hs).imp fun D s H ⟨F, e, m, r, A, he, hn, h, g⟩ =>
  use_E he hn g h fun F1 H1 m1 v d k n1 _ q => g.nx F1 H1 m1 s e k (he.mono k) n1 q
theorem qs_ret (ha : QE X a ta) : QS X (.Return (some a) pos) (aRet ta) := fun W tk po => (ps_ret (ha W tk)).imp fun D s H ⟨F, e, m, r, A, he, hn, h, g⟩ =>
  use_E he hn g h fun F1 H1 m1 v d k n1 r1 q => g.rt F1 H1 m1 v d k n1 r1 q
theorem qs_retN : QS X (.Return none pos) aRetN := fun W tk po => ps_retN.imp fun D s H ⟨F, e, m, r, A, he, hn, h, g⟩ => g.rt F H m _ _ (Same.refl F) hn .non h
def aIfS (c : AT) (t u : AS) : AS := fun A e m => c e m (fun b m1 => if b = true then t A e m1 else u A e m1) fun x m => A.ex x e m
theorem qs_if {p q : List Stmt} (hc : QT X c tt) (hp : QSs X p t) (hq : QSs X q u) : QS X (.If c p q pos) (aIfS tt t u) := fun W tk po => (ps_if (hc W tk) (hp W tk po) (hq W tk po)).imp fun D s H ⟨F, e, m, r, A, he, hn, h, g⟩ => by
  refine ⟨F, e, m, r, _, _, he, hn, h, fun F1 H1 m1 b k n1 q => ?_, g.gx he⟩
  cases b with
  | true => exact ⟨F1, e, m1, r, A, he.mono k, n1, q, g.mono k⟩
  | false => exact ⟨F1, e, m1, r, A, he.mono k, n1, q, g.mono k⟩
/-! ### targets -/
abbrev AG := D → AEnds → De → Mu → (De → Mu → Prop) → Prop
/-- the slots outside the list stand -/
def SameOff (is : List Nat) (s s' : L2.St) : Prop := s'.length = s.length ∧ ∀ j, j ∉ is → s'[j]? = s[j]?
def cG (K : PySem.W.Frag) (W : WX) (D : Ends) (a : AG) (is : List Nat) : TG := fun v s H Q => ∃ F e m r A d P, EnvOk K F s e ∧ Sn K F H m r ∧ Rep K F v d ∧ a d A e m P ∧ GS K F r A D W ∧ ∀ F' H' m' s' e', Same F F' → EnvOk K F' s' e' → Sn K F' H' m' r → SameOff is s s' → P e' m' → Q s' H'
/-- a target's rule: its reading g does what the data's does -/
def QG (X : Cx) (e : Expr) (a : AG) (is : List Nat) (g : WX → TG) : Prop := ∀ W, Takes X W → PG X e (g W) ∧ ∀ D v s H Q, cG X.K W D a is v s H Q → g W v s H Q
abbrev AGs := List D → AEnds → De → Mu → (De → Mu → Prop) → Prop
def cGs (K : PySem.W.Frag) (W : WX) (D : Ends) (a : AGs) (is : List Nat) : TGs := fun v s H Q => ∃ F e m r A d P, EnvOk K F s e ∧ Sn K F H m r ∧ RepL K F v d ∧ a d A e m P ∧ GS K F r A D W ∧ ∀ F' H' m' s' e', Same F F' → EnvOk K F' s' e' → Sn K F' H' m' r → SameOff is s s' → P e' m' → Q s' H'
def QGs (X : Cx) (e : List Expr) (a : AGs) (is : List Nat) (g : WX → TGs) : Prop := ∀ W, Takes X W → PGs X e (g W) ∧ ∀ D v s H Q, cGs X.K W D a is v s H Q → g W v s H Q
def agName (i : Nat) : AG := fun d _ e m P => P (e.set i (some d)) m
def agTup (n : Nat) (t : AGs) : AG := fun d A e m P => ∃ xs, d = .tup xs ∧ xs.length = n ∧ t xs A e m P
def agNil : AGs := fun ds _ e m P => ds = [] ∧ P e m
def agCons (t : AG) (u : AGs) : AGs := fun ds A e m P => ∃ d r, ds = d :: r ∧ t d A e m fun e1 m1 => u r A e1 m1 P
theorem SameOff.refl {is : List Nat} {s : L2.St} : SameOff is s s := ⟨rfl, fun _ _ => rfl⟩
theorem SameOff.trans {is js : List Nat} {s s1 s2 : L2.St} (h1 : SameOff is s s1) (h2 : SameOff js s1 s2) : SameOff (is ++ js) s s2 :=
  ⟨h2.1.trans h1.1, fun j hj => (h2.2 j fun z => hj (List.mem_append_right _ z)).trans (h1.2 j fun z => hj (List.mem_append_left _ z))⟩
theorem SameOff.set {s : L2.St} {i : Nat} {v : Option V} : SameOff [i] s (s.set i v) := ⟨List.length_set, fun j hj => by rw [List.getElem?_set_ne]; intro z; exact hj (by simp [z])⟩
theorem qg_name (i : Nat) {x : Str} (hN : X.N.Nodup) (hi : X.N[i]? = some x := by rfl) (hx : Loc X.env.scope x := by first | exact Or.inl rfl | exact Or.inr rfl) (hf : X.fn x = true ∨ X.env.scope.names.lookup x = some .local := by first | exact .inl rfl | exact .inr rfl) : QG X (.Name x pos) (agName i) [i] (fun _ => gName i) :=
  fun W tk => ⟨pg_name hN hi hx hf, fun D v s H Q ⟨F, e, m, r, A, d, P, he, hn, hr, h, g, k⟩ => k F H m _ _ (Same.refl F) (he.set hr i) hn SameOff.set h⟩
theorem qgs_nil : QGs X [] agNil [] (fun _ => gNil) := fun W tk => ⟨pgs_nil, fun D v s H Q ⟨F, e, m, r, A, d, P, he, hn, hr, ⟨h1, h2⟩, g, k⟩ => by
  subst h1; cases hr; exact ⟨rfl, k F H m _ _ (Same.refl F) he hn SameOff.refl h2⟩⟩
theorem qgs_cons {e : Expr} {es : List Expr} {t : AG} {u : AGs} {is js : List Nat} {g1 : WX → TG} {g2 : WX → TGs} (h1 : QG X e t is g1) (h2 : QGs X es u js g2) (hs : (assignEach (e :: es) X.env).map (·.2) = assign e X.env :: (assignEach es X.env).map (·.2) := by rfl) : QGs X (e :: es) (agCons t u) (is ++ js) (fun W => gCons (g1 W) (g2 W)) := fun W tk => by
  obtain ⟨p1, k1⟩ := h1 W tk
  obtain ⟨p2, k2⟩ := h2 W tk
  refine ⟨pgs_cons p1 p2 hs, fun D v s H Q ⟨F, e, m, r, A, ds, P, he, hn, hr, h, g, k⟩ => ?_⟩
  obtain ⟨d, rs, rfl, h⟩ := h
  cases hr with
  | cons r1 r2 =>
    refine ⟨_, _, rfl, k1 D _ _ _ _ ⟨F, e, m, r, A, d, _, he, hn, r1, h, g, fun F1 H1 m1 s1 e1 q1 he1 n1 o1 hq => ?_⟩⟩
    exact k2 D _ _ _ _ ⟨F1, e1, m1, r, A, rs, P, he1, n1, r2.mono q1, hq, g.mono q1, fun F2 H2 m2 s2 e2 q2 he2 n2 o2 hp => k F2 H2 m2 s2 e2 (q1.trans q2) he2 n2 (o1.trans o2) hp⟩
theorem qg_tup {es : List Expr} {k : Nat} {t : AGs} {n : Nat} {is : List Nat} {g1 : WX → TGs} (hc : X.calm = true) (h : QGs X es t is g1) (hn : es.length = n := by rfl)
    (hp : ∀ {t' : TGs}, PGs X es t' → PG X (.Tuple es k pos) (gTup X.K n t') := by intro t' hh; exact pg_tup rfl hh) : QG X (.Tuple es k pos) (agTup n t) is (fun W => gTup X.K n (g1 W)) := fun W tk => by
  obtain ⟨p1, k1⟩ := h W tk
  refine ⟨hp p1, fun D v s H Q ⟨F, e, m, r, A, d, P, he, hn, hr, h, g, k⟩ => ?_⟩
  obtain ⟨xs, rfl, hl, h⟩ := h
  cases hr with
  | tup e1 q =>
    refine ⟨_, _, rfl, hn.sqT e1, by rw [q.length]; exact hl, k1 D _ _ _ _ ⟨F, e, m, r, A, xs, P, he, hn, q, h, g, k⟩⟩
def aAsg (t : AE) (g : AG) : AS := fun A e m => aE t A e m fun d m1 => g d A e m1 A.nx
theorem qs_asg {tg : Expr} {g : AG} {is : List Nat} {g1 : WX → TG} (hg : QG X tg g is g1) (ha : QE X a ta) (hs : swapsWithSole [tg] a pos.line X.env = pure false := by rfl) (hw : swappedStores [tg] a X.env = pure none := by rfl) (h1 : (assignEach [tg] X.env).map (·.2) = [assign tg X.env] := by rfl) : QS X (.Assign [tg] a pos) (aAsg ta g) := fun W tk po => by
  obtain ⟨p1, k1⟩ := hg W tk
  refine (ps_asg (ha W tk) p1 hs hw h1).imp fun D s H ⟨F, e, m, r, A, he, hn, h, g⟩ => use_E he hn g h fun F1 H1 m1 v d k n1 r1 q => ?_
  exact k1 D _ _ _ _ ⟨F1, e, m1, r, A, d, _, he.mono k, n1, r1, q, g.mono k, fun F2 H2 m2 s2 e2 q2 he2 n2 _ hp => g.nx F2 H2 m2 s2 e2 (k.trans q2) he2 n2 hp⟩
def aSet (i : Nat) (t : AE) : AS := fun A e m => aE t A e m fun d m1 => A.nx (e.set i (some d)) m1
theorem qs_set (i : Nat) {x : Str} {pos' : Pos} (hN : X.N.Nodup) (ha : QE X a ta) (hi : X.N[i]? = some x := by rfl) (hx : Loc X.env.scope x := by first | exact Or.inl rfl | exact Or.inr rfl) (hs : swapsWith a (some (.Name x pos')) pos.line X.env = pure false := by rfl)
    (hf : X.fn x = true ∨ X.env.scope.names.lookup x = some .local := by first | exact .inl rfl | exact .inr rfl) : QS X (.Assign [.Name x pos'] a pos) (aSet i ta) := fun W tk po =>
  (ps_set hN hi hx (ha W tk) hs hf).imp fun D s H ⟨F, e, m, r, A, he, hn, h, g⟩ => use_E he hn g h fun F1 H1 m1 v d k n1 r1 q => g.nx F1 H1 m1 _ _ k ((he.mono k).set r1 i) n1 q
/-- two names at once: a, b = c, d -/
def aPar (i j : Nat) (t : AA) : AS := fun A e m => t e m (fun ds m1 => ∃ d d2, ds = [d, d2] ∧ A.nx ((e.set i (some d)).set j (some d2)) m1) fun x m => A.ex x e m
/-- a += b at a name -/
def aAug (i : Nat) (b : B2) (t : AE) : AS := fun A e m => ∃ x, e[i]? = some (some x) ∧ aE t A e m fun y m1 => b x y m1 fun z m2 => A.nx (e.set i (some z)) m2
theorem qs_augAdd (i : Nat) {x : Str} {pos' : Pos} (hN : X.N.Nodup) (ha : QE X a ta) (hi : X.N[i]? = some x := by rfl) (hx : Loc X.env.scope x := by first | exact Or.inl rfl | exact Or.inr rfl)
    (hf : X.fn x = true ∨ X.env.scope.names.lookup x = some .local := by first | exact .inl rfl | exact .inr rfl) : QS X (.AugAssign (.Name x pos') .Add a pos) (aAug i (bI0 fun i j => .int (i + j)) ta) := fun W tk po =>
  (ps_aug hN hi hx (ha W tk) ip_add hf).imp fun D s H ⟨F, e, m, r, A, he, hn, h, g⟩ => by
    obtain ⟨d0, e0, h⟩ := h
    obtain ⟨v0, h1, h2⟩ := he.2 i d0 e0
    refine ⟨v0, h1, use_E he hn g h fun F1 H1 m1 v d k n1 r1 q => ?_⟩
    have h3 := h2.mono k
    unfold bI0 at q
    split at q
    · cases h3; cases r1; exact ⟨_, _, rfl, rfl, g.nx F1 H1 m1 _ _ k ((he.mono k).set (.int _) i) n1 q⟩
    · exact q.elim
/-! ### stores: o[i] = e, o[i] += e, o.f = e, o.f += e -/
theorem s_mu {K : PySem.W.Frag} {F H : Hp} {m : Mu} {r : Hp} {p : Addr} {x : MO} (hn : Sn K F H m r) (h : m p = some x) : At K F H p x := (hn.mu p x h).2
theorem Sn.upL {K : PySem.W.Frag} {F H : Hp} {m : Mu} {r : Hp} {a : Addr} {x : MO} {u : HO} {xs : List V} {ds : List D} (h : Sn K F H m r) (hm : m a = some x) (ha : H a = some u) (nu : ∀ ob w, u ≠ .frz ob w) (q : RepL K F xs ds) : Sn K F (upd H a (.lst xs)) (mset m a (.lst ds)) r :=
  h.upM (y := .lst ds) hm ha nu ⟨_, upd_same, q⟩
theorem Sn.upD {K : PySem.W.Frag} {F H : Hp} {m : Mu} {r : Hp} {a : Addr} {x : MO} {u : HO} {xs : List (Key × V)} {ds : List (Key × D)} (h : Sn K F H m r) (hm : m a = some x) (ha : H a = some u) (nu : ∀ ob w, u ≠ .frz ob w) (q : RepK K F xs ds) : Sn K F (upd H a (.dK xs)) (mset m a (.dic false ds)) r :=
  h.upM (y := .dic false ds) hm ha nu ⟨_, upd_same, q⟩
theorem Sn.upI {K : PySem.W.Frag} {F H : Hp} {m : Mu} {r : Hp} {a C dx : Addr} {x : MO} {u : HO} {xs : List (Str × V)} {ds : List (Str × D)} (h : Sn K F H m r) (hm : m a = some x) (ha : H a = some u) (nu : ∀ ob w, u ≠ .frz ob w) (q : RepF K F xs ds) : Sn K F (upd H a (.ins C dx xs)) (mset m a (.ins C ds)) r :=
  h.upM (y := .ins C ds) hm ha nu ⟨_, _, upd_same, q⟩
/-- the store at o[i] -/
def pSt (o i d : D) (m : Mu) (P : Mu → Prop) : Prop := ∃ a, o = .cell a ∧ ((∃ kvs k, m a = some (.dic false kvs) ∧ keyD i = some k ∧ kvs.length < sizeLine ∧ P (mset m a (.dic false (put kvs k d)))) ∨
  ∃ xs n j, m a = some (.lst xs) ∧ i = .int n ∧ ixN xs.length n = some j ∧ P (mset m a (.lst (xs.set j d))))
def rSetU : TSet := fun o i v H Q => rSetL o i v H Q ∨ ∃ a H', o = .ref a ∧ DPut H a i v H' ∧ Q H'
theorem set_u (hu : X.A.units + 1 < cLine) : PSet X rSetU := by
  intro pins s σ H o i v ov iv u Q I ro ri rv h
  rcases h with h | ⟨p, H', rfl, g, q⟩
  · exact set_list pins s σ H o i v ov iv u Q I ro ri rv h
  · cases ro
    exact d_setItem hu I g ri rv fun s4 I4 => ⟨H', I4, q⟩
theorem pSt_ok {K : PySem.W.Frag} {F H : Hp} {m : Mu} {r : Hp} {o i d : D} {vo vi v : V} {P : Mu → Prop} {Q : Hp → Prop} (hn : Sn K F H m r) (ro : Rep K F vo o) (ri : Rep K F vi i) (rv : Rep K F v d) (h : pSt o i d m P) (g : ∀ H' m', Sn K F H' m' r → P m' → Q H') : rSetU vo vi v H Q := by
  obtain ⟨p, rfl, h⟩ := h
  cases ro
  rcases h with ⟨kvs, k, e, ek, hl, q⟩ | ⟨xs, n, j, e, rfl, ej, q⟩
  · obtain ⟨ws, h1, h2⟩ := s_mu hn e
    refine .inr ⟨p, _, rfl, .inl ⟨ws, k, h1, key_ok ri ek, by rw [h2.length]; exact hl, rfl⟩, ?_⟩
    exact g _ _ (Sn.upD hn e h1 (fun _ _ z => nomatch z) (h2.put rv)) q
  · obtain ⟨ws, h1, h2⟩ := s_mu hn e
    cases ri
    refine .inl ⟨p, ws, n, j, rfl, rfl, h1, by rw [h2.length]; exact ej, ?_⟩
    exact g _ _ (Sn.upL hn e h1 (fun _ _ z => nomatch z) (h2.set rv j)) q
/-- o[i] as a target -/
def agSub (to ti : AE) : AG := fun d A e m P => aE to A e m fun o m1 => aE ti A e m1 fun i m2 => pSt o i d m2 (P e)
theorem qg_sub (hu : X.A.units + 1 < cLine) (ha : QE X a ta) (hb : QE X b tb) (hp : ∀ {to ti : TE}, PE X a to → PE X b ti → PG X (.Subscript a b pos) (gSub to ti rSetU) := by intro to ti h1 h2; exact pg_sub h1 h2 (set_u (by assumption))) : QG X (.Subscript a b pos) (agSub ta tb) [] (fun W => gSub (cE X.K W ta) (cE X.K W tb) rSetU) :=
  fun W tk => ⟨hp (ha W tk) (hb W tk), fun D v s H Q ⟨F, e, m, r, A, d, P, he, hn, hr, h, g, k⟩ => use_E he hn g h fun F1 H1 m1 o dO k1 n1 r1 q1 => use_E (he.mono k1) n1 (g.mono k1) q1 fun F2 H2 m2 i dI k2 n2 r2 q2 =>
    pSt_ok n2 (r1.mono k2) r2 (hr.mono (k1.trans k2)) q2 fun H' m' n' hp => k F2 H' m' s e (k1.trans k2) (he.mono (k1.trans k2)) n' SameOff.refl hp⟩
/-- d[k] += e, a dict of ints -/
def aDAug (td ti tv : AE) : AS := fun A e m => aE td A e m fun o m1 => aE ti A e m1 fun i m2 => ∃ a kvs k n, o = .cell a ∧ m2 a = some (.dic false kvs) ∧ keyD i = some k ∧ lkp kvs k = some (.int n) ∧
  aE tv A e m2 fun y m3 => ∃ j kvs', y = .int j ∧ m3 a = some (.dic false kvs') ∧ kvs'.length < sizeLine ∧ A.nx e (mset m3 a (.dic false (put kvs' k (.int (n + j)))))
theorem qs_daug {tpos : Pos} (hu : X.A.units + 1 < cLine) (ha : QE X a ta) (hb : QE X b tb) (hc : QE X c tc) (hs : ∀ ov iv new, augStore b ov iv new = (do holding [new, ov, iv] (setItem ov iv new); release [new, ov, iv] []; pure .next) := by exact fun _ _ _ => rfl) :
    QS X (.AugAssign (.Subscript a b tpos) .Add c pos) (aDAug ta tb tc) := fun W tk po => (ps_daug hu (ha W tk) (hb W tk) (hc W tk) in_add hs).imp fun D s H ⟨F, e, m, r, A, he, hn, h, g⟩ => by
  refine use_E he hn g h fun F1 H1 m1 o dO k1 n1 r1 q1 => use_E (he.mono k1) n1 (g.mono k1) q1 fun F2 H2 m2 i dI k2 n2 r2 q2 => ?_
  obtain ⟨p, kvs, k, n, rfl, e1, ek, el, q2⟩ := q2
  cases r1
  obtain ⟨ws, h1, h2⟩ := s_mu n2 e1
  obtain ⟨w, e3, rw⟩ := h2.lkp_some el
  cases rw
  refine ⟨p, _, rfl, .inl ⟨ws, k, .inl h1, key_ok r2 ek, e3.symm⟩, use_E (he.mono (k1.trans k2)) n2 (g.mono (k1.trans k2)) q2 fun F3 H3 m3 y dY k3 n3 r3 q3 => ?_⟩
  obtain ⟨j, kvs', rfl, e4, hl, q3⟩ := q3
  cases r3
  obtain ⟨ws', h1', h2'⟩ := s_mu n3 e4
  have kk := k1.trans (k2.trans k3)
  exact ⟨_, _, rfl, rfl, _, .inl ⟨ws', k, h1', key_ok (r2.mono k3) ek, by rw [h2'.length]; exact hl, rfl⟩, g.nx F3 _ _ s e kk (he.mono kk) (Sn.upD n3 e4 h1' (fun _ _ z => nomatch z) (h2'.put (.int _))) q3⟩
/-- o.f = e -/
def aFSt (K : PySem.W.Frag) (f : Str) (to tv : AE) : AS := fun A e m => aE tv A e m fun d m1 => aE to A e m1 fun o m2 => ∃ a C fs, o = .cell a ∧ m2 a = some (.ins C fs) ∧ OkC K C f ∧ fs.length < 1000 ∧ A.nx e (mset m2 a (.ins C (putF f d fs)))
theorem qs_fld {f : Str} {pos' : Pos} (ha : QE X a ta) (hb : QE X b tb) (hs : swapsWith b (some (.Attribute a f pos')) pos.line X.env = pure false := by rfl) : QS X (.Assign [.Attribute a f pos'] b pos) (aFSt X.K f ta tb) :=
  fun W tk po => (ps_fld (ha W tk) (hb W tk) hs).imp fun D s H ⟨F, e, m, r, A, he, hn, h, g⟩ => by
    refine use_E he hn g h fun F1 H1 m1 v d k1 n1 r1 q1 => use_E (he.mono k1) n1 (g.mono k1) q1 fun F2 H2 m2 o dO k2 n2 r2 q2 => ?_
    obtain ⟨p, C, fs, rfl, e1, ok, hl, q⟩ := q2
    cases r2
    obtain ⟨dx, gs, h1, h2⟩ := s_mu n2 e1
    exact ⟨p, C, dx, gs, rfl, h1, ok.c, ok.n, by rw [h2.length]; exact hl, g.nx F2 _ _ s e (k1.trans k2) (he.mono (k1.trans k2)) (Sn.upI n2 e1 h1 (fun _ _ z => nomatch z) (h2.put (r1.mono k2))) q⟩
def aFAug (K : PySem.W.Frag) (f : Str) (to tv : AE) : AS := fun A e m => aE to A e m fun o m1 => ∃ a C fs n, o = .cell a ∧ m1 a = some (.ins C fs) ∧ OkC K C f ∧ fs.lookup f = some (.int n) ∧
  aE tv A e m1 fun y m2 => ∃ j fs', y = .int j ∧ m2 a = some (.ins C fs') ∧ fs'.length < 1000 ∧ A.nx e (mset m2 a (.ins C (putF f (.int (n + j)) fs')))
theorem qs_fldaug {f : Str} {tpos : Pos} (ha : QE X a ta) (hb : QE X b tb) : QS X (.AugAssign (.Attribute a f tpos) .Add b pos) (aFAug X.K f ta tb) :=
  fun W tk po => (ps_fldaug (ha W tk) (hb W tk) in_add).imp fun D s H ⟨F, e, m, r, A, he, hn, h, g⟩ => by
    refine use_E he hn g h fun F1 H1 m1 v d k1 n1 r1 q1 => ?_
    obtain ⟨p, C, fs, n, rfl, e1, ok, el, q1⟩ := q1
    cases r1
    obtain ⟨dx, gs, h1, h2⟩ := s_mu n1 e1
    obtain ⟨w, e3, rw⟩ := h2.look el
    cases rw
    refine ⟨p, C, dx, gs, _, rfl, h1, ok.c, ok.n, e3, use_E (he.mono k1) n1 (g.mono k1) q1 fun F2 H2 m2 y dY k2 n2 r2 q2 => ?_⟩
    obtain ⟨j, fs', rfl, e4, hl, q⟩ := q2
    cases r2
    obtain ⟨dx', gs', h1', h2'⟩ := s_mu n2 e4
    exact ⟨_, _, rfl, rfl, dx', gs', h1', by rw [h2'.length]; exact hl, g.nx F2 _ _ s e (k1.trans k2) (he.mono (k1.trans k2)) (Sn.upI n2 e4 h1' (fun _ _ z => nomatch z) (h2'.put (.int _))) q⟩
end
end Ab
namespace Ab
open PySem PySem.Spec PyProof.Rows L2
/-! ### what is walked: its items as data, and what must stay so -/
abbrev AI := De → Mu → (List D → (Mu → Prop) → Mu → Prop) → XA → Prop
def ItOk (K : PySem.W.Frag) (J : It) (F : Hp) (src : List D) (G : Mu → Prop) : Prop := ∀ F2 H2 m2 r2, Same F F2 → Sn K F2 H2 m2 r2 → G m2 →
  (∀ i, i < src.length → J.go i H2 ∧ ∀ x H3, J.yld i H2 x H3 → ∃ F3 d, Same F2 F3 ∧ Sn K F3 H3 m2 r2 ∧ src[i]? = some d ∧ Rep K F3 x d) ∧ ∀ i, src.length ≤ i → J.stop i H2
def GI (K : PySem.W.Frag) (F r : Hp) (Q : List D → (Mu → Prop) → Mu → Prop) (R : It → Hp → Prop) : Prop := ∀ F' H' m' J src G, Same F F' → Sn K F' H' m' r → ItOk K J F' src G → Q src G m' → R J H'
def cIt (K : PySem.W.Frag) (W : WX) (a : AI) : TI := fun s H R => ∃ F e m r Q X, EnvOk K F s e ∧ Sn K F H m r ∧ a e m Q X ∧ GI K F r Q R ∧ GX K F r s X W
def QI (X : Cx) (tg iter : Expr) (a : AI) : Prop := ∀ W, Takes X W → PI X tg iter (cIt X.K W a)
theorem pi_imp {X : Cx} {tg it : Expr} {t t' : TI} (h : PI X tg it t) (k : ∀ s H Q, t' s H Q → t s H Q) : PI X tg it t' := ⟨fun pins s σ H Q I q => h.run pins s σ H Q I (k _ _ _ q)⟩
theorem pi_or {X : Cx} {tg it : Expr} {t t' : TI} (h : PI X tg it t) (h' : PI X tg it t') : PI X tg it (fun s H Q => t s H Q ∨ t' s H Q) := ⟨fun pins s σ H Q I q => q.elim (fun q => h.run pins s σ H Q I q) fun q => h'.run pins s σ H Q I q⟩
theorem cE_or {K : PySem.W.Frag} {W : WX} {t : AE} {s : L2.St} {H : Hp} {Q : VK} (h : cE K W t s H Q) : cE K W t s H Q := h
section
variable {X : Cx} {tg : Expr} {es : List Expr} {pos : Pos} {ta tb tc : AE}
/-- a list, a tuple, a text -/
theorem pi_seq {l : Expr} {tl : TE} (hl : PE X l tl) : PI X tg l (fun s H R => tl s H fun x H1 => (∃ p, x = .ref p ∧ (((∃ xs, SqL X.K H1 p xs) ∧ R (Itl X.K p) H1) ∨ ((∃ xs, SqT X.K H1 p xs) ∧ R (Itt X.K p) H1))) ∨ ∃ z, x = .str z ∧ R (Its z) H1) := by
  refine ⟨fun pins s σ H R I h => ?_⟩
  refine thn (hl.run pins s σ H _ I h) fun v s1 ⟨x, H1, I1, r1, q1⟩ => ?_
  rcases q1 with ⟨a, rfl, ⟨⟨xs, hq⟩, q⟩ | ⟨⟨xs, hq⟩, q⟩⟩ | ⟨x, rfl, q⟩
  · cases r1
    obtain ⟨its, rv, p, hz⟩ := I1.list hq
    refine wpAny_pyIter_list p.isList ?_
    refine ⟨s1.heap.objs.size, [s1.heap.objs.size], _, _, H1, rfl, I1.kept (t' := s1.toks) fun b o e => Heap.get?_push_of_some _ e, turn_list a _, ⟨_, Heap.get?_push_size _ rfl, rfl, rfl⟩, fun b hb => ?_, q⟩
    have e : b = s1.heap.objs.size := by simpa using hb
    subst e
    exact I1.fpOk (Nat.le_refl _) (I1.hok.fresh (Nat.le_refl _))
  · cases r1
    obtain ⟨its, rv, p, hz⟩ := I1.tuple hq
    refine wpAny_pyIter_tuple (show s1.heap.IsTuple a its.toArray from p) ?_
    refine ⟨s1.heap.objs.size, [s1.heap.objs.size], _, _, H1, rfl, I1.kept (t' := s1.toks) fun b o e => Heap.get?_push_of_some _ e, turn_tuple a _, ⟨_, Heap.get?_push_size _ rfl, rfl, rfl⟩, fun b hb => ?_, q⟩
    have e : b = s1.heap.objs.size := by simpa using hb
    subst e
    exact I1.fpOk (Nat.le_refl _) (I1.hok.fresh (Nat.le_refl _))
  · obtain ⟨t, rfl⟩ := r1
    cases ha : x.cps.all (· < 128)
    · exact wpAny_pyIter_wide ha (pi_one (tk := s1.toks) I1 _ (turn_str _ x t "str_iterator" (.inr rfl)) ⟨_, Heap.get?_push_size _ rfl, rfl, rfl⟩ q)
    · exact wpAny_pyIter_ascii ha (pi_one (tk := s1.toks) I1 _ (turn_str _ x t "str_ascii_iterator" (.inl rfl)) ⟨_, Heap.get?_push_size _ rfl, rfl, rfl⟩ q)
def signs (x : Str) : List D := x.cps.toList.map fun c => .str ⟨#[c]⟩
/-- what a for walks: its items -/
def asI (m : Mu) : D → Option (List D)
  | .str x => some (signs x)
  | d => asS m d
def aiSeq (t : AE) : AI := fun e m Q X => t e m (fun d m1 => ∃ xs, asI m1 d = some xs ∧ Q xs (fun m => asI m d = some xs) m1) X
theorem sqL_at {K : PySem.W.Frag} {F H : Hp} {m : Mu} {r : Hp} {p : Addr} {d : D} {xs : List D} (n : Sn K F H m r) (hr : Rep K F (.ref p) d) (hd : ∀ ys, d ≠ .tup ys) (h : asS m d = some xs) : ∃ vs, SqL K H p vs ∧ RepL K F vs xs := by
  cases d with
  | lst ys => cases h; cases hr with | lst e q => exact ⟨_, .inl (.inl (n.lst e)), q⟩
  | tup ys => exact absurd rfl (hd ys)
  | scr ns => cases h; cases hr with | scr e => exact ⟨_, n.sqL e, rl_ints⟩
  | cell a0 =>
    obtain ⟨p2, vs, e, h1, h2⟩ := asX_ok (d := .cell a0) (xs := xs) n hr h
    cases e
    exact ⟨vs, .inl (.inl h1), h2⟩
  | _ => cases h
theorem it_list {K : PySem.W.Frag} {F : Hp} {p : Addr} {d : D} {xs : List D} {G : Mu → Prop} (hr : Rep K F (.ref p) d) (hd : ∀ ys, d ≠ .tup ys) (hG : ∀ m, G m → asS m d = some xs) : ItOk K (Itl K p) F xs G := fun F2 H2 m2 r2 s2 n2 g2 => by
  obtain ⟨vs, h1, h2⟩ := sqL_at n2 (hr.mono s2) hd (hG _ g2)
  refine ⟨fun i hi => ?_, fun i hi => ⟨vs, h1, by rw [h2.length]; exact hi⟩⟩
  have hv : i < vs.length := by rw [h2.length]; exact hi
  refine ⟨⟨vs, vs[i], h1, List.getElem?_eq_getElem hv⟩, fun x H3 y => ?_⟩
  obtain ⟨rfl, y⟩ := y
  obtain ⟨e, h3, h4⟩ := h2.get (y vs h1)
  exact ⟨F2, e, Same.refl F2, n2, h3, h4⟩
theorem it_tup {K : PySem.W.Frag} {F : Hp} {p : Addr} {xs : List D} {G : Mu → Prop} (hr : Rep K F (.ref p) (.tup xs)) : ItOk K (Itt K p) F xs G := fun F2 H2 m2 r2 s2 n2 g2 => by
  cases hr with
  | tup e q =>
    have h1 := n2.sqT (sqT_mono s2 e)
    have h2 := q.mono s2
    refine ⟨fun i hi => ?_, fun i hi => ⟨_, h1, by rw [h2.length]; exact hi⟩⟩
    have hv := hi
    rw [← h2.length] at hv
    refine ⟨⟨_, _, h1, List.getElem?_eq_getElem hv⟩, fun x H3 y => ?_⟩
    obtain ⟨rfl, y⟩ := y
    obtain ⟨e, h3, h4⟩ := h2.get (y _ h1)
    exact ⟨F2, e, Same.refl F2, n2, h3, h4⟩
theorem it_str {K : PySem.W.Frag} {F : Hp} {z : Str} {G : Mu → Prop} : ItOk K (Its z) F (signs z) G := fun F2 H2 m2 r2 s2 n2 g2 => by
  have hl : (signs z).length = z.cps.size := by unfold signs; rw [List.length_map, Array.length_toList]
  refine ⟨fun i hi => ⟨show i < z.cps.size by rw [← hl]; exact hi, fun x H3 y => ?_⟩, fun i hi => show z.cps.size ≤ i by rw [← hl]; exact hi⟩
  obtain ⟨rfl, c, h1, rfl⟩ := y
  refine ⟨F2, .str ⟨#[c]⟩, Same.refl F2, n2, ?_, .str _⟩
  unfold signs
  rw [List.getElem?_map, Array.getElem?_toList, h1]; rfl
theorem qi_seq {a : Expr} (ha : QE X a ta) : QI X tg a (aiSeq ta) := fun W tk => pi_imp (pi_seq (ha W tk)) fun s H R h => by
  obtain ⟨F, e, m, r, Q, X, he, hn, h, g, gx⟩ := h
  refine ⟨F, e, m, r, _, X, he, hn, h, fun F1 H1 m1 v d s1 n1 r1 q1 => ?_, gx⟩
  obtain ⟨xs, hx, q⟩ := q1
  by_cases hs : ∃ z, d = .str z
  · obtain ⟨z, rfl⟩ := hs
    cases r1
    cases hx
    exact .inr ⟨z, rfl, g F1 H1 m1 _ _ _ s1 n1 it_str q⟩
  · have hx' : asS m1 d = some xs := by
      cases d with
      | str z => exact absurd ⟨z, rfl⟩ hs
      | _ => exact hx
    have hG : ∀ m, asI m d = some xs → asS m d = some xs := fun m q => by
      cases d with
      | str z => exact absurd ⟨z, rfl⟩ hs
      | _ => exact q
    obtain ⟨p, vs, rfl, e2, r2⟩ := asS_ok n1 r1 hx'
    by_cases ht : ∃ ys, d = .tup ys
    · obtain ⟨ys, rfl⟩ := ht
      cases hx
      refine .inl ⟨p, rfl, .inr ⟨?_, g F1 H1 m1 _ _ _ s1 n1 (it_tup r1) q⟩⟩
      cases r1 with
      | tup e q => exact ⟨_, n1.sqT e⟩
    · have hd : ∀ ys, d ≠ .tup ys := fun ys z => ht ⟨ys, z⟩
      obtain ⟨ws, w1, _⟩ := sqL_at n1 r1 hd hx'
      exact .inl ⟨p, rfl, .inl ⟨⟨ws, w1⟩, g F1 H1 m1 _ _ _ s1 n1 (it_list r1 hd hG) q⟩⟩
/-- range(n), range(a, b) -/
def rng (lo : Int) (n : Nat) : List D := (List.range n).map fun (i : Nat) => D.int (lo + i)
def aiRng1 (t : AA) : AI := fun e m Q X => t e m (fun ds m1 => ∃ n : Int, ds = [.int n] ∧ -(2 ^ 62) ≤ n ∧ n < 2 ^ 62 ∧ Q (rng 0 n.toNat) (fun _ => True) m1) X
def aiRng2 (t : AA) : AI := fun e m Q X => t e m (fun ds m1 => ∃ a b : Int, ds = [.int a, .int b] ∧ (-(2 ^ 62) ≤ a ∧ a < 2 ^ 62 ∧ -(2 ^ 62) ≤ b ∧ b < 2 ^ 62) ∧ Q (rng a (b - a).toNat) (fun _ => True) m1) X
theorem it_rng {K : PySem.W.Frag} {F : Hp} {lo : Int} {n : Nat} {G : Mu → Prop} : ItOk K (Itr lo n) F (rng lo n) G := fun F2 H2 m2 r2 s2 n2 g2 => by
  have hl : (rng lo n).length = n := by unfold rng; rw [List.length_map, List.length_range]
  refine ⟨fun i hi => ⟨show i < n by rw [← hl]; exact hi, fun x H3 y => ?_⟩, fun i hi => show n ≤ i by rw [← hl]; exact hi⟩
  obtain ⟨rfl, rfl⟩ := y
  refine ⟨F2, .int (lo + i), Same.refl F2, n2, ?_, .int _⟩
  unfold rng
  rw [List.getElem?_map, List.getElem?_range (by rw [← hl]; exact hi)]; rfl
theorem repL1 {K : PySem.W.Frag} {F : Hp} {vs : List V} {d : D} (h : RepL K F vs [d]) : ∃ v, vs = [v] ∧ Rep K F v d := by
  cases h with | cons h1 h2 => cases h2; exact ⟨_, rfl, h1⟩
theorem repL2 {K : PySem.W.Frag} {F : Hp} {vs : List V} {d e : D} (h : RepL K F vs [d, e]) : ∃ v u, vs = [v, u] ∧ Rep K F v d ∧ Rep K F u e := by
  cases h with | cons h1 h2 => cases h2 with | cons h3 h4 => cases h4; exact ⟨_, _, rfl, h1, h3⟩
theorem qi_range1 {a : Expr} {p : Pos} {t : AA} (hm : X.mg "range" = none) (ha : QA X [a] t) (hg : Gl X "range" := by rfl) (hs : starEach [a] X.env = [(false, eval a X.env)] := by rfl) : QI X tg (.Call (.Name "range" p) [a] [] pos) (aiRng1 t) :=
  fun W tk => pi_imp (pi_range1 hg hm (ha W tk) hs) fun s H R h => by
    obtain ⟨F, e, m, r, Q, X, he, hn, h, g, gx⟩ := h
    refine ⟨F, e, m, r, _, X, he, hn, h, fun F1 H1 m1 v d s1 n1 r1 q1 => ?_, gx⟩
    obtain ⟨n, rfl, h1, h2, q⟩ := q1
    obtain ⟨v, rfl, rv⟩ := repL1 r1
    cases rv
    exact ⟨n, rfl, h1, h2, g F1 H1 m1 _ _ _ s1 n1 it_rng q⟩
theorem qi_range2 {a b : Expr} {p : Pos} {t : AA} (hm : X.mg "range" = none) (ha : QA X [a, b] t) (hg : Gl X "range" := by rfl) (hs : starEach [a, b] X.env = [(false, eval a X.env), (false, eval b X.env)] := by rfl) (hs2 : starEach [b] X.env = [(false, eval b X.env)] := by rfl) : QI X tg (.Call (.Name "range" p) [a, b] [] pos) (aiRng2 t) :=
  fun W tk => pi_imp (pi_range2 hg hm (ha W tk) hs hs2) fun s H R h => by
    obtain ⟨F, e, m, r, Q, X, he, hn, h, g, gx⟩ := h
    refine ⟨F, e, m, r, _, X, he, hn, h, fun F1 H1 m1 v d s1 n1 r1 q1 => ?_, gx⟩
    obtain ⟨i, j, rfl, hb, q⟩ := q1
    obtain ⟨v, u, rfl, rv, ru⟩ := repL2 r1
    cases rv; cases ru
    exact ⟨i, j, rfl, hb, g F1 H1 m1 _ _ _ s1 n1 it_rng q⟩
/-- enumerate(list) -/
def nums : Nat → List D → List D
  | _, [] => []
  | i, x :: xs => .tup [.int (i : Nat), x] :: nums (i + 1) xs
theorem nums_len : ∀ (xs : List D) (i : Nat), (nums i xs).length = xs.length
  | [], _ => rfl
  | _ :: xs, i => congrArg Nat.succ (nums_len xs (i + 1))
theorem nums_get : ∀ (xs : List D) (i j : Nat) (d : D), xs[j]? = some d → (nums i xs)[j]? = some (.tup [.int ((i + j : Nat) : Int), d])
  | [], _, _, _, h => by simp at h
  | x :: xs, i, 0, d, h => by simp at h; subst h; rfl
  | x :: xs, i, j + 1, d, h => by
    have := nums_get xs (i + 1) j d (by simpa using h)
    have e : i + 1 + j = i + (j + 1) := by omega
    rw [e] at this
    simpa [nums] using this
def aiEnum (t : AA) : AI := fun e m Q X => t e m (fun ds m1 => ∃ d xs, ds = [d] ∧ asLL m1 d = some xs ∧ Q (nums 0 xs) (fun m => asLL m d = some xs) m1) X
theorem asS_of_LL {m : Mu} {d : D} {xs : List D} (h : asLL m d = some xs) : asS m d = some xs ∧ ∀ ys, d ≠ .tup ys := by
  cases d <;> first | exact ⟨h, fun _ z => nomatch z⟩ | cases h
theorem it_enum {K : PySem.W.Frag} {F : Hp} {p : Addr} {d : D} {xs : List D} (hr : Rep K F (.ref p) d) : ItOk K (Ite K p) F (nums 0 xs) (fun m => asLL m d = some xs) := fun F2 H2 m2 r2 s2 n2 g2 => by
  obtain ⟨g3, hd⟩ := asS_of_LL g2
  obtain ⟨vs, h1, h2⟩ := sqL_at n2 (hr.mono s2) hd g3
  have hl := nums_len xs 0
  refine ⟨fun i hi => ?_, fun i hi => ⟨vs, h1, by rw [h2.length, ← hl]; exact hi⟩⟩
  have hv : i < vs.length := by rw [h2.length, ← hl]; exact hi
  refine ⟨⟨vs, vs[i], h1, List.getElem?_eq_getElem hv⟩, fun x H3 y => ?_⟩
  obtain ⟨T, z, rfl, nT, rfl, y⟩ := y
  obtain ⟨e, h3, h4⟩ := h2.get (y vs h1)
  refine ⟨_, _, n2.same nT _, n2.new nT _, nums_get xs 0 i e h3, .tup (.inl (.inl upd_same)) (.cons ?_ (.cons (h4.mono (n2.same nT _)) .nil))⟩
  rw [Nat.zero_add]; exact .int _
theorem qi_enum {a : Expr} {p tpos : Pos} {elts : List Expr} {kk : Nat} {t : AA} (hm : X.mg "enumerate" = none) (ha : QA X [a] t) (hg : Gl X "enumerate" := by rfl) (hs : starEach [a] X.env = [(false, eval a X.env)] := by rfl) : QI X (.Tuple elts kk tpos) (.Call (.Name "enumerate" p) [a] [] pos) (aiEnum t) :=
  fun W tk => pi_imp (pi_enum hg hm (ha W tk) hs) fun s H R h => by
    obtain ⟨F, e, m, r, Q, X, he, hn, h, g, gx⟩ := h
    refine ⟨F, e, m, r, _, X, he, hn, h, fun F1 H1 m1 v d s1 n1 r1 q1 => ?_, gx⟩
    obtain ⟨d, xs, rfl, hx, q⟩ := q1
    obtain ⟨v, rfl, rv⟩ := repL1 r1
    obtain ⟨p, vs, rfl, e2, r2⟩ := asLL_ok n1 rv hx
    exact ⟨p, vs, rfl, e2, g F1 H1 m1 _ _ _ s1 n1 (it_enum rv) q⟩
/-! ### for, while -/
def loopA (src : List D) (G : Mu → Prop) (ag : AG) (ab : AS) (A : AEnds) (e : De) (m : Mu) : Prop := ∃ I : Nat → De → Mu → Prop, I 0 e m ∧ (∀ i e' m', I i e' m' → G m') ∧
  (∀ i d e' m', src[i]? = some d → I i e' m' → ag d A e' m' fun e2 m2 => ab { A with nx := I (i + 1), ct := I (i + 1), bk := A.nx } e2 m2) ∧ ∀ e' m', I src.length e' m' → A.nx e' m'
def aFor (ai : AI) (ag : AG) (ab : AS) : AS := fun A e m => ai e m (fun src G m1 => loopA src G ag ab A e m1) fun x m => A.ex x e m
theorem low_loop {K : PySem.W.Frag} {W : WX} {D : Ends} {A : AEnds} {F H r : Hp} {s : L2.St} {e : De} {m : Mu} {J : It} {src : List Ab.D} {G : Mu → Prop} {ag : AG} {is : List Nat} {ab : AS} {g1 : TG} {tb : TS} (he : EnvOk K F s e) (hn : Sn K F H m r) (g : GS K F r A D W) (hJ : ItOk K J F src G)
    (h : loopA src G ag ab A e m) (hg : ∀ D v s H Q, cG K W D ag is v s H Q → g1 v s H Q) (hb : ∀ D s H, cS K W ab D s H → tb D s H) :
    ∃ Wv : Nat → Nat → L2.St → Hp → Prop, (∃ m, Wv 0 m s H) ∧ ∀ i m σ H, Wv i m σ H → (J.stop i H ∧ D.nx σ H) ∨ (J.go i H ∧ ∃ N : L2.St → Hp → Prop, (∀ σ' H', N σ' H' → ∃ m', m' < m ∧ Wv (i + 1) m' σ' H') ∧
      ∀ x H', J.yld i H x H' → g1 x σ H' fun σ2 H2 => tb { D with nx := N, ct := N, bk := D.nx } σ2 H2) := by
  obtain ⟨I, h0, hG, hs, hd⟩ := h
  refine ⟨fun i n σ H' => n = src.length - i ∧ i ≤ src.length ∧ ∃ F' e' m', Same F F' ∧ EnvOk K F' σ e' ∧ Sn K F' H' m' r ∧ I i e' m', ⟨src.length, by simp, Nat.zero_le _, F, e, m, Same.refl F, he, hn, h0⟩, ?_⟩
  rintro i n σ H1 ⟨rfl, hi, F1, e1, m1, k1, he1, hn1, hI⟩
  obtain ⟨j1, j2⟩ := hJ F1 H1 m1 r k1 hn1 (hG i e1 m1 hI)
  by_cases hlt : i < src.length
  · obtain ⟨go, yl⟩ := j1 i hlt
    refine .inr ⟨go, fun σ' H' => ∃ F' e' m', Same F F' ∧ EnvOk K F' σ' e' ∧ Sn K F' H' m' r ∧ I (i + 1) e' m', fun σ' H' p => ⟨src.length - (i + 1), by omega, rfl, hlt, p⟩, fun x H2 y => ?_⟩
    obtain ⟨F2, d, k2, n2, hd2, r2⟩ := yl x H2 y
    refine hg _ _ _ _ _ ⟨F2, e1, m1, r, A, d, _, he1.mono k2, n2, r2, hs i d e1 m1 hd2 hI, g.mono (k1.trans k2), fun F3 H3 m3 s3 e3 k3 he3 n3 _ q3 => ?_⟩
    have kk := k1.trans (k2.trans k3)
    refine hb _ _ _ ⟨F3, e3, m3, r, _, he3, n3, q3, ?_⟩
    have g3 := g.mono kk
    exact ⟨fun F4 H4 m4 s4 e4 k4 he4 n4 q4 => ⟨F4, e4, m4, kk.trans k4, he4, n4, q4⟩, g3.rt, fun F4 H4 m4 s4 e4 k4 he4 n4 q4 => g3.nx F4 H4 m4 s4 e4 k4 he4 n4 q4, fun F4 H4 m4 s4 e4 k4 he4 n4 q4 => ⟨F4, e4, m4, kk.trans k4, he4, n4, q4⟩, g3.ex⟩
  · have e' : i = src.length := by omega
    subst e'
    exact .inl ⟨j2 _ (Nat.le_refl _), g.nx F1 H1 m1 σ e1 k1 he1 hn1 (hd e1 m1 hI)⟩
theorem qs_for {iter : Expr} {body : List Stmt} {ai : AI} {ag : AG} {is : List Nat} {g1 : WX → TG} {ab : AS} (hc : X.calm = true) (hi : QI X tg iter ai) (hg : QG X tg ag is g1) (hb : QSs X body ab)
    (hs : ∀ x, foldedSetIterable iter X.env x = pure x := by intro _; rfl) : QS X (.For tg iter body [] pos) (aFor ai ag ab) := fun W tk po => by
  obtain ⟨p1, k1⟩ := hg W tk
  refine (ps_for po hc (hi W tk) p1 (hb W tk po) hs).imp fun D s H ⟨F, e, m, r, A, he, hn, h, g⟩ => ?_
  refine ⟨F, e, m, r, _, _, he, hn, h, fun F1 H1 m1 J src G q n1 hJ hl => ?_, g.gx he⟩
  exact low_loop (he.mono q) n1 (g.mono q) hJ hl k1 fun _ _ _ z => z
def aWhile (c : AT) (ab : AS) : AS := fun A e m => ∃ I : Nat → De → Mu → Prop, (∃ n, I n e m) ∧ ∀ n e' m', I n e' m' → c e' m' (fun b m1 => if b = true then ab { A with nx := fun e2 m2 => ∃ k, k < n ∧ I k e2 m2, ct := fun e2 m2 => ∃ k, k < n ∧ I k e2 m2, bk := A.nx } e' m1 else A.nx e' m1) fun x m => A.ex x e' m
theorem qs_while {c : Expr} {body : List Stmt} {tt : AT} {ab : AS} (hc : QT X c tt) (hb : QSs X body ab) : QS X (.While c body [] pos) (aWhile tt ab) := fun W tk po =>
  (ps_while po (hc W tk) (hb W tk po)).imp fun D s H ⟨F, e, m, r, A, he, hn, h, g⟩ => by
    obtain ⟨I, ⟨n0, h0⟩, hs⟩ := h
    refine ⟨fun n σ H' => ∃ F' e' m', Same F F' ∧ EnvOk X.K F' σ e' ∧ Sn X.K F' H' m' r ∧ I n e' m', ⟨n0, F, e, m, Same.refl F, he, hn, h0⟩, ?_⟩
    rintro n σ H1 ⟨F1, e1, m1, k1, he1, n1, hI⟩
    refine ⟨F1, e1, m1, r, _, _, he1, n1, hs n e1 m1 hI, fun F2 H2 m2 b k2 n2 q => ?_, (g.mono k1).gx he1⟩
    have g2 := g.mono (k1.trans k2)
    cases b with
    | true =>
      refine ⟨fun σ' H' => ∃ k, k < n ∧ ∃ F' e' m', Same F F' ∧ EnvOk X.K F' σ' e' ∧ Sn X.K F' H' m' r ∧ I k e' m', fun σ' H' z => z, ?_⟩
      refine ⟨F2, e1, m2, r, _, he1.mono k2, n2, q, ?_⟩
      exact ⟨fun F4 H4 m4 s4 e4 k4 he4 n4 ⟨k, hk, q4⟩ => ⟨k, hk, F4, e4, m4, (k1.trans k2).trans k4, he4, n4, q4⟩, g2.rt, fun F4 H4 m4 s4 e4 k4 he4 n4 q4 => g2.nx F4 H4 m4 s4 e4 k4 he4 n4 q4, fun F4 H4 m4 s4 e4 k4 he4 n4 ⟨k, hk, q4⟩ => ⟨k, hk, F4, e4, m4, (k1.trans k2).trans k4, he4, n4, q4⟩, g2.ex⟩
    | false => exact g2.nx F2 H2 m2 σ e1 (Same.refl _) (he1.mono k2) n2 q
end
end Ab
namespace Ab
open PySem PySem.Spec PyProof.Rows L2
/-! ### list comprehensions -/
theorem Sn.chR {K : PySem.W.Frag} {F H : Hp} {m : Mu} {r : Hp} {p : Addr} {o o' : HO} (h : Sn K F H m (upd r p o)) (no : ∀ ob u, o ≠ .frz ob u) : Sn K F (upd H p o') m (upd r p o') := by
  obtain ⟨e1, e2⟩ := h.fr p o upd_same
  have e3 : F p = none ∧ m p = none := by
    rcases e2 with ⟨ob, u, e2⟩ | e2
    · exact absurd e2 (no ob u)
    · exact e2
  refine ⟨fun b v e => ?_, fun a y e => ?_, fun a u e => ?_⟩
  · have ne : b ≠ p := fun z => by subst z; rw [e3.1] at e; cases e
    rw [upd_ne ne]; exact h.cov b v e
  · have ne : a ≠ p := fun z => by subst z; rw [e3.2] at e; cases e
    exact ⟨(h.mu a y e).1, (h.mu a y e).2.mono (Same.refl F) (upd_ne ne)⟩
  · by_cases hb : a = p
    · subst hb; rw [upd_same] at e; cases e; exact ⟨upd_same, .inr e3⟩
    · rw [upd_ne hb] at e ⊢; exact h.fr a u (by rw [upd_ne hb]; exact e)
/-- what was held exactly is given out: a new list -/
theorem newL_held {K : PySem.W.Frag} {F H : Hp} {m : Mu} {r : Hp} {mt : Bool} {p : Addr} {ds : List D} {xs : List V} {Q : QD} {Qc : VK} (h : Sn K F H m (upd r p (.lst xs))) (rp : r p = none) (hr : RepL K F xs ds) (hq : newL mt ds m Q) (g : GE K F r Q Qc) : Qc (.ref p) H := by
  obtain ⟨e1, e2⟩ := h.fr p _ upd_same
  have e3 : F p = none ∧ m p = none := by
    rcases e2 with ⟨ob, u, e2⟩ | e2
    · cases e2
    · exact e2
  cases mt with
  | false =>
    have s : Same F (upd F p (.lst xs)) := same_new e3.1
    refine g _ H m _ _ s ⟨fun b v w => ?_, fun b y w => ?_, fun b o w => ?_⟩ (.lst upd_same (hr.mono s)) hq
    · by_cases hb : b = p
      · subst hb; rw [upd_same] at w; cases w; exact .inl e1
      · rw [upd_ne hb] at w; exact h.cov b v w
    · have ne : b ≠ p := fun z => by subst z; rw [e3.2] at w; cases w
      exact ⟨by rw [upd_ne ne]; exact (h.mu b y w).1, (h.mu b y w).2.mono s rfl⟩
    · have ne : b ≠ p := fun z => by subst z; rw [rp] at w; cases w
      have q := h.fr b o (by rw [upd_ne ne]; exact w)
      exact ⟨q.1, q.2.imp id fun z => ⟨by rw [upd_ne ne]; exact z.1, z.2⟩⟩
  | true =>
    refine g F H _ _ _ (Same.refl F) ⟨h.cov, fun b y w => ?_, fun b o w => ?_⟩ (.cell p) (hq p e3.2)
    · by_cases hb : b = p
      · subst hb; rw [mset_same] at w; cases w; exact ⟨e3.1, xs, e1, hr⟩
      · rw [mset_ne hb] at w; exact h.mu b y w
    · have ne : b ≠ p := fun z => by subst z; rw [rp] at w; cases w
      have q := h.fr b o (by rw [upd_ne ne]; exact w)
      exact ⟨q.1, q.2.imp id fun z => ⟨z.1, by rw [mset_ne ne]; exact z.2⟩⟩
/-- no exception -/
def XF : XA := fun _ _ => False
def AF : AEnds := ⟨fun _ _ => False, fun _ _ => False, fun _ _ => False, fun _ _ => False, fun _ _ _ => False⟩
def W0 : WX := fun _ _ _ _ => False
theorem gx0 {K : PySem.W.Frag} {F r : Hp} {s : L2.St} : GX K F r s XF W0 := fun _ _ _ _ _ _ _ _ _ q => q.elim
theorem gs0 {K : PySem.W.Frag} {F r : Hp} {D : Ends} : GS K F r AF D W0 := ⟨fun _ _ _ _ _ _ _ _ q => q.elim, fun _ _ _ _ _ _ _ _ q => q.elim, fun _ _ _ _ _ _ _ _ q => q.elim, fun _ _ _ _ _ _ _ _ q => q.elim, fun _ _ _ _ _ _ _ _ _ _ _ _ q => q.elim⟩
theorem wipe_len (σ : L2.St) (vs : List Nat) : (wipe σ vs).length = σ.length := wipe_length σ vs
theorem wipe_get (σ : L2.St) : ∀ (vs : List Nat) (j : Nat), (wipe σ vs)[j]? = if j ∈ vs ∧ j < σ.length then some none else σ[j]?
  | [], j => by simp [wipe]
  | v :: vs, j => by
    have ih := wipe_get σ vs j
    unfold wipe
    by_cases hv : v = j
    · subst hv
      by_cases hl : v < σ.length
      · rw [List.getElem?_set_self (by rw [wipe_length]; exact hl), if_pos ⟨List.mem_cons_self .., hl⟩]
      · rw [List.getElem?_eq_none (by rw [List.length_set, wipe_length]; omega), if_neg fun z => hl z.2, List.getElem?_eq_none (by omega)]
    · rw [List.getElem?_set_ne hv, ih]
      by_cases h : j ∈ vs ∧ j < σ.length
      · rw [if_pos h, if_pos ⟨List.mem_cons_of_mem _ h.1, h.2⟩]
      · rw [if_neg h, if_neg fun z => h ⟨(List.mem_cons.mp z.1).elim (fun q => absurd q.symm hv) id, z.2⟩]
theorem wipe_off {is vs : List Nat} {σ s' : L2.St} (h : SameOff is (wipe σ vs) s') (hi : ∀ j ∈ is, j ∈ vs) : wipe s' vs = wipe σ vs := by
  refine List.ext_getElem? fun j => ?_
  rw [wipe_get, wipe_get]
  have hl : s'.length = σ.length := h.1.trans (wipe_length σ vs)
  by_cases hj : j ∈ vs
  · by_cases hlt : j < σ.length
    · rw [if_pos ⟨hj, by omega⟩, if_pos ⟨hj, hlt⟩]
    · rw [if_neg fun z => hlt (by omega), if_neg fun z => hlt z.2, List.getElem?_eq_none (by omega), List.getElem?_eq_none (by omega)]
  · rw [if_neg fun z => hj z.1, if_neg fun z => hj z.1, h.2 j fun z => hj (hi j z), wipe_get, if_neg fun z => hj z.1]
/-- the tests of a comprehension -/
def aYes : AT := fun _ m Q _ => Q true m
def QTs (X : Cx) (ifs : List Expr) (t : AT) : Prop := ∀ W, Takes X W → PTs X ifs (cT X.K W t)
theorem pts_imp {X : Cx} {ifs : List Expr} {t t' : TT} (h : PTs X ifs t) (k : ∀ s H Q, t' s H Q → t s H Q) : PTs X ifs t' := ⟨fun pins s σ H Q I q => h.run pins s σ H Q I (k _ _ _ q)⟩
theorem qts_nil {X : Cx} : QTs X [] aYes := fun W tk => pts_imp pts_nil fun s H Q ⟨F, e, m, r, Qa, Xa, he, hn, h, g, gx⟩ => g F H m true (Same.refl F) hn h
theorem qts_one {X : Cx} {c : Expr} {t : AT} (h : QT X c t) : QTs X [c] t := fun W tk => pts_one (h W tk)
def lcA (mt : Bool) (src : List D) (G : Mu → Prop) (ag : AG) (at_ : AT) (ae : AE) (vs : List Nat) (e : De) (m : Mu) (Q : QD) : Prop := ∃ I : Nat → List D → Mu → Prop, I 0 [] m ∧ (∀ i acc m', I i acc m' → G m') ∧
  (∀ i d acc m', src[i]? = some d → I i acc m' → ag d AF (wipeA e vs) m' fun e2 m2 => at_ e2 m2 (fun b m3 => if b = true then ae e2 m3 (fun y m4 => acc.length < sizeLine ∧ I (i + 1) (acc ++ [y]) m4) XF else I (i + 1) acc m3) XF) ∧
  ∀ acc m', I src.length acc m' → newL mt acc m' Q
def aLc (mt : Bool) (ai : AI) (ag : AG) (at_ : AT) (ae : AE) (vs : List Nat) : AE := fun e m Q X => ai e m (fun src G m1 => lcA mt src G ag at_ ae vs e m1 Q) X
section
variable {X : Cx} {tg elt iter : Expr} {ifs : List Expr} {scope : Scope} {own : List (Str × Nat)} {pos : Pos} {ai : AI} {ag : AG} {is : List Nat} {g1 : WX → TG} {at_ : AT} {ae : AE}
theorem low_lc {K : PySem.W.Frag} {F H r : Hp} {s : L2.St} {e : De} {m : Mu} {J : It} {src : List D} {G : Mu → Prop} {vs : List Nat} {mt : Bool} {Q : QD} {Qc : VK} {ag : AG} {at_ : AT} {ae : AE} {is : List Nat} {g1 : TG}
    (he : EnvOk K F s e) (hn : Sn K F H m r) (hJ : ItOk K J F src G) (h : lcA mt src G ag at_ ae vs e m Q) (hg : ∀ D v s H Q, cG K W0 D ag is v s H Q → g1 v s H Q) (hi : ∀ j ∈ is, j ∈ vs) (g : GE K F r Q Qc) (D : Addr) (hD : H D = none) :
    ∃ Wv : Nat → Nat → Hp → Prop, (∃ n, Wv 0 n (upd H D (.lst []))) ∧ ∀ i n H, Wv i n H → (J.stop i H ∧ Qc (.ref D) H) ∨ (J.go i H ∧ ∃ Nx : Hp → Prop, (∀ H', Nx H' → ∃ m', m' < n ∧ Wv (i + 1) m' H') ∧
      ∀ x H', J.yld i H x H' → g1 x (wipe s vs) H' fun σ2 H2 => wipe σ2 vs = wipe s vs ∧ cT K W0 at_ σ2 H2 fun b H3 =>
        if b = true then cE K W0 ae σ2 H3 fun y H4 => ∃ acc, H4 D = some (.lst acc) ∧ acc.length < sizeLine ∧ Nx (upd H4 D (.lst (acc ++ [y]))) else Nx H3) := by
  obtain ⟨I, h0, hG, hs, hd⟩ := h
  have rD : r D = none := hn.r_none hD
  refine ⟨fun i n H' => n = src.length - i ∧ i ≤ src.length ∧ ∃ F' m' accD accV, Same F F' ∧ Sn K F' H' m' (upd r D (.lst accV)) ∧ RepL K F' accV accD ∧ I i accD m', ⟨src.length, by simp, Nat.zero_le _, F, m, [], [], Same.refl F, hn.newR hD _, .nil, h0⟩, ?_⟩
  rintro i n H1 ⟨rfl, hi1, F1, m1, accD, accV, k1, hn1, hr1, hI⟩
  obtain ⟨j1, j2⟩ := hJ F1 H1 m1 _ k1 hn1 (hG i accD m1 hI)
  by_cases hlt : i < src.length
  · obtain ⟨go, yl⟩ := j1 i hlt
    refine .inr ⟨go, fun H' => ∃ F' m' accD accV, Same F F' ∧ Sn K F' H' m' (upd r D (.lst accV)) ∧ RepL K F' accV accD ∧ I (i + 1) accD m', fun H' p => ⟨src.length - (i + 1), by omega, rfl, hlt, p⟩, fun x H2 y => ?_⟩
    obtain ⟨F2, d, k2, n2, hd2, r2⟩ := yl x H2 y
    have hw : EnvOk K F2 (wipe s vs) (wipeA e vs) := ((he.mono (k1.trans k2)).wipe vs)
    refine hg ⟨fun _ _ => True, fun _ _ => True, fun _ _ => True, fun _ _ => True⟩ _ _ _ _ ⟨F2, _, m1, _, AF, d, _, hw, n2, r2, hs i d accD m1 hd2 hI, gs0, fun F3 H3 m3 s3 e3 k3 he3 n3 o3 q3 => ⟨wipe_off o3 hi, ?_⟩⟩
    refine ⟨F3, e3, m3, _, _, XF, he3, n3, q3, fun F4 H4 m4 b k4 n4 q4 => ?_, gx0⟩
    have kk := k1.trans (k2.trans (k3.trans k4))
    have hr4 := hr1.mono (k2.trans (k3.trans k4))
    cases b with
    | true =>
      show cE K W0 ae s3 H4 _
      refine ⟨F4, e3, m4, _, _, XF, he3.mono k4, n4, q4, fun F5 H5 m5 v d5 k5 n5 r5 q5 => ?_, gx0⟩
      obtain ⟨hl, q5⟩ := q5
      have hr5 := hr4.mono k5
      refine ⟨accV, (n5.fr D _ upd_same).1, by rw [hr1.length]; exact hl, F5, m5, accD ++ [d5], accV ++ [v], kk.trans k5, ?_, hr5.append (.one r5), q5⟩
      have z := n5.chR (o' := .lst (accV ++ [v])) (fun _ _ q => nomatch q)
      exact z
    | false => exact ⟨F4, m4, accD, accV, kk, n4, hr4, q4⟩
  · have e' : i = src.length := by omega
    subst e'
    exact .inl ⟨j2 _ (Nat.le_refl _), newL_held hn1 rD hr1 (hd accD m1 hI) (g.mono k1)⟩
theorem takes_w0 {X : Cx} : Takes X W0 := takes0
theorem q_lc (mt : Bool) (own : List (Str × Nat)) (hc : X.calm = true) (hN : X.N.Nodup) (hi : QI X tg iter ai) (ok : BlkOk X.N X.env.scope scope own)
    (hg : ∀ (s : Shared) (H : Hp) (C : Addr) (cl : List (Str × Addr)) (fp : List Addr), QG (X.blk s H scope (compEnvC scope cl C X.env) fp) tg ag is g1)
    (ht : ∀ (s : Shared) (H : Hp) (C : Addr) (cl : List (Str × Addr)) (fp : List Addr), QTs (X.blk s H scope (compEnvC scope cl C X.env) fp) ifs at_)
    (he : ∀ (s : Shared) (H : Hp) (C : Addr) (cl : List (Str × Addr)) (fp : List Addr), QE (X.blk s H scope (compEnvC scope cl C X.env) fp) elt ae)
    (his : ∀ j ∈ is, j ∈ own.map (·.2) := by decide) (hs : ∀ x, foldedSetIterable iter X.env x = pure x := by intro _; rfl) :
    QE X (.ListComp elt [⟨tg, iter, ifs, 0⟩] scope pos) (aLc mt ai ag at_ ae (own.map (·.2))) := fun W tk =>
  ⟨fun pins sh σ H' Q' I h => (pe_lc (own := own) (g := g1 W0) (tt := cT X.K W0 at_) (te := cE X.K W0 ae) hc hN (hi W tk) ok (fun s H C cl fp => (hg s H C cl fp W0 takes_w0).1) (fun s H C cl fp => ht s H C cl fp W0 takes_w0) (fun s H C cl fp => he s H C cl fp W0 takes_w0) hs).run pins sh σ H' Q' I (by
    obtain ⟨F, e, m, r, Q, X, he, hn, h, g, gx⟩ := h
    refine ⟨F, e, m, r, _, X, he, hn, h, fun F1 H1 m1 J src G q n1 hJ hl => fun D hD => ?_, gx⟩
    exact low_lc (he.mono q) n1 hJ hl (fun D v s H Q z => (hg sh H' 0 [] [] W0 takes_w0).2 D v s H Q z) his (g.mono q) D hD)⟩
theorem qs_setLc (mt : Bool) (i : Nat) (own : List (Str × Nat)) {y : Str} {py spos : Pos} (hc : X.calm = true) (hN : X.N.Nodup) (hi : QI X tg iter ai) (ok : BlkOk X.N X.env.scope scope own)
    (hg : ∀ (s : Shared) (H : Hp) (C : Addr) (cl : List (Str × Addr)) (fp : List Addr), QG (X.blk s H scope (compEnvC scope cl C X.env) fp) tg ag is g1)
    (ht : ∀ (s : Shared) (H : Hp) (C : Addr) (cl : List (Str × Addr)) (fp : List Addr), QTs (X.blk s H scope (compEnvC scope cl C X.env) fp) ifs at_)
    (he : ∀ (s : Shared) (H : Hp) (C : Addr) (cl : List (Str × Addr)) (fp : List Addr), QE (X.blk s H scope (compEnvC scope cl C X.env) fp) elt ae)
    (hsw : swapsWith (.ListComp elt [⟨tg, iter, ifs, 0⟩] scope pos) (some (.Name y py)) spos.line X.env = pure true)
    (hy : X.N[i]? = some y := by rfl) (hyl : X.env.scope.names.lookup y = some .local := by rfl)
    (his : ∀ j ∈ is, j ∈ own.map (·.2) := by decide) (hs : ∀ x, foldedSetIterable iter X.env x = pure x := by intro _; rfl) :
    QS X (.Assign [.Name y py] (.ListComp elt [⟨tg, iter, ifs, 0⟩] scope pos) spos) (aSet i (aLc mt ai ag at_ ae (own.map (·.2)))) := fun W tk po =>
  ⟨fun pins sh σ H' D I h => (ps_setLc (own := own) (g := g1 W0) (tt := cT X.K W0 at_) (te := cE X.K W0 ae) hc hN hy hyl hsw (hi W tk) ok (fun s H C cl fp => (hg s H C cl fp W0 takes_w0).1) (fun s H C cl fp => ht s H C cl fp W0 takes_w0) (fun s H C cl fp => he s H C cl fp W0 takes_w0) hs).run pins sh σ H' D I (by
    obtain ⟨F, e, m, r, A, he, hn, h, g⟩ := h
    refine ⟨F, e, m, r, _, _, he, hn, h, fun F1 H1 m1 J src G q n1 hJ hl => fun D' hD => ?_, g.gx he⟩
    refine low_lc (Qc := fun v H => D.nx (σ.set i (some v)) H) (he.mono q) n1 hJ hl (fun D v s H Q z => (hg sh H' 0 [] [] W0 takes_w0).2 D v s H Q z) his ?_ D' hD
    exact fun F2 H2 m2 v d k n2 r2 q2 => g.nx F2 H2 m2 _ _ (q.trans k) ((he.mono (q.trans k)).set r2 i) n2 q2)⟩
end
end Ab
namespace Ab
open PySem PySem.Spec PyProof.Rows L2
section
variable {X : Cx} {a b c : Expr} {es : List Expr} {pos : Pos} {ta tb tc : AE} {tr : AA}
/-! ### len, list, tuple, str, int, min, max, sum -/
def asD0 (m : Mu) : D → Option (List (Key × D))
  | .cell a => (match m a with | some (.dic false kvs) => some kvs | _ => none)
  | _ => none
theorem asD0_ok {K : PySem.W.Frag} {F H : Hp} {m : Mu} {r : Hp} {v : V} {d : D} {xs : List (Key × D)} (hn : Sn K F H m r) (hr : Rep K F v d) (h : asD0 m d = some xs) : ∃ p kvs, v = .ref p ∧ H p = some (.dK kvs) ∧ RepK K F kvs xs := by
  cases d with
  | cell a =>
    cases hr
    have h : (match m a with | some (.dic false kvs) => some kvs | _ => none) = some xs := h
    split at h
    · rename_i kvs e
      cases h
      obtain ⟨_, vs, h1, h2⟩ := hn.mu a _ e
      exact ⟨_, _, rfl, h1, h2⟩
    · cases h
  | _ => cases h
def bLen : BA := fun ds m Q => ∃ d, ds = [d] ∧ ((∃ x, d = .str x ∧ x.length ≤ sizeLine ∧ Q (.int x.length) m) ∨ (∃ xs, asS m d = some xs ∧ Q (.int xs.length) m) ∨ ∃ kvs, asD0 m d = some kvs ∧ Q (.int kvs.length) m)
theorem call_lenD0 : CallR X (.builtin "len") (fun xs H Q => ∃ a kvs, xs = [V.ref a] ∧ H a = some (.dK kvs) ∧ Q (.int kvs.length) H) := call_lenD
theorem s_len {K : PySem.W.Frag} : SA K (fun xs H Q => (∃ z, xs = [.str z] ∧ z.length ≤ sizeLine ∧ Q (.int z.length) H) ∨ ((∃ p ys, xs = [.ref p] ∧ (SqL K H p ys ∨ SqT K H p ys) ∧ Q (.int ys.length) H) ∨ ∃ a kvs, xs = [V.ref a] ∧ H a = some (.dK kvs) ∧ Q (.int kvs.length) H)) bLen := by
  intro F H m r vs ds Q Qc hn hr h k
  obtain ⟨d, rfl, h⟩ := h
  obtain ⟨v, rfl, rv⟩ := repL1 hr
  rcases h with ⟨x, rfl, hl, q⟩ | ⟨xs, hx, q⟩ | ⟨kvs, hx, q⟩
  · cases rv; exact .inl ⟨_, rfl, hl, k F H m _ _ (Same.refl F) hn (.int _) q⟩
  · obtain ⟨p, vs, rfl, e2, r2⟩ := asS_ok hn rv hx
    refine .inr (.inl ⟨p, vs, rfl, e2, ?_⟩)
    rw [r2.length]; exact k F H m _ _ (Same.refl F) hn (.int _) q
  · obtain ⟨p, vs, rfl, e2, r2⟩ := asD0_ok hn rv hx
    refine .inr (.inr ⟨p, vs, rfl, e2, ?_⟩)
    rw [r2.length]; exact k F H m _ _ (Same.refl F) hn (.int _) q
theorem q_len {p : Pos} (hm : X.mg "len" = none) (ha : QA X (a :: es) tr) (hg : Gl X "len" := by rfl)
    (he : starEach (a :: es) X.env = (false, eval a X.env) :: starEach es X.env := by rfl) (hpl : (backTo pos (starEach es X.env)).any (·.1) = false := by rfl) : QE X (.Call (.Name "len" p) (a :: es) [] pos) (aCB bLen tr) :=
  q_callB (call_len_str.or (call_len_seq.or call_lenD0)) s_len hm boot_len ha hg (by decide) (by decide) he hpl
def kD : Key → D
  | .inl i => .int i
  | .inr x => .str x
theorem rep_key {K : PySem.W.Frag} {F : Hp} (k : Key) : Rep K F (kV k) (kD k) := by cases k <;> constructor
theorem rep_keys {K : PySem.W.Frag} {F : Hp} : ∀ {kvs : List (Key × V)} {es : List (Key × D)}, RepK K F kvs es → RepL K F (kvs.map fun kv => kV kv.1) (es.map fun kv => kD kv.1)
  | _, _, .nil => .nil
  | _, _, .cons h r => .cons (rep_key _) (rep_keys r)
/-- list(x): of a list, a tuple; of a dict its keys -/
def bList (mt : Bool) : BA := fun ds m Q => ∃ d, ds = [d] ∧ ((∃ xs, asS m d = some xs ∧ newL mt xs m Q) ∨ ∃ kvs, asK m d = some kvs ∧ newL mt (kvs.map fun kv => kD kv.1) m Q)
theorem s_list {K : PySem.W.Frag} (mt : Bool) : SA K (fun xs H Q => (∃ p ys, xs = [.ref p] ∧ (SqL K H p ys ∨ SqT K H p ys) ∧ ∀ l, H l = none → Q (.ref l) (upd H l (.lst ys))) ∨ (∃ (a : Addr) (kvs : List (Key × V)), xs = [.ref a] ∧ Rd H a (.dK kvs) ∧ ∀ p, H p = none → Q (.ref p) (upd H p (.lst (kvs.map fun kv => kV kv.1))))) (bList mt) := by
  intro F H m r vs ds Q Qc hn hr h k
  obtain ⟨d, rfl, h⟩ := h
  obtain ⟨v, rfl, rv⟩ := repL1 hr
  rcases h with ⟨xs, hx, q⟩ | ⟨kvs, hx, q⟩
  · obtain ⟨p, vs, rfl, e2, r2⟩ := asS_ok hn rv hx
    exact .inl ⟨p, vs, rfl, e2, fun l hl => newL_ok hn r2 q k l hl⟩
  · obtain ⟨p, vs, rfl, e2, r2⟩ := asK_ok hn rv hx
    exact .inr ⟨p, vs, rfl, e2, fun l hl => newL_ok hn (rep_keys r2) q k l hl⟩
theorem q_list (mt : Bool) {p : Pos} (hc : X.calm = true) (hm : X.mg "list" = none) (ha : QA X (a :: es) tr) (hg : Gl X "list" := by rfl)
    (he : starEach (a :: es) X.env = (false, eval a X.env) :: starEach es X.env := by rfl) (hpl : (backTo pos (starEach es X.env)).any (·.1) = false := by rfl) : QE X (.Call (.Name "list" p) (a :: es) [] pos) (aCB (bList mt) tr) :=
  q_callTy (call_list_of.or (call_listD hc)) (s_list mt) hm (by decide +kernel) ha hg (by decide) (by decide) he hpl
/-- tuple(x) -/
def bTuple : BA := fun ds m Q => ∃ d xs, ds = [d] ∧ asS m d = some xs ∧ Q (.tup xs) m
theorem s_tuple {K : PySem.W.Frag} : SA K (fun xs H Q => ∃ p ys, xs = [.ref p] ∧ ((SqL K H p ys ∧ ∀ l, H l = none → Q (.ref l) (upd H l (.tup ys))) ∨ (SqT K H p ys ∧ Q (.ref p) H))) bTuple := by
  intro F H m r vs ds Q Qc hn hr h k
  obtain ⟨d, xs, rfl, hx, q⟩ := h
  obtain ⟨v, rfl, rv⟩ := repL1 hr
  by_cases ht : ∃ ys, d = .tup ys
  · obtain ⟨ys, rfl⟩ := ht
    cases hx
    cases rv with
    | tup e r2 => exact ⟨_, _, rfl, .inr ⟨hn.sqT e, k F H m _ _ (Same.refl F) hn (.tup e r2) q⟩⟩
  · obtain ⟨p, vs, rfl, e2, r2⟩ := asS_ok hn rv hx
    obtain ⟨ws, w1, w2⟩ := sqL_at hn rv (fun ys z => ht ⟨ys, z⟩) hx
    refine ⟨p, ws, rfl, .inl ⟨w1, fun l hl => ?_⟩⟩
    exact k _ _ m _ _ (hn.same hl _) (hn.new hl _) (.tup (.inl (.inl upd_same)) (w2.mono (hn.same hl _))) q
theorem q_tuple {p : Pos} (hm : X.mg "tuple" = none) (ha : QA X (a :: es) tr) (hg : Gl X "tuple" := by rfl)
    (he : starEach (a :: es) X.env = (false, eval a X.env) :: starEach es X.env := by rfl) (hpl : (backTo pos (starEach es X.env)).any (·.1) = false := by rfl) : QE X (.Call (.Name "tuple" p) (a :: es) [] pos) (aCB bTuple tr) :=
  q_callTy call_tuple_of s_tuple hm (by decide +kernel) ha hg (by decide) (by decide) he hpl
/-- str(n), str(text) -/
def bStr : BA := fun ds m Q => (∃ i : Int, ds = [.int i] ∧ i.natAbs.log2 < 1920 ∧ Q (.str (toString i)) m) ∨ ∃ x, ds = [.str x] ∧ Q (.str x) m
theorem s_str {K : PySem.W.Frag} : SA K (fun xs H Q => (∃ i : Int, xs = [.int i] ∧ i.natAbs.log2 < 1920 ∧ Q (.str (toString i)) H) ∨ ∃ a, xs = [.str a] ∧ Q (.str a) H) bStr := by
  intro F H m r vs ds Q Qc hn hr h k
  rcases h with ⟨i, rfl, hl, q⟩ | ⟨x, rfl, q⟩
  · obtain ⟨v, rfl, rv⟩ := repL1 hr
    cases rv; exact .inl ⟨i, rfl, hl, k F H m _ _ (Same.refl F) hn (.str _) q⟩
  · obtain ⟨v, rfl, rv⟩ := repL1 hr
    cases rv; exact .inr ⟨_, rfl, k F H m _ _ (Same.refl F) hn (.str _) q⟩
theorem q_str_ {p : Pos} (hm : X.mg "str" = none) (ha : QA X (a :: es) tr) (hg : Gl X "str" := by rfl)
    (he : starEach (a :: es) X.env = (false, eval a X.env) :: starEach es X.env := by rfl) (hpl : (backTo pos (starEach es X.env)).any (·.1) = false := by rfl) : QE X (.Call (.Name "str" p) (a :: es) [] pos) (aCB bStr tr) :=
  q_callTy (call_str_int.or SkE.call_str_str) s_str hm (by decide +kernel) ha hg (by decide) (by decide) he hpl
/-- int(n), int(flag), int(text) -/
def bInt : BA := fun ds m Q => (∃ i : Int, ds = [.int i] ∧ Q (.int i) m) ∨ (∃ k : Bool, ds = [.bl k] ∧ Q (.int (if k then 1 else 0)) m) ∨ ∃ (x : Str) (n : Int), ds = [.str x] ∧ PySem.intText? x = some n ∧ x.length ≤ 640 ∧ Q (.int n) m
theorem s_int {K : PySem.W.Frag} : SA K (fun xs H Q => ((∃ i, xs = [.int i] ∧ Q (.int i) H) ∨ ∃ k, xs = [.bl k] ∧ Q (.int (if k then 1 else 0)) H) ∨ ∃ a n, xs = [.str a] ∧ PySem.intText? a = some n ∧ a.length ≤ 640 ∧ Q (.int n) H) bInt := by
  intro F H m r vs ds Q Qc hn hr h k
  rcases h with ⟨i, rfl, q⟩ | ⟨x, rfl, q⟩ | ⟨x, n, rfl, h1, h2, q⟩
  · obtain ⟨v, rfl, rv⟩ := repL1 hr
    cases rv; exact .inl (.inl ⟨i, rfl, k F H m _ _ (Same.refl F) hn (.int _) q⟩)
  · obtain ⟨v, rfl, rv⟩ := repL1 hr
    cases rv; exact .inl (.inr ⟨_, rfl, k F H m _ _ (Same.refl F) hn (.int _) q⟩)
  · obtain ⟨v, rfl, rv⟩ := repL1 hr
    cases rv; exact .inr ⟨_, _, rfl, h1, h2, k F H m _ _ (Same.refl F) hn (.int _) q⟩
theorem q_int_ {p : Pos} (hm : X.mg "int" = none) (ha : QA X (a :: es) tr) (hg : Gl X "int" := by rfl)
    (he : starEach (a :: es) X.env = (false, eval a X.env) :: starEach es X.env := by rfl) (hpl : (backTo pos (starEach es X.env)).any (·.1) = false := by rfl) : QE X (.Call (.Name "int" p) (a :: es) [] pos) (aCB bInt tr) :=
  q_callTy (call_int1.or call_int_str) s_int hm (by decide +kernel) ha hg (by decide) (by decide) he hpl
def bMax2 : BA := fun ds m Q => ∃ i j : Int, ds = [.int i, .int j] ∧ Q (.int (max i j)) m
def bMin2 : BA := fun ds m Q => ∃ i j : Int, ds = [.int i, .int j] ∧ Q (.int (min i j)) m
theorem s_max2 {K : PySem.W.Frag} : SA K (fun xs H Q => ∃ i j, xs = [.int i, .int j] ∧ Q (.int (if j > i then j else i)) H) bMax2 := by
  intro F H m r vs ds Q Qc hn hr h k
  obtain ⟨i, j, rfl, q⟩ := h
  obtain ⟨v, u, rfl, rv, ru⟩ := repL2 hr
  cases rv; cases ru
  have e : (if j > i then j else i) = max i j := by split <;> omega
  refine ⟨i, j, rfl, ?_⟩
  rw [e]
  exact k F H m _ _ (Same.refl F) hn (.int _) q
theorem s_min2 {K : PySem.W.Frag} : SA K (fun xs H Q => ∃ i j, xs = [.int i, .int j] ∧ Q (.int (if j < i then j else i)) H) bMin2 := by
  intro F H m r vs ds Q Qc hn hr h k
  obtain ⟨i, j, rfl, q⟩ := h
  obtain ⟨v, u, rfl, rv, ru⟩ := repL2 hr
  cases rv; cases ru
  have e : (if j < i then j else i) = min i j := by split <;> omega
  refine ⟨i, j, rfl, ?_⟩
  rw [e]
  exact k F H m _ _ (Same.refl F) hn (.int _) q
theorem q_max2 {p : Pos} (hc : X.calm = true) (hm : X.mg "max" = none) (ha : QA X (a :: es) tr) (hg : Gl X "max" := by rfl)
    (he : starEach (a :: es) X.env = (false, eval a X.env) :: starEach es X.env := by rfl) (hpl : (backTo pos (starEach es X.env)).any (·.1) = false := by rfl) : QE X (.Call (.Name "max" p) (a :: es) [] pos) (aCB bMax2 tr) :=
  q_callB (call_max2 hc) s_max2 hm (by decide +kernel) ha hg (by decide) (by decide) he hpl
theorem q_min2 {p : Pos} (hc : X.calm = true) (hm : X.mg "min" = none) (ha : QA X (a :: es) tr) (hg : Gl X "min" := by rfl)
    (he : starEach (a :: es) X.env = (false, eval a X.env) :: starEach es X.env := by rfl) (hpl : (backTo pos (starEach es X.env)).any (·.1) = false := by rfl) : QE X (.Call (.Name "min" p) (a :: es) [] pos) (aCB bMin2 tr) :=
  q_callB (call_min2 hc) s_min2 hm (by decide +kernel) ha hg (by decide) (by decide) he hpl
/-! ### isinstance of a built-in type -/
def isTy (K : PySem.W.Frag) (m : Mu) (n : String) (d : D) (b : Bool) : Prop := ∃ t, (match d with
    | .non => t = Value.type "NoneType"
    | .bl _ => t = Value.type "bool"
    | .int _ => t = Value.type "int"
    | .str _ => t = Value.type "str"
    | .lst _ => t = Value.type "list"
    | .tup _ => t = Value.type "tuple"
    | .dic _ => t = Value.type "dict"
    | .cell a => (∃ xs, m a = some (.lst xs) ∧ t = Value.type "list") ∨ ∃ lk kvs, m a = some (.dic lk kvs) ∧ t = Value.type "dict"
    | _ => False) ∧ PySem.W.kitOne K t (.type n) = some b
def aIsi (K : PySem.W.Frag) (n : String) (t : AE) : AE := fun e m Q X => t e m (fun d m1 => ∃ b, isTy K m1 n d b ∧ Q (.bl b) m1) X
theorem tyx_ok {K : PySem.W.Frag} {F H : Hp} {m : Mu} {r : Hp} {v : V} {d : D} {n : String} {b : Bool} (hn : Sn K F H m r) (hr : Rep K F v d) (h : isTy K m n d b) : ∃ t, TyX K H v t ∧ PySem.W.kitOne K t (.type n) = some b := by
  obtain ⟨t, h1, h2⟩ := h
  refine ⟨t, ?_, h2⟩
  cases d with
  | non => cases hr; cases h1; exact .base .non
  | bl _ => cases hr; cases h1; exact .base (.bl _)
  | int _ => cases hr; cases h1; exact .base (.int _)
  | str _ => cases hr; cases h1; exact .base (.str _)
  | lst _ => cases h1; cases hr with | lst e q => exact .base (.lst (hn.lst e))
  | tup _ =>
    cases h1
    cases hr with
    | tup e q =>
      rcases hn.sqT e with (e | ⟨o, e⟩) | ⟨o, its, n, e, c, _⟩
      · exact .base (.tup e)
      · exact .fTuple e
      · exact .kTuple e c
  | dic _ =>
    cases h1
    cases hr with
    | dic e q =>
      rcases hn.rd (.inl e) with e | ⟨o, e⟩
      · exact .base (.dK e)
      · exact .fDict e
  | cell a =>
    cases hr
    rcases h1 with ⟨xs, e, rfl⟩ | ⟨lk, kvs, e, rfl⟩
    · obtain ⟨_, vs, e2, _⟩ := hn.mu a _ e
      exact .base (.lst e2)
    · cases lk with
      | false => obtain ⟨_, vs, e2, _⟩ := hn.mu a _ e; exact .base (.dK e2)
      | true => obtain ⟨_, o, vs, e2, _⟩ := hn.mu a _ e; exact .fDict e2
  | _ => exact h1.elim
theorem q_isi {n : String} {x : Str} {p p2 : Pos} (hm : X.mg "isinstance" = none) (hmT : X.mg x = none) (hv : bootBuiltins x = some (.type n)) (ha : QE X a ta) (hg : Gl X "isinstance" := by rfl) (hgT : Gl X x := by rfl) (hnn : x ≠ "__name__" := by decide) (hdd : (x == ("__debug__" : Str)) = false := by decide)
    (hs1 : starEach (a :: [.Name x p2]) X.env = (false, eval a X.env) :: starEach [.Name x p2] X.env := by rfl) (hs2 : starEach (.Name x p2 :: []) X.env = (false, eval (.Name x p2) X.env) :: starEach [] X.env := by rfl) (hpl : (backTo pos (starEach [.Name x p2] X.env)).any (·.1) = false := by rfl) :
    QE X (.Call (.Name "isinstance" p) [a, .Name x p2] [] pos) (aIsi X.K n ta) := fun W tk =>
  (pe_callB call_isi hg hm (by decide +kernel) (pa_cons (ha W tk) (pa_cons (pe_bltn (v := .ty n) hgT hmT hv rfl hnn hdd) pa_nil hs2) hs1) (by decide) (by decide) hs1 hpl).imp fun s H Qc h => by
    obtain ⟨F, e, m, r, Q, X, he, hn, h, g, gx⟩ := h
    refine ⟨F, e, m, r, _, X, he, hn, h, fun F1 H1 m1 v d s1 n1 r1 q1 => ?_, gx⟩
    obtain ⟨b, hb, q⟩ := q1
    obtain ⟨t, h1, h2⟩ := tyx_ok n1 r1 hb
    exact ⟨v, .ty n, t, .type n, b, rfl, .ty n, h1, h2, g F1 H1 m1 _ _ s1 n1 (.bl b) q⟩
/-! ### methods of lists and texts -/
def tyD (T : String) (m : Mu) (d : D) : Prop := (T = "list" ∧ ∃ xs, asLL m d = some xs) ∨ (T = "str" ∧ ∃ x, d = .str x)
theorem tyD_ok {K : PySem.W.Frag} {F H : Hp} {m : Mu} {r : Hp} {v : V} {d : D} {T : String} (hn : Sn K F H m r) (hr : Rep K F v d) (h : tyD T m d) : tyV K T v H := by
  rcases h with ⟨rfl, xs, hx⟩ | ⟨rfl, x, rfl⟩
  · obtain ⟨p, vs, rfl, e2, r2⟩ := asLL_ok hn hr hx
    exact .inl ⟨rfl, _, e2⟩
  · cases hr; rfl
def aBM0 (T : String) (b : BM) (to : AE) : AE := fun e m Q X => to e m (fun d m1 => tyD T m1 d ∧ b d [] m1 Q) X
def aBM (T : String) (b : BM) (to : AE) (t : AA) : AE := fun e m Q X => to e m (fun d m1 => tyD T m1 d ∧ t e m1 (fun ds m2 => b d ds m2 Q) X) X
variable {o : Expr} {to : AE} {name : Str} {apos cpos : Pos} {T id : String} {rd : V → List V → Hp → VK → Prop} {bb : BM}
theorem q_bm0 (hs : SM X.K rd bb) (pa : PlainAttrs T) (slot : Slot T name id) (hty : typeOf (.builtin id) = pure (.type "method_descriptor")) (hm : MtR X id rd) (ho : QE X o to)
    (hbase : attributeBase o name X.env (eval o X.env) = eval o X.env := by rfl) (hline : (apos.endLine == cpos.line) = true := by rfl) : QE X (.Call (.Attribute o name apos) [] [] cpos) (aBM0 T bb to) := fun W tk =>
  (pe_bm0 pa slot hty hm (ho W tk) hbase hline).imp fun s H Qc h => by
    obtain ⟨F, e, m, r, Q, X, he, hn, h, g, gx⟩ := h
    refine ⟨F, e, m, r, _, X, he, hn, h, fun F1 H1 m1 v d s1 n1 r1 q1 => ⟨tyD_ok n1 r1 q1.1, hs F1 H1 m1 r v d [] [] Q Qc n1 r1 .nil q1.2 (g.mono s1)⟩, gx⟩
theorem q_bm (hs : SM X.K rd bb) (pa : PlainAttrs T) (slot : Slot T name id) (hty : typeOf (.builtin id) = pure (.type "method_descriptor")) (hm : MtR X id rd) (ho : QE X o to) (ha : QA X (a :: es) tr)
    (hbase : attributeBase o name X.env (eval o X.env) = eval o X.env := by rfl)
    (hfew : ((backTo cpos (starEach (a :: es) X.env)).all (fun x => !x.1) && (backToKw cpos (keywordEach [] X.env)).all (fun x => x.1.isSome)
      && decide ((a :: es).length + ([] : List Keyword).length + (if ([] : List Keyword).isEmpty then 0 else 1) < 30)) = true := by rfl)
    (hline : (apos.endLine == cpos.line) = true := by rfl) (hst : starEach (a :: es) X.env = (false, eval a X.env) :: starEach es X.env := by rfl) (hplain : (backTo cpos (starEach es X.env)).any (·.1) = false := by rfl) :
    QE X (.Call (.Attribute o name apos) (a :: es) [] cpos) (aBM T bb to tr) := fun W tk =>
  (pe_bm pa slot hty hm (ho W tk) (ha W tk) hbase hfew hline hst hplain).imp fun s H Qc h => by
    obtain ⟨F, e, m, r, Q, X, he, hn, h, g, gx⟩ := h
    refine ⟨F, e, m, r, _, X, he, hn, h, fun F1 H1 m1 v d s1 n1 r1 q1 => ⟨tyD_ok n1 r1 q1.1, ?_⟩, gx⟩
    exact ⟨F1, e, m1, r, _, X, he.mono s1, n1, q1.2, fun F2 H2 m2 vs ds s2 n2 r2 q2 => hs F2 H2 m2 r v d vs ds Q Qc n2 (r1.mono s2) r2 q2 (g.mono (s1.trans s2)), gx.mono s1⟩
def bAppend : BM := fun d ds m Q => ∃ a xs y, d = .cell a ∧ ds = [y] ∧ m a = some (.lst xs) ∧ xs.length < sizeLine ∧ Q .non (mset m a (.lst (xs ++ [y])))
theorem s_append {K : PySem.W.Frag} : SM K rAppend bAppend := by
  intro F H m r v d vs ds Q Qc hn hr hrs h k
  obtain ⟨a, xs, y, rfl, rfl, e, hl, q⟩ := h
  cases hr
  obtain ⟨u, rfl, ru⟩ := repL1 hrs
  obtain ⟨ws, h1, h2⟩ := s_mu hn e
  exact ⟨a, ws, u, rfl, rfl, h1, by rw [h2.length]; exact hl, k F _ _ _ _ (Same.refl F) (Sn.upL hn e h1 (fun _ _ z => nomatch z) (h2.append (.one ru))) .non q⟩
def bExtend : BM := fun d ds m Q => ∃ a xs y ys, d = .cell a ∧ ds = [y] ∧ m a = some (.lst xs) ∧ asX m y = some ys ∧ xs.length + ys.length ≤ sizeLine ∧ Q .non (mset m a (.lst (xs ++ ys)))
theorem s_extend {K : PySem.W.Frag} : SM K rExtend bExtend := by
  intro F H m r v d vs ds Q Qc hn hr hrs h k
  obtain ⟨a, xs, y, ys, rfl, rfl, e, ey, hl, q⟩ := h
  cases hr
  obtain ⟨u, rfl, ru⟩ := repL1 hrs
  obtain ⟨ws, h1, h2⟩ := s_mu hn e
  obtain ⟨p, us, rfl, h3, h4⟩ := asX_ok hn ru ey
  exact ⟨a, p, ws, us, rfl, rfl, h1, h3, by rw [h2.length, h4.length]; exact hl, k F _ _ _ _ (Same.refl F) (Sn.upL hn e h1 (fun _ _ z => nomatch z) (h2.append h4)) .non q⟩
def bPop : BM := fun d ds m Q => ∃ a xs y, d = .cell a ∧ ds = [] ∧ m a = some (.lst xs) ∧ xs[xs.length - 1]? = some y ∧ Q y (mset m a (.lst xs.dropLast))
theorem s_pop {K : PySem.W.Frag} : SM K rPop bPop := by
  intro F H m r v d vs ds Q Qc hn hr hrs h k
  obtain ⟨a, xs, y, rfl, rfl, e, ey, q⟩ := h
  cases hr; cases hrs
  obtain ⟨ws, h1, h2⟩ := s_mu hn e
  obtain ⟨u, e2, ru⟩ := h2.getD ey
  exact ⟨a, ws, u, rfl, rfl, h1, by rw [h2.length]; exact e2, k F _ _ _ _ (Same.refl F) (Sn.upL hn e h1 (fun _ _ z => nomatch z) h2.dropLast) ru q⟩
def bPopAt : BM := fun d ds m Q => ∃ a xs i j y, d = .cell a ∧ ds = [.int i] ∧ m a = some (.lst xs) ∧ -(2 ^ 63) ≤ i ∧ i < 2 ^ 63 ∧ seqIndex? i xs.length = some j ∧ xs[j]? = some y ∧ Q y (mset m a (.lst (xs.eraseIdx j)))
theorem s_popAt {K : PySem.W.Frag} : SM K rPopAt bPopAt := by
  intro F H m r v d vs ds Q Qc hn hr hrs h k
  obtain ⟨a, xs, i, j, y, rfl, rfl, e, b1, b2, ej, ey, q⟩ := h
  cases hr
  obtain ⟨u, rfl, ru⟩ := repL1 hrs
  cases ru
  obtain ⟨ws, h1, h2⟩ := s_mu hn e
  obtain ⟨u, e2, ru⟩ := h2.getD ey
  exact ⟨a, ws, i, j, u, rfl, rfl, h1, b1, b2, by rw [h2.length]; exact ej, e2, k F _ _ _ _ (Same.refl F) (Sn.upL hn e h1 (fun _ _ z => nomatch z) (h2.eraseIdx j)) ru q⟩
def bClear : BM := fun d ds m Q => ∃ a xs, d = .cell a ∧ ds = [] ∧ m a = some (.lst xs) ∧ Q .non (mset m a (.lst []))
theorem s_clear {K : PySem.W.Frag} : SM K rClear bClear := by
  intro F H m r v d vs ds Q Qc hn hr hrs h k
  obtain ⟨a, xs, rfl, rfl, e, q⟩ := h
  cases hr; cases hrs
  obtain ⟨ws, h1, h2⟩ := s_mu hn e
  exact ⟨a, ws, rfl, rfl, h1, k F _ _ _ _ (Same.refl F) (Sn.upL hn e h1 (fun _ _ z => nomatch z) .nil) .non q⟩
/-- sep.join(xs) -/
def bJoin : BM := fun d ds m Q => ∃ x y xs ys, d = .str x ∧ ds = [y] ∧ asS m y = some xs ∧ xs = ys.map D.str ∧ (ys.map (·.length)).sum + ys.length * x.length ≤ 16777216 ∧ Q (.str (Txt.join x ys)) m
theorem repl_strs {K : PySem.W.Frag} {F : Hp} : ∀ {vs : List V} {ys : List Str}, RepL K F vs (ys.map D.str) → vs = ys.map V.str
  | _, [], h => by cases h; rfl
  | _, y :: ys, h => by
    rw [List.map_cons] at h
    cases h with | cons h1 h2 => cases h1; rw [repl_strs h2]; rfl
theorem s_join {K : PySem.W.Frag} : SM K (fun x xs H Q => ∃ a p, ∃ ys : List Str, x = .str a ∧ xs = [.ref p] ∧ (SqL K H p (ys.map V.str) ∨ SqT K H p (ys.map V.str)) ∧ (ys.map (·.length)).sum + ys.length * a.length ≤ 16777216 ∧ Q (.str (Txt.join a ys)) H) bJoin := by
  intro F H m r v d vs ds Q Qc hn hr hrs h k
  obtain ⟨x, y, xs, ys, rfl, rfl, hx, rfl, hl, q⟩ := h
  cases hr
  obtain ⟨u, rfl, ru⟩ := repL1 hrs
  obtain ⟨p, us, rfl, e2, r2⟩ := asS_ok hn ru hx
  have e3 := repl_strs r2
  subst e3
  exact ⟨x, p, ys, rfl, rfl, e2, hl, k F H m _ _ (Same.refl F) hn (.str _) q⟩
/-- text.split(sep) -/
def bSplit (mt : Bool) : BM := fun d ds m Q => ∃ x y, d = .str x ∧ ds = [.str y] ∧ (y.length == 0) = false ∧ x.length + 2 ≤ sizeLine ∧ newL mt ((Txt.split x y).map D.str) m Q
theorem repl_strs2 {K : PySem.W.Frag} {F : Hp} : ∀ (ys : List Str), RepL K F (ys.map V.str) (ys.map D.str)
  | [] => .nil
  | _ :: ys => .cons (.str _) (repl_strs2 ys)
theorem s_split {K : PySem.W.Frag} (mt : Bool) : SM K (fun x xs H Q => ∃ a b, x = .str a ∧ xs = [.str b] ∧ (b.length == 0) = false ∧ a.length + 2 ≤ sizeLine ∧ rNewStrs (Txt.split a b) H Q) (bSplit mt) := by
  intro F H m r v d vs ds Q Qc hn hr hrs h k
  obtain ⟨x, y, rfl, rfl, h0, h1, q⟩ := h
  cases hr
  obtain ⟨u, rfl, ru⟩ := repL1 hrs
  cases ru
  exact ⟨x, y, rfl, rfl, h0, h1, fun p hp => newL_ok hn (repl_strs2 _) q k p hp⟩
end
/-! ### a cell frozen where it is told; a new dict -/
def fzM (x : Option MO) (a : Addr) (m : Mu) (Q : QD) : Prop := match x with
  | some (.lst xs) => Q (.lst xs) (mdel m a)
  | some (.dic false kvs) => Q (.dic kvs) (mdel m a)
  | some (.ins C fs) => Q (.obj C fs) (mdel m a)
  | _ => False
def aFz (t : AE) : AE := fun e m Q X => t e m (fun d m1 => ∃ a, d = .cell a ∧ fzM (m1 a) a m1 Q) X
section
variable {X : Cx} {a : Expr} {pos : Pos} {ta : AE}
theorem q_fz (h : QE X a ta) : QE X a (aFz ta) := fun W tk => (h W tk).imp fun s H Qc h => by
  obtain ⟨F, e, m, r, Q, X, he, hn, h, g, gx⟩ := h
  refine ⟨F, e, m, r, _, X, he, hn, h, fun F1 H1 m1 v d s1 n1 r1 q1 => ?_, gx⟩
  obtain ⟨p, rfl, q⟩ := q1
  cases r1
  unfold fzM at q
  split at q
  · rename_i xs ep
    obtain ⟨F2, k2, n2, r2⟩ := n1.frzL ep
    exact g F2 H1 _ _ _ (s1.trans k2) n2 r2 q
  · rename_i xs ep
    obtain ⟨F2, k2, n2, r2⟩ := n1.frzD ep
    exact g F2 H1 _ _ _ (s1.trans k2) n2 r2 q
  · rename_i xs ep
    obtain ⟨F2, k2, n2, r2⟩ := n1.frzI ep
    exact g F2 H1 _ _ _ (s1.trans k2) n2 r2 q
  · exact q.elim
def aDict0 : AE := fun _ m Q _ => ∀ p, m p = none → Q (.cell p) (mset m p (.dic false []))
theorem q_dict0 : QE X (.Dict [] [] pos) aDict0 := fun W tk => pe_dnewK.imp fun s H Qc h => by
  obtain ⟨F, e, m, r, Q, X, he, hn, h, g, gx⟩ := h
  exact fun p hp => g F _ _ _ _ (Same.refl F) (hn.newM (x := .dic false []) hp ⟨[], upd_same, .nil⟩) (.cell p) (h p (hn.m_none hp))
theorem q_gI {x : Str} {i : Int} (h : ∃ t, X.mg x = some (.int i t)) (hg : Gl X x := by rfl) (hd : (x == ("__debug__" : Str)) = false := by decide) : QE X (.Name x pos) (aC (.int i)) := by
  obtain ⟨t, h⟩ := h
  exact q_glob h (v := .int i) ⟨t, rfl⟩ (fun _ => .int i) hg hd
theorem q_gS {x z : Str} (h : ∃ t, X.mg x = some (.str z t)) (hg : Gl X x := by rfl) (hd : (x == ("__debug__" : Str)) = false := by decide) : QE X (.Name x pos) (aC (.str z)) := by
  obtain ⟨t, h⟩ := h
  exact q_glob h (v := .str z) ⟨t, rfl⟩ (fun _ => .str z) hg hd
end
/-! ### a def keeps its promise -/
section
variable {P : Program} {w : World} {K : PySem.W.Frag} {mg : Str → Option Value} {base : Heap}
def endsOf (Q : QD) (XX : XA) : AEnds := ⟨fun _ m => Q .non m, Q, fun _ _ => False, fun _ _ => False, fun x _ m => XX x m⟩
def slots (N : List Str) (ds : List D) : De := ds.map some ++ List.replicate (N.length - ds.length) none
theorem mkFn {x qual : Str} {params : Arguments} {body : List Stmt} {scope : Scope} {dvs : List V} {f : Addr} {fd : FuncData} {N ps : List Str} {k : Nat} {sp : ASp} {t : AS} (F : FunD K x qual params body scope dvs [] f fd) (S : FnScope N ps scope)
    (len : ∀ ds m Q XX, sp ds m Q XX → ds.length = ps.length)
    (hq : ∀ (cdv : Value) (A : Around) (outer : List Env) (s : Shared) (H : Hp) (E : XK), Room k (A.deeper (envOfC qual scope s.heap.objs.size f cdv)) → QSs (cxOf (L2.CX P w) P w K mg base N qual scope f cdv A outer s H E) body t)
    (hp : ∀ ds m Q XX, sp ds m Q XX → t (endsOf Q XX) (slots N ds) m) : FnOk P w K mg base (L2.CX P w) (k + 1) f fd ps (spOf K sp) := by
  refine F.ok S (fun vs H Q E h => ?_) (fun cdv A outer s H vs Q E hr h => ?_)
  · obtain ⟨F, m, r, ds, AQ, AX, hn, hr, h, _⟩ := h
    rw [hr.length]; exact len ds m AQ AX h
  · obtain ⟨F, m, r, ds, AQ, AX, hn, hrep, h, g, gx⟩ := h
    have q := hq cdv A outer s H E hr (fun cls d _ H => E cls d H) (takes_of rfl rfl rfl rfl) (passes_of rfl)
    refine ⟨_, q, F, slots N ds, m, r, endsOf AQ AX, EnvOk.start hrep, hn, hp ds m AQ AX h, ?_⟩
    exact ⟨fun F' H' m' s e k he n q => g F' H' m' _ _ k n .non q, fun F' H' m' v d k n r q => g F' H' m' v d k n r q, fun _ _ _ _ _ _ _ _ q => q.elim, fun _ _ _ _ _ _ _ _ q => q.elim, fun F' H' m' s e cls dd x k he n rx q => gx F' H' m' cls dd x k n rx q⟩
/-- the law's own end -/
theorem lawEnd {sp : ASp} (h : ∀ ns : List Int, ns.length ≤ 63 → sp [.scr ns] (fun _ => none) (fun d _ => d = .bl true) (fun _ _ => False)) (H : Hp) (a : Addr) (ns : List Int) (hl : ns.length ≤ 63) (hO : Only H) (hS : SqL K H a (ns.map V.int)) :
    spOf K sp [.ref a] H (fun v _ => v = .bl true) (fun _ _ _ => False) := by
  refine ⟨H, fun _ => none, fun _ => none, [.scr ns], _, _, ⟨fun b u e => .inl e, (fun _ _ e => nomatch e), (fun _ _ e => nomatch e)⟩, .cons (.scr hS) .nil, h ns hl, fun F' H' m' v d k n r q => ?_, fun _ _ _ _ _ _ _ _ _ q => q.elim⟩
  subst q; cases r; rfl
theorem cx_none : ∀ (H : Hp) (s : Shared) (e : Value) (s' : Shared), L2.CX P w [] H s (fun _ _ _ => False) e s' → False := fun _ _ _ _ h => by
  obtain ⟨_, _, _, _, _, _, _, _, _, _, _, _, z⟩ := h
  exact z
end
end Ab
namespace Ab
open PySem PySem.Spec PyProof.Rows L2
/-! ### stepping: an expression that only tells a value -/
def Ev (t : AE) (e : De) (m : Mu) (d : D) : Prop := ∀ Q X, Q d m → t e m Q X
def EvT (t : AT) (e : De) (m : Mu) (b : Bool) : Prop := ∀ Q X, Q b m → t e m Q X
def EvA (t : AA) (e : De) (m : Mu) (ds : List D) : Prop := ∀ Q X, Q ds m → t e m Q X
def EvO (t : AO) (e : De) (m : Mu) (o : Option Int) : Prop := ∀ Q X, Q o m → t e m Q X
section
variable {e : De} {m : Mu} {ta tb tc : AE} {d : D}
theorem ev_var {i : Nat} (h : e[i]? = some (some d)) : Ev (aVar i) e m d := fun _ _ q => ⟨d, h, q⟩
theorem ev_c : Ev (aC d) e m d := fun _ _ q => q
theorem ev_add {mt : Bool} {i j : Int} (ha : Ev ta e m (.int i)) (hb : Ev tb e m (.int j)) : Ev (aOp (bAdd mt) ta tb) e m (.int (i + j)) := fun _ _ q => ha _ _ (hb _ _ q)
theorem ev_addS {mt : Bool} {x y : Str} (ha : Ev ta e m (.str x)) (hb : Ev tb e m (.str y)) (hl : x.length + y.length ≤ sizeLine) : Ev (aOp (bAdd mt) ta tb) e m (.str (x ++ y)) := fun _ _ q => ha _ _ (hb _ _ ⟨hl, q⟩)
theorem ev_addL {d2 : D} {xs ys : List D} (ha : Ev ta e m d) (hb : Ev tb e m d2) (h1 : asX m d = some xs) (h2 : asX m d2 = some ys) (hl : xs.length + ys.length ≤ sizeLine) : Ev (aOp (bAdd false) ta tb) e m (.lst (xs ++ ys)) := fun Q _ q => ha _ _ (hb _ _ (by
  have k : ∃ xs ys, asX m d = some xs ∧ asX m d2 = some ys ∧ xs.length + ys.length ≤ sizeLine ∧ newL false (xs ++ ys) m Q := ⟨xs, ys, h1, h2, hl, q⟩
  unfold bAdd
  cases d <;> cases d2 <;> first | exact k | cases h1 | cases h2))
theorem ev_sub {i j : Int} (ha : Ev ta e m (.int i)) (hb : Ev tb e m (.int j)) : Ev (aOp bSub ta tb) e m (.int (i - j)) := fun _ _ q => ha _ _ (hb _ _ q)
theorem ev_mul {i j : Int} (ha : Ev ta e m (.int i)) (hb : Ev tb e m (.int j)) (h : MulOk i j) : Ev (aOp bMul ta tb) e m (.int (i * j)) := fun _ _ q => ha _ _ (hb _ _ ⟨h, q⟩)
theorem ev_div {i j : Int} (ha : Ev ta e m (.int i)) (hb : Ev tb e m (.int j)) (h : CDivW i j) : Ev (aOp bDiv ta tb) e m (.int (i / j)) := fun _ _ q => ha _ _ (hb _ _ ⟨h, q⟩)
theorem ev_mod {i j : Int} (ha : Ev ta e m (.int i)) (hb : Ev tb e m (.int j)) (h : 0 < j) : Ev (aOp bMod ta tb) e m (.int (i % j)) := fun _ _ q => ha _ _ (hb _ _ ⟨h, q⟩)
theorem ev_pow {i j : Int} (ha : Ev ta e m (.int i)) (hb : Ev tb e m (.int j)) (h : CPow i j) : Ev (aOp bPow ta tb) e m (.int (i ^ j.toNat)) := fun _ _ q => ha _ _ (hb _ _ ⟨h, q⟩)
theorem ev_shr {i j : Int} (ha : Ev ta e m (.int i)) (hb : Ev tb e m (.int j)) (h : 0 ≤ j) : Ev (aOp bShr ta tb) e m (.int (i / 2 ^ j.toNat)) := fun _ _ q => ha _ _ (hb _ _ ⟨h, q⟩)
theorem ev_and {i j : Int} {k : Nat} (ha : Ev ta e m (.int i)) (hb : Ev tb e m (.int j)) (h : j = 2 ^ k - 1) : Ev (aOp bAnd ta tb) e m (.int (i % 2 ^ k)) := fun _ _ q => ha _ _ (hb _ _ ⟨i, k, rfl, by rw [h], q⟩)
theorem ev_neg {i : Int} (ha : Ev ta e m (.int i)) : Ev (aOp1 bNeg ta) e m (.int (-i)) := fun _ _ q => ha _ _ q
theorem ev_lt {i j : Int} (ha : Ev ta e m (.int i)) (hb : Ev tb e m (.int j)) : Ev (aOp bLt ta tb) e m (.bl (decide (i < j))) := fun _ _ q => ha _ _ (hb _ _ q)
theorem ev_le {i j : Int} (ha : Ev ta e m (.int i)) (hb : Ev tb e m (.int j)) : Ev (aOp bLe ta tb) e m (.bl (decide (i ≤ j))) := fun _ _ q => ha _ _ (hb _ _ q)
theorem ev_gt {i j : Int} (ha : Ev ta e m (.int i)) (hb : Ev tb e m (.int j)) : Ev (aOp bGt ta tb) e m (.bl (decide (j < i))) := fun _ _ q => ha _ _ (hb _ _ q)
theorem ev_ge {i j : Int} (ha : Ev ta e m (.int i)) (hb : Ev tb e m (.int j)) : Ev (aOp bGe ta tb) e m (.bl (decide (j ≤ i))) := fun _ _ q => ha _ _ (hb _ _ q)
theorem ev_leS {x y : Str} (ha : Ev ta e m (.str x)) (hb : Ev tb e m (.str y)) : Ev (aOp bLe ta tb) e m (.bl (!decide (y.cps.toList < x.cps.toList))) := fun _ _ q => ha _ _ (hb _ _ q)
theorem ev_eq {i j : Int} (ha : Ev ta e m (.int i)) (hb : Ev tb e m (.int j)) : Ev (aOp bEq ta tb) e m (.bl (decide (i = j))) := fun _ _ q => ha _ _ (hb _ _ q)
theorem ev_ne {i j : Int} (ha : Ev ta e m (.int i)) (hb : Ev tb e m (.int j)) : Ev (aOp bNe ta tb) e m (.bl (!decide (i = j))) := fun _ _ q => ha _ _ (hb _ _ q)
theorem ev_eqS {i j : Str} (ha : Ev ta e m (.str i)) (hb : Ev tb e m (.str j)) : Ev (aOp bEq ta tb) e m (.bl (decide (i = j))) := fun _ _ q => ha _ _ (hb _ _ q)
theorem ev_neS {i j : Str} (ha : Ev ta e m (.str i)) (hb : Ev tb e m (.str j)) : Ev (aOp bNe ta tb) e m (.bl (!decide (i = j))) := fun _ _ q => ha _ _ (hb _ _ q)
theorem ev_eqB {i j : Bool} (ha : Ev ta e m (.bl i)) (hb : Ev tb e m (.bl j)) : Ev (aOp bEq ta tb) e m (.bl (decide (i = j))) := fun _ _ q => ha _ _ (hb _ _ q)
theorem ev_neB {i j : Bool} (ha : Ev ta e m (.bl i)) (hb : Ev tb e m (.bl j)) : Ev (aOp bNe ta tb) e m (.bl (!decide (i = j))) := fun _ _ q => ha _ _ (hb _ _ q)
theorem ev_is (ha : Ev ta e m d) : Ev (aOp bIs ta (aC .non)) e m (.bl (isN d)) := fun _ _ q => ha _ _ ⟨rfl, q⟩
theorem ev_isn (ha : Ev ta e m d) : Ev (aOp bIsn ta (aC .non)) e m (.bl (!isN d)) := fun _ _ q => ha _ _ ⟨rfl, q⟩
theorem eqD_int (i j : Int) : eqD (.int i) (.int j) = decide (i = j) := by unfold eqD py PyData.eqv; exact Bool.beq_eq_decide_eq i j
theorem eqD_str (i j : Str) : eqD (.str i) (.str j) = decide (i = j) := by unfold eqD py PyData.eqv; exact Bool.beq_eq_decide_eq i j
theorem eqD_bl (i j : Bool) : eqD (.bl i) (.bl j) = decide (i = j) := by unfold eqD py PyData.eqv; exact Bool.beq_eq_decide_eq i j
theorem bEq_gen {d2 : D} {Q : QD} (h1 : DOk (vw m d)) (h2 : DOk (vw m d2)) (q : Q (.bl (eqD (vw m d) (vw m d2))) m) : bEq d d2 m Q := by
  unfold bEq
  split
  · rename_i i j; have q : Q (.bl (eqD (.int i) (.int j))) m := q; rw [eqD_int] at q; exact q
  · rename_i i j; have q : Q (.bl (eqD (.str i) (.str j))) m := q; rw [eqD_str] at q; exact q
  · rename_i i j; have q : Q (.bl (eqD (.bl i) (.bl j))) m := q; rw [eqD_bl] at q; exact q
  · exact ⟨h1, h2, q⟩
theorem bNe_gen {d2 : D} {Q : QD} (h1 : DOk (vw m d)) (h2 : DOk (vw m d2)) (q : Q (.bl (!eqD (vw m d) (vw m d2))) m) : bNe d d2 m Q := by
  unfold bNe
  split
  · rename_i i j; have q : Q (.bl (!eqD (.int i) (.int j))) m := q; rw [eqD_int] at q; exact q
  · rename_i i j; have q : Q (.bl (!eqD (.str i) (.str j))) m := q; rw [eqD_str] at q; exact q
  · rename_i i j; have q : Q (.bl (!eqD (.bl i) (.bl j))) m := q; rw [eqD_bl] at q; exact q
  · exact ⟨h1, h2, q⟩
theorem ev_eqD {d2 : D} (ha : Ev ta e m d) (hb : Ev tb e m d2) (h1 : DOk (vw m d)) (h2 : DOk (vw m d2)) : Ev (aOp bEq ta tb) e m (.bl (eqD (vw m d) (vw m d2))) := fun _ _ q => ha _ _ (hb _ _ (bEq_gen h1 h2 q))
theorem ev_neD {d2 : D} (ha : Ev ta e m d) (hb : Ev tb e m d2) (h1 : DOk (vw m d)) (h2 : DOk (vw m d2)) : Ev (aOp bNe ta tb) e m (.bl (!eqD (vw m d) (vw m d2))) := fun _ _ q => ha _ _ (hb _ _ (bNe_gen h1 h2 q))
/-- a, b, c.. chains -/
theorem ev_chain {b1 b2 : B2} {x y z : D} {k l : Bool} (ha : Ev ta e m x) (hb : Ev tb e m y) (h1 : ∀ Q : QD, Q (.bl k) m → b1 x y m Q) (hc : k = true → Ev tc e m z) (h2 : k = true → ∀ Q : QD, Q (.bl l) m → b2 y z m Q) : Ev (aChain b1 b2 ta tb tc) e m (.bl (k && l)) := fun Q X q =>
  ha _ _ (hb _ _ (h1 _ ⟨k, rfl, by
    cases k with
    | true => exact hc rfl _ _ (h2 rfl _ (by simpa using q))
    | false => exact (by simpa using q)⟩))
/-- places of a list of a known length -/
theorem ixN_nat {n i : Nat} (h : i < n) : ixN n (i : Int) = some i := by
  unfold ixN
  rw [if_pos (Int.natCast_nonneg i), if_pos (by omega)]; rfl
theorem atI_natA {α : Type} {xs : List α} {i : Nat} {x : α} (h : xs[i]? = some x) : atI xs (i : Int) = some x := by
  unfold atI
  have hl : i < xs.length := (List.getElem?_eq_some_iff.mp h).1
  rw [ixN_nat hl]; exact h
theorem atI_int {α : Type} {xs : List α} {i : Int} {x : α} (h0 : 0 ≤ i) (h : xs[i.toNat]? = some x) : atI xs i = some x := by
  have e : ((i.toNat : Nat) : Int) = i := Int.toNat_of_nonneg h0
  rw [← e]; exact atI_natA h
theorem ev_ix {xs : List D} {i : Int} {x : D} (ha : Ev ta e m d) (hb : Ev tb e m (.int i)) (hk : asK m d = none) (hs : ∀ z, d ≠ .str z) (h : asS m d = some xs) (hx : atI xs i = some x) : Ev (aOp bIx ta tb) e m x := fun Q X q => ha _ _ (hb _ _ (by
  unfold bIx
  rw [hk]
  cases d <;> first | exact ⟨xs, i, x, h, rfl, hx, q⟩ | exact absurd rfl (hs _)))
theorem ev_ixL {xs : List D} {i : Int} {x : D} (ha : Ev ta e m (.lst xs)) (hb : Ev tb e m (.int i)) (hx : atI xs i = some x) : Ev (aOp bIx ta tb) e m x := ev_ix ha hb rfl (fun _ z => nomatch z) rfl hx
theorem ev_ixT {xs : List D} {i : Int} {x : D} (ha : Ev ta e m (.tup xs)) (hb : Ev tb e m (.int i)) (hx : atI xs i = some x) : Ev (aOp bIx ta tb) e m x := ev_ix ha hb rfl (fun _ z => nomatch z) rfl hx
theorem ev_ixScr {xs : List Int} {i : Int} {x : D} (ha : Ev ta e m (.scr xs)) (hb : Ev tb e m (.int i)) (hx : atI (xs.map D.int) i = some x) : Ev (aOp bIx ta tb) e m x := ev_ix ha hb rfl (fun _ z => nomatch z) rfl hx
theorem ev_ixC {a : Addr} {xs : List D} {i : Int} {x : D} (ha : Ev ta e m (.cell a)) (hb : Ev tb e m (.int i)) (hm : m a = some (.lst xs)) (hx : atI xs i = some x) : Ev (aOp bIx ta tb) e m x :=
  ev_ix ha hb (by show oK (m a) = none; rw [hm]; rfl) (fun _ z => nomatch z) (by show oL (m a) = some xs; rw [hm]; rfl) hx
theorem ev_ixS {z : Str} {i : Int} {c : Nat} (ha : Ev ta e m (.str z)) (hb : Ev tb e m (.int i)) (hl : z.length ≤ sizeLine) (hx : atI z.cps.toList i = some c) : Ev (aOp bIx ta tb) e m (.str ⟨#[c]⟩) := fun Q X q => ha _ _ (hb _ _ ⟨i, c, rfl, hl, hx, q⟩)
theorem ev_ixK {kvs : List (Key × D)} {d2 x : D} {k : Key} (ha : Ev ta e m d) (hb : Ev tb e m d2) (hk : asK m d = some kvs) (h2 : keyD d2 = some k) (hx : lkp kvs k = some x) : Ev (aOp bIx ta tb) e m x := fun Q X q => ha _ _ (hb _ _ (by
  unfold bIx
  rw [hk]; exact ⟨k, x, h2, hx, q⟩))
theorem ev_inK {neg : Bool} {kvs : List (Key × D)} {d2 : D} {k : Key} (ha : Ev ta e m d) (hb : Ev tb e m d2) (hk : asK m d2 = some kvs) (h2 : keyD d = some k) : Ev (aOp (bIn neg) ta tb) e m (.bl (if neg then !(lkp kvs k).isSome else (lkp kvs k).isSome)) := fun Q X q => ha _ _ (hb _ _ (by
  unfold bIn
  rw [hk]; exact ⟨k, h2, q⟩))
theorem ev_inS {neg : Bool} {c : Nat} {y : Str} (ha : Ev ta e m (.str ⟨#[c]⟩)) (hb : Ev tb e m (.str y)) : Ev (aOp (bIn neg) ta tb) e m (.bl (if neg then !decide (c ∈ y.cps.toList) else decide (c ∈ y.cps.toList))) := fun Q X q => ha _ _ (hb _ _ ⟨c, rfl, q⟩)
theorem ev_inL {neg : Bool} {xs : List D} {d2 : D} (ha : Ev ta e m d) (hb : Ev tb e m d2) (hk : asK m d2 = none) (hs : ∀ z, d2 ≠ .str z) (h : asS m d2 = some xs) (h1 : flatD d = true) (h2 : xs.all flatD = true) : Ev (aOp (bIn neg) ta tb) e m (.bl (if neg then !inD d xs else inD d xs)) := fun Q X q => ha _ _ (hb _ _ (by
  unfold bIn
  rw [hk]
  cases d2 <;> first | exact ⟨xs, h, h1, h2, q⟩ | exact absurd rfl (hs _)))
theorem ev_fld {K : PySem.W.Frag} {f : Str} {C : Addr} {fs : List (Str × D)} {v : D} (ha : Ev ta e m d) (h : asF m d = some (C, fs)) (ok : OkC K C f) (hv : fs.lookup f = some v) : Ev (aFld K f ta) e m v := fun Q X q => ha _ _ ⟨C, fs, v, h, ok, hv, q⟩
theorem ev_nil : EvA aNil e m [] := fun _ _ q => q
theorem ev_cons {tr : AA} {ds : List D} (ha : Ev ta e m d) (hr : EvA tr e m ds) : EvA (aCons ta tr) e m (d :: ds) := fun _ _ q => ha _ _ (hr _ _ q)
theorem ev_tup {tr : AA} {ds : List D} (h : EvA tr e m ds) (hl : ds.length ≤ sizeLine := by exact Nat.le_of_ble_eq_true rfl) : Ev (aTup tr) e m (.tup ds) := fun _ _ q => h _ _ ⟨hl, q⟩
theorem ev_lst {tr : AA} {ds : List D} (h : EvA tr e m ds) (hl : ds.length ≤ sizeLine := by exact Nat.le_of_ble_eq_true rfl) : Ev (aLst false tr) e m (.lst ds) := fun _ _ q => h _ _ ⟨hl, q⟩
theorem ev_cb {b : BA} {tr : AA} {ds : List D} (h : EvA tr e m ds) (hb : ∀ Q : QD, Q d m → b ds m Q) : Ev (aCB b tr) e m d := fun _ _ q => h _ _ (hb _ q)
theorem ev_lenS {z : Str} {tr : AA} (h : EvA tr e m [.str z]) (hl : z.length ≤ sizeLine) : Ev (aCB bLen tr) e m (.int z.length) := ev_cb h fun Q q => ⟨_, rfl, .inl ⟨z, rfl, hl, q⟩⟩
theorem ev_lenL {xs : List D} {tr : AA} (h : EvA tr e m [d]) (hx : asS m d = some xs) : Ev (aCB bLen tr) e m (.int xs.length) := ev_cb h fun Q q => ⟨_, rfl, .inr (.inl ⟨xs, hx, q⟩)⟩
theorem ev_lenC {a : Addr} {xs : List D} {tr : AA} (h : EvA tr e m [.cell a]) (hm : m a = some (.lst xs)) : Ev (aCB bLen tr) e m (.int xs.length) := ev_lenL h (by show oL (m a) = some xs; rw [hm]; rfl)
theorem ev_list {xs : List D} {tr : AA} (h : EvA tr e m [d]) (hx : asS m d = some xs) : Ev (aCB (bList false) tr) e m (.lst xs) := ev_cb h fun Q q => ⟨_, rfl, .inl ⟨xs, hx, q⟩⟩
theorem ev_tuple {xs : List D} {tr : AA} (h : EvA tr e m [d]) (hx : asS m d = some xs) : Ev (aCB bTuple tr) e m (.tup xs) := ev_cb h fun Q q => ⟨_, xs, rfl, hx, q⟩
theorem ev_strI {i : Int} {tr : AA} (h : EvA tr e m [.int i]) (hl : i.natAbs.log2 < 1920) : Ev (aCB bStr tr) e m (.str (toString i)) := ev_cb h fun Q q => .inl ⟨i, rfl, hl, q⟩
theorem ev_max2 {i j : Int} {tr : AA} (h : EvA tr e m [.int i, .int j]) : Ev (aCB bMax2 tr) e m (.int (max i j)) := ev_cb h fun Q q => ⟨i, j, rfl, q⟩
theorem ev_min2 {i j : Int} {tr : AA} (h : EvA tr e m [.int i, .int j]) : Ev (aCB bMin2 tr) e m (.int (min i j)) := ev_cb h fun Q q => ⟨i, j, rfl, q⟩
theorem ev_isi {K : PySem.W.Frag} {n : String} {b : Bool} (ha : Ev ta e m d) (h : isTy K m n d b) : Ev (aIsi K n ta) e m (.bl b) := fun Q X q => ha _ _ ⟨b, h, q⟩
theorem ev_call {sp : ASp} {dvs : List D} {tr : AA} {ds : List D} (h : EvA tr e m ds) (hs : ∀ Q X, Q d m → sp (ds ++ dvs) m Q X) : Ev (aCall sp dvs tr) e m d := fun _ _ q => h _ _ (hs _ _ q)
theorem ev_noP : EvO aNoP e m none := fun _ _ q => q
theorem ev_P {i : Int} (ha : Ev ta e m (.int i)) : EvO (aP ta) e m (some i) := fun _ _ q => ha _ _ ⟨i, rfl, q⟩
theorem ev_slS {mt : Bool} {lo hi : AO} {l h : Option Int} {x : Str} (ha : Ev ta e m (.str x)) (hl : EvO lo e m l) (hh : EvO hi e m h) (hz : x.length ≤ sizeLine) : Ev (aSl mt ta lo hi) e m (.str (cutS x l h)) := fun _ _ q => ha _ _ (hl _ _ (hh _ _ ⟨hz, q⟩))
theorem ev_slL {lo hi : AO} {l h : Option Int} {xs : List D} (ha : Ev ta e m d) (hl : EvO lo e m l) (hh : EvO hi e m h) (hx : asLL m d = some xs) : Ev (aSl false ta lo hi) e m (.lst (cut xs l h)) := fun Q X q => ha _ _ (hl _ _ (hh _ _ (by
  unfold bSl
  cases d <;> first | exact ⟨xs, hx, q⟩ | cases hx)))
/-! tests -/
theorem et_B {b : Bool} (h : Ev ta e m (.bl b)) : EvT (aB ta) e m b := fun _ _ q => h _ _ ⟨b, rfl, q⟩
theorem et_not {t : AT} {b : Bool} (h : EvT t e m b) : EvT (aNot t) e m (!b) := fun _ _ q => h _ _ q
theorem et_and {t u : AT} {b c : Bool} (h : EvT t e m b) (h2 : b = true → EvT u e m c) : EvT (aAnd t u) e m (b && c) := fun Q X q => h _ _ (by
  cases b with
  | true => exact h2 rfl _ _ (by simpa using q)
  | false => exact (by simpa using q))
theorem et_or {t u : AT} {b c : Bool} (h : EvT t e m b) (h2 : b = false → EvT u e m c) : EvT (aOr t u) e m (b || c) := fun Q X q => h _ _ (by
  cases b with
  | false => exact h2 rfl _ _ (by simpa using q)
  | true => exact (by simpa using q))
theorem ev_andV {b c : Bool} (h : Ev ta e m (.bl b)) (h2 : b = true → Ev tb e m (.bl c)) : Ev (aAndV ta tb) e m (.bl (b && c)) := fun Q X q => h _ _ ⟨b, rfl, by
  cases b with
  | true => exact h2 rfl _ _ (by simpa using q)
  | false => exact (by simpa using q)⟩
theorem ev_orV {b c : Bool} (h : Ev ta e m (.bl b)) (h2 : b = false → Ev tb e m (.bl c)) : Ev (aOrV ta tb) e m (.bl (b || c)) := fun Q X q => h _ _ ⟨b, rfl, by
  cases b with
  | false => exact h2 rfl _ _ (by simpa using q)
  | true => exact (by simpa using q)⟩
theorem ev_notV {b : Bool} (h : Ev ta e m (.bl b)) : Ev (aNotV ta) e m (.bl (!b)) := fun Q X q => h _ _ ⟨b, rfl, q⟩
theorem Ev.to {d' : D} (h : Ev ta e m d) (q : d = d') : Ev ta e m d' := q ▸ h
theorem EvT.to {t : AT} {b b' : Bool} (h : EvT t e m b) (q : b = b') : EvT t e m b' := q ▸ h
/-! ### statements -/
variable {A : AEnds} {t u : AS} {N B C : De → Mu → Prop} {R : QD} {E : Ex → De → Mu → Prop}
theorem k_seq (h : t ⟨u ⟨N, R, B, C, E⟩, R, B, C, E⟩ e m) : aSeq t u ⟨N, R, B, C, E⟩ e m := h
theorem k_next (h : N e m) : aNext ⟨N, R, B, C, E⟩ e m := h
theorem k_set {i : Nat} (h : Ev ta e m d) (k : N (e.set i (some d)) m) : aSet i ta ⟨N, R, B, C, E⟩ e m := h _ _ k
theorem k_ret (h : Ev ta e m d) (k : R d m) : aRet ta ⟨N, R, B, C, E⟩ e m := h _ _ k
theorem k_drop (h : Ev ta e m d) (k : N e m) : aDrop ta ⟨N, R, B, C, E⟩ e m := h _ _ k
theorem k_if {c : AT} {b : Bool} (h : EvT c e m b) (h1 : b = true → t ⟨N, R, B, C, E⟩ e m) (h2 : b = false → u ⟨N, R, B, C, E⟩ e m) : aIfS c t u ⟨N, R, B, C, E⟩ e m := h _ _ (by
  cases b with
  | true => exact h1 rfl
  | false => exact h2 rfl)
theorem k_ifT {c : AT} {b : Bool} (h : EvT c e m b) (hb : b = true) (h1 : t ⟨N, R, B, C, E⟩ e m) : aIfS c t u ⟨N, R, B, C, E⟩ e m := k_if h (fun _ => h1) fun z => by rw [hb] at z; cases z
theorem k_ifF {c : AT} {b : Bool} (h : EvT c e m b) (hb : b = false) (h1 : u ⟨N, R, B, C, E⟩ e m) : aIfS c t u ⟨N, R, B, C, E⟩ e m := k_if h (fun z => by rw [hb] at z; cases z) fun _ => h1
theorem k_ifG {c : AT} {b : Bool} (P : De → Prop) (h : EvT c e m b) (goal : ∀ e', P e' → N e' m) (h1 : b = true → (∀ e', P e' → N e' m) → t ⟨N, R, B, C, E⟩ e m) (h2 : b = false → (∀ e', P e' → N e' m) → u ⟨N, R, B, C, E⟩ e m) : aIfS c t u ⟨N, R, B, C, E⟩ e m := k_if h (fun z => h1 z goal) (fun z => h2 z goal)
theorem k_asg {g : AG} {e2 : De} (h : Ev ta e m d) (hg : ∀ (A : AEnds) (m : Mu) (P : De → Mu → Prop), P e2 m → g d A e m P) (k : N e2 m) : aAsg ta g ⟨N, R, B, C, E⟩ e m := h _ _ (hg _ _ _ k)
theorem k_aug {i : Nat} {x y : Int} (hx : e[i]? = some (some (.int x))) (h : Ev ta e m (.int y)) (k : N (e.set i (some (.int (x + y)))) m) : aAug i (bI0 fun i j => .int (i + j)) ta ⟨N, R, B, C, E⟩ e m := ⟨_, hx, h _ _ k⟩
/-- search loops over data: nothing is stored but the target -/
theorem k_for {ai : AI} {ag : AG} {ab : AS} {src : List D} {G : Mu → Prop} (h : ∀ Q X, Q src G m → ai e m Q X) (I : Nat → De → Mu → Prop) (h0 : I 0 e m) (hG : ∀ i e' m', I i e' m' → G m')
    (hs : ∀ i d e' m', src[i]? = some d → I i e' m' → ag d ⟨N, R, B, C, E⟩ e' m' fun e2 m2 => ab ⟨I (i + 1), R, N, I (i + 1), E⟩ e2 m2) (hd : ∀ e' m', I src.length e' m' → N e' m') : aFor ai ag ab ⟨N, R, B, C, E⟩ e m := h _ _ ⟨I, h0, hG, hs, hd⟩
theorem k_while {c : AT} {ab : AS} (I : Nat → De → Mu → Prop) (n : Nat) (h0 : I n e m) (hs : ∀ n e' m', I n e' m' → ∃ b, EvT c e' m' b ∧ (b = true → ab ⟨fun e2 m2 => ∃ k, k < n ∧ I k e2 m2, R, N, fun e2 m2 => ∃ k, k < n ∧ I k e2 m2, E⟩ e' m') ∧ (b = false → N e' m')) : aWhile c ab ⟨N, R, B, C, E⟩ e m :=
  ⟨I, ⟨n, h0⟩, fun n e' m' hi => by
    obtain ⟨b, h1, h2, h3⟩ := hs n e' m' hi
    refine h1 _ _ ?_
    cases b with
    | true => rw [if_pos rfl]; exact h2 rfl
    | false => rw [if_neg (by decide)]; exact h3 rfl⟩
theorem k_break (h : B e m) : aBreak ⟨N, R, B, C, E⟩ e m := h
theorem k_cont (h : C e m) : aCont ⟨N, R, B, C, E⟩ e m := h
theorem ei_seq {xs : List D} (ha : Ev ta e m d) (hx : asI m d = some xs) : ∀ Q X, Q xs (fun m => asI m d = some xs) m → aiSeq ta e m Q X := fun Q X q => ha _ _ ⟨xs, hx, q⟩
theorem ei_rng1 {tr : AA} {n : Int} (h : EvA tr e m [.int n]) (h1 : -(2 ^ 62) ≤ n) (h2 : n < 2 ^ 62) : ∀ Q X, Q (rng 0 n.toNat) (fun _ => True) m → aiRng1 tr e m Q X := fun Q X q => h _ _ ⟨n, rfl, h1, h2, q⟩
theorem ei_enum {tr : AA} {xs : List D} (h : EvA tr e m [d]) (hx : asLL m d = some xs) : ∀ Q X, Q (nums 0 xs) (fun m => asLL m d = some xs) m → aiEnum tr e m Q X := fun Q X q => h _ _ ⟨d, xs, rfl, hx, q⟩
/-- a target bound -/
def Bnd (ag : AG) (d : D) (e e2 : De) : Prop := ∀ (A : AEnds) (m : Mu) (P : De → Mu → Prop), P e2 m → ag d A e m P
def Bnds (ag : AGs) (ds : List D) (e e2 : De) : Prop := ∀ (A : AEnds) (m : Mu) (P : De → Mu → Prop), P e2 m → ag ds A e m P
theorem bnd_name {i : Nat} : Bnd (agName i) d e (e.set i (some d)) := fun _ _ _ q => q
theorem bnds_nil : Bnds agNil [] e e := fun _ _ _ q => ⟨rfl, q⟩
theorem bnds_cons {g : AG} {gs : AGs} {ds : List D} {e1 e2 : De} (h : Bnd g d e e1) (h2 : Bnds gs ds e1 e2) : Bnds (agCons g gs) (d :: ds) e e2 := fun A m P q => ⟨d, ds, rfl, h A m _ (h2 A m P q)⟩
theorem bnd_tup {n : Nat} {gs : AGs} {ds : List D} {e2 : De} (h : Bnds gs ds e e2) (hl : ds.length = n := by rfl) : Bnd (agTup n gs) (.tup ds) e e2 := fun A m P q => ⟨ds, rfl, hl, h A m P q⟩
/-- a comprehension that maps what passes a test -/
theorem ev_lcF {ai : AI} {ag : AG} {at_ : AT} {ae : AE} {vs : List Nat} {src : List D} {G : Mu → Prop} (p : D → Bool) (f : D → D) (h : ∀ Q X, Q src G m → ai e m Q X) (hG : G m) (hl : src.length < sizeLine)
    (hs : ∀ d, d ∈ src → ∃ e2, Bnd ag d (wipeA e vs) e2 ∧ EvT at_ e2 m (p d) ∧ (p d = true → Ev ae e2 m (f d))) : Ev (aLc false ai ag at_ ae vs) e m (.lst ((src.filter p).map f)) := fun Q X q => h _ _
  ⟨fun i acc m' => m' = m ∧ acc = ((src.take i).filter p).map f ∧ i ≤ src.length, ⟨rfl, rfl, Nat.zero_le _⟩, fun i acc m' z => z.1 ▸ hG, fun i d acc m' hd ⟨e1, e2, e3⟩ => by
    subst e1 e2
    have hi : i < src.length := (List.getElem?_eq_some_iff.mp hd).1
    obtain ⟨e2, h1, h2, h3⟩ := hs d (List.mem_of_getElem? hd)
    have et : src.take (i + 1) = src.take i ++ [d] := by rw [List.take_add_one, hd]; rfl
    refine h1 _ _ _ (h2 _ _ ?_)
    cases hp : p d with
    | true =>
      refine h3 hp _ _ ⟨?_, rfl, ?_, hi⟩
      · rw [List.length_map]
        exact Nat.lt_of_le_of_lt (Nat.le_trans (List.length_filter_le _ _) (by rw [List.length_take]; omega)) hl
      · rw [et, List.filter_append, List.map_append, List.filter_cons, hp]; rfl
    | false =>
      refine ⟨rfl, ?_, hi⟩
      rw [et, List.filter_append, List.map_append, List.filter_cons, hp]
      simp, fun acc m' ⟨e1, e2, _⟩ => by
    subst e1 e2
    rw [List.take_length]; exact q⟩
theorem ev_lcM {ai : AI} {ag : AG} {ae : AE} {vs : List Nat} {src : List D} {G : Mu → Prop} (f : D → D) (h : ∀ Q X, Q src G m → ai e m Q X) (hG : G m) (hl : src.length < sizeLine)
    (hs : ∀ d, d ∈ src → ∃ e2, Bnd ag d (wipeA e vs) e2 ∧ Ev ae e2 m (f d)) : Ev (aLc false ai ag aYes ae vs) e m (.lst (src.map f)) := by
  have k := ev_lcF (at_ := aYes) (fun _ => true) f h hG hl fun d hd => let ⟨e2, h1, h2⟩ := hs d hd; ⟨e2, h1, fun _ _ q => q, fun _ => h2⟩
  rw [List.filter_eq_self.mpr (fun _ _ => rfl)] at k
  exact k
end
end Ab
namespace Ab
open PySem PySem.Spec PyProof.Rows L2
/-! ### one rule a form, one lemma a reading -/
def Op1 (b : B1) (x : D) (m : Mu) (d : D) : Prop := ∀ Q : QD, Q d m → b x m Q
def Op2 (b : B2) (x y : D) (m : Mu) (d : D) : Prop := ∀ Q : QD, Q d m → b x y m Q
def OpA (b : BA) (xs : List D) (m : Mu) (d : D) : Prop := ∀ Q : QD, Q d m → b xs m Q
def OpM (b : BM) (x : D) (xs : List D) (m : Mu) (d : D) : Prop := ∀ Q : QD, Q d m → b x xs m Q
section
variable {e : De} {m : Mu} {ta tb tc : AE} {tr : AA} {d x y : D} {xs : List D}
theorem ev_op1 {b : B1} (ha : Ev ta e m x) (h : Op1 b x m d) : Ev (aOp1 b ta) e m d := fun _ _ q => ha _ _ (h _ q)
theorem ev_op2 {b : B2} (ha : Ev ta e m x) (hb : Ev tb e m y) (h : Op2 b x y m d) : Ev (aOp b ta tb) e m d := fun _ _ q => ha _ _ (hb _ _ (h _ q))
theorem ev_opA {b : BA} (ha : EvA tr e m xs) (h : OpA b xs m d) : Ev (aCB b tr) e m d := fun _ _ q => ha _ _ (h _ q)
theorem ev_opM {n : String} {b : BM} (ha : Ev ta e m x) (hr : EvA tr e m xs) (h : OpM b x xs m d) (ht : tyD n m x) : Ev (aBM n b ta tr) e m d := fun _ _ q => ha _ _ ⟨ht, hr _ _ (h _ q)⟩
theorem ev_opM0 {n : String} {b : BM} (ha : Ev ta e m x) (h : OpM b x [] m d) (ht : tyD n m x) : Ev (aBM0 n b ta) e m d := fun _ _ q => ha _ _ ⟨ht, h _ q⟩
theorem ev_tupG {ds : List D} (h : EvA tr e m ds) (hl : ds.length ≤ sizeLine) : Ev (aTup tr) e m (.tup ds) := ev_tup h hl
theorem ev_lstG {ds : List D} (h : EvA tr e m ds) (hl : ds.length ≤ sizeLine) : Ev (aLst false tr) e m (.lst ds) := ev_lst h hl
/-! numbers -/
variable {i j : Int} {s t : Str} {k l : Bool}
theorem o_add {mt : Bool} : Op2 (bAdd mt) (.int i) (.int j) m (.int (i + j)) := fun _ q => q
theorem o_addS {mt : Bool} (h : s.length + t.length ≤ sizeLine) : Op2 (bAdd mt) (.str s) (.str t) m (.str (s ++ t)) := fun _ q => ⟨h, q⟩
theorem o_addLL {xs ys : List D} (h : xs.length + ys.length ≤ sizeLine) : Op2 (bAdd false) (.lst xs) (.lst ys) m (.lst (xs ++ ys)) := fun _ q => ⟨_, _, rfl, rfl, h, q⟩
theorem o_sub : Op2 bSub (.int i) (.int j) m (.int (i - j)) := fun _ q => q
theorem o_mulI (h : MulOk i j) : Op2 bMul (.int i) (.int j) m (.int (i * j)) := fun _ q => ⟨h, q⟩
theorem o_divI (h : CDivW i j) : Op2 bDiv (.int i) (.int j) m (.int (i / j)) := fun _ q => ⟨h, q⟩
theorem o_mod (h : 0 < j) : Op2 bMod (.int i) (.int j) m (.int (i % j)) := fun _ q => ⟨h, q⟩
theorem o_pow (h : CPow i j) : Op2 bPow (.int i) (.int j) m (.int (i ^ j.toNat)) := fun _ q => ⟨h, q⟩
theorem o_powL {n : Nat} (h : CPow i (OfNat.ofNat n)) : Op2 bPow (.int i) (.int (OfNat.ofNat n)) m (.int (i ^ (OfNat.ofNat n : Nat))) := fun _ q => ⟨h, q⟩
theorem o_shr (h : 0 ≤ j) : Op2 bShr (.int i) (.int j) m (.int (i / 2 ^ j.toNat)) := fun _ q => ⟨h, q⟩
theorem o_and {k : Nat} (h : j = 2 ^ k - 1) : Op2 bAnd (.int i) (.int j) m (.int (i % 2 ^ k)) := fun _ q => ⟨i, k, rfl, by rw [h], q⟩
theorem o_neg : Op1 bNeg (.int i) m (.int (-i)) := fun _ q => q
theorem o_lt : Op2 bLt (.int i) (.int j) m (.bl (decide (i < j))) := fun _ q => q
theorem o_le : Op2 bLe (.int i) (.int j) m (.bl (decide (i ≤ j))) := fun _ q => q
theorem o_gt : Op2 bGt (.int i) (.int j) m (.bl (decide (j < i))) := fun _ q => q
theorem o_ge : Op2 bGe (.int i) (.int j) m (.bl (decide (j ≤ i))) := fun _ q => q
theorem o_ltS : Op2 bLt (.str s) (.str t) m (.bl (decide (s.cps.toList < t.cps.toList))) := fun _ q => q
theorem o_leS : Op2 bLe (.str s) (.str t) m (.bl (!decide (t.cps.toList < s.cps.toList))) := fun _ q => q
theorem o_eq : Op2 bEq (.int i) (.int j) m (.bl (decide (i = j))) := fun _ q => q
theorem o_ne : Op2 bNe (.int i) (.int j) m (.bl (!decide (i = j))) := fun _ q => q
theorem o_eqS : Op2 bEq (.str s) (.str t) m (.bl (decide (s = t))) := fun _ q => q
theorem o_neS : Op2 bNe (.str s) (.str t) m (.bl (!decide (s = t))) := fun _ q => q
theorem o_eqB : Op2 bEq (.bl k) (.bl l) m (.bl (decide (k = l))) := fun _ q => q
theorem o_neB : Op2 bNe (.bl k) (.bl l) m (.bl (!decide (k = l))) := fun _ q => q
theorem o_eqD (h1 : DOk (vw m x)) (h2 : DOk (vw m y)) : Op2 bEq x y m (.bl (eqD (vw m x) (vw m y))) := fun _ q => bEq_gen h1 h2 q
theorem o_neD (h1 : DOk (vw m x)) (h2 : DOk (vw m y)) : Op2 bNe x y m (.bl (!eqD (vw m x) (vw m y))) := fun _ q => bNe_gen h1 h2 q
theorem o_is : Op2 bIs x .non m (.bl (isN x)) := fun _ q => ⟨rfl, q⟩
theorem o_isn : Op2 bIsn x .non m (.bl (!isN x)) := fun _ q => ⟨rfl, q⟩
theorem o_ix {xs : List D} (hk : asK m x = none) (hs : ∀ z, x ≠ .str z) (h : asS m x = some xs) (hx : atI xs i = some d) : Op2 bIx x (.int i) m d := fun Q q => by
  unfold bIx
  rw [hk]
  cases x <;> first | exact ⟨xs, i, d, h, rfl, hx, q⟩ | exact absurd rfl (hs _)
theorem o_ixL {xs : List D} (hx : atI xs i = some d) : Op2 bIx (.lst xs) (.int i) m d := o_ix rfl (fun _ z => nomatch z) rfl hx
theorem o_ixT {xs : List D} (hx : atI xs i = some d) : Op2 bIx (.tup xs) (.int i) m d := o_ix rfl (fun _ z => nomatch z) rfl hx
theorem o_ixScr {ns : List Int} (hx : atI (ns.map D.int) i = some d) : Op2 bIx (.scr ns) (.int i) m d := o_ix rfl (fun _ z => nomatch z) rfl hx
theorem o_ixC {a : Addr} {xs : List D} (hm : m a = some (.lst xs)) (hx : atI xs i = some d) : Op2 bIx (.cell a) (.int i) m d :=
  o_ix (by show oK (m a) = none; rw [hm]; rfl) (fun _ z => nomatch z) (by show oL (m a) = some xs; rw [hm]; rfl) hx
theorem o_ixS {c : Nat} (hl : s.length ≤ sizeLine) (hx : atI s.cps.toList i = some c) : Op2 bIx (.str s) (.int i) m (.str ⟨#[c]⟩) := fun Q q => ⟨i, c, rfl, hl, hx, q⟩
theorem o_ixK {kvs : List (Key × D)} {key : Key} (hk : asK m x = some kvs) (h2 : keyD y = some key) (hx : lkp kvs key = some d) : Op2 bIx x y m d := fun Q q => by
  unfold bIx
  rw [hk]; exact ⟨key, d, h2, hx, q⟩
theorem o_inK {neg : Bool} {kvs : List (Key × D)} {key : Key} (hk : asK m y = some kvs) (h2 : keyD x = some key) : Op2 (bIn neg) x y m (.bl (if neg then !(lkp kvs key).isSome else (lkp kvs key).isSome)) := fun Q q => by
  unfold bIn
  rw [hk]; exact ⟨key, h2, q⟩
theorem o_inS {neg : Bool} {c : Nat} : Op2 (bIn neg) (.str ⟨#[c]⟩) (.str t) m (.bl (if neg then !decide (c ∈ t.cps.toList) else decide (c ∈ t.cps.toList))) := fun Q q => ⟨c, rfl, q⟩
theorem o_inL {neg : Bool} {xs : List D} (hk : asK m y = none) (hs : ∀ z, y ≠ .str z) (h : asS m y = some xs) (h1 : flatD x = true) (h2 : xs.all flatD = true) : Op2 (bIn neg) x y m (.bl (if neg then !inD x xs else inD x xs)) := fun Q q => by
  unfold bIn
  rw [hk]
  cases y <;> first | exact ⟨xs, h, h1, h2, q⟩ | exact absurd rfl (hs _)
theorem o_inLL {neg : Bool} {xs : List D} (h1 : flatD x = true) (h2 : xs.all flatD = true) : Op2 (bIn neg) x (.lst xs) m (.bl (if neg then !inD x xs else inD x xs)) := o_inL rfl (fun _ z => nomatch z) rfl h1 h2
theorem o_inT {neg : Bool} {xs : List D} (h1 : flatD x = true) (h2 : xs.all flatD = true) : Op2 (bIn neg) x (.tup xs) m (.bl (if neg then !inD x xs else inD x xs)) := o_inL rfl (fun _ z => nomatch z) rfl h1 h2
/-! builtins -/
theorem o_lenS (h : s.length ≤ sizeLine) : OpA bLen [.str s] m (.int s.length) := fun _ q => ⟨_, rfl, .inl ⟨s, rfl, h, q⟩⟩
theorem o_lenL {xs : List D} : OpA bLen [.lst xs] m (.int xs.length) := fun _ q => ⟨_, rfl, .inr (.inl ⟨xs, rfl, q⟩)⟩
theorem o_lenT {xs : List D} : OpA bLen [.tup xs] m (.int xs.length) := fun _ q => ⟨_, rfl, .inr (.inl ⟨xs, rfl, q⟩)⟩
theorem o_lenScr {ns : List Int} : OpA bLen [.scr ns] m (.int ns.length) := fun Q q => ⟨_, rfl, .inr (.inl ⟨_, rfl, by rw [List.length_map]; exact q⟩)⟩
theorem o_lenC {a : Addr} {xs : List D} (hm : m a = some (.lst xs)) : OpA bLen [.cell a] m (.int xs.length) := fun _ q => ⟨_, rfl, .inr (.inl ⟨xs, by show oL (m a) = some xs; rw [hm]; rfl, q⟩)⟩
theorem o_listL {xs : List D} : OpA (bList false) [.lst xs] m (.lst xs) := fun _ q => ⟨_, rfl, .inl ⟨xs, rfl, q⟩⟩
theorem o_listT {xs : List D} : OpA (bList false) [.tup xs] m (.lst xs) := fun _ q => ⟨_, rfl, .inl ⟨xs, rfl, q⟩⟩
theorem o_listC {a : Addr} {xs : List D} (hm : m a = some (.lst xs)) : OpA (bList false) [.cell a] m (.lst xs) := fun _ q => ⟨_, rfl, .inl ⟨xs, by show oL (m a) = some xs; rw [hm]; rfl, q⟩⟩
theorem o_tupL {xs : List D} : OpA bTuple [.lst xs] m (.tup xs) := fun _ q => ⟨_, _, rfl, rfl, q⟩
theorem o_tupT {xs : List D} : OpA bTuple [.tup xs] m (.tup xs) := fun _ q => ⟨_, _, rfl, rfl, q⟩
theorem o_tupC {a : Addr} {xs : List D} (hm : m a = some (.lst xs)) : OpA bTuple [.cell a] m (.tup xs) := fun _ q => ⟨_, _, rfl, (by show oL (m a) = some xs; rw [hm]; rfl), q⟩
theorem o_strI (h : i.natAbs.log2 < 1920) : OpA bStr [.int i] m (.str (toString i)) := fun _ q => .inl ⟨i, rfl, h, q⟩
theorem o_strS : OpA bStr [.str s] m (.str s) := fun _ q => .inr ⟨s, rfl, q⟩
theorem o_intI : OpA bInt [.int i] m (.int i) := fun _ q => .inl ⟨i, rfl, q⟩
theorem o_intB : OpA bInt [.bl k] m (.int (if k then 1 else 0)) := fun _ q => .inr (.inl ⟨k, rfl, q⟩)
theorem o_intS {n : Int} (h : PySem.intText? s = some n) (hl : s.length ≤ 640) : OpA bInt [.str s] m (.int n) := fun _ q => .inr (.inr ⟨s, n, rfl, h, hl, q⟩)
theorem o_max2 : OpA bMax2 [.int i, .int j] m (.int (max i j)) := fun _ q => ⟨i, j, rfl, q⟩
theorem o_min2 : OpA bMin2 [.int i, .int j] m (.int (min i j)) := fun _ q => ⟨i, j, rfl, q⟩
theorem o_join {ys : List Str} (hx : xs = ys.map D.str) (hl : (ys.map (·.length)).sum + ys.length * s.length ≤ 16777216) : OpM bJoin (.str s) [.lst xs] m (.str (Txt.join s ys)) := fun _ q => ⟨s, _, xs, ys, rfl, rfl, rfl, hx, hl, q⟩
theorem o_split (h1 : (t.length == 0) = false) (h2 : s.length + 2 ≤ sizeLine) : OpM (bSplit false) (.str s) [.str t] m (.lst ((Txt.split s t).map D.str)) := fun _ q => ⟨s, t, rfl, rfl, h1, h2, q⟩
theorem ev_sl {mt : Bool} {lo hi : AO} {l h : Option Int} (ha : Ev ta e m x) (hl : EvO lo e m l) (hh : EvO hi e m h) (hb : ∀ Q : QD, Q d m → bSl mt x l h m Q) : Ev (aSl mt ta lo hi) e m d := fun _ _ q => ha _ _ (hl _ _ (hh _ _ (hb _ q)))
theorem o_slS {mt : Bool} {l h : Option Int} (hz : s.length ≤ sizeLine) : ∀ Q : QD, Q (.str (cutS s l h)) m → bSl mt (.str s) l h m Q := fun _ q => ⟨hz, q⟩
theorem o_slL {l h : Option Int} {xs : List D} : ∀ Q : QD, Q (.lst (cut xs l h)) m → bSl false (.lst xs) l h m Q := fun _ q => ⟨xs, rfl, q⟩
theorem o_slScr {l h : Option Int} {ns : List Int} : ∀ Q : QD, Q (.lst (cut (ns.map D.int) l h)) m → bSl false (.scr ns) l h m Q := fun _ q => ⟨_, rfl, q⟩
theorem ty_int {K : PySem.W.Frag} {i : Int} : isTy K m "int" (.int i) true := ⟨_, rfl, rfl⟩
theorem ty_intB {K : PySem.W.Frag} {i : Int} : isTy K m "bool" (.int i) false := ⟨_, rfl, rfl⟩
theorem ty_intS {K : PySem.W.Frag} {i : Int} : isTy K m "str" (.int i) false := ⟨_, rfl, rfl⟩
theorem ty_bb {K : PySem.W.Frag} {i : Bool} : isTy K m "bool" (.bl i) true := ⟨_, rfl, rfl⟩
theorem ty_bi {K : PySem.W.Frag} {i : Bool} : isTy K m "int" (.bl i) true := ⟨_, rfl, rfl⟩
theorem ty_bs {K : PySem.W.Frag} {i : Bool} : isTy K m "str" (.bl i) false := ⟨_, rfl, rfl⟩
theorem ty_str {K : PySem.W.Frag} {i : Str} : isTy K m "str" (.str i) true := ⟨_, rfl, rfl⟩
theorem ty_strI {K : PySem.W.Frag} {i : Str} : isTy K m "int" (.str i) false := ⟨_, rfl, rfl⟩
theorem ty_strB {K : PySem.W.Frag} {i : Str} : isTy K m "bool" (.str i) false := ⟨_, rfl, rfl⟩
theorem ty_lst {K : PySem.W.Frag} {i : List D} : isTy K m "list" (.lst i) true := ⟨_, rfl, rfl⟩
theorem ty_lstI {K : PySem.W.Frag} {i : List D} : isTy K m "int" (.lst i) false := ⟨_, rfl, rfl⟩
theorem ty_lstS {K : PySem.W.Frag} {i : List D} : isTy K m "str" (.lst i) false := ⟨_, rfl, rfl⟩
theorem ty_tup {K : PySem.W.Frag} {i : List D} : isTy K m "tuple" (.tup i) true := ⟨_, rfl, rfl⟩
theorem ty_tupI {K : PySem.W.Frag} {i : List D} : isTy K m "int" (.tup i) false := ⟨_, rfl, rfl⟩
theorem ty_tupS {K : PySem.W.Frag} {i : List D} : isTy K m "str" (.tup i) false := ⟨_, rfl, rfl⟩
theorem ty_nonI {K : PySem.W.Frag} : isTy K m "int" .non false := ⟨_, rfl, rfl⟩
theorem ty_nonS {K : PySem.W.Frag} : isTy K m "str" .non false := ⟨_, rfl, rfl⟩
theorem ty_cellL {K : PySem.W.Frag} {a : Addr} {xs : List D} (hm : m a = some (.lst xs)) : isTy K m "list" (.cell a) true := ⟨_, .inl ⟨xs, hm, rfl⟩, rfl⟩
theorem td_str : tyD "str" m (.str s) := .inr ⟨rfl, s, rfl⟩
theorem td_lst {xs : List D} : tyD "list" m (.lst xs) := .inl ⟨rfl, xs, rfl⟩
theorem td_cell {a : Addr} {xs : List D} (hm : m a = some (.lst xs)) : tyD "list" m (.cell a) := .inl ⟨rfl, xs, by show oL (m a) = some xs; rw [hm]; rfl⟩
variable {N B C : De → Mu → Prop} {R : QD} {E : Ex → De → Mu → Prop}
theorem k_setX {i : Nat} (h : ta e m (fun d m1 => N (e.set i (some d)) m1) (fun x m => E x e m)) : aSet i ta ⟨N, R, B, C, E⟩ e m := h
theorem k_retX (h : ta e m R (fun x m => E x e m)) : aRet ta ⟨N, R, B, C, E⟩ e m := h
theorem k_dropX (h : ta e m (fun _ m1 => N e m1) (fun x m => E x e m)) : aDrop ta ⟨N, R, B, C, E⟩ e m := h
theorem k_setC {i : Nat} {sp : ASp} {dvs ds : List D} (ha : EvA tr e m ds) (h : sp (ds ++ dvs) m (fun d m1 => N (e.set i (some d)) m1) (fun x m => E x e m)) : aSet i (aCall sp dvs tr) ⟨N, R, B, C, E⟩ e m := ha _ _ h
theorem k_retC {sp : ASp} {dvs ds : List D} (ha : EvA tr e m ds) (h : sp (ds ++ dvs) m R (fun x m => E x e m)) : aRet (aCall sp dvs tr) ⟨N, R, B, C, E⟩ e m := ha _ _ h
theorem k_dropC {sp : ASp} {dvs ds : List D} (ha : EvA tr e m ds) (h : sp (ds ++ dvs) m (fun _ m1 => N e m1) (fun x m => E x e m)) : aDrop (aCall sp dvs tr) ⟨N, R, B, C, E⟩ e m := ha _ _ h
theorem x_op2 {b : B2} {Q : QD} {X : XA} (h : ta e m (fun d m1 => tb e m1 (fun d2 m2 => b d d2 m2 Q) X) X) : aOp b ta tb e m Q X := h
theorem x_call {sp : ASp} {dvs ds : List D} {Q : QD} {X : XA} (ha : EvA tr e m ds) (h : sp (ds ++ dvs) m Q X) : aCall sp dvs tr e m Q X := ha _ _ h
theorem k_append {a : Addr} {xs : List D} (ha : Ev ta e m (.cell a)) (hr : EvA tr e m [d]) (hm : m a = some (.lst xs)) (hl : xs.length < sizeLine) (k : N e (mset m a (.lst (xs ++ [d])))) : aDrop (aBM "list" bAppend ta tr) ⟨N, R, B, C, E⟩ e m :=
  ha _ _ ⟨td_cell hm, hr _ _ ⟨a, xs, d, rfl, rfl, hm, hl, k⟩⟩
theorem k_setN {i : Nat} {xs : List D} (h : EvA tr e m xs) (k : ∀ p, m p = none → N (e.set i (some (.cell p))) (mset m p (.lst xs))) (hl : xs.length ≤ sizeLine := by exact Nat.le_of_ble_eq_true rfl) : aSet i (aLst true tr) ⟨N, R, B, C, E⟩ e m := h _ _ ⟨hl, fun p hp => k p hp⟩
theorem eqD_refl {d : D} (h : DOk d) : eqD d d = true := by
  obtain ⟨n, _, o⟩ := h
  exact PySem.SeqAt.eqv_refl _ o.shape.1
theorem rng_len (lo : Int) (n : Nat) : (rng lo n).length = n := by
  unfold rng; rw [List.length_map, List.length_range]
theorem rng_mem {lo : Int} {n : Nat} {d : D} (h : d ∈ rng lo n) : ∃ i : Nat, i < n ∧ d = .int (lo + i) := by
  unfold rng at h
  obtain ⟨i, hi, rfl⟩ := List.mem_map.mp h
  exact ⟨i, List.mem_range.mp hi, rfl⟩
theorem rng_get {lo : Int} {n i : Nat} {d : D} (h : (rng lo n)[i]? = some d) : i < n ∧ d = .int (lo + i) := by
  unfold rng at h
  rw [List.getElem?_map] at h
  cases hq : (List.range n)[i]? with
  | none => rw [hq] at h; cases h
  | some j =>
    rw [hq] at h
    obtain ⟨hl, e⟩ := List.getElem?_eq_some_iff.mp hq
    rw [List.getElem_range] at e
    rw [List.length_range] at hl
    subst e
    cases h; exact ⟨hl, rfl⟩
theorem joinL_one : ∀ l : List Nat, TL.joinL [] (l.map fun c => [c]) = l
  | [] => rfl
  | [c] => rfl
  | c :: d :: r => by
    show [c] ++ ([] ++ TL.joinL [] ((d :: r).map fun c => [c])) = _
    rw [joinL_one (d :: r)]; rfl
theorem join_signs (l : List Nat) : Txt.join "" (l.map fun c => (⟨#[c]⟩ : Str)) = ⟨l.toArray⟩ := TL.ext_tl (by
  rw [TL.join_eq, TL.tl_join]
  show TL.joinL [] ((l.map fun c => (⟨#[c]⟩ : Str)).map TL.tl) = l
  rw [List.map_map]
  exact joinL_one l)
theorem signs_sum : ∀ l : List Nat, ((l.map fun c => (⟨#[c]⟩ : Str)).map (·.length)).sum = l.length
  | [] => rfl
  | c :: r => by
    rw [List.map_cons, List.map_cons, List.sum_cons, signs_sum r, List.length_cons]
    show 1 + r.length = _
    omega
theorem cut_to {xs : List D} {k : Int} (h : 0 ≤ k) : cut xs none (some k) = xs.take k.toNat := by
  unfold cut HT.sIx
  simp only [List.drop_zero, Nat.sub_zero]
  rw [if_neg (by omega), List.take_eq_take_iff]; omega
end
/-! ### the end: the ends of a call without the world -/
def CXe (P : Program) : CXT := fun o H s E e s' => ∃ w, L2.CX P w o H s E e s'
theorem FnOk.toE {P : Program} {w : World} {K : PySem.W.Frag} {mg : Str → Option Value} {base : Heap} {k : Nat} {f : Addr} {fd : FuncData} {ps : List Str} {sp : Sp} (F : FnOk P w K mg base (L2.CX P w) k f fd ps sp) : FnOk P w K mg base (CXe P) k f fd ps sp :=
  ⟨F.len, fun A outer s H args us vs Q E hr he hb hv hs => codeAny_mono (F.run A outer s H args us vs Q E hr he hb hv hs) fun r s' h => by
    cases r with
    | error e => exact ⟨w, h⟩
    | ok fl =>
      cases fl with
      | ret v => exact h
      | next => exact h
      | brk => exact h
      | cont => exact h⟩
theorem cxe_none {P : Program} : ∀ (H : Hp) (s : Shared) (e : Value) (s' : Shared), CXe P [] H s (fun _ _ _ => False) e s' → False := fun H s e s' ⟨w, h⟩ => cx_none H s e s' h
end Ab
namespace Ab
open PySem PySem.Spec PyProof.Rows L2
section
variable {e : De} {m : Mu} {ta tb tc : AE} {tr : AA} {d x y z : D} {xs : List D} {N B C : De → Mu → Prop} {R : QD} {E : Ex → De → Mu → Prop}
/-- every item passes, else an early end -/
theorem k_forAll {ai : AI} {ag : AG} {ab : AS} {src : List D} {G : Mu → Prop} (h : ∀ Q X, Q src G m → ai e m Q X) (hG : G m) (p : D → Bool) (J : De → Prop) (h0 : J e)
    (hs : ∀ (P : De → Mu → Prop) (d : D) (e' : De), d ∈ src → J e' → (p d = true → ∀ e3, J e3 → P e3 m) → ag d ⟨N, R, B, C, E⟩ e' m fun e2 m2 => ab ⟨P, R, N, P, E⟩ e2 m2)
    (hend : (∀ d, d ∈ src → p d = true) → ∀ e', J e' → N e' m) : aFor ai ag ab ⟨N, R, B, C, E⟩ e m :=
  k_for h (fun i e' m' => m' = m ∧ J e' ∧ ∀ d, d ∈ src.take i → p d = true) ⟨rfl, h0, fun d hd => by rw [List.take_zero] at hd; cases hd⟩ (fun _ _ _ z => z.1 ▸ hG)
    (fun i d e' m' hd ⟨e1, hj, hp⟩ => by
      subst e1
      refine hs _ d e' (List.mem_of_getElem? hd) hj fun hpd e3 j3 => ⟨rfl, j3, fun d' hd' => ?_⟩
      rw [List.take_add_one, hd] at hd'
      rcases List.mem_append.mp hd' with q | q
      · exact hp d' q
      · rw [show (some d).toList = [d] from rfl] at q
        rw [List.mem_singleton.mp q]; exact hpd)
    (fun e' m' ⟨e1, hj, hp⟩ => by
      subst e1
      rw [List.take_length] at hp
      exact hend hp e' hj)
theorem ev_chainG {b1 b2 : B2} {k l : Bool} (ha : Ev ta e m x) (hb : Ev tb e m y) (h1 : Op2 b1 x y m (.bl k)) (hc : k = true → Ev tc e m z) (h2 : k = true → Op2 b2 y z m (.bl l)) : Ev (aChain b1 b2 ta tb tc) e m (.bl (k && l)) := ev_chain ha hb h1 hc h2
end
/-! ### forms that are no plain telling -/
section
variable {e : De} {m : Mu} {ta tb tc : AE} {tr : AA} {d x y z : D} {xs : List D} {N B C : De → Mu → Prop} {R : QD} {E : Ex → De → Mu → Prop}
theorem k_forX {ai : AI} {ag : AG} {ab : AS} (h : ai e m (fun src G m1 => loopA src G ag ab ⟨N, R, B, C, E⟩ e m1) fun x m => E x e m) : aFor ai ag ab ⟨N, R, B, C, E⟩ e m := h
theorem k_loop {ag : AG} {ab : AS} {src : List D} {G : Mu → Prop} (I : Nat → De → Mu → Prop) (h0 : I 0 e m) (hG : ∀ i e' m', I i e' m' → G m')
    (hs : ∀ i d e' m', src[i]? = some d → I i e' m' → ag d ⟨N, R, B, C, E⟩ e' m' fun e2 m2 => ab ⟨I (i + 1), R, N, I (i + 1), E⟩ e2 m2) (hd : ∀ e' m', I src.length e' m' → N e' m') : loopA src G ag ab ⟨N, R, B, C, E⟩ e m := ⟨I, h0, hG, hs, hd⟩
theorem xi_seq {Q : List D → (Mu → Prop) → Mu → Prop} {X : XA} (h : ta e m (fun d m1 => ∃ xs, asI m1 d = some xs ∧ Q xs (fun m => asI m d = some xs) m1) X) : aiSeq ta e m Q X := h
theorem x_lst {mt : Bool} {Q : QD} {X : XA} (h : tr e m (fun ds m1 => ds.length ≤ sizeLine ∧ newL mt ds m1 Q) X) : aLst mt tr e m Q X := h
theorem x_tup {Q : QD} {X : XA} (h : tr e m (fun ds m1 => ds.length ≤ sizeLine ∧ Q (.tup ds) m1) X) : aTup tr e m Q X := h
theorem xa_cons {Q : List D → Mu → Prop} {X : XA} (ha : Ev ta e m d) (h : tr e m (fun ds m2 => Q (d :: ds) m2) X) : aCons ta tr e m Q X := ha _ _ h
theorem xa_consX {Q : List D → Mu → Prop} {X : XA} (h : ta e m (fun d m1 => tr e m1 (fun ds m2 => Q (d :: ds) m2) X) X) : aCons ta tr e m Q X := h
theorem x_dict0 {Q : QD} {X : XA} (h : ∀ p, m p = none → Q (.cell p) (mset m p (.dic false []))) : aDict0 e m Q X := h
theorem xa_end {Q : List D → Mu → Prop} {X : XA} (ha : EvA tr e m xs) (h : Q xs m) : tr e m Q X := ha _ _ h
end
/-! texts of a bounded size -/
def TxOk (n : Nat) (x : Str) : Prop := x.length ≤ n ∧ ∀ c, c ∈ x.cps.toList → c < 0x110000
theorem len_tl (x : Str) : x.length = x.cps.toList.length := by unfold Str.length; simp
theorem TxOk.ok {n : Nat} {x : Str} (h : TxOk n x) : PyData.strOk x = true := by
  unfold PyData.strOk
  rw [← Array.all_toList]
  exact List.all_eq_true.mpr fun c hc => decide_eq_true (h.2 c hc)
theorem TxOk.cut {n : Nat} {x : Str} (h : TxOk n x) (lo hi : Option Int) : TxOk n (cutS x lo hi) := by
  refine ⟨?_, fun c hc => h.2 c ?_⟩
  · have := h.1
    rw [len_tl] at this ⊢
    unfold cutS
    show ((x.cps.toList.drop _).take _).length ≤ n
    rw [List.length_take, List.length_drop]; omega
  · unfold cutS at hc
    have hc : c ∈ ((x.cps.toList.drop (HT.sIx x.length 0 lo)).take (HT.sIx x.length x.length hi - HT.sIx x.length 0 lo)) := hc
    exact List.mem_of_mem_drop (List.mem_of_mem_take hc)
theorem tl_app (x y : Str) : (x ++ y).cps.toList = x.cps.toList ++ y.cps.toList := TL.tl_append x y
theorem TxOk.app {n k : Nat} {x y : Str} (h : TxOk n x) (h2 : TxOk k y) : TxOk (n + k) (x ++ y) := by
  refine ⟨?_, fun c hc => ?_⟩
  · have a := h.1; have b := h2.1
    rw [len_tl] at a b ⊢
    rw [tl_app, List.length_append]; omega
  · rw [tl_app] at hc
    rcases List.mem_append.mp hc with q | q
    · exact h.2 c q
    · exact h2.2 c q
theorem TxOk.sign {c : Nat} (h : c < 0x110000) : TxOk 1 ⟨#[c]⟩ := ⟨Nat.le_refl 1, fun x hx => by
  have hx : x ∈ [c] := hx
  rw [List.mem_singleton.mp hx]; exact h⟩
theorem TxOk.list {n : Nat} {l : List Nat} (h : l.length ≤ n) (h2 : ∀ c, c ∈ l → c < 0x110000) : TxOk n ⟨l.toArray⟩ := ⟨by rw [len_tl]; exact h, h2⟩
theorem TxOk.mono {n k : Nat} {x : Str} (h : TxOk n x) (hk : n ≤ k) : TxOk k x := ⟨Nat.le_trans h.1 hk, h.2⟩
theorem signs_mem {x : Str} {d : D} (h : d ∈ signs x) : ∃ c, c ∈ x.cps.toList ∧ d = .str ⟨#[c]⟩ := by
  unfold signs at h
  obtain ⟨c, hc, rfl⟩ := List.mem_map.mp h
  exact ⟨c, hc, rfl⟩
theorem mem_signs {x : Str} {c : Nat} (h : c ∈ x.cps.toList) : D.str ⟨#[c]⟩ ∈ signs x := List.mem_map.mpr ⟨c, h, rfl⟩
theorem ge_sign {c k : Nat} {s : Str} (hs : s.cps.toList = [k]) : (!decide ((⟨#[c]⟩ : Str).cps.toList < s.cps.toList)) = decide (k ≤ c) := by
  rw [hs]
  have e : (⟨#[c]⟩ : Str).cps.toList = [c] := rfl
  rw [e]
  by_cases h : c < k
  · rw [decide_eq_true (show [c] < [k] from List.Lex.rel h), decide_eq_false (by omega)]; rfl
  · have : ¬ [c] < [k] := fun z => by
      cases z with
      | rel h2 => exact h h2
      | cons h2 => cases h2
    rw [decide_eq_false this, decide_eq_true (by omega)]; rfl
theorem le_sign {c k : Nat} {s : Str} (hs : s.cps.toList = [k]) : (!decide (s.cps.toList < (⟨#[c]⟩ : Str).cps.toList)) = decide (c ≤ k) := by
  rw [hs]
  have e : (⟨#[c]⟩ : Str).cps.toList = [c] := rfl
  rw [e]
  by_cases h : k < c
  · rw [decide_eq_true (show [k] < [c] from List.Lex.rel h), decide_eq_false (by omega)]; rfl
  · have : ¬ [k] < [c] := fun z => by
      cases z with
      | rel h2 => exact h h2
      | cons h2 => cases h2
    rw [decide_eq_false this, decide_eq_true (by omega)]; rfl
def azT : Str := "abcdefghijklmnopqrstuvwxyz"
def figT : Str := "0123456789"
def isAz (c : Nat) : Bool := decide (97 ≤ c) && decide (c ≤ 122)
def isFig (c : Nat) : Bool := decide (48 ≤ c) && decide (c ≤ 57)
theorem mem_az (c : Nat) : decide (c ∈ azT.cps.toList) = isAz c := by
  have e : azT.cps.toList = (List.range 26).map (· + 97) := by decide +kernel
  have : (c ∈ azT.cps.toList) ↔ (97 ≤ c ∧ c ≤ 122) := by
    rw [e, List.mem_map]
    constructor
    · rintro ⟨a, ha, rfl⟩
      have := List.mem_range.mp ha
      omega
    · intro h
      exact ⟨c - 97, List.mem_range.mpr (by omega), by omega⟩
  unfold isAz
  rw [show decide (c ∈ azT.cps.toList) = decide (97 ≤ c ∧ c ≤ 122) from decide_eq_decide.mpr this, Bool.decide_and]
theorem mem_fig (c : Nat) : decide (c ∈ figT.cps.toList) = isFig c := by
  have e : figT.cps.toList = (List.range 10).map (· + 48) := by decide +kernel
  have : (c ∈ figT.cps.toList) ↔ (48 ≤ c ∧ c ≤ 57) := by
    rw [e, List.mem_map]
    constructor
    · rintro ⟨a, ha, rfl⟩
      have := List.mem_range.mp ha
      omega
    · intro h
      exact ⟨c - 48, List.mem_range.mpr (by omega), by omega⟩
  unfold isFig
  rw [show decide (c ∈ figT.cps.toList) = decide (48 ≤ c ∧ c ≤ 57) from decide_eq_decide.mpr this, Bool.decide_and]
def headAz (x : Str) : Bool := match x.cps.toList with
  | c :: _ => isAz c
  | [] => false
theorem getD_some {l : List Nat} {i : Nat} (h : i < l.length) : l[i]? = some (l.getD i 0) := by
  rw [List.getD_eq_getElem?_getD, List.getElem?_eq_getElem h]; rfl
theorem az_len : azT.cps.toList.length = 26 := by decide +kernel
theorem az_lt : ∀ i, i < 26 → azT.cps.toList.getD i 0 < 128 := by decide +kernel
theorem az_ln : azT.length = 26 := by decide +kernel
theorem fig_ln : figT.length = 10 := by decide +kernel
def sgP (f : Nat → Bool) : D → Bool
  | .str y => (match y.cps.toList with | [c] => f c | _ => false)
  | _ => false
/-! ### a dict is no text -/
open PySem.SeqAt MeetsSeq in
theorem dict_ne_declines_str (l : Addr) (o : Obj) (hc : o.cls = .type "dict") (b : Str) (u : Tok) :
    Meets (Builtin.«dict.__ne__» ⟨[.ref l, .str b u], []⟩) (fun _ R s => s.heap.get? l = some o ∧ R (.ok (.ret .notImplemented)) s) :=
  .of_wp fun prog w A R s h => by
    obtain ⟨hp, g, d, tk, os⟩ := s
    obtain ⟨hl, h⟩ := h
    have f1 := F.sub_str_dict
    obtain ⟨cls, dd, data, sl⟩ := o
    subst hc
    wp_walk using wpAny_loadPart' hl, wpAny_load hl
    exact ⟨_, rfl, h⟩
open PySem.SeqAt MeetsSeq in
theorem str_ne_declines_dict (l : Addr) (o : Obj) (hc : o.cls = .type "dict") {es : Array DictEntry} {ep : Nat} (hdd : o.data = .dict es ep) (b : Str) (u : Tok) :
    Meets (Builtin.«str.__ne__» ⟨[.str b u, .ref l], []⟩) (fun _ R s => s.heap.get? l = some o ∧ R (.ok (.ret .notImplemented)) s) :=
  .of_wp fun prog w A R s h => by
    obtain ⟨hp, g, d, tk, os⟩ := s
    obtain ⟨hl, h⟩ := h
    have f1 := F.sub_dict_str
    obtain ⟨cls, dd, data, sl⟩ := o
    simp only at hc hdd
    subst hc hdd
    wp_walk using wpAny_loadPart' hl, wpAny_load hl
    exact ⟨_, rfl, h⟩
open PySem.SeqAt MeetsSeq in
theorem rc_dict_str {A : Around} {s : Shared} {l : Addr} {o : Obj} (hl : s.heap.get? l = some o) (hc : o.cls = .type "dict") {es : Array DictEntry} {ep : Nat} (hdd : o.data = .dict es ep) (b : Str) (u : Tok) (hu : A.units < cLine) : RcNeAt A s (.ref l) (.str b u) true := fun prog w E Q h =>
  rc_ne_decline_or (k := false) (Ta := "dict") (Tb := "str") ⟨_, hl, hc⟩ (typeIs_str s b u) (by decide) F.sub_str_dict F.slot_dict_ne F.slot_str_ne_refl
    (fun _ hq => call_meets F.slot_dict_ne ⟨_, hl, hc⟩ F.entry_dict_ne (F.args_dict_ne_2 _ _) (dict_ne_declines_str l o hc b u) ⟨hl, hq⟩)
    (fun _ hq => call_meets F.slot_str_ne_refl (typeIs_str s b u) F.entry_str_ne (F.args_str_ne_2 _ _) (str_ne_declines_dict l o hc hdd b u) ⟨hl, hq⟩)
    (fun _ hq => wpAny_of_eq (rfl : isSame (.ref l) (.str b u) = pure false) hq) (.inr hu) h
def rNeDS : R2 := fun x y H Q => ∃ a kvs b, x = .ref a ∧ H a = some (.dK kvs) ∧ y = .str b ∧ Q (.bl true) H
theorem op_neDS {X : Cx} (hu : X.A.units < cLine) : OpR X (compareOp .NotEq) rNeDS := by
  intro pins s σ H x y v u Q I rx ry h
  obtain ⟨a, kvs, b, rfl, ea, rfl, q⟩ := h
  obtain rfl : v = Value.ref a := rx
  obtain ⟨t, rfl⟩ := ry
  obtain ⟨_, ya, va, ra, o, es, ep, ho, hx, hdd, _⟩ := (show ObjOk X.prog X.w H s.heap a (.dK kvs) from I.hok a _ ea)
  exact rc_dict_str ho hx.1 hdd b t hu _ _ _ _ ⟨.bl true, H, I, rfl, q⟩
def bNeX : B2 := fun d e m Q => (∃ a kvs s, d = .cell a ∧ m a = some (.dic false kvs) ∧ e = .str s ∧ Q (.bl true) m) ∨ bNe d e m Q
theorem cm_or {X : Cx} {op : CmpOp} {b c : B2} (h1 : Cm X op b) (h2 : Cm X op c) : Cm X op (fun d e m Q => b d e m Q ∨ c d e m Q) :=
  let ⟨_, o1, s1⟩ := h1; let ⟨_, o2, s2⟩ := h2
  ⟨_, o1.or o2, fun F H m r v u d e Q Qc hn h1 h2 h k => h.elim (fun h => .inl (s1 F H m r v u d e Q Qc hn h1 h2 h k)) fun h => .inr (s2 F H m r v u d e Q Qc hn h1 h2 h k)⟩
theorem c_neX {X : Cx} (hu : X.A.units + 64 < cLine) : Cm X .NotEq bNeX := cm_or ⟨_, op_neDS (by omega), fun F H m r v u d e Q Qc hn h1 h2 h k => by
  obtain ⟨a, kvs, s, rfl, hm, rfl, q⟩ := h
  cases h1; cases h2
  obtain ⟨_, vs, h1, _⟩ := hn.mu a _ hm
  exact ⟨_, vs, s, rfl, h1, rfl, k F H m _ _ (Same.refl F) hn (.bl _) q⟩⟩ (c_ne hu)
end Ab
namespace Ab
open PySem PySem.Spec PyProof.Rows L2
section
variable {X : Cx} {a b c : Expr} {es : List Expr} {pos : Pos} {ta tb tc : AE} {tr : AA}
/-! ### list(range(n)) -/
def aLRng (mt : Bool) (t : AE) : AE := fun e m Q X => t e m (fun d m1 => ∃ n : Int, d = .int n ∧ 0 ≤ n ∧ n ≤ 16777216 ∧ newL mt (rng 0 n.toNat) m1 Q) X
theorem rep_rng {K : PySem.W.Frag} {F : Hp} {lo : Int} : ∀ l : List Nat, RepL K F (l.map fun (i : Nat) => V.int (lo + i)) (l.map fun (i : Nat) => D.int (lo + i))
  | [] => .nil
  | _ :: l => .cons (.int _) (rep_rng l)
theorem q_lrng (mt : Bool) {p p2 pos2 : Pos} (hc : X.calm = true) (hl : X.mg "list" = none) (hr : X.mg "range" = none) (ha : QE X a ta) (hg : Gl X "list" := by rfl) (hg2 : Gl X "range" := by rfl)
    (na : starEach [a] X.env = (false, eval a X.env) :: starEach [] X.env := by rfl)
    (na2 : starEach [Expr.Call (.Name "range" p2) [a] [] pos2] X.env = (false, eval (.Call (.Name "range" p2) [a] [] pos2) X.env) :: starEach [] X.env := by rfl) :
    QE X (.Call (.Name "list" p) [.Call (.Name "range" p2) [a] [] pos2] [] pos) (aLRng mt ta) := fun W tk =>
  (pe_listRg hc hg hl (prg_1 hg2 hr (ha W tk) na) na2).imp fun s H Qc h => by
    obtain ⟨F, e, m, r, Q, X, he, hn, h, g, gx⟩ := h
    refine ⟨F, e, m, r, _, X, he, hn, h, fun F1 H1 m1 v d s1 n1 r1 q1 => ?_, gx⟩
    obtain ⟨n, rfl, h0, h1, q⟩ := q1
    cases r1
    refine ⟨n, rfl, RgOk.of_le (by decide) h1 (by decide) h0, fun p hp => ?_⟩
    have e1 : rgV 0 n = (List.range n.toNat).map fun (i : Nat) => V.int (0 + (i : Int)) := by unfold rgV; rw [Int.sub_zero]
    rw [e1]
    exact newL_ok n1 (rep_rng _) q (g.mono s1) p hp
/-! ### f() -/
theorem q_call0 {k j : Nat} {x : Str} {dvs : List D} {sp : ASp} {p : Pos} (G : Df X.prog X.w X.K X.mg X.base k x dvs sp) (hr : Room j X.A) (hk : k ≤ j) (hg : Gl X x := by rfl) (hdb : (x == ("__debug__" : Str)) = false := by decide) : QE X (.Call (.Name x p) [] [] pos) (aCall sp dvs aNil) := by
  obtain ⟨f, fd, ps, dv, ds, F, hm, hkp, hb, hv, hd⟩ := G.ex
  refine fun W tk => PE.imp (t := tCallSD (spOf X.K sp) dv (fun s c d H => W c d s H) tNil) ⟨fun pins s σ H Q I h => ?_⟩ fun s H Qc h => ?_
  · refine wpAny_Call_Name_kw (ld_glob I hg hm ?_ hdb)
    exact PySem.W.callWith_K0 I.kIn hkp (run_fnSD (us := []) (vs := []) F (hr.mono hk) hb hv (passAt tk σ) I .nil h)
  · obtain ⟨F, e, m, r, Q, X, he, hn, h, g, gx⟩ := h
    exact ⟨F, m, r, _, Q, X, hn, hd F, h, g, gx⟩
theorem mtT_nil {P : Program} {w : World} {K : PySem.W.Frag} {mg : Str → Option Value} {base : Heap} {k : Nat} {m : Str} : MtT P w K mg base k m [] := fun _ _ _ h => by cases h
theorem mtT_cons {P : Program} {w : World} {K : PySem.W.Frag} {mg : Str → Option Value} {base : Heap} {k : Nat} {m : Str} {C : Addr} {dvs : List D} {sp : ASp} {T : List (Addr × List D × ASp)} (h : Mt P w K mg base k m C dvs sp) (t : MtT P w K mg base k m T) : MtT P w K mg base k m ((C, dvs, sp) :: T) := fun C' dvs' sp' hm => by
  rcases List.mem_cons.mp hm with e | hm
  · cases e; exact h
  · exact t _ _ _ hm
def isVal (i : Int) : Bool := decide (0 ≤ i) && decide (i < 1000000000)
/-! ### what is never reached -/
def aStop : AS := fun _ _ _ => False
theorem qs_stop {st : Stmt} : QS X st aStop := fun W tk po => ⟨fun pins s σ H D I h => by
  obtain ⟨F, e, m, r, A, he, hn, h, g⟩ := h
  exact h.elim⟩
end
section
variable {e : De} {m : Mu} {ta tb tc : AE} {tr : AA} {d x y z : D} {xs : List D} {N B C : De → Mu → Prop} {R : QD} {E : Ex → De → Mu → Prop}
theorem ev_lrng {n : Int} (h : Ev ta e m (.int n)) (h0 : 0 ≤ n) (h1 : n ≤ 16777216) : Ev (aLRng false ta) e m (.lst (rng 0 n.toNat)) := fun _ _ q => h _ _ ⟨n, rfl, h0, h1, q⟩
theorem ev_if {t : AT} {b : Bool} (h : EvT t e m b) (h1 : b = true → Ev ta e m d) (h2 : b = false → Ev tb e m d) : Ev (aIf t ta tb) e m d := fun Q X q => h _ _ (by
  cases b with
  | true => exact h1 rfl _ _ q
  | false => exact h2 rfl _ _ q)
theorem ev_fldO {K : PySem.W.Frag} {f : Str} {Cl : Addr} {fs : List (Str × D)} {v : D} (ha : Ev ta e m (.obj Cl fs)) (ok : OkC K Cl f) (hv : fs.lookup f = some v) : Ev (aFld K f ta) e m v := ev_fld ha rfl ok hv
theorem ev_fldC {K : PySem.W.Frag} {f : Str} {a Cl : Addr} {fs : List (Str × D)} {v : D} (ha : Ev ta e m (.cell a)) (hm : m a = some (.ins Cl fs)) (ok : OkC K Cl f) (hv : fs.lookup f = some v) : Ev (aFld K f ta) e m v := ev_fld ha (by show (match m a with | some (.ins C fs) => some (C, fs) | _ => none) = _; rw [hm]) ok hv
/-- a method of an instance that stands -/
theorem ev_methO {n : Str} {T : List (Addr × List D × ASp)} {Cl : Addr} {fs : List (Str × D)} {sp : ASp} {ds : List D} (ha : Ev ta e m (.obj Cl fs)) (hl : fs.lookup n = none) (hT : (Cl, [], sp) ∈ T) (hr : EvA tr e m ds) (hs : ∀ Q X, Q d m → sp (.obj Cl fs :: ds) m Q X) : Ev (aMeth n T ta tr) e m d := fun Q X q =>
  ha _ _ ⟨Cl, fs, [], sp, rfl, hl, hT, hr _ _ (by rw [List.append_nil]; exact hs _ _ q)⟩
theorem x_methO {n : Str} {T : List (Addr × List D × ASp)} {Cl : Addr} {fs : List (Str × D)} {sp : ASp} {ds : List D} {Q : QD} {X : XA} (ha : Ev ta e m (.obj Cl fs)) (hl : fs.lookup n = none) (hT : (Cl, [], sp) ∈ T) (hr : EvA tr e m ds) (hs : sp (.obj Cl fs :: ds) m Q X) : aMeth n T ta tr e m Q X :=
  ha _ _ ⟨Cl, fs, [], sp, rfl, hl, hT, hr _ _ (by rw [List.append_nil]; exact hs)⟩
/-- self.f = v -/
theorem k_fst {K : PySem.W.Frag} {f : Str} {a Cl : Addr} {fs : List (Str × D)} (hv : Ev tb e m d) (ho : Ev ta e m (.cell a)) (hm : m a = some (.ins Cl fs)) (ok : OkC K Cl f) (hl : fs.length < 1000) (k : N e (mset m a (.ins Cl (putF f d fs)))) : aFSt K f ta tb ⟨N, R, B, C, E⟩ e m :=
  hv _ _ (ho _ _ ⟨a, Cl, fs, rfl, hm, ok, hl, k⟩)
/-- C(..): made, then frozen where told -/
theorem x_make {Cl : Addr} {sp : ASp} {ds : List D} {Q : QD} {X : XA} (ha : EvA tr e m ds) (h : ∀ p, m p = none → sp (.cell p :: ds) (mset m p (.ins Cl [])) (fun d m2 => d = .non ∧ Q (.cell p) m2) X) : aMake Cl sp [] tr e m Q X := ha _ _ fun p hp => by rw [List.append_nil]; exact h p hp
theorem x_fz {Q : QD} {X : XA} (h : ta e m (fun d m1 => ∃ a, d = .cell a ∧ fzM (m1 a) a m1 Q) X) : aFz ta e m Q X := h
/-- a comprehension whose items are known by what they keep -/
theorem x_lcP {ai : AI} {ag : AG} {ae : AE} {vs : List Nat} {src : List D} {G : Mu → Prop} {Q : QD} {X : XA} (P : D → Prop) (h : ∀ Q X, Q src G m → ai e m Q X) (hG : G m) (hl : src.length < sizeLine)
    (hs : ∀ d, d ∈ src → ∃ e2, Bnd ag d (wipeA e vs) e2 ∧ ∀ (Q : QD) (X : XA), (∀ y, P y → Q y m) → ae e2 m Q X) (k : ∀ ds, ds.length = src.length → (∀ y, y ∈ ds → P y) → Q (.lst ds) m) : aLc false ai ag aYes ae vs e m Q X := h _ _
  ⟨fun i acc m' => m' = m ∧ acc.length = i ∧ i ≤ src.length ∧ ∀ y, y ∈ acc → P y, ⟨rfl, rfl, Nat.zero_le _, fun _ h => by cases h⟩, fun i acc m' z => z.1 ▸ hG, fun i d acc m' hd ⟨e1, e2, e3, e4⟩ => by
    subst e1
    have hi : i < src.length := (List.getElem?_eq_some_iff.mp hd).1
    obtain ⟨e9, h1, h3⟩ := hs d (List.mem_of_getElem? hd)
    refine h1 _ _ _ (h3 _ _ fun y hy => ⟨by omega, rfl, by rw [List.length_append, e2]; rfl, hi, fun z hz => ?_⟩)
    rcases List.mem_append.mp hz with q | q
    · exact e4 z q
    · rw [List.mem_singleton.mp q]; exact hy, fun acc m' ⟨e1, e2, _, e4⟩ => by
    subst e1
    exact k acc e2 e4⟩
end
theorem kf_nil {P : Str → Prop} : ∀ y, y ∈ ([] : List Str) → P y := fun _ h => by cases h
theorem kf_cons {P : Str → Prop} {x : Str} {xs : List Str} (h : P x) (t : ∀ y, y ∈ xs → P y) : ∀ y, y ∈ x :: xs → P y := fun y hy => by
  rcases List.mem_cons.mp hy with rfl | hy
  · exact h
  · exact t y hy
end Ab
namespace Ab
open PySem PySem.Spec PyProof.Rows L2
/-! ### raising -/
structure ExF (K : PySem.W.Frag) (mg : Str → Option Value) (x : Str) : Prop where
  q : PySem.W.excIn K (He.ga K x) He.veBase "ValueError.__new__" = true
  kp : PySem.W.keepIn K (.ref (He.ga K x)) = true
  sb : PySem.W.subIn K (.ref (He.ga K x)) (.type "BaseException") = some true
  ty : PySem.W.typeIn K (.ref (He.ga K x)) = some (.type "type")
  mg : mg x = some (.ref (He.ga K x))
section
variable {X : Cx} {a b c : Expr} {es : List Expr} {pos : Pos} {ta tb tc : AE} {tr : AA}
/-- raise C(e), C without own __init__ -/
def aRaise0 (C : Addr) (t : AE) : AS := fun A e m => aE t A e m fun _ m1 => A.ex ⟨C, none⟩ e m1
theorem qs_raise0 {x : Str} {p p2 : Pos} (hc : X.calm = true) (E : ExF X.K X.mg x) (ha : QE X a ta) (hg : Gl X x := by rfl)
    (hs : starEach [a] X.env = (false, eval a X.env) :: starEach [] X.env := by rfl) (hdb : (x == ("__debug__" : Str)) = false := by decide) : QS X (.Raise (some (.Call (.Name x p) [a] [] p2)) none pos) (aRaise0 (He.ga X.K x) ta) := fun W tk po =>
  (ps_raise hc tk (SkE.pmk_own1 F.excBase_ValueError E.q E.mg E.kp (raises_own E.sb E.ty) hg (ha W tk) hs hdb)).imp fun D s H ⟨F, e, m, r, A, he, hn, h, g⟩ =>
    use_E he hn g h fun F1 H1 m1 v d k n1 rv q => g.ex F1 H1 m1 s e _ _ ⟨He.ga X.K x, none⟩ k (he.mono k) n1 ⟨rfl, fun _ => rfl, fun _ _ z => by cases z⟩ q
/-! ### try: .. except C as n: .. -/
/-- what the suite's name holds -/
def excD (a : Addr) (dd : Option Addr) (x : Ex) : D := match x.fl, dd with
  | some (f, d), some b => .exc a x.C b f d
  | _, _ => .cell a
theorem excD_ok {K : PySem.W.Frag} {F H : Hp} {m : Mu} {cls : Value} {dd : Option Addr} {x : Ex} {a : Addr} (h : RepX K F H m cls dd x) : Rep K F (.ref a) (excD a dd x) := by
  obtain ⟨_, h1, h2⟩ := h
  unfold excD
  cases hf : x.fl with
  | none => exact .cell a
  | some p =>
    obtain ⟨f, d⟩ := p
    obtain ⟨b, v, rfl, e1, e2⟩ := h2 f d hf
    exact .exc e1 e2
abbrev TSx := Addr → Option Addr → Ex → AS
def aSuite (i : Nat) (ts : TSx) (A : AEnds) (x : Ex) (e : De) (m : Mu) : Prop := ∀ a dd, m a = none → (x.fl = none → dd = none) → ((∃ p, x.fl = some p) → ∃ b, dd = some b) →
  ts a dd x ⟨fun e2 m2 => A.nx (e2.set i none) m2, A.rt, fun e2 m2 => A.bk (e2.set i none) m2, fun e2 m2 => A.ct (e2.set i none) m2, fun _ _ _ => False⟩ (e.set i (some (excD a dd x))) m
def aTry (K : PySem.W.Frag) (C : Addr) (i : Nat) (t : AS) (ts : TSx) : AS := fun A e m => t ⟨A.nx, A.rt, A.bk, A.ct, fun x e1 m1 => ∃ b, PySem.W.exmOne K (.ref x.C) (.ref C) = some b ∧ (b = true → aSuite i ts A x e1 m1) ∧ (b = false → A.ex x e1 m1)⟩ e m
theorem envOk_set {K : PySem.W.Frag} {F : Hp} {s : L2.St} {e : De} {i : Nat} {v : V} {d : D} (h : EnvOk K F s e) (r : Rep K F v d) : EnvOk K F (s.set i (some v)) (e.set i (some d)) := by
  refine ⟨by rw [List.length_set, List.length_set]; exact h.1, fun j d' hj => ?_⟩
  by_cases q : i = j
  · subst q
    rw [List.getElem?_set] at hj
    by_cases hl : i < e.length
    · rw [if_pos rfl, if_pos hl] at hj
      cases hj
      exact ⟨v, by rw [List.getElem?_set, if_pos rfl, if_pos (by have := h.1; omega)], r⟩
    · rw [if_pos rfl, if_neg hl] at hj; cases hj
  · rw [List.getElem?_set_ne q] at hj
    obtain ⟨v', h1, h2⟩ := h.2 j d' hj
    exact ⟨v', by rw [List.getElem?_set_ne q]; exact h1, h2⟩
theorem envOk_gone {K : PySem.W.Frag} {F : Hp} {s : L2.St} {e : De} {i : Nat} (h : EnvOk K F s e) : EnvOk K F (s.set i none) (e.set i none) := by
  refine ⟨by rw [List.length_set, List.length_set]; exact h.1, fun j d' hj => ?_⟩
  by_cases q : i = j
  · subst q
    rw [List.getElem?_set] at hj
    by_cases hl : i < e.length
    · rw [if_pos rfl, if_pos hl] at hj; cases hj
    · rw [if_pos rfl, if_neg hl] at hj; cases hj
  · rw [List.getElem?_set_ne q] at hj
    obtain ⟨v', h1, h2⟩ := h.2 j d' hj
    exact ⟨v', by rw [List.getElem?_set_ne q]; exact h1, h2⟩
/-- what a suite's statements keep -/
def QSuite (X : Cx) (suite : List Stmt) (ts : TSx) : Prop := ∀ (a : Addr) (oe : Obj) (dd : Option Addr) (pn : List (Addr × Obj)) (x : Ex), Zc (.ref x.C) dd oe → (∃ vs, oe.data = .fields vs) → QSs (X.suite a ((a, oe) :: pn)) suite (ts a dd x)
theorem qs_try {x n : Str} {i : Nat} {body suite : List Stmt} {b₀ : Stmt} {np pos' : Pos} {t : AS} {ts : TSx} (hs : X.stack = X.env :: X.outer) (hf : X.env.frame = some X.env.locals) (hN : X.N.Nodup) (E : X.mg x = some (.ref (He.ga X.K x)))
    (hb : ∀ (pn : List (Addr × Obj)) (xe : Value → Shared → Prop), QSs (X.tr pn xe) body t) (hsu : QSuite X (b₀ :: suite) ts) (hi : X.N[i]? = some n := by rfl) (hln : X.env.kindOf n = some .local := by rfl) (hg : Gl X x := by rfl)
    (hdb : (x == ("__debug__" : Str)) = false := by decide) : QS X (.Try body [.ExceptHandler (some (.Name x np)) (some n) (b₀ :: suite) pos'] [] [] pos) (aTry X.K (He.ga X.K x) i t ts) := fun W tk po => by
  refine (ps_try_as (X := X) (Wout := W) (c := .ref (He.ga X.K x)) (i := i) (tb := fun W' => cS X.K W' t)
    (ts := fun a cls d D s H => ∃ F e m r A xx, cls = .ref xx.C ∧ EnvOk X.K F s e ∧ Sn X.K F H m r ∧ ts a d xx A e m ∧ GS X.K F r A D W0) hs hf hN hi hln ⟨hg, hdb, .inl E⟩ tk (fun W' pn xe tk' po' => hb pn xe W' tk' po') (fun a oe cls d pn hz hv => ?_)).imp fun D s H h => ?_
  · refine ⟨fun pins s σ H D I h => ?_⟩
    obtain ⟨F, e, m, r, A, xx, rfl, he, hn, h, g⟩ := h
    exact (hsu a oe d pn xx hz hv W0 takes_w0 PassesOwn.never).run pins s σ H D I ⟨F, e, m, r, A, he, hn, h, g⟩
  · obtain ⟨F, e, m, r, A, he, hn, h, g⟩ := h
    refine ⟨F, e, m, r, _, he, hn, h, ⟨g.nx, g.rt, g.bk, g.ct, fun F' H' m' s' e' cls dd xx k1 he' hn' rx hx => ?_⟩⟩
    obtain ⟨b, hb1, hb2, hb3⟩ := hx
    refine ⟨b, by rw [rx.1]; exact hb1, fun z a na => ?_, fun z => g.ex F' H' m' s' e' cls dd xx k1 he' hn' rx (hb3 z)⟩
    refine ⟨F', _, m', r, _, xx, rx.1, envOk_set he' (excD_ok rx), hn', hb2 z a dd (hn'.m_none na) rx.2.1 (fun ⟨p, hp⟩ => let ⟨b, v, q, _⟩ := rx.2.2 p.1 p.2 hp; ⟨b, q⟩), ?_⟩
    exact ⟨fun F2 H2 m2 s2 e2 k2 he2 hn2 q => g.nx F2 H2 m2 _ _ (k1.trans k2) (envOk_gone he2) hn2 q, fun F2 H2 m2 v d k2 hn2 hr2 q => g.rt F2 H2 m2 v d (k1.trans k2) hn2 hr2 q,
      fun F2 H2 m2 s2 e2 k2 he2 hn2 q => g.bk F2 H2 m2 _ _ (k1.trans k2) (envOk_gone he2) hn2 q, fun F2 H2 m2 s2 e2 k2 he2 hn2 q => g.ct F2 H2 m2 _ _ (k1.trans k2) (envOk_gone he2) hn2 q, fun _ _ _ _ _ _ _ _ _ _ _ _ q => q.elim⟩
end
end Ab
namespace Ab
open PySem PySem.Spec PyProof.Rows L2
section
variable {X : Cx} {a b c : Expr} {es : List Expr} {pos : Pos} {ta tb tc : AE} {tr : AA}
/-! ### isinstance(e, C) in a suite -/
def aIsE (K : PySem.W.Frag) (a : Addr) (dd : Option Addr) (C : Addr) (cv : Value) (t : AE) : AE := fun e m Q X => dd = none ∧ ExcC K C ∧ t e m (fun d m1 => d = .cell a ∧ ∃ b, PySem.W.kitOne K (.ref C) cv = some b ∧ Q (.bl b) m1) X
theorem q_isE {Y : Cx} {o : Expr} {t : AE} {ad C : Addr} {oe : Obj} {dd : Option Addr} {pn : List (Addr × Obj)} {x : Str} {p p2 : Pos} {cv : V} {cu : Value} (hm : Y.mg "isinstance" = none) (hz : Zc (.ref C) dd oe) (hv : ∃ vs, oe.data = .fields vs)
    (hcl : PE (Y.suite ad ((ad, oe) :: pn)) (.Name x p2) (tC cv)) (hcv : ∀ u, RelV cv u → u = cu) (ho : QE (Y.suite ad ((ad, oe) :: pn)) o t) (hg : Gl (Y.suite ad ((ad, oe) :: pn)) "isinstance" := by rfl)
    (hs1 : starEach (o :: [.Name x p2]) (Y.suite ad ((ad, oe) :: pn)).env = (false, eval o (Y.suite ad ((ad, oe) :: pn)).env) :: starEach [.Name x p2] (Y.suite ad ((ad, oe) :: pn)).env := by rfl)
    (hs2 : starEach (.Name x p2 :: []) (Y.suite ad ((ad, oe) :: pn)).env = (false, eval (.Name x p2) (Y.suite ad ((ad, oe) :: pn)).env) :: starEach [] (Y.suite ad ((ad, oe) :: pn)).env := by rfl)
    (hpl : (backTo pos (starEach [.Name x p2] (Y.suite ad ((ad, oe) :: pn)).env)).any (·.1) = false := by rfl) :
    QE (Y.suite ad ((ad, oe) :: pn)) (.Call (.Name "isinstance" p) [o, .Name x p2] [] pos) (aIsE Y.K ad dd C cu t) := fun W tk => ⟨fun pins s σ H Qc I h => by
  obtain ⟨F, e, m, r, Q, X, he, hn, ⟨rfl, hC, h⟩, g, gx⟩ := h
  refine (pe_callB (X := Y.suite ad ((ad, oe) :: pn)) (call_isE hC hz hv) hg hm (by decide +kernel) (pa_cons (ho W tk) (pa_cons hcl pa_nil hs2) hs1) (by decide) (by decide) hs1 hpl).run pins s σ H Qc I ?_
  refine ⟨F, e, m, r, _, X, he, hn, h, fun F1 H1 m1 v d s1 n1 r1 q1 => ?_, gx⟩
  obtain ⟨rfl, b, hb, q⟩ := q1
  cases r1
  exact ⟨cv, cu, b, rfl, hcv, hb, g F1 H1 m1 _ _ s1 n1 (.bl b) q⟩⟩
theorem pe_cls {x : Str} {C : Addr} (hm : X.mg x = some (.ref C)) (hg : Gl X x := by rfl) (hd : (x == ("__debug__" : Str)) = false := by decide) : PE X (.Name x pos) (tC (.ref C)) := pe_glob hg hm rfl hd
theorem pe_ty {x : Str} {n : String} (hmT : X.mg x = none) (hv : bootBuiltins x = some (.type n)) (hgT : Gl X x := by rfl) (hnn : x ≠ "__name__" := by decide) (hdd : (x == ("__debug__" : Str)) = false := by decide) : PE X (.Name x pos) (tC (.ty n)) := pe_bltn (v := .ty n) hgT hmT hv rfl hnn hdd
theorem relV_ref {C : Addr} : ∀ u, RelV (V.ref C) u → u = .ref C := fun _ h => h
theorem relV_ty {n : String} : ∀ u, RelV (V.ty n) u → u = .type n := fun _ h => h
/-! ### text * number -/
def bMulX : B2 := fun d e m Q => (∃ (s : Str) (n : Int), d = .str s ∧ e = .int n ∧ PySem.MulOk s n ∧ Q (.str (Txt.mul s n)) m) ∨ bMul d e m Q
theorem op_mulS : OpR X (binaryOp .Mult) (fun x y H Q => ∃ (s : Str) (n : Int), x = .str s ∧ y = .int n ∧ PySem.MulOk s n ∧ Q (.str (Txt.mul s n)) H) := by
  intro pins s σ H x y v u Q I rx ry h
  obtain ⟨z, n, rfl, rfl, ok, q⟩ := h
  obtain ⟨t, rfl⟩ := rx
  obtain ⟨t2, rfl⟩ := ry
  exact PySem.SB.mul ok fun t' k => ⟨.str (Txt.mul z n), H, I.tok _, ⟨t', rfl⟩, q⟩
theorem q_mulX (ha : QE X a ta) (hb : QE X b tb) : QE X (.BinOp a .Mult b pos) (aOp bMulX ta tb) := q_bin (op_mulS.or o_mul) (fun F H m r v u d e Q Qc hn h1 h2 h k => h.elim (fun h => .inl (by
    obtain ⟨s, n, rfl, rfl, ok, q⟩ := h
    cases h1; cases h2
    exact ⟨s, n, rfl, rfl, ok, k F H m _ _ (Same.refl F) hn (.str _) q⟩)) fun h => .inr (s_mul F H m r v u d e Q Qc hn h1 h2 h k)) ha hb
/-! ### ord, min of three -/
def bOrd : BA := fun ds m Q => ∃ c : Nat, ds = [.str ⟨#[c]⟩] ∧ Q (.int c) m
theorem s_ord {K : PySem.W.Frag} : SA K (fun xs H Q => ∃ x : Str, xs = [.str x] ∧ x.length = 1 ∧ Q (.int (x.cps.getD 0 0 : Nat)) H) bOrd := by
  intro F H m r vs ds Q Qc hn hr h k
  obtain ⟨c, rfl, q⟩ := h
  obtain ⟨v, rfl, rv⟩ := repL1 hr
  cases rv
  exact ⟨_, rfl, rfl, k F H m _ _ (Same.refl F) hn (.int _) q⟩
theorem q_ord {p : Pos} (hm : X.mg "ord" = none) (ha : QA X (a :: es) tr) (hg : Gl X "ord" := by rfl)
    (he : starEach (a :: es) X.env = (false, eval a X.env) :: starEach es X.env := by rfl) (hpl : (backTo pos (starEach es X.env)).any (·.1) = false := by rfl) : QE X (.Call (.Name "ord" p) (a :: es) [] pos) (aCB bOrd tr) :=
  q_callB call_ord s_ord hm (by decide +kernel) ha hg (by decide) (by decide) he hpl
def bMin3 : BA := fun ds m Q => ∃ i j k : Int, ds = [.int i, .int j, .int k] ∧ Q (.int (min (min i j) k)) m
theorem repL3 {K : PySem.W.Frag} {F : Hp} {vs : List V} {d e f : D} (h : RepL K F vs [d, e, f]) : ∃ v u w, vs = [v, u, w] ∧ Rep K F v d ∧ Rep K F u e ∧ Rep K F w f := by
  cases h with | cons h1 h => cases h with | cons h2 h => cases h with | cons h3 h => cases h; exact ⟨_, _, _, rfl, h1, h2, h3⟩
theorem nuMin2_int (i j : Int) : nuMin2 (.int i) (.int j) = some (.int (min i j)) := by
  unfold nuMin2
  have e : nuLt (.int j) (.int i) = some (decide (j < i)) := rfl
  rw [e]
  by_cases h : j < i
  · rw [decide_eq_true h]
    show some (V.int j) = _
    rw [Int.min_eq_right (by omega)]
  · rw [decide_eq_false h]
    show some (V.int i) = _
    rw [Int.min_eq_left (by omega)]
theorem s_min3 {K : PySem.W.Frag} : SA K (fun xs H Q => ∃ x y w z, xs = [x, y, w] ∧ nuMin3 x y w = some z ∧ Q z H) bMin3 := by
  intro F H m r vs ds Q Qc hn hr h k
  obtain ⟨i, j, l, rfl, q⟩ := h
  obtain ⟨v, u, w, rfl, rv, ru, rw_⟩ := repL3 hr
  cases rv; cases ru; cases rw_
  refine ⟨_, _, _, .int (min (min i j) l), rfl, ?_, k F H m _ _ (Same.refl F) hn (.int _) q⟩
  unfold nuMin3
  rw [nuMin2_int]
  exact nuMin2_int _ _
theorem q_min3 (hc : X.calm = true) {p : Pos} (hm : X.mg "min" = none) (ha : QA X (a :: es) tr) (hg : Gl X "min" := by rfl)
    (he : starEach (a :: es) X.env = (false, eval a X.env) :: starEach es X.env := by rfl) (hpl : (backTo pos (starEach es X.env)).any (·.1) = false := by rfl) : QE X (.Call (.Name "min" p) (a :: es) [] pos) (aCB bMin3 tr) :=
  q_callB (call_min3Nu hc) s_min3 hm (by decide +kernel) ha hg (by decide) (by decide) he hpl
end
section
variable {e : De} {m : Mu} {ta tb tc : AE} {tr : AA} {d x y z : D} {xs : List D} {N B C : De → Mu → Prop} {R : QD} {E : Ex → De → Mu → Prop}
theorem o_ord {c : Nat} : OpA bOrd [.str ⟨#[c]⟩] m (.int c) := fun _ q => ⟨c, rfl, q⟩
theorem o_min3 {i j k : Int} : OpA bMin3 [.int i, .int j, .int k] m (.int (min (min i j) k)) := fun _ q => ⟨i, j, k, rfl, q⟩
theorem o_mulS {s : Str} {n : Int} (h : PySem.MulOk s n) : Op2 bMulX (.str s) (.int n) m (.str (Txt.mul s n)) := fun _ q => .inl ⟨s, n, rfl, rfl, h, q⟩
theorem k_raise0 {Cl : Addr} (h : Ev ta e m d) (k : E ⟨Cl, none⟩ e m) : aRaise0 Cl ta ⟨N, R, B, C, E⟩ e m := h _ _ k
theorem k_try {K : PySem.W.Frag} {Cl : Addr} {i : Nat} {t : AS} {ts : TSx} (h : t ⟨N, R, B, C, fun x e1 m1 => ∃ b, PySem.W.exmOne K (.ref x.C) (.ref Cl) = some b ∧ (b = true → aSuite i ts ⟨N, R, B, C, E⟩ x e1 m1) ∧ (b = false → E x e1 m1)⟩ e m) : aTry K Cl i t ts ⟨N, R, B, C, E⟩ e m := h
theorem ev_isE {K : PySem.W.Frag} {a Cl : Addr} {cv : Value} {b : Bool} (h : Ev ta e m (.cell a)) (hC : ExcC K Cl) (hk : PySem.W.kitOne K (.ref Cl) cv = some b) : Ev (aIsE K a none Cl cv ta) e m (.bl b) := fun Q X q => ⟨rfl, hC, h _ _ ⟨rfl, b, hk, q⟩⟩
end
/-! ### a Hook with facts of one's own -/
inductive Xa where
  | kit (x y : Str) (b : Bool)
  | kitT (x : Str) (t : String) (b : Bool)
  | ec (x : Str)
  | xf (x f : Str)
  | exm (x y : Str) (b : Bool)
  | oex (x : Str)
  | lan (x : Str)
  | isn (x : Str)
  | kitM (cs : List Str)
  | ecs (cs : List Str)
def oexB (K : PySem.W.Frag) (C : Addr) : Bool := (match K.lookup C with
  | some ⟨.type "type", _, .cls cd, sl⟩ => (match cd.mro, sl.toList with
    | .ref C' :: bm, [_, _, _, _, some (.builtin n), _] => C' == C && n == "ValueError.__new__" && !cd.hasDel && cd.hasDict && PySem.HandSPX.refsVE bm
    | _, _ => false)
  | _ => false) && (He.eqO (PySem.W.findIn K (.ref C) "__setattr__") (some (some (.builtin "object.__setattr__"))) && (decide (PySem.W.subIn K (.ref C) (.type "BaseException") = some true) && (decide (PySem.W.typeIn K (.ref C) = some (.type "type")) && PySem.W.keepIn K (.ref C))))
theorem oexB_ok {K : PySem.W.Frag} {C : Addr} (h : oexB K C = true) : OexC K C := by
  obtain ⟨h1, h⟩ := He.ba h
  obtain ⟨h2, h⟩ := He.ba h
  obtain ⟨h3, h⟩ := He.ba h
  obtain ⟨h4, h5⟩ := He.ba h
  refine ⟨?_, He.eqO_ok h2, of_decide_eq_true h3, of_decide_eq_true h4, h5⟩
  split at h1
  · rename_i dd cd sl ho
    split at h1
    · rename_i C' bm k0 k1 k2 k3 n k5 hm hs
      simp only [Bool.and_eq_true, beq_iff_eq, Bool.not_eq_true'] at h1
      obtain ⟨⟨⟨⟨rfl, rfl⟩, hdel⟩, hdict⟩, ht⟩ := h1
      obtain ⟨nm, bs, mro, ns, qn, hd, sn, sub, ab, col, del⟩ := cd
      dsimp only at hm hdel hdict
      subst hm hdel hdict
      have hsl : sl = #[k0, k1, k2, k3, some (.builtin "ValueError.__new__"), k5] := by
        obtain ⟨l⟩ := sl
        simp only at hs
        rw [hs]
      subst hsl
      exact ⟨nm, qn, ns, bs, bm, sn, sub, ab, col, dd, k0, k1, k2, k3, k5, ho, ht⟩
    · cases h1
  · cases h1
/-- LaneError.__init__, read from the class -/
structure LanC (K : PySem.W.Frag) (C : Addr) : Prop where
  rd : PySem.W.readsIn K C (.type "type") = true
  ga : PySem.W.specialIn K (.ref C) "__getattribute__" = some (some (.builtin "type.__getattribute__"))
  fi : PySem.W.findCls K (.ref C) (.type "type") "__init__" = some (.val (.builtin "ValueError.__init__"))
def lanB (K : PySem.W.Frag) (C : Addr) : Bool := PySem.W.readsIn K C (.type "type") && (He.eqO (PySem.W.specialIn K (.ref C) "__getattribute__") (some (some (.builtin "type.__getattribute__"))) && (match PySem.W.findCls K (.ref C) (.type "type") "__init__" with
  | some (.val (.builtin n)) => n == "ValueError.__init__"
  | _ => false))
theorem lanB_ok {K : PySem.W.Frag} {C : Addr} (h : lanB K C = true) : LanC K C := by
  obtain ⟨h1, h⟩ := He.ba h
  obtain ⟨h2, h3⟩ := He.ba h
  refine ⟨h1, He.eqO_ok h2, ?_⟩
  split at h3
  · rename_i n hn
    rw [hn, beq_iff_eq.mp h3]
  · cases h3
def ecB (K : PySem.W.Frag) (D : Addr) : Bool := He.eqO (PySem.W.findIn K (.ref D) "__getattribute__") (some (some (.builtin "BaseException.__getattribute__"))) && (He.eqO (PySem.W.findIn K (.ref D) "__getattr__") (some none) && (decide (PySem.W.subIn K (.ref D) (.type "BaseException") = some true) && (PySem.W.hasDictIn K D &&
  (He.eqO (PySem.W.findIn K (.ref D) "__class__") (some (some (.builtin "object.__class__"))) && (He.eqO (PySem.W.specialIn K (.builtin "object.__class__") "__get__") (some (some (.builtin "getset_descriptor.__get__"))) && (decide (PySem.W.takesIn K (.builtin "object.__class__") = some true) && decide (PySem.W.mroIn K D (.type "object") = some true)))))))
theorem ecB_ok {K : PySem.W.Frag} {D : Addr} (h : ecB K D = true) : ExcC K D := by
  obtain ⟨h1, h⟩ := He.ba h
  obtain ⟨h2, h⟩ := He.ba h
  obtain ⟨h3, h⟩ := He.ba h
  obtain ⟨h4, h⟩ := He.ba h
  obtain ⟨h5, h⟩ := He.ba h
  obtain ⟨h6, h⟩ := He.ba h
  obtain ⟨h7, h8⟩ := He.ba h
  exact ⟨He.eqO_ok h1, He.eqO_ok h2, of_decide_eq_true h3, h4, He.eqO_ok h5, He.eqO_ok h6, of_decide_eq_true h7, of_decide_eq_true h8⟩
/-- no class of the row lies under another one of it -/
def KitM (K : PySem.W.Frag) (cs : List Str) : Prop := ∀ i j, i < cs.length → j < cs.length → PySem.W.kitOne K (.ref (He.ga K (cs.getD i ""))) (.ref (He.ga K (cs.getD j ""))) = some (decide (i = j))
def kitMB (K : PySem.W.Frag) (cs : List Str) : Bool := (List.range cs.length).all fun i => (List.range cs.length).all fun j => decide (PySem.W.kitOne K (.ref (He.ga K (cs.getD i ""))) (.ref (He.ga K (cs.getD j ""))) = some (decide (i = j)))
theorem kitM_ok {K : PySem.W.Frag} {cs : List Str} (h : kitMB K cs = true) : KitM K cs := fun i j hi hj =>
  of_decide_eq_true (List.all_eq_true.mp (List.all_eq_true.mp h i (List.mem_range.mpr hi)) j (List.mem_range.mpr hj))
/-- each class of the row is an exception's, and lies under LaneError and ValueError -/
def EcS (K : PySem.W.Frag) (cs : List Str) : Prop := ∀ x, x ∈ cs → ExcC K (He.ga K x) ∧ PySem.W.kitOne K (.ref (He.ga K x)) (.ref (He.ga K "LaneError")) = some true ∧ PySem.W.kitOne K (.ref (He.ga K x)) (.type "ValueError") = some true
def ecsB (K : PySem.W.Frag) (cs : List Str) : Bool := cs.all fun x => ecB K (He.ga K x) && (decide (PySem.W.kitOne K (.ref (He.ga K x)) (.ref (He.ga K "LaneError")) = some true) && decide (PySem.W.kitOne K (.ref (He.ga K x)) (.type "ValueError") = some true))
theorem ecs_ok {K : PySem.W.Frag} {cs : List Str} (h : ecsB K cs = true) : EcS K cs := fun x hx => by
  obtain ⟨h1, h⟩ := He.ba (List.all_eq_true.mp h x hx)
  obtain ⟨h2, h3⟩ := He.ba h
  exact ⟨ecB_ok h1, of_decide_eq_true h2, of_decide_eq_true h3⟩
def Xa.ok (K : PySem.W.Frag) : Xa → Bool
  | .kit x y b => decide (PySem.W.kitOne K (.ref (He.ga K x)) (.ref (He.ga K y)) = some b)
  | .kitT x t b => decide (PySem.W.kitOne K (.ref (He.ga K x)) (.type t) = some b)
  | .ec x => ecB K (He.ga K x)
  | .xf x f => xfB K (He.ga K x) && He.eqO (PySem.W.findIn K (.ref (He.ga K x)) f) (some none)
  | .exm x y b => decide (PySem.W.exmOne K (.ref (He.ga K x)) (.ref (He.ga K y)) = some b)
  | .oex x => oexB K (He.ga K x)
  | .lan x => lanB K (He.ga K x)
  | .kitM cs => kitMB K cs
  | .ecs cs => ecsB K cs
  | .isn x => He.eqO (PySem.W.findIn K (.ref (He.ga K x)) "__class__") (some (some (.builtin "object.__class__"))) && (He.eqO (PySem.W.specialIn K (.builtin "object.__class__") "__get__") (some (some (.builtin "getset_descriptor.__get__"))) && (decide (PySem.W.takesIn K (.builtin "object.__class__") = some true) && decide (PySem.W.mroIn K (He.ga K x) (.type "object") = some true)))
abbrev AlE : Type := He.AlD × Bool
def obsE (fa : List He.Fa) (fn : List He.DefD) (xa : List Xa) (K : PySem.W.Frag) : AlE := (He.obsD fa fn K, xa.all fun f => f.ok K)
def valE (fn : List He.DefD) : AlE := (He.valD fn, true)
def SaysE (fa : List He.Fa) (fn : List He.DefD) (xa : List Xa) (K : PySem.W.Frag) : Prop := obsE fa fn xa K = valE fn
def obsEG (n : Nat) (fa : List He.Fa) (fn : List He.DefD) (xa : List Xa) (g : Addr → Option Obj) : AlE := obsE fa fn xa (He.frG g (He.asD g n ++ [cStatics]))
def hookE (n : Nat) (fa : List He.Fa) (fn : List He.DefD) (xa : List Xa) : PySem.W.Hook where
  α := AlE
  obs := fun s => obsEG n fa fn xa s.heap.get?
  val := fun _ => valE fn
  says := fun _ h => ∃ K : PySem.W.Frag, K.In h ∧ SaysE fa fn xa K
  of := fun _ _ e => ⟨_, He.frG_in, e⟩
  keeps := fun _ _ _ ⟨K, hK, c⟩ k => ⟨K, PySem.W.Frag.In.keeps hK k, c⟩
theorem obsEG_eq {n : Nat} {fa : List He.Fa} {fn : List He.DefD} {xa : List Xa} {g : Addr → Option Obj} {s : Shared} (h : ∀ a, g a = s.heap.get? a) : obsEG n fa fn xa g = (hookE n fa fn xa).obs s := by
  have e : g = s.heap.get? := funext h
  rw [e] <;> rfl
theorem SaysE.d {fa : List He.Fa} {fn : List He.DefD} {xa : List Xa} {K : PySem.W.Frag} (c : SaysE fa fn xa K) : He.SaysD fa fn K := congrArg (fun z : AlE => z.1) c
theorem SaysE.x {fa : List He.Fa} {fn : List He.DefD} {xa : List Xa} {K : PySem.W.Frag} (c : SaysE fa fn xa K) (i : Nat) {f : Xa} (h : xa[i]? = some f := by rfl) : f.ok K = true :=
  List.all_eq_true.mp (congrArg (fun z : AlE => z.2) c) f (List.mem_of_getElem? h)
end Ab
namespace Ab
open PySem PySem.Spec PyProof.Rows L2
/-! ### exceptions with an own __init__ -/
section
variable {X : Cx} {e : Expr} {es : List Expr} {ta : TA} {p1 p2 pos : Pos}
theorem pe_lane {pl : Sem Bool} {x : Str} (hg : Gl X x) (gC : X.mg x = some (.ref (He.ga X.K x))) (L : LanC X.K (He.ga X.K x)) (ha : PA X (e :: es) ta) (hdb : (x == ("__debug__" : Str)) = false := by decide)
    (hc : eval (.Call (.Attribute (.Name x p1) "__init__" p2) (e :: es) [] pos) X.env = (do
      let ov ← eval (.Name x p1) X.env
      standAt p2.atName
      let (f, first) ← holding [ov] (getMethod ov "__init__" pl)
      callWith pos f first (backTo pos (starEach (e :: es) X.env)) (backToKw pos (keywordEach [] X.env))) := by rfl)
    (he : starEach (e :: es) X.env = (false, eval e X.env) :: starEach es X.env := by rfl) (hpl : (backTo pos (starEach es X.env)).any (·.1) = false := by rfl) :
    PE X (.Call (.Attribute (.Name x p1) "__init__" p2) (e :: es) [] pos) (tVeI X.K ta) := by
  refine ⟨fun pins s σ H Q I h => ?_⟩
  refine PySem.W.methodCall_KW (ld_glob I hg gC ?_ hdb) hc
  refine PySem.W.method_cls I.kIn L.ga (PySem.W.cls_value I.kIn L.rd L.fi (by decide +kernel) ?_)
  show wpAny _ _ (callWith pos (Value.builtin "ValueError.__init__") [] (backTo pos (starEach (e :: es) X.env)) []) _ _ _
  refine PyProof.Rows.callWith_method1 (thn (ha.run pos pins _ σ H _ (I.tok _) h) fun us s1 ⟨vs, H1, I1, r1, a, C, ws, ev, hl, T, ea, q⟩ => ?_) he hpl
  subst ev
  cases r1 with
  | @cons _ u0 _ ur ra rw' =>
    obtain rfl : u0 = Value.ref a := ra
    have hlen : ur.length ≤ sizeLine := by
      rw [← Paired.length rw', sizeLine_eq]
      omega
    exact oinit_ok T I1 ea hlen fun s' J => ⟨.non, H1, J, rfl, q⟩
end
/-- what such an __init__ does -/
def xiSp (K : PySem.W.Frag) (fld : Str) : Sp := fun vs H Q _ => ∃ (a C : Addr) (y : V), vs = [.ref a, y] ∧ OexC K C ∧ PySem.W.findIn K (.ref C) fld = some none ∧ H a = some (exo a C none) ∧
  ∀ dx, H dx = none → dx ≠ a → Q .non (upd (upd H dx (exd dx [(fld, y)])) a (exo a C (some dx)))
section
variable {P : Program} {w : World} {K : PySem.W.Frag} {mg : Str → Option Value} {base : Heap}
theorem mkXInit {x qual : Str} {params : Arguments} {body : List Stmt} {scope : Scope} {f : Addr} {fd : FuncData} {k : Nat} {nm fld msg : Str}
    (F : FunD K x qual params body scope [] [] f fd) (S : FnScope ["self", nm] ["self", nm] scope) (gC : mg "LaneError" = some (.ref (He.ga K "LaneError"))) (L : LanC K (He.ga K "LaneError"))
    (h1 : ∀ (cdv : Value) (A : Around) (outer : List Env) (s : Shared) (H : Hp) (E : XK), PSs (cxOf (L2.CX P w) P w K mg base ["self", nm] qual scope f cdv A outer s H E) body
      (fun D σ H => tVeI K (tCons (tVar 0) (tCons (tC (.str msg)) tNil)) σ H (fun _ H1 => tOst K fld (tVar 0) (tVar 1) D σ H1))) : FnOk P w K mg base (L2.CX P w) (k + 1) f fd ["self", nm] (xiSp K fld) := by
  refine F.ok S (fun vs H Q E h => by obtain ⟨a, C, y, rfl, _⟩ := h; rfl) (fun cdv A outer s H vs Q E hr h => ?_)
  obtain ⟨a, C, y, rfl, T, hno, ha, hk⟩ := h
  refine ⟨_, h1 cdv A outer s H E, ?_⟩
  exact ⟨.ref a, rfl, a, C, [.str msg], rfl, (by show 1 ≤ 1000; decide), T, ha, y, rfl, .ref a, rfl, a, C, rfl, T, hno, .inl ⟨ha, fun dx n ne => hk dx n ne⟩⟩
/-- an exception class with an own __init__ that keeps one field, as it stands behind the top -/
structure XiF (P : Program) (w : World) (K : PySem.W.Frag) (mg : Str → Option Value) (base : Heap) (k : Nat) (x fld : Str) : Prop where
  ex : ∃ (fI : Addr) (fd : FuncData) (nm : Str), OexC K (He.ga K x) ∧ PySem.W.findIn K (.ref (He.ga K x)) "__init__" = some (some (.ref fI)) ∧ PySem.W.typeIn K (.ref fI) = some (.type "function") ∧
    FnOk P w K mg base (L2.CX P w) k fI fd ["self", nm] (xiSp K fld) ∧ Binds K fd ["self", nm] [] ∧ PySem.W.findIn K (.ref (He.ga K x)) fld = some none ∧ mg x = some (.ref (He.ga K x))
end
/-- raise C(e), the field told -/
def aRaise1 (C : Addr) (f : Str) (t : AE) : AS := fun A e m => aE t A e m fun d m1 => A.ex ⟨C, some (f, d)⟩ e m1
section
variable {X : Cx} {a : Expr} {ta : AE} {pos : Pos}
theorem qs_raise1 {x fld : Str} {k j : Nat} {p p2 : Pos} (hc : X.calm = true) (E : XiF X.prog X.w X.K X.mg X.base k x fld) (hr : Room j X.A) (hk : k + 1 ≤ j) (ha : QE X a ta) (hg : Gl X x := by rfl)
    (hs : starEach [a] X.env = (false, eval a X.env) :: starEach [] X.env := by rfl) (hdb : (x == ("__debug__" : Str)) = false := by decide) (hpl : (backTo p2 (starEach [] X.env)).any (·.1) = false := by rfl) :
    QS X (.Raise (some (.Call (.Name x p) [a] [] p2)) none pos) (aRaise1 (He.ga X.K x) fld ta) := fun W tk po => by
  obtain ⟨fI, fd, nm, T, iC, tI, F1, hb, hno, gC⟩ := E.ex
  refine (ps_raise hc tk (pmk_oex T iC tI F1 (hr.mono hk) hb .nil passL hg gC (pa_cons (ha W tk) pa_nil hs) hdb hs hpl)).imp fun D s H ⟨F, e, m, r, A, he, hn, h, g⟩ => ?_
  refine use_E he hn g h fun F1 H1 m1 v d k1 n1 r1 q1 => ?_
  refine ⟨by show 1 ≤ 1000; decide, fun b hb1 => ⟨b, _, v, rfl, T, hno, upd_same, fun dx hdx ne => ⟨rfl, dx, [(fld, v)], upd_same, ?_, ?_, ?_⟩⟩⟩
  · rw [upd_ne ne, upd_same]
  · rw [← hdx, upd_ne ne]
  · have hdx1 : H1 dx = none := by rw [← hdx, upd_ne ne]
    have e1 : upd (del (upd (upd (upd H1 b (exo b (He.ga X.K x) none)) dx (exd dx [(fld, v)])) b (exo b (He.ga X.K x) (some dx))) b) dx (.xd [(fld, v)]) = upd H1 dx (.xd [(fld, v)]) := by
      funext z
      by_cases hz : z = dx
      · rw [hz, upd_same, upd_same]
      · rw [upd_ne hz, upd_ne hz]
        by_cases hzb : z = b
        · rw [hzb, del_same, hb1]
        · rw [del_ne hzb, upd_ne hzb, upd_ne hz, upd_ne hzb]
    rw [e1]
    have sm := n1.same hdx1 (.xd [(fld, v)])
    exact g.ex _ _ m1 s e _ _ ⟨He.ga X.K x, some (fld, d)⟩ (k1.trans sm) (he.mono (k1.trans sm)) (n1.new hdx1 _) ⟨rfl, (fun z => nomatch z), fun f' d' z => by
      cases z
      exact ⟨dx, v, rfl, upd_same, r1.mono sm⟩⟩ q1
end
/-! ### e.f in a suite -/
def aXFld (K : PySem.W.Frag) (a : Addr) (dd : Option Addr) (C : Addr) (f : Str) (t : AE) : AE := fun e m Q X => XfC K C ∧ PySem.W.findIn K (.ref C) f = some none ∧ t e m (fun d m1 => ∃ b v, dd = some b ∧ d = .exc a C b f v ∧ Q v m1) X
theorem q_xfld {Y : Cx} {o : Expr} {t : AE} {ad C : Addr} {oe : Obj} {dd : Option Addr} {pn : List (Addr × Obj)} {f : Str} {pos : Pos} (hz : Zc (.ref C) dd oe) (hv : ∃ vs, oe.data = .fields vs) (ho : QE (Y.suite ad ((ad, oe) :: pn)) o t)
    (hb : attributeBase o f (Y.suite ad ((ad, oe) :: pn)).env (eval o (Y.suite ad ((ad, oe) :: pn)).env) = eval o (Y.suite ad ((ad, oe) :: pn)).env := by rfl) : QE (Y.suite ad ((ad, oe) :: pn)) (.Attribute o f pos) (aXFld Y.K ad dd C f t) := fun W tk => ⟨fun pins s σ H Qc I h => by
  obtain ⟨F, e, m, r, Q, X, he, hn, ⟨T, hno, h⟩, g, gx⟩ := h
  refine (pe_xf (X := Y) T hno hz hv (ho W tk) hb).run pins s σ H Qc I ?_
  refine ⟨F, e, m, r, _, X, he, hn, h, fun F1 H1 m1 v d s1 n1 r1 q1 => ?_, gx⟩
  obtain ⟨b, w, rfl, rfl, q⟩ := q1
  cases r1 with
  | exc e1 r2 =>
    rename_i v0
    refine ⟨rfl, rfl, b, [(f, v0)], v0, rfl, ?_, by rw [List.lookup_cons_self], g F1 H1 m1 _ _ s1 n1 r2 q⟩
    rcases n1.cov _ _ e1 with z | ⟨_, _, z, _⟩
    · exact z
    · cases z⟩
section
variable {e : De} {m : Mu} {ta tb tc : AE} {tr : AA} {d x y z : D} {xs : List D} {N B C : De → Mu → Prop} {R : QD} {E : Ex → De → Mu → Prop}
theorem k_raise1 {Cl : Addr} {f : Str} (h : Ev ta e m d) (k : E ⟨Cl, some (f, d)⟩ e m) : aRaise1 Cl f ta ⟨N, R, B, C, E⟩ e m := h _ _ k
theorem ev_xfld {K : PySem.W.Frag} {a b Cl : Addr} {f : Str} {v : D} (h : Ev ta e m (.exc a Cl b f v)) (T : XfC K Cl) (hno : PySem.W.findIn K (.ref Cl) f = some none) : Ev (aXFld K a (some b) Cl f ta) e m v := fun Q X q => ⟨T, hno, h _ _ ⟨b, v, rfl, rfl, q⟩⟩
end
end Ab
namespace Ab
open PySem PySem.Spec PyProof.Rows L2
/-! ### try: .. with several clauses `except C as n:` -/
abbrev TsH := Addr → Value → Option Addr → TS
def endsGone (i : Nat) (D : Ends) : Ends := { nx := fun σ' H' => D.nx (σ'.set i none) H', rt := D.rt, bk := fun σ' H' => D.bk (σ'.set i none) H', ct := fun σ' H' => D.ct (σ'.set i none) H' }
def wAsM (K : PySem.W.Frag) (Wout : WX) (D : Ends) : List (Value × Nat × TsH) → WX
  | [] => Wout
  | (c, i, ts) :: r => fun cls d σ H => ∃ b, PySem.W.exmOne K cls c = some b ∧ (b = true → ∀ a, H a = none → ts a cls d (endsGone i D) (σ.set i (some (.ref a))) H) ∧ (b = false → wAsM K Wout D r cls d σ H)
inductive HdA (X : Cx) : List ExceptHandler → List (Value × Nat × TsH) → Prop
  | nil : HdA X [] []
  | cons {x n : Str} {c : Value} {i : Nat} {ts : TsH} {b₀ : Stmt} {suite : List Stmt} {np pos' : Pos} {hds : List ExceptHandler} {l : List (Value × Nat × TsH)} (hc : Names X x c) (hi : X.N[i]? = some n) (hln : X.env.kindOf n = some .local)
      (hsu : ∀ (a : Addr) (oe : Obj) (cls : Value) (d : Option Addr) (pn : List (Addr × Obj)), Zc cls d oe → (∃ vs, oe.data = .fields vs) → PSs (X.suite a ((a, oe) :: pn)) (b₀ :: suite) (ts a cls d)) (r : HdA X hds l) :
      HdA X (.ExceptHandler (some (.Name x np)) (some n) (b₀ :: suite) pos' :: hds) ((c, i, ts) :: l)
section
variable {X : Cx} {body : List Stmt} {h₀ : ExceptHandler} {hds : List ExceptHandler} {l : List (Value × Nat × TsH)} {pos : Pos} {tb : WX → TS} {Wout : WX}
theorem ps_try_asM (hs : X.stack = X.env :: X.outer) (hf : X.env.frame = some X.env.locals) (hN : X.N.Nodup) (tk : Takes X Wout) (hb : ∀ (W : WX) (pn : List (Addr × Obj)) (xe : Value → Shared → Prop), Takes (X.tr pn xe) W → PassesOwn (model X.prog X.w) X.A X.env xe → PSs (X.tr pn xe) body (tb W))
    (hh : HdA X (h₀ :: hds) l) : PS X (.Try body (h₀ :: hds) [] [] pos) (fun D σ H => tb (wAsM X.K Wout D l) D σ H) := by
  refine ⟨fun pins s σ H D I h => ?_⟩
  have ok := I.ok; have hfr : X.A.frames = some (X.env :: X.outer) := by rw [ok.frames, hs]
  refine wpAny_Try_except (wpAny_mono ((hb (wAsM X.K Wout D l) (X.pn ++ pins) (fun e s₁ => wpAny (model X.prog X.w) X.A (noteFrame e X.env) (fun _ s₂ => wpAny (model X.prog X.w) X.A (setFlight e none) (fun _ s₃ => wpAny (model X.prog X.w) X.A (handleBy e X.env (h₀ :: hds)) (SP X pins D) X.xe s₃) X.xe s₂) X.xe s₁) (fun u s' xx => ?_) PassesOwn.looking).run [] s σ H D (I.toTry _) h) (fun f s1 hsp => ?_) (fun e s1 he => he))
  · obtain ⟨a, B, sI, pins', σ', H', cls, d, rfl, J', nb, up, sky, na, os, ag, w⟩ := xx
    have J : Inv X pins σ' H' sI := J'.ofTry ok; have sky' : Sky B (X.env :: X.outer) a (Zc cls d) X.env.locals s'.heap := by rw [← hs]; exact sky
    show wpAny (model X.prog X.w) X.A (noteFrame (.ref a) X.env) _ _ _
    refine Sky.land Zc.steady hfr hf sky' fun h3 fl3 up3 => ?_
    have J3 : Inv X pins σ' H' { s' with heap := h3 } := J.landed nb fl3.1 (up.trans up3) os ag; obtain ⟨oe3, vs3, he3, hz3, hd3⟩ := fl3.there
    have nfr : a ∉ frs (X.env :: X.outer) := fun hm => by obtain ⟨_, o', e', hnf⟩ := fl3.2.2.1.mem hm; rw [he3] at e'; cases e'; exact hnf _ hd3
    have nL : a ≠ X.env.locals := fun z => nfr (List.mem_filterMap.mpr ⟨X.env, List.mem_cons_self, by rw [hf, z]⟩)
    have nF : a ∉ X.fs := fun hm => by obtain ⟨e, he, q⟩ := List.mem_filterMap.mp hm; exact nfr (List.mem_filterMap.mpr ⟨e, List.mem_cons_of_mem _ he, q⟩)
    have S3 := J3.suite he3 hd3 na nL nF
    have go : ∀ {hds' : List ExceptHandler} {l' : List (Value × Nat × TsH)}, HdA X hds' l' → wAsM X.K Wout D l' cls d σ' H' → wpAny (model X.prog X.w) X.A (handleBy (.ref a) X.env hds') (SP X pins D) X.xe { s' with heap := h3 } := by
      intro hds' l' hk
      induction hk with
      | nil =>
        intro w
        refine wpAny_handleBy_nil ?_; obtain ⟨k1, k2, k3, oe, vs, T, oT, ts', he, hz, hd, h1, hr⟩ := id fl3; unfold PySem.passOn
        refine wpAny_bind (wpAny_field he hd h1 ?_); rw [if_neg (show ¬ ((Value.ref T == Value.none) = true) from by simp)]
        have fin : wpAny (model X.prog X.w) X.A (setFlight (.ref a) X.env.frame) (fun _ s4 => wpAny (model X.prog X.w) X.A (throw (.ref a) : Sem Flow) (SP X pins D) X.xe s4) X.xe { s' with heap := h3 } := by rw [hf]; refine HandSPX.setFlight_upZ fl3 fun h4 hh4 up4 => wpAny_throw (tk _ _ ⟨a, B, sI, pins, σ', H', cls, d, rfl, J, nb, (up.trans up3).trans up4, .inr (.inr (by rw [hs]; exact hh4)), na, os, ag, w⟩)
        first | exact wpAny_bind (wpAny_pure (wpAny_bind fin)) | exact wpAny_bind fin
      | @cons x n c i ts b₀ suite np pos' hds2 l2 hc hi hln hsu r ih =>
        intro w
        obtain ⟨b, hb1, hyes, hno⟩ := w; have hloc : Loc X.env.scope n := .inl hln
        refine wpAny_handleBy_cons (codeAny_handlers_test ?_) (by intro q; cases q)
        have LT : PySem.W.Looks (model X.prog X.w) h3 (typeOf (.ref a)) cls := fun A Q E s k q => wpAny_typeOf_ref (k _ _ he3) (by rw [hz3.1]; exact q); have LM := PySem.W.exm_one (M := model X.prog X.w) (J3.kIn) LT hb1
        have test : ∀ {Q : Value → Shared → Prop} {E : Value → Shared → Prop}, Q c { s' with heap := h3 } → wpAny (model X.prog X.w) (X.A.mark (some (.ref a))) (eval (.Name x np) X.env) Q E { s' with heap := h3 } := fun {Q E} q => by obtain ⟨hg, hdbg, hm | ⟨hm, hv, hnn⟩⟩ := hc; exact ld_glob (X := X.suite a ((a, oe3) :: (X.pn ++ pins))) S3 hg hm q hdbg; exact ld_blt (X := X.suite a ((a, oe3) :: (X.pn ++ pins))) S3 hg hm hv q hnn hdbg
        refine test (LM.here ?_)
        cases b with
        | true =>
          refine codeAny_handlers_suite_as (HandSPX.lands_againZ fl3 fun h4 fl4 up4 => ?_)
          have J4 : Inv X pins σ' H' { s' with heap := h4 } := J.landed nb fl4.1 ((up.trans up3).trans up4) os ag; obtain ⟨oe4, vs4, he4, hz4, hd4⟩ := fl4.there; have S4 := J4.suite he4 hd4 na nL nF
          refine store_ok (X := X.suite a ((a, oe4) :: (X.pn ++ pins))) (v := .ref a) S4 hN hi hloc rfl (fun s5 S5 => wpAny_mono ((hsu a oe4 cls d (X.pn ++ pins) hz4 ⟨_, hd4⟩).run [] s5 _ H' _ S5 (hyes rfl a na)) (fun f s6 hsp => ?_) (fun _ _ z => False.elim z)) (.inr hln)
          have end_ : ∀ {σ6 : L2.St} {H6 : Hp} {Q : Shared → Prop}, Inv (X.suite a ((a, oe4) :: (X.pn ++ pins))) [] σ6 H6 s6 → (∀ s7, Inv X pins (σ6.set i none) H6 s7 → Q s7) → wpAny (model X.prog X.w) X.A (do bindName X.env n .none; unbindBehindTheSuite X.env n pos') (fun _ s7 => Q s7) X.xe s6 := fun {σ6 H6 Q} S6 hq => gone_ok (S6.unsuite ok) hN hi hln hq
          cases f with
          | next => obtain ⟨σ6, H6, S6, q6⟩ := hsp; exact end_ S6 fun s7 J7 => ⟨_, _, J7, q6⟩
          | brk => obtain ⟨σ6, H6, S6, q6⟩ := hsp; exact end_ S6 fun s7 J7 => ⟨_, _, J7, q6⟩
          | cont => obtain ⟨σ6, H6, S6, q6⟩ := hsp; exact end_ S6 fun s7 J7 => ⟨_, _, J7, q6⟩
          | ret u => obtain ⟨v6, σ6, H6, S6, r6, q6⟩ := hsp; exact end_ S6 fun s7 J7 => ⟨_, _, _, J7, r6, q6⟩
        | false => show wpAny _ X.A (handleBy (.ref a) X.env hds2) _ _ _; exact ih (hno rfl)
    exact go hh w
  · cases f with
    | next => obtain ⟨σ', H', J', q⟩ := hsp; exact wpAny_execs_nil ⟨σ', H', J'.ofTry ok, q⟩
    | brk => obtain ⟨σ', H', J', q⟩ := hsp; exact ⟨σ', H', J'.ofTry ok, q⟩
    | cont => obtain ⟨σ', H', J', q⟩ := hsp; exact ⟨σ', H', J'.ofTry ok, q⟩
    | ret u => obtain ⟨v, σ', H', J', r, q⟩ := hsp; exact ⟨v, σ', H', J'.ofTry ok, r, q⟩
end
/-! over data -/
def exA (K : PySem.W.Frag) (A : AEnds) : List (Addr × Nat × TSx) → Ex → De → Mu → Prop
  | [], x, e, m => A.ex x e m
  | (C, i, ts) :: r, x, e, m => ∃ b, PySem.W.exmOne K (.ref x.C) (.ref C) = some b ∧ (b = true → aSuite i ts A x e m) ∧ (b = false → exA K A r x e m)
def aTryM (K : PySem.W.Frag) (l : List (Addr × Nat × TSx)) (t : AS) : AS := fun A e m => t ⟨A.nx, A.rt, A.bk, A.ct, exA K A l⟩ e m
def tsH (K : PySem.W.Frag) (ts : TSx) : TsH := fun a cls d D s H => ∃ F e m r A xx, cls = .ref xx.C ∧ EnvOk K F s e ∧ Sn K F H m r ∧ ts a d xx A e m ∧ GS K F r A D W0
inductive HdQ (X : Cx) : List ExceptHandler → List (Addr × Nat × TSx) → Prop
  | nil : HdQ X [] []
  | cons {x n : Str} {ts : TSx} {b₀ : Stmt} {suite : List Stmt} {np pos' : Pos} {hds : List ExceptHandler} {l : List (Addr × Nat × TSx)} (i : Nat) (E : X.mg x = some (.ref (He.ga X.K x))) (hsu : QSuite X (b₀ :: suite) ts) (r : HdQ X hds l) (hi : X.N[i]? = some n := by rfl) (hln : X.env.kindOf n = some .local := by rfl) (hg : Gl X x := by rfl)
      (hdb : (x == ("__debug__" : Str)) = false := by decide) : HdQ X (.ExceptHandler (some (.Name x np)) (some n) (b₀ :: suite) pos' :: hds) ((He.ga X.K x, i, ts) :: l)
theorem HdQ.toA {X : Cx} {hds : List ExceptHandler} {l : List (Addr × Nat × TSx)} (h : HdQ X hds l) : HdA X hds (l.map fun p => (Value.ref p.1, p.2.1, tsH X.K p.2.2)) := by
  induction h with
  | nil => exact .nil
  | cons i E hsu r hi hln hg hdb ih =>
    refine .cons ⟨hg, hdb, .inl E⟩ hi hln (fun a oe cls d pn hz hv => ⟨fun pins s σ H D I h => ?_⟩) ih
    obtain ⟨F, e, m, r, A, xx, rfl, he, hn, h, g⟩ := h
    exact (hsu a oe d pn xx hz hv W0 takes_w0 PassesOwn.never).run pins s σ H D I ⟨F, e, m, r, A, he, hn, h, g⟩
theorem exA_ok {K : PySem.W.Frag} {W : WX} {F r : Hp} {A : AEnds} {D : Ends} (g : GS K F r A D W) {F' H' : Hp} {m' : Mu} {s' : L2.St} {e' : De} {cls : Value} {dd : Option Addr} {xx : Ex} (k1 : Same F F') (he' : EnvOk K F' s' e') (hn' : Sn K F' H' m' r) (rx : RepX K F' H' m' cls dd xx) :
    ∀ l : List (Addr × Nat × TSx), exA K A l xx e' m' → wAsM K W D (l.map fun p => (Value.ref p.1, p.2.1, tsH K p.2.2)) cls dd s' H'
  | [], hx => g.ex F' H' m' s' e' cls dd xx k1 he' hn' rx hx
  | (C, i, ts) :: l, hx => by
    obtain ⟨b, hb1, hb2, hb3⟩ := hx
    refine ⟨b, by rw [rx.1]; exact hb1, fun z a na => ?_, fun z => exA_ok g k1 he' hn' rx l (hb3 z)⟩
    refine ⟨F', _, m', r, _, xx, rx.1, envOk_set he' (excD_ok rx), hn', hb2 z a dd (hn'.m_none na) rx.2.1 (fun ⟨p, hp⟩ => let ⟨b, v, q, _⟩ := rx.2.2 p.1 p.2 hp; ⟨b, q⟩), ?_⟩
    exact ⟨fun F2 H2 m2 s2 e2 k2 he2 hn2 q => g.nx F2 H2 m2 _ _ (k1.trans k2) (envOk_gone he2) hn2 q, fun F2 H2 m2 v d k2 hn2 hr2 q => g.rt F2 H2 m2 v d (k1.trans k2) hn2 hr2 q,
      fun F2 H2 m2 s2 e2 k2 he2 hn2 q => g.bk F2 H2 m2 _ _ (k1.trans k2) (envOk_gone he2) hn2 q, fun F2 H2 m2 s2 e2 k2 he2 hn2 q => g.ct F2 H2 m2 _ _ (k1.trans k2) (envOk_gone he2) hn2 q, fun _ _ _ _ _ _ _ _ _ _ _ _ q => q.elim⟩
theorem qs_tryM {X : Cx} {body : List Stmt} {h₀ : ExceptHandler} {hds : List ExceptHandler} {l : List (Addr × Nat × TSx)} {pos : Pos} {t : AS} (hs : X.stack = X.env :: X.outer) (hf : X.env.frame = some X.env.locals) (hN : X.N.Nodup)
    (hb : ∀ (pn : List (Addr × Obj)) (xe : Value → Shared → Prop), QSs (X.tr pn xe) body t) (hh : HdQ X (h₀ :: hds) l) : QS X (.Try body (h₀ :: hds) [] [] pos) (aTryM X.K l t) := fun W tk po => by
  refine (ps_try_asM (X := X) (Wout := W) (tb := fun W' => cS X.K W' t) hs hf hN tk (fun W' pn xe tk' po' => hb pn xe W' tk' po') hh.toA).imp fun D s H h => ?_
  obtain ⟨F, e, m, r, A, he, hn, h, g⟩ := h
  exact ⟨F, e, m, r, _, he, hn, h, ⟨g.nx, g.rt, g.bk, g.ct, fun F' H' m' s' e' cls dd xx k1 he' hn' rx hx => exA_ok g k1 he' hn' rx l hx⟩⟩
section
variable {e : De} {m : Mu} {N B C : De → Mu → Prop} {R : QD} {E : Ex → De → Mu → Prop}
theorem k_tryM {K : PySem.W.Frag} {l : List (Addr × Nat × TSx)} {t : AS} (h : t ⟨N, R, B, C, exA K ⟨N, R, B, C, E⟩ l⟩ e m) : aTryM K l t ⟨N, R, B, C, E⟩ e m := h
end
/-! ### isinstance(o, C), o an instance of an own class -/
structure InsK (K : PySem.W.Frag) (C : Addr) : Prop where
  cl : Cls K C
  ha : PySem.W.findIn K (.ref C) "__class__" = some (some (.builtin "object.__class__"))
  hn : PySem.W.specialIn K (.builtin "object.__class__") "__get__" = some (some (.builtin "getset_descriptor.__get__"))
  hk : PySem.W.takesIn K (.builtin "object.__class__") = some true
  hm : PySem.W.mroIn K C (.type "object") = some true
theorem ins_ok {K : PySem.W.Frag} {x : Str} (c : Cls K (He.ga K x)) (h : (Xa.isn x).ok K = true) : InsK K (He.ga K x) := by
  obtain ⟨h1, h⟩ := He.ba h
  obtain ⟨h2, h⟩ := He.ba h
  obtain ⟨h3, h4⟩ := He.ba h
  exact ⟨c, He.eqO_ok h1, He.eqO_ok h2, of_decide_eq_true h3, of_decide_eq_true h4⟩
theorem xf_ok {K : PySem.W.Frag} {x f : Str} (h : (Xa.xf x f).ok K = true) : XfC K (He.ga K x) ∧ PySem.W.findIn K (.ref (He.ga K x)) f = some none := ⟨xfB_ok (He.ba h).1, He.eqO_ok (He.ba h).2⟩
def aIsO (K : PySem.W.Frag) (C : Addr) (t : AE) : AE := fun e m Q X => t e m (fun d m1 => ∃ C' fs b, asF m1 d = some (C', fs) ∧ InsK K C' ∧ PySem.W.kitOne K (.ref C') (.ref C) = some b ∧ Q (.bl b) m1) X
theorem q_isO {X : Cx} {a : Expr} {ta : AE} {pos : Pos} {x : Str} {p p2 : Pos} (hm : X.mg "isinstance" = none) (hmc : X.mg x = some (.ref (He.ga X.K x))) (ha : QE X a ta) (hg : Gl X "isinstance" := by rfl) (hgT : Gl X x := by rfl) (hdd : (x == ("__debug__" : Str)) = false := by decide)
    (hs1 : starEach (a :: [.Name x p2]) X.env = (false, eval a X.env) :: starEach [.Name x p2] X.env := by rfl) (hs2 : starEach (.Name x p2 :: []) X.env = (false, eval (.Name x p2) X.env) :: starEach [] X.env := by rfl) (hpl : (backTo pos (starEach [.Name x p2] X.env)).any (·.1) = false := by rfl) :
    QE X (.Call (.Name "isinstance" p) [a, .Name x p2] [] pos) (aIsO X.K (He.ga X.K x) ta) := fun W tk =>
  (pe_callB call_isi hg hm (by decide +kernel) (pa_cons (ha W tk) (pa_cons (pe_cls hmc hgT hdd) pa_nil hs2) hs1) (by decide) (by decide) hs1 hpl).imp fun s H Qc h => by
    obtain ⟨F, e, m, r, Q, X, he, hn, h, g, gx⟩ := h
    refine ⟨F, e, m, r, _, X, he, hn, h, fun F1 H1 m1 v d s1 n1 r1 q1 => ?_, gx⟩
    obtain ⟨C', fs, b, h1, h2, h3, q⟩ := q1
    obtain ⟨p, dx, gs, rfl, e3, r3⟩ := asF_ok n1 r1 h1
    exact ⟨.ref p, .ref _, .ref C', .ref _, b, rfl, .own _, .base (.ins e3 h2.cl h2.ha h2.hn h2.hk h2.hm), h3, g F1 H1 m1 _ _ s1 n1 (.bl b) q⟩
end Ab
namespace Ab
open PySem PySem.Spec PyProof.Rows L2
section
variable {e : De} {m : Mu} {N B C : De → Mu → Prop} {R : QD} {E : Ex → De → Mu → Prop} {ta to ti : AE} {d : D}
/-- o[i] = v, o a list -/
theorem k_stL {p : Addr} {n : Int} {j : Nat} {xs : List D} (hv : Ev ta e m d) (ho : Ev to e m (.cell p)) (hi : Ev ti e m (.int n)) (hm : m p = some (.lst xs)) (ix : ixN xs.length n = some j) (k : N e (mset m p (.lst (xs.set j d)))) : aAsg ta (agSub to ti) ⟨N, R, B, C, E⟩ e m :=
  hv _ _ (ho _ _ (hi _ _ ⟨p, rfl, .inr ⟨xs, n, j, hm, rfl, ix, k⟩⟩))
theorem x_fzL {p : Addr} {xs : List D} {Q : QD} {X : XA} (ha : Ev ta e m (.cell p)) (hm : m p = some (.lst xs)) (k : Q (.lst xs) (mdel m p)) : aFz ta e m Q X := ha _ _ ⟨p, rfl, by rw [hm]; exact k⟩
theorem x_fzD {p : Addr} {kvs : List (Key × D)} {Q : QD} {X : XA} (ha : Ev ta e m (.cell p)) (hm : m p = some (.dic false kvs)) (k : Q (.dic kvs) (mdel m p)) : aFz ta e m Q X := ha _ _ ⟨p, rfl, by rw [hm]; exact k⟩
/-- a comprehension whose list stays a cell -/
theorem x_lcN {ai : AI} {ag : AG} {ae : AE} {vs : List Nat} {src : List D} {G : Mu → Prop} {Q : QD} {X : XA} (P : D → Prop) (h : ∀ Q X, Q src G m → ai e m Q X) (hG : G m) (hl : src.length < sizeLine)
    (hs : ∀ d, d ∈ src → ∃ e2, Bnd ag d (wipeA e vs) e2 ∧ ∀ (Q : QD) (X : XA), (∀ y, P y → Q y m) → ae e2 m Q X) (k : ∀ ds, ds.length = src.length → (∀ y, y ∈ ds → P y) → ∀ p, m p = none → Q (.cell p) (mset m p (.lst ds))) : aLc true ai ag aYes ae vs e m Q X := h _ _
  ⟨fun i acc m' => m' = m ∧ acc.length = i ∧ i ≤ src.length ∧ ∀ y, y ∈ acc → P y, ⟨rfl, rfl, Nat.zero_le _, fun _ h => by cases h⟩, fun i acc m' z => z.1 ▸ hG, fun i d acc m' hd ⟨e1, e2, e3, e4⟩ => by
    subst e1
    have hi : i < src.length := (List.getElem?_eq_some_iff.mp hd).1
    obtain ⟨e9, h1, h3⟩ := hs d (List.mem_of_getElem? hd)
    refine h1 _ _ _ (h3 _ _ fun y hy => ⟨by omega, rfl, by rw [List.length_append, e2]; rfl, hi, fun z hz => ?_⟩)
    rcases List.mem_append.mp hz with q | q
    · exact e4 z q
    · rw [List.mem_singleton.mp q]; exact hy, fun acc m' ⟨e1, e2, _, e4⟩ => by
    subst e1
    exact k acc e2 e4⟩
theorem mem_cut {xs : List D} {l h : Option Int} {d : D} (hd : d ∈ cut xs l h) : d ∈ xs := by
  unfold cut at hd
  exact List.mem_of_mem_drop (List.mem_of_mem_take hd)
theorem pick_mem {xs : List D} {i : Int} (h0 : 0 ≤ i) (h1 : i < xs.length) : ∃ d, d ∈ xs ∧ atI xs i = some d := by
  have h : i.toNat < xs.length := by omega
  exact ⟨xs[i.toNat], List.getElem_mem h, atI_int h0 (List.getElem?_eq_getElem h)⟩
/-- o.clear(), o a list -/
theorem k_clear {p : Addr} {xs : List D} (ho : Ev to e m (.cell p)) (hm : m p = some (.lst xs)) (k : N e (mset m p (.lst []))) : aDrop (aBM0 "list" bClear to) ⟨N, R, B, C, E⟩ e m :=
  ho _ _ ⟨td_cell hm, p, xs, rfl, rfl, hm, k⟩
theorem k_asgC {g : AG} {sp : ASp} {tr : AA} {dvs ds : List D} (ha : EvA tr e m ds) (h : sp (ds ++ dvs) m (fun d m1 => g d ⟨N, R, B, C, E⟩ e m1 N) (fun x m => E x e m)) : aAsg (aCall sp dvs tr) g ⟨N, R, B, C, E⟩ e m := ha _ _ h
theorem x_listN {tr : AA} {xs : List D} {Q : QD} {X : XA} (h : EvA tr e m [.lst xs]) (k : ∀ p, m p = none → Q (.cell p) (mset m p (.lst xs))) : aCB (bList true) tr e m Q X := h _ _ ⟨_, rfl, .inl ⟨xs, rfl, k⟩⟩
theorem x_lstF {tr : AA} {Q : QD} {X : XA} (h : tr e m (fun ds m1 => ds.length ≤ sizeLine ∧ Q (.lst ds) m1) X) : aLst false tr e m Q X := h
theorem ty_tupL {K : PySem.W.Frag} {i : List D} : isTy K m "list" (.tup i) false := ⟨_, rfl, rfl⟩
end
end Ab
namespace Ab
open PySem PySem.Spec PyProof.Rows L2
section
variable {X : Cx} {a b c : Expr} {es : List Expr} {pos : Pos} {ta tb tc : AE} {tr : AA}
/-! ### sum(xs), dict(d) -/
def bSum : BA := fun ds m Q => ∃ (d : D) (ns : List Int), ds = [d] ∧ asLL m d = some (ns.map D.int) ∧ Q (.int ns.sum) m
theorem repL_ints {K : PySem.W.Frag} {F : Hp} : ∀ {ns : List Int} {vs : List V}, RepL K F vs (ns.map D.int) → vs = ns.map V.int
  | [], _, h => by cases h; rfl
  | n :: ns, _, h => by
    cases h with
    | cons h1 h2 => rw [h1.int_inv, repL_ints h2]; rfl
theorem s_sum {K : PySem.W.Frag} : SA K (rSum K) bSum := by
  intro F H m r vs ds Q Qc hn hr h k
  obtain ⟨d, ns, rfl, hx, q⟩ := h
  obtain ⟨v, rfl, rv⟩ := repL1 hr
  obtain ⟨p, us, rfl, e2, r2⟩ := asLL_ok hn rv hx
  rw [repL_ints r2] at e2
  exact ⟨p, ns, rfl, e2, k F H m _ _ (Same.refl F) hn (.int _) q⟩
theorem q_sum {p : Pos} (hc : X.calm = true) (hm : X.mg "sum" = none) (ha : QA X (a :: es) tr) (hg : Gl X "sum" := by rfl)
    (he : starEach (a :: es) X.env = (false, eval a X.env) :: starEach es X.env := by rfl) (hpl : (backTo pos (starEach es X.env)).any (·.1) = false := by rfl) : QE X (.Call (.Name "sum" p) (a :: es) [] pos) (aCB bSum tr) :=
  q_callB (cr_sum hc) s_sum hm (by decide +kernel) ha hg (by decide) (by decide) he hpl
def newD (mt : Bool) (kvs : List (Key × D)) (m : Mu) (Q : QD) : Prop := match mt with
  | false => Q (.dic kvs) m
  | true => ∀ p, m p = none → Q (.cell p) (mset m p (.dic false kvs))
theorem newD_ok {K : PySem.W.Frag} {F H : Hp} {m : Mu} {r : Hp} {mt : Bool} {kvs : List (Key × D)} {xs : List (Key × V)} {Q : QD} {Qc : VK} (hn : Sn K F H m r) (hr : RepK K F xs kvs) (h : newD mt kvs m Q) (g : GE K F r Q Qc) (p : Addr) (hp : H p = none) : Qc (.ref p) (upd H p (.dK xs)) := by
  cases mt with
  | false => exact g _ _ m _ _ (hn.same hp _) (hn.new hp _) (.dic upd_same (hr.mono (hn.same hp _))) h
  | true => exact g F _ _ _ _ (Same.refl F) (hn.newM (x := .dic false kvs) hp ⟨xs, upd_same, hr⟩) (.cell p) (h p (hn.m_none hp))
def bDict (mt : Bool) : BA := fun ds m Q => ∃ d kvs, ds = [d] ∧ asK m d = some kvs ∧ newD mt kvs m Q
theorem s_dict {K : PySem.W.Frag} (mt : Bool) : SA K (fun xs H Q => ∃ (a : Addr) (kvs : List (Key × V)), xs = [.ref a] ∧ Rd H a (.dK kvs) ∧ ∀ p, H p = none → Q (.ref p) (upd H p (.dK kvs))) (bDict mt) := by
  intro F H m r vs ds Q Qc hn hr h k
  obtain ⟨d, kvs, rfl, hx, q⟩ := h
  obtain ⟨v, rfl, rv⟩ := repL1 hr
  obtain ⟨p, vs, rfl, e2, r2⟩ := asK_ok hn rv hx
  exact ⟨p, vs, rfl, e2, fun l hl => newD_ok hn r2 q k l hl⟩
theorem q_dict (mt : Bool) {p : Pos} (hm : X.mg "dict" = none) (ha : QA X (a :: es) tr) (hg : Gl X "dict" := by rfl)
    (he : starEach (a :: es) X.env = (false, eval a X.env) :: starEach es X.env := by rfl) (hpl : (backTo pos (starEach es X.env)).any (·.1) = false := by rfl) : QE X (.Call (.Name "dict" p) (a :: es) [] pos) (aCB (bDict mt) tr) :=
  q_callTy call_dictD (s_dict mt) hm (by decide +kernel) ha hg (by decide) (by decide) he hpl
/-! ### range(a, b, c) -/
def rngC (lo c : Int) (n : Nat) : List D := (List.range n).map fun (i : Nat) => D.int (lo + i * c)
def aiRng3 (t : AA) : AI := fun e m Q X => t e m (fun ds m1 => ∃ (i j c : Int) (n : Nat), ds = [.int i, .int j, .int c] ∧ RgC i j c n ∧ Q (rngC i c n) (fun _ => True) m1) X
theorem it_rngC {K : PySem.W.Frag} {F : Hp} {lo c : Int} {n : Nat} {G : Mu → Prop} : ItOk K (Itc lo c n) F (rngC lo c n) G := fun F2 H2 m2 r2 s2 n2 g2 => by
  have hl : (rngC lo c n).length = n := by unfold rngC; rw [List.length_map, List.length_range]
  refine ⟨fun i hi => ⟨show i < n by rw [← hl]; exact hi, fun x H3 y => ?_⟩, fun i hi => show n ≤ i by rw [← hl]; exact hi⟩
  obtain ⟨rfl, rfl⟩ := y
  refine ⟨F2, .int (lo + i * c), Same.refl F2, n2, ?_, .int _⟩
  unfold rngC
  rw [List.getElem?_map, List.getElem?_range (by rw [← hl]; exact hi)]; rfl
theorem qi_range3 {tg a b c : Expr} {p : Pos} {t : AA} (hm : X.mg "range" = none) (ha : QA X [a, b, c] t) (hg : Gl X "range" := by rfl) (hs : starEach [a, b, c] X.env = (false, eval a X.env) :: starEach [b, c] X.env := by rfl) (hpl : (backTo pos (starEach [b, c] X.env)).any (·.1) = false := by rfl) : QI X tg (.Call (.Name "range" p) [a, b, c] [] pos) (aiRng3 t) :=
  fun W tk => pi_imp (pi_range3 hg hm (ha W tk) hs hpl) fun s H R h => by
    obtain ⟨F, e, m, r, Q, X, he, hn, h, g, gx⟩ := h
    refine ⟨F, e, m, r, _, X, he, hn, h, fun F1 H1 m1 v d s1 n1 r1 q1 => ?_, gx⟩
    obtain ⟨i, j, c, n, rfl, hb, q⟩ := q1
    obtain ⟨v, u, w, rfl, rv, ru, rw'⟩ := repL3 r1
    cases rv; cases ru; cases rw'
    exact ⟨i, j, c, n, rfl, hb, g F1 H1 m1 _ _ _ s1 n1 it_rngC q⟩
end
/-! ### isinstance(e, C) in a suite, e with a field -/
def aIsX (K : PySem.W.Frag) (a : Addr) (dd : Option Addr) (C : Addr) (cv : Value) (t : AE) : AE := fun e m Q X => ExcC K C ∧ t e m (fun d m1 => ∃ b f v, dd = some b ∧ d = .exc a C b f v ∧ ∃ k, PySem.W.kitOne K (.ref C) cv = some k ∧ Q (.bl k) m1) X
def rIsX (K : PySem.W.Frag) (C a : Addr) (dd : Option Addr) : List V → Hp → VK → Prop := fun xs H Q => ∃ (c : V) (cv : Value) (k : Bool) (b : Addr) (fs : List (Str × V)), xs = [.ref a, c] ∧ dd = some b ∧ H b = some (.xd fs) ∧ (∀ u, RelV c u → u = cv) ∧ PySem.W.kitOne K (.ref C) cv = some k ∧ Q (.bl k) H
theorem call_isX {X : Cx} {a D : Addr} {oe : Obj} {dd : Option Addr} {pn : List (Addr × Obj)} (C : ExcC X.K D) (hz : Zc (.ref D) dd oe) (hf : ∃ vs, oe.data = .fields vs) : CallR (X.suite a ((a, oe) :: pn)) (.builtin "isinstance") (rIsX X.K D a dd) := by
  intro pins s σ H xs us Q I r h
  obtain ⟨c, cv, k, b, fs, rfl, hdd, hb, hcv, e, q⟩ := h
  cases r with
  | cons rx rr =>
    cases rr with
    | cons rt rr =>
      cases rr
      cases rx
      have ec := hcv _ rt
      subst ec
      obtain ⟨hget, _⟩ := I.pin (a, oe) (List.mem_append.mpr (.inl List.mem_cons_self))
      obtain ⟨vs, hv⟩ := hf
      have hx : ObjOk X.prog X.w H s.heap b (.xd fs) := I.hok b _ hb
      obtain ⟨mA, hns, hr⟩ := hx
      obtain ⟨od, ho, hl⟩ := lookIn_ns hns
      have J : PySem.W.InstAt s.heap a oe D (some od) := ⟨hget, hz.1, by unfold PySem.W.notCls; rw [hv] <;> rfl, by rw [hz.2, hdd]; exact ho⟩
      have hcl : (PySem.W.clsIn X.K D).isSome = true := by
        obtain ⟨cd, hc, _⟩ := PySem.W.any_some C.hd
        rw [hc]; rfl
      exact PySem.W.kia_one (PySem.W.kitx_exc hcl C.hg C.hk C.hs C.ha C.hn C.ht C.hm) I.kIn J e (fun z => nomatch z) fun tk => ⟨.bl k, H, I.kept (t' := tk) fun _ _ z => z, rfl, q⟩
theorem q_isX {Y : Cx} {o : Expr} {t : AE} {ad C : Addr} {oe : Obj} {dd : Option Addr} {pn : List (Addr × Obj)} {x : Str} {p p2 pos : Pos} {cv : V} {cu : Value} (hm : Y.mg "isinstance" = none) (hz : Zc (.ref C) dd oe) (hv : ∃ vs, oe.data = .fields vs)
    (hcl : PE (Y.suite ad ((ad, oe) :: pn)) (.Name x p2) (tC cv)) (hcv : ∀ u, RelV cv u → u = cu) (ho : QE (Y.suite ad ((ad, oe) :: pn)) o t) (hg : Gl (Y.suite ad ((ad, oe) :: pn)) "isinstance" := by rfl)
    (hs1 : starEach (o :: [.Name x p2]) (Y.suite ad ((ad, oe) :: pn)).env = (false, eval o (Y.suite ad ((ad, oe) :: pn)).env) :: starEach [.Name x p2] (Y.suite ad ((ad, oe) :: pn)).env := by rfl)
    (hs2 : starEach (.Name x p2 :: []) (Y.suite ad ((ad, oe) :: pn)).env = (false, eval (.Name x p2) (Y.suite ad ((ad, oe) :: pn)).env) :: starEach [] (Y.suite ad ((ad, oe) :: pn)).env := by rfl)
    (hpl : (backTo pos (starEach [.Name x p2] (Y.suite ad ((ad, oe) :: pn)).env)).any (·.1) = false := by rfl) :
    QE (Y.suite ad ((ad, oe) :: pn)) (.Call (.Name "isinstance" p) [o, .Name x p2] [] pos) (aIsX Y.K ad dd C cu t) := fun W tk => ⟨fun pins s σ H Qc I h => by
  obtain ⟨F, e, m, r, Q, X, he, hn, ⟨hC, h⟩, g, gx⟩ := h
  refine (pe_callB (X := Y.suite ad ((ad, oe) :: pn)) (call_isX hC hz hv) hg hm (by decide +kernel) (pa_cons (ho W tk) (pa_cons hcl pa_nil hs2) hs1) (by decide) (by decide) hs1 hpl).run pins s σ H Qc I ?_
  refine ⟨F, e, m, r, _, X, he, hn, h, fun F1 H1 m1 v d s1 n1 r1 q1 => ?_, gx⟩
  obtain ⟨b, f, w, rfl, rfl, k, hk, q⟩ := q1
  cases r1 with
  | exc e1 r2 =>
    rename_i v0
    refine ⟨cv, cu, k, b, [(f, v0)], rfl, rfl, ?_, hcv, hk, g F1 H1 m1 _ _ s1 n1 (.bl k) q⟩
    rcases n1.cov _ _ e1 with z | ⟨_, _, z, _⟩
    · exact z
    · cases z⟩
section
variable {e : De} {m : Mu} {ta tb tc : AE} {tr : AA} {d x y z : D} {xs : List D}
theorem ev_isX {K : PySem.W.Frag} {a b Cl : Addr} {f : Str} {v : D} {cv : Value} {k : Bool} (h : Ev ta e m (.exc a Cl b f v)) (hC : ExcC K Cl) (hk : PySem.W.kitOne K (.ref Cl) cv = some k) : Ev (aIsX K a (some b) Cl cv ta) e m (.bl k) := fun Q X q => ⟨hC, h _ _ ⟨b, f, v, rfl, rfl, k, hk, q⟩⟩
theorem o_sum {ns : List Int} : OpA bSum [.lst (ns.map D.int)] m (.int ns.sum) := fun _ q => ⟨_, ns, rfl, rfl, q⟩
theorem o_dict {kvs : List (Key × D)} : OpA (bDict false) [.dic kvs] m (.dic kvs) := fun _ q => ⟨_, kvs, rfl, rfl, q⟩
/-- o[k] = v, o a dict -/
theorem k_stD {N B C : De → Mu → Prop} {R : QD} {E : Ex → De → Mu → Prop} {to ti : AE} {p : Addr} {kvs : List (Key × D)} {k : Key} (hv : Ev ta e m d) (ho : Ev to e m (.cell p)) (hi : Ev ti e m y) (hm : m p = some (.dic false kvs)) (hk : keyD y = some k) (hl : kvs.length < sizeLine) (kk : N e (mset m p (.dic false (put kvs k d)))) : aAsg ta (agSub to ti) ⟨N, R, B, C, E⟩ e m :=
  hv _ _ (ho _ _ (hi _ _ ⟨p, rfl, .inl ⟨kvs, k, hm, hk, hl, kk⟩⟩))
theorem k_setD0 {N B C : De → Mu → Prop} {R : QD} {E : Ex → De → Mu → Prop} {i : Nat} (k : ∀ p, m p = none → N (e.set i (some (.cell p))) (mset m p (.dic false []))) : aSet i aDict0 ⟨N, R, B, C, E⟩ e m := k
theorem ei_rng3 {tr : AA} {i j c : Int} {n : Nat} (h : EvA tr e m [.int i, .int j, .int c]) (hr : RgC i j c n) : ∀ Q X, Q (rngC i c n) (fun _ => True) m → aiRng3 tr e m Q X := fun Q X q => h _ _ ⟨i, j, c, n, rfl, hr, q⟩
end
/-! ### == of two things that are the same data -/
inductive SamD : Nat → D → Prop
  | flat {n : Nat} {d : D} : flatD d = true → SamD n d
  | lst {n : Nat} {xs : List D} : (∀ x, x ∈ xs → SamD n x) → SamD (n + 1) (.lst xs)
  | tup {n : Nat} {xs : List D} : (∀ x, x ∈ xs → SamD n x) → SamD (n + 1) (.tup xs)
  | dic {n : Nat} {kvs : List (Key × D)} : (kvs.map (·.1)).Nodup → (∀ p, p ∈ kvs → SamD n p.2) → SamD (n + 1) (.dic kvs)
def Tw (K : PySem.W.Frag) (F : Hp) (n : Nat) (x y : V) : Prop := ∃ d, SamD n d ∧ Rep K F x d ∧ Rep K F y d
theorem tw_list {K : PySem.W.Frag} {F : Hp} {n : Nat} : ∀ {xs ys : List V} {ds : List D}, RepL K F xs ds → RepL K F ys ds → (∀ d, d ∈ ds → SamD n d) → Paired (Tw K F n) xs ys
  | _, _, _, .nil, .nil, _ => .nil
  | _, _, _, .cons h1 r1, .cons h2 r2, h => .cons ⟨_, h _ (List.mem_cons_self ..), h1, h2⟩ (tw_list r1 r2 fun d hd => h d (List.mem_cons_of_mem _ hd))
theorem repK_len {K : PySem.W.Frag} {F : Hp} : ∀ {xs : List (Key × V)} {es : List (Key × D)}, RepK K F xs es → xs.length = es.length
  | _, _, .nil => rfl
  | _, _, .cons _ r => congrArg Nat.succ (repK_len r)
theorem repK_keys {K : PySem.W.Frag} {F : Hp} : ∀ {xs : List (Key × V)} {es : List (Key × D)}, RepK K F xs es → xs.map (·.1) = es.map (·.1)
  | _, _, .nil => rfl
  | _, _, .cons _ r => by rw [List.map_cons, List.map_cons, repK_keys r]
theorem tw_dict {K : PySem.W.Frag} {F : Hp} {n : Nat} : ∀ {xs ys : List (Key × V)} {es : List (Key × D)}, RepK K F xs es → RepK K F ys es → (es.map (·.1)).Nodup → (∀ p, p ∈ es → SamD n p.2) → ∀ p, p ∈ xs → ∃ u, valV ys p.1 = some u ∧ Tw K F n p.2 u
  | _, _, _, .nil, .nil, _, _ => fun p hp => by cases hp
  | (k, v) :: xs, (_, u) :: ys, (_, d) :: es, .cons h1 r1, .cons h2 r2, nd, h => fun p hp => by
    rw [List.map_cons, List.nodup_cons] at nd
    rcases List.mem_cons.mp hp with rfl | hp
    · refine ⟨u, ?_, d, h _ (List.mem_cons_self ..), h1, h2⟩
      unfold valV
      rw [List.find?_cons_of_pos (by simp)]; rfl
    · obtain ⟨w, e, t⟩ := tw_dict r1 r2 nd.2 (fun p hp => h p (List.mem_cons_of_mem _ hp)) p hp
      refine ⟨w, ?_, t⟩
      have ne : ¬ k = p.1 := fun z => nd.1 (by
        have : p.1 ∈ xs.map (·.1) := List.mem_map.mpr ⟨p, hp, rfl⟩
        rw [repK_keys r1] at this
        rw [z]; exact this)
      unfold valV at e ⊢
      rw [List.find?_cons_of_neg (by simpa using ne)]
      exact e
section
variable {X : Cx} {pins : List (Addr × Obj)} {σ : L2.St} {F H : Hp} {s : Shared} {m : Mu} {r : Hp}
theorem same_step (I : Inv X pins σ H s) (hn : Sn X.K F H m r) {n : Nat} {A : Around} (hu : A.units < cLine) (ih : ∀ x y v u, Tw X.K F n x y → RelV x v → RelV y u → SeqAt.EqP X.prog X.w A.in1 s v u true) {d : D} (hs : SamD (n + 1) d) (nf : flatD d = false) {x y : V} {v u : Value} (h1 : Rep X.K F x d) (h2 : Rep X.K F y d) (rx : RelV x v) (ry : RelV y u)
    (E Q : Value → Shared → Prop) (q : Q (.bool true) s) : wpAny (model X.prog X.w) A (richCompare .Eq v u) Q E s := by
  cases hs with
  | flat f => rw [f] at nf; cases nf
  | lst hx =>
    cases h1 with
    | lst e1 r1 =>
      cases h2 with
      | lst e2 r2 =>
        rename_i a xs b ys
        cases (show v = Value.ref a from rx)
        cases (show u = Value.ref b from ry)
        have hp := tw_list r1 r2 hx
        obtain ⟨us, k1, p1, _⟩ := I.list (.inl (.inl (hn.lst e1)))
        obtain ⟨ws, k2, p2, _⟩ := I.list (.inl (.inl (hn.lst e2)))
        have hsz : us.toArray.size = ws.toArray.size := by
          rw [List.size_toArray, List.size_toArray, ← k1.length, ← k2.length]
          exact Paired.length hp
        refine SeqAt.rcP_lists (e := fun _ => true) p1.isList p2.isList hsz hu (fun j h1 h2 => ?_) E Q ?_
        · have k := items_run ih hp k1 k2 j (by simpa using h1) (by simpa using h2)
          simpa using k
        · rw [show ((List.range us.toArray.size).all fun _ => true) = true from List.all_eq_true.mpr fun _ _ => rfl]
          exact q
  | tup hx =>
    cases h1 with
    | tup e1 r1 =>
      cases h2 with
      | tup e2 r2 =>
        rename_i a xs b ys
        cases (show v = Value.ref a from rx)
        cases (show u = Value.ref b from ry)
        have hp := tw_list r1 r2 hx
        obtain ⟨us, k1, p1, _⟩ := I.tuple (hn.sqT e1)
        obtain ⟨ws, k2, p2, _⟩ := I.tuple (hn.sqT e2)
        have hsz : us.toArray.size = ws.toArray.size := by
          rw [List.size_toArray, List.size_toArray, ← k1.length, ← k2.length]
          exact Paired.length hp
        refine SeqAt.rcIn_tuples (e := fun _ => true) p1 p2 hu (fun j h1 h2 => ?_) ?_
        · have k := items_run ih hp k1 k2 j (by simpa using h1) (by simpa using h2)
          have k : SeqAt.EqP X.prog X.w A.in1 s us.toArray[j] ws.toArray[j] true := by simpa using k
          exact k
        · rw [show ((List.range (min us.toArray.size ws.toArray.size)).all fun _ => true) = true from List.all_eq_true.mpr fun _ _ => rfl, hsz, Bool.true_and, beq_self_eq_true]
          exact q
  | dic nd hx =>
    cases h1 with
    | dic e1 r1 =>
      cases h2 with
      | dic e2 r2 =>
        rename_i a xs b ys
        cases (show v = Value.ref a from rx)
        cases (show u = Value.ref b from ry)
        obtain ⟨_, ya, va, ra, da⟩ := dk_rd I.hok (hn.rd (.inl e1))
        obtain ⟨_, yb, vb, rb, db⟩ := dk_rd I.hok (hn.rd (.inl e2))
        refine PySem.W.rcP_dicts (knd := mixKind X.prog X.w) (r := true) ya yb da db hu (fun _ => hits_run ih rb ra (tw_dict r1 r2 nd hx)) E Q ?_
        have e : va.length = vb.length := by rw [← ra.length, ← rb.length, repK_len r1, repK_len r2]
        rw [show (va.length == vb.length && true) = true from by rw [e]; simp]
        exact q
theorem same_run (I : Inv X pins σ H s) (hn : Sn X.K F H m r) : ∀ (n : Nat) (A : Around), A.units + n < cLine → ∀ (x y : V) (v u : Value), Tw X.K F n x y → RelV x v → RelV y u → SeqAt.EqP X.prog X.w A s v u true := by
  intro n
  induction n with
  | zero =>
    rintro A hu x y v u ⟨d, hs, h1, h2⟩ rx ry
    cases hs with
    | flat f =>
      have e : x = y ∧ flatB x = true := by
        cases d <;> first | (cases f; done) | (cases h1; cases h2; exact ⟨rfl, rfl⟩)
      obtain ⟨rfl, f⟩ := e
      exact (eqAt_same rx ry f).eqP
  | succ n ih =>
    rintro A hu x y v u ⟨d, hs, h1, h2⟩ rx ry
    cases f : flatD d with
    | true =>
      have e : x = y ∧ flatB x = true := by
        cases d <;> first | (cases f; done) | (cases h1; cases h2; exact ⟨rfl, rfl⟩)
      obtain ⟨rfl, f⟩ := e
      exact (eqAt_same rx ry f).eqP
    | false =>
      have step := same_step I hn (A := A) (by omega) (ih A.in1 (by show A.units + 1 + n < cLine; omega)) hs f h1 h2 rx ry
      obtain ⟨a, b, rfl, rfl⟩ : ∃ a b, x = .ref a ∧ y = .ref b := by
        cases hs with
        | flat z => rw [z] at f; cases f
        | lst _ => cases h1; cases h2; exact ⟨_, _, rfl, rfl⟩
        | tup _ => cases h1; cases h2; exact ⟨_, _, rfl, rfl⟩
        | dic _ _ => cases h1; cases h2; exact ⟨_, _, rfl, rfl⟩
      cases (show v = Value.ref a from rx)
      cases (show u = Value.ref b from ry)
      by_cases e : a = b
      · subst e
        exact (SeqAt.EqAt.same _).eqP
      · exact SeqAt.eqP_refs e step
end
/-- a == b, the same data -/
def rEqS (K : PySem.W.Frag) : R2 := fun x y H Q => (∃ (F : Hp) (m : Mu) (r : Hp) (n : Nat) (d : D), n ≤ 60 ∧ Sn K F H m r ∧ SamD (n + 1) d ∧ flatD d = false ∧ Rep K F x d ∧ Rep K F y d) ∧ Q (.bl true) H
theorem op_eqS {X : Cx} (hu : X.A.units + 64 < cLine) : OpR X (compareOp .Eq) (rEqS X.K) := by
  intro pins s σ H x y v u Q I rx ry h
  obtain ⟨⟨F, m, r, n, d, hl, hn, hs, nf, h1, h2⟩, q⟩ := h
  exact same_step I hn (A := X.A) (by omega) (same_run I hn n X.A.in1 (by show X.A.units + 1 + n < cLine; omega)) hs nf h1 h2 rx ry _ _ ⟨.bl true, H, I, rfl, q⟩
def bEqX : B2 := fun d e m Q => (d = e ∧ flatD d = false ∧ (∃ n, n ≤ 60 ∧ SamD (n + 1) d) ∧ Q (.bl true) m) ∨ bEq d e m Q
theorem c_eqX {X : Cx} (hu : X.A.units + 64 < cLine) : Cm X .Eq bEqX := cm_or ⟨_, op_eqS hu, fun F H m r v u d e Q Qc hn h1 h2 h k => by
  obtain ⟨rfl, nf, ⟨n, hl, hs⟩, q⟩ := h
  exact ⟨⟨F, m, r, n, d, hl, hn, hs, nf, h1, h2⟩, k F H m _ _ (Same.refl F) hn (.bl _) q⟩⟩ (c_eq hu)
theorem o_eqSm {d : D} {m : Mu} {n : Nat} (hl : n ≤ 60) (hs : SamD (n + 1) d) (nf : flatD d = false) : Op2 bEqX d d m (.bl true) := fun _ q => .inl ⟨rfl, nf, ⟨n, hl, hs⟩, q⟩
theorem o_eqXb {x y d : D} {m : Mu} (h : Op2 bEq x y m d) : Op2 bEqX x y m d := fun Q q => .inr (h Q q)
end Ab
namespace PySem.W
open PySem PySem.Calls PyProof.Rows PyProof.V PySem.Spec
theorem ab_enum_len : typeLookup (.type "enumerate") "__len__" = pure none := by rw [typeLookup_type, builtinLookup_eq_fast]; kernel_rfl
theorem ab_enum_hint : typeLookup (.type "enumerate") "__length_hint__" = pure none := by rw [typeLookup_type, builtinLookup_eq_fast]; kernel_rfl
structure DieG (items : Array Value) (lo : Addr) (h : Heap) (as : List Addr) : Prop where
  rise : as.Pairwise (· < ·)
  above : ∀ a ∈ as, lo < a
  pairs : ∀ (j : Nat) (a : Addr), as[j]? = some a → ∃ (hj : j < items.size) (t : Tok), h.get? a = some { cls := .type "tuple", data := .seq #[.int (j : Int) t, items[j]] }
theorem DieG.there {items : Array Value} {lo : Addr} {h : Heap} {as : List Addr} (g : DieG items lo h as) {a : Addr} (ha : a ∈ as) : a < h.objs.size := by
  obtain ⟨j, hj⟩ := List.mem_iff_getElem?.mp ha
  obtain ⟨_, _, e⟩ := g.pairs j a hj
  exact Heap.lt_size e
def DieSt (h : Heap) (e it S l : Addr) (items : Array Value) (i : Nat) : Prop :=
  (IsEnum h e it (i : Int) .none ∨ ∃ T f old oT, IsEnumHeld h e it (i : Int) old T f ∧ h.get? T = some oT ∧ T ≠ e ∧ T ≠ it ∧ T ≠ S) ∧ h.IsListIter it l i ∧ h.IsList l items
theorem DieSt.keep {h h' : Heap} {e it S l : Addr} {items : Array Value} {i : Nat} (st : DieSt h e it S l items i) (k : ∀ b o, b ≠ S → h.get? b = some o → h'.get? b = some o) (n1 : e ≠ S) (n2 : it ≠ S) (n3 : l ≠ S) : DieSt h' e it S l items i := by
  obtain ⟨h1, h2, h3⟩ := st
  refine ⟨?_, h2.at fun o x => k it o n2 x, h3.at fun o x => k l o n3 x⟩
  rcases h1 with q | ⟨T, f, old, oT, q1, q2, q3, q4, q5⟩
  · exact .inl (k e _ n1 q)
  · exact .inr ⟨T, f, old, oT, k e _ n1 q1, k T _ q5 q2, q3, q4, q5⟩
section
variable {prog : Program} {w : World} {A : Around} {E : Value → Shared → Prop} {s : Shared}
theorem die_item {e it S l : Addr} {i : Nat} {items : Array Value} {Q : Option Value → Shared → Prop} (hst : DieSt s.heap e it S l items i) (hei : e ≠ it) (hle : l ≠ e) (hli : l ≠ it) (hS : S < s.heap.objs.size) (hlt : i < items.size)
    (hQ : ∀ h', DieSt h' e it S l items (i + 1) → h'.get? s.heap.objs.size = some { cls := .type "tuple", data := .seq #[.int (i : Int) s.toks, items[i]] } → h'.objs.size = s.heap.objs.size + 1 →
      (∀ b o, b ≠ e → b ≠ it → s.heap.get? b = some o → h'.get? b = some o) → Q (some (.ref s.heap.objs.size)) { s with heap := h', toks := s.toks + 1 }) :
    wpAny (model prog w) A (pyNext (.ref e)) Q E s := by
  obtain ⟨h1, h2, h3⟩ := hst
  have hx : items[i]? = some items[i] := Array.getElem?_eq_getElem hlt
  have hit : it < s.heap.objs.size := by obtain ⟨_, x, _⟩ := h2; exact Heap.lt_size x
  rcases h1 with he | ⟨T, f, old, oT, he, hT, t1, t2, t3⟩
  · exact wpAny_pyNext_enum_item he h2 h3 hx hei fun h' a1 a2 a3 a4 a5 => hQ h' ⟨.inr ⟨_, false, _, _, a1, a3, Nat.ne_of_gt (Heap.lt_size he), Nat.ne_of_gt hit, Nat.ne_of_gt hS⟩, a2, h3.at fun o x => a5 l o hle hli x⟩ a3 a4 a5
  · exact wpAny_pyNext_enum_item_held he hT t1 t2 h2 h3 hx hei fun h' a1 a2 a3 a4 a5 => hQ h' ⟨.inr ⟨T, true, old, oT, a1, a5 T _ t1 t2 hT, t1, t2, t3⟩, a2, h3.at fun o x => a5 l o hle hli x⟩ a3 a4 a5
theorem die_done {e it S l : Addr} {i : Nat} {items : Array Value} {Q : Option Value → Shared → Prop} (hh : A.handled = none) (hst : DieSt s.heap e it S l items i) (hge : items.size ≤ i)
    (hQ : ∀ h', Heap.ExtBut it s.heap h' → Q none { s with heap := h' }) : wpAny (model prog w) A (pyNext (.ref e)) Q E s := by
  obtain ⟨h1, h2, h3⟩ := hst
  have hx : items[i]? = none := Array.getElem?_eq_none hge
  rcases h1 with he | ⟨T, f, old, oT, he, hT, t1, t2, t3⟩
  · exact wpAny_pyNext_enum_end hh he h2 h3 hx hQ
  · exact wpAny_pyNext_enum_end_held hh he h2 h3 hx hQ
end
section
variable {prog : Program} {w : World} {A : Around} {s : Shared} {R : Result → Shared → Prop} {items : Array Value} {e it l S : Addr}
theorem die_loop (hh : A.handled = none) (hei : e ≠ it) (hle : l ≠ e) (hli : l ≠ it) (heS : e ≠ S) (hiS : it ≠ S) (hlS : l ≠ S) (hiltS : it < S) (heltS : e < S) (hn : items.size ≤ sizeLine) (res : Value) {h₁ : Heap}
    (hR : ∀ h' tk acc c as, (∀ b o, b ≠ S → b ≠ e → b ≠ it → h₁.get? b = some o → h'.get? b = some o) → h'.get? S = some { cls := .type "list", dict := none, data := .seq acc c, slots := #[] } → as.length = items.size → DieG items S h' as →
      acc.toList = as.map Value.ref → R (.ok (.ret res)) { s with heap := h', toks := tk }) :
    ∀ (k i : Nat) (h : Heap) (tk c : Nat) (acc : Array Value) (as : List Addr), items.size - i = k → i ≤ items.size → DieSt h e it S l items i → (∀ b o, b ≠ S → b ≠ e → b ≠ it → h₁.get? b = some o → h.get? b = some o) →
      h.get? S = some { cls := .type "list", dict := none, data := .seq acc c, slots := #[] } → acc.toList = as.map Value.ref → as.length = i → DieG items S h as →
      codeAny (model prog w) A (.builtin "list.extend.loop" ⟨[.ref S, .ref e, res], []⟩) R { s with heap := h, toks := tk } := by
  intro k
  induction k with
  | zero =>
    intro i h tk c acc as hk hi hst hkeep hS hacc hal hG
    refine codeAny_builtin PySem.F.entry_extend_loop ?_
    rw [Around.under_plainId PySem.F.plain_extend_loop _]
    show wpAny _ A.in1 (pyNext (.ref e) >>= _) _ _ _
    refine wpAny_bind (die_done (s := { s with heap := h, toks := tk }) (A := A.in1) hh hst (by omega) fun h' he => ?_)
    refine wpAny_pure (hR h' tk acc c as (fun b o h1 h2 h3 x => he b o h3 (hkeep b o h1 h2 h3 x)) (he S _ (Ne.symm hiS) hS) (by omega) ⟨hG.rise, hG.above, fun j a hj => ?_⟩ hacc)
    obtain ⟨hj', t, e3⟩ := hG.pairs j a hj
    exact ⟨hj', t, he a _ (Nat.ne_of_gt (Nat.lt_trans hiltS (hG.above a (List.mem_of_getElem? hj)))) e3⟩
  | succ k ih =>
    intro i h tk c acc as hk hi hst hkeep hS hacc hal hG
    have hlt : i < items.size := by omega
    have hsz : acc.size = i := by rw [← Array.length_toList, hacc, List.length_map, hal]
    have hSl : S < h.objs.size := Heap.lt_size hS
    refine codeAny_builtin PySem.F.entry_extend_loop ?_
    rw [Around.under_plainId PySem.F.plain_extend_loop _]
    show wpAny _ A.in1 (pyNext (.ref e) >>= _) _ _ _
    refine wpAny_bind (die_item (s := { s with heap := h, toks := tk }) (S := S) hst hei hle hli hSl hlt fun h' hst' ht hz hkp => ?_)
    dsimp only at ht hz hkp ⊢
    have hS' := hkp S _ (Ne.symm heS) (Ne.symm hiS) hS
    have up : ∀ b o, b ≠ S → h'.get? b = some o → (h'.update S (Obj.mapSeq (·.push (Value.ref h.objs.size)))).get? b = some o := fun b o hb x => (Heap.get?_update_other _ _ (Ne.symm hb)).trans x
    show wpAny _ A.in1 (updateSeq S (·.push (Value.ref h.objs.size)) >>= _) _ _ _
    refine wpAny_bind ?_
    refine wpAny_updateSeq hS' rfl (wpAny_pure ⟨plainId_quiet PySem.F.plain_extend_loop _, ih (i + 1) _ (tk + 1) _ (acc.push (Value.ref h.objs.size)) (as ++ [h.objs.size]) (by omega) hlt (hst'.keep up heS hiS hlS)
      (fun b o h1 h2 h3 x => up b o h1 (hkp b o h2 h3 (hkeep b o h1 h2 h3 x))) (Heap.get?_update_self _ hS' rfl) (by rw [Array.toList_push, hacc, List.map_append]; rfl) (by rw [List.length_append, hal]; rfl) ⟨?_, ?_, ?_⟩⟩) (by rw [hsz]; omega) (by show (acc.push (Value.ref h.objs.size)).size ≤ sizeLine + 1; rw [Array.size_push, hsz]; omega)
    · refine List.pairwise_append.mpr ⟨hG.rise, List.pairwise_singleton _ _, fun a ha b hb => ?_⟩
      rw [List.mem_singleton.mp hb]
      exact hG.there ha
    · intro a ha
      rcases List.mem_append.mp ha with ha | ha
      · exact hG.above a ha
      · rw [List.mem_singleton.mp ha]; exact hSl
    · intro j b hj
      rcases Nat.lt_trichotomy j as.length with h1 | h1 | h1
      · rw [List.getElem?_append_left h1] at hj
        obtain ⟨hj', t, e3⟩ := hG.pairs j b hj
        have hb := hG.above b (List.mem_of_getElem? hj)
        exact ⟨hj', t, up b _ (Nat.ne_of_gt hb) (hkp b _ (Nat.ne_of_gt (Nat.lt_trans heltS hb)) (Nat.ne_of_gt (Nat.lt_trans hiltS hb)) e3)⟩
      · subst h1
        have hb : h.objs.size = b := by simpa using hj
        subst hb
        exact ⟨by omega, tk, by subst hal; exact up _ _ (Nat.ne_of_gt hSl) ht⟩
      · have hnone : (as ++ [h.objs.size])[j]? = none := List.getElem?_eq_none (by rw [List.length_append, List.length_singleton]; omega)
        rw [hnone] at hj; cases hj
theorem die_extend (hh : A.handled = none) (he : IsEnum s.heap e it 0 .none) (hit : s.heap.IsListIter it l 0) (hl : s.heap.IsList l items) (hei : e ≠ it) (hle : l ≠ e) (hli : l ≠ it) (heltS : e < S) (hiltS : it < S) (hlltS : l < S) (res : Value) (c₀ : Nat) (hS : s.heap.get? S = some { cls := .type "list", data := .seq #[] c₀ })
    (hR : ∀ h' tk acc c as, (∀ b o, b ≠ S → b ≠ e → b ≠ it → s.heap.get? b = some o → h'.get? b = some o) → h'.get? S = some { cls := .type "list", dict := none, data := .seq acc c, slots := #[] } → as.length = items.size → DieG items S h' as →
      acc.toList = as.map Value.ref → R (.ok (.ret res)) { s with heap := h', toks := tk }) (hn : items.size ≤ sizeLine) :
    wpAny (model prog w) A.in1 (Builtin.List.listExtendWith (.ref S) (.ref e) res)
      (fun fin s' => match fin with | .done f => R (.ok f) s' | .again c' => c'.quiet = true ∧ codeAny (model prog w) A c' R s') (fun e s' => R (.error e) s') s := by
  have hT : s.TypeIs (.ref e) "enumerate" := ⟨_, he, rfl⟩
  have hSe : S ≠ e := Nat.ne_of_gt heltS
  unfold Builtin.List.listExtendWith
  refine wpAny_bind (wpAny_typeOf hT ?_)
  have h1 : Builtin.List.listSameRef (.ref S) (.ref e) = false := by simp [Builtin.List.listSameRef, hSe]
  have h2 : (Value.type "enumerate" == Value.type "list") = false := by decide
  have h3 : (Value.type "enumerate" == Value.type "tuple") = false := by decide
  simp only [h1, h2, h3, Bool.or_false, Bool.false_eq_true, if_false]
  refine wpAny_bind (wpAny_pyIter_enum he ?_)
  refine wpAny_bind (wpAny_holding ?_)
  unfold Builtin.List.listLengthHint
  refine wpAny_bind (wpAny_specialOf hT ab_enum_len ?_)
  show wpAny _ A.in1 (specialOf (Value.ref e) (Str.ofString "__length_hint__") >>= _) _ _ _
  refine wpAny_bind (wpAny_specialOf hT ab_enum_hint ?_)
  refine wpAny_pure ?_
  show wpAny _ A.in1 (rule "list.extend.makes-room" >>= fun _ => Builtin.List.listTouch (.ref S) >>= fun _ =>
    again (.builtin "list.extend.loop" ⟨[.ref S, .ref e, res], []⟩)) _ _ _
  refine wpAny_bind (wpAny_rule ?_)
  refine wpAny_bind ?_
  show wpAny _ A.in1 (updateSeq S (·.push .none) >>= fun _ => updateSeq S (·.pop)) _ _ _
  refine wpAny_bind (wpAny_updateSeq hS rfl ?_)
  have hS₂ := Heap.get?_update_self (Obj.mapSeq (·.push Value.none)) hS rfl
  refine wpAny_updateSeq (hz := by seq_fits) hS₂ rfl ?_
  have hS₃ := Heap.get?_update_self (Obj.mapSeq (·.pop)) hS₂ rfl
  have oth : ∀ b o, b ≠ S → s.heap.get? b = some o → ((s.heap.update S (Obj.mapSeq (·.push Value.none))).update S (Obj.mapSeq (·.pop))).get? b = some o :=
    fun b o hb x => (Heap.get?_update_other _ _ (Ne.symm hb)).trans ((Heap.get?_update_other _ _ (Ne.symm hb)).trans x)
  refine wpAny_pure ⟨plainId_quiet F.plain_extend_loop _, die_loop (s := s) (h₁ := s.heap) hh hei hle hli (Ne.symm hSe) (Nat.ne_of_lt hiltS) (Nat.ne_of_lt hlltS) hiltS heltS hn res hR items.size 0 _ s.toks _ #[] [] (Nat.sub_zero _) (Nat.zero_le _) ?_ (fun b o h1 _ _ x => oth b o h1 x) hS₃ rfl rfl ⟨List.Pairwise.nil, (fun _ ha => nomatch ha), (fun j a hj => by simp at hj)⟩⟩
  exact DieSt.keep (h := s.heap) ⟨.inl he, hit, hl⟩ oth (Ne.symm hSe) (Nat.ne_of_lt hiltS) (Nat.ne_of_lt hlltS)
theorem die_init (hh : A.handled = none) (he : IsEnum s.heap e it 0 .none) (hit : s.heap.IsListIter it l 0) (hl : s.heap.IsList l items) (hei : e ≠ it) (hle : l ≠ e) (hli : l ≠ it) (heltS : e < S) (hiltS : it < S) (hlltS : l < S) (hS : s.heap.get? S = some { cls := .type "list", data := .seq #[] })
    (hR : ∀ h' tk acc c as, (∀ b o, b ≠ S → b ≠ e → b ≠ it → s.heap.get? b = some o → h'.get? b = some o) → h'.get? S = some { cls := .type "list", dict := none, data := .seq acc c, slots := #[] } → as.length = items.size → DieG items S h' as →
      acc.toList = as.map Value.ref → R (.ok (.ret .none)) { s with heap := h', toks := tk }) (hn : items.size ≤ sizeLine) :
    wpAny (model prog w) A.in1 (Builtin.«list.__init__» ⟨[.ref S, .ref e], []⟩)
      (fun fin s' => match fin with | .done f => R (.ok f) s' | .again c' => c'.quiet = true ∧ codeAny (model prog w) A c' R s') (fun e s' => R (.error e) s') s := by
  show wpAny _ _ (do let old ← Builtin.List.listItems (.ref S); Builtin.List.listUpdate (.ref S) (fun _ => #[]); letGo old.toList.reverse; Builtin.List.listExtendWith (.ref S) (.ref e) .none) _ _ s
  refine wpAny_bind ?_
  unfold Builtin.List.listItems
  refine wpAny_bind (wpAny_seqItems hS rfl (wpAny_pure ?_))
  show wpAny _ _ (updateSeq S (fun _ => #[]) >>= fun _ => letGo (#[] : Array Value).toList.reverse >>= fun _ => Builtin.List.listExtendWith (.ref S) (.ref e) .none) _ _ s
  refine wpAny_bind (wpAny_updateSeq hS rfl ?_)
  have hS₂ := Heap.get?_update_self (Obj.mapSeq (fun _ => (#[] : Array Value))) hS rfl
  have oth : ∀ b o, b ≠ S → s.heap.get? b = some o → (s.heap.update S (Obj.mapSeq (fun _ => (#[] : Array Value)))).get? b = some o :=
    fun b o hb x => (Heap.get?_update_other _ _ (Ne.symm hb)).trans x
  refine wpAny_bind (wpAny_letGo ?_)
  refine die_extend hh (oth e _ (Nat.ne_of_lt heltS) he) (hit.at fun o x => oth it o (Nat.ne_of_lt hiltS) x) (hl.at fun o x => oth l o (Nat.ne_of_lt hlltS) x) hei hle hli heltS hiltS hlltS .none _ hS₂ (fun h' tk acc c as hk hS' hl' hG hacc => ?_) hn
  exact hR h' tk acc c as (fun b o h1 h2 h3 x => hk b o h1 h2 h3 (oth b o h1 x)) hS' hl' hG hacc
end
theorem die_call {prog : Program} {w : World} {A : Around} {E : Value → Shared → Prop} {s : Shared} {items : Array Value} {e it l : Addr} {Q : Value → Shared → Prop} (hh : A.handled = none) (he : IsEnum s.heap e it 0 .none) (hit : s.heap.IsListIter it l 0) (hl : s.heap.IsList l items) (hei : e ≠ it) (hle : l ≠ e) (hli : l ≠ it) (hn : items.size ≤ sizeLine)
    (hQ : ∀ h' tk acc c as, (∀ b o, b ≠ e → b ≠ it → s.heap.get? b = some o → h'.get? b = some o) → h'.get? s.heap.objs.size = some { cls := .type "list", dict := none, data := .seq acc c, slots := #[] } → as.length = items.size → DieG items s.heap.objs.size h' as →
      acc.toList = as.map Value.ref → Q (.ref s.heap.objs.size) { s with heap := h', toks := tk }) :
    wpAny (model prog w) A (call (.type "list") [.ref e]) Q E s := by
  refine callType_codes (Q₁ := fun obj s₁ => obj = .ref s.heap.objs.size ∧ s₁ = { s with heap := s.heap.push { cls := .type "list", data := .seq #[] } }) PySem.F.called_list (PySem.F.typeCall_list_1 _) PySem.F.entry_list_init
    (code_list_new _ ⟨rfl, rfl⟩) fun obj s₁ h₁ => ?_
  obtain ⟨rfl, rfl⟩ := h₁
  have hS : (s.heap.push { cls := .type "list", data := .seq #[] }).get? s.heap.objs.size = some { cls := .type "list", data := .seq #[] } := Heap.get?_push_size _ rfl
  have le : e < s.heap.objs.size := Heap.lt_size he
  have li : it < s.heap.objs.size := by obtain ⟨_, x, _⟩ := hit; exact Heap.lt_size x
  have ll : l < s.heap.objs.size := by obtain ⟨_, x, _⟩ := hl; exact Heap.lt_size x
  refine ⟨⟨_, hS, rfl⟩, PySem.F.args_list_init_2 _ _, die_init (A := A.in1) hh (Heap.get?_push_of_some _ he) (hit.at fun o x => Heap.get?_push_of_some _ x) (hl.at fun o x => Heap.get?_push_of_some _ x) hei hle hli le li ll hS (fun h' tk acc c as hk hS' hl' hG hacc => ?_) hn⟩
  exact ⟨rfl, hQ h' tk acc c as (fun b o h2 h3 x => hk b o (Nat.ne_of_lt (Heap.lt_size x)) h2 h3 (Heap.get?_push_of_some _ x)) hS' hl' hG hacc⟩
end PySem.W
namespace Ab
open PySem PySem.Spec PyProof.Rows L2
def enumK : Nat → List V → List (Key × V)
  | _, [] => []
  | i, x :: xs => (.inl (i : Int), x) :: enumK (i + 1) xs
theorem enumK_len : ∀ (xs : List V) (i : Nat), (enumK i xs).length = xs.length
  | [], _ => rfl
  | _ :: xs, i => congrArg Nat.succ (enumK_len xs (i + 1))
theorem enumK_get : ∀ (xs : List V) (i j : Nat) (x : V), xs[j]? = some x → (enumK i xs)[j]? = some (.inl ((i + j : Nat) : Int), x)
  | [], _, _, _, h => by simp at h
  | x :: xs, i, 0, d, h => by simp at h; subst h; rfl
  | x :: xs, i, j + 1, d, h => by
    have := enumK_get xs (i + 1) j d (by simpa using h)
    rw [show i + (j + 1) = i + 1 + j by omega]
    exact this
theorem putT_upd {p : Addr} {o : HO} : ∀ (ts : List Addr) (kvs : List (Key × V)) (H : Hp), p ∉ ts → LiI.putT (upd H p o) ts kvs = upd (LiI.putT H ts kvs) p o
  | [], _, _, _ => rfl
  | _ :: _, [], _, _ => rfl
  | t :: ts, q :: kvs, H, h => by
    show LiI.putT (upd (upd H p o) t (.tup [kV q.1, q.2])) ts kvs = upd (LiI.putT (upd H t (.tup [kV q.1, q.2])) ts kvs) p o
    rw [← putT_upd ts kvs _ (fun z => h (List.mem_cons_of_mem _ z))]
    congr 1
    have ne : p ≠ t := fun z => h (by rw [z]; exact List.mem_cons_self)
    funext b
    by_cases h1 : b = p
    · subst h1; rw [upd_ne ne, upd_same, upd_same]
    · by_cases h2 : b = t
      · subst h2; rw [upd_same, upd_ne h1, upd_same]
      · rw [upd_ne h2, upd_ne h1, upd_ne h1, upd_ne h2]
theorem sn_enum {K : PySem.W.Frag} {m : Mu} {r : Hp} : ∀ (ts : List Addr) (vs : List V) (ds : List D) (i : Nat) (H F : Hp), ts.length = vs.length → RepL K F vs ds → Sn K F H m r → (∀ t, t ∈ ts → H t = none) → ts.Nodup →
    ∃ F', Same F F' ∧ Sn K F' (LiI.putT H ts (enumK i vs)) m r ∧ RepL K F' (ts.map V.ref) (nums i ds)
  | [], [], _, _, _, F, _, .nil, hn, _, _ => ⟨F, Same.refl F, hn, .nil⟩
  | [], _ :: _, _, _, _, _, h, _, _, _, _ => by cases h
  | _ :: _, [], _, _, _, _, h, _, _, _, _ => by cases h
  | t :: ts, v :: vs, d :: ds, i, H, F, h, .cons hv hr, hn, hf, nd => by
    have nd' := List.nodup_cons.mp nd
    have ht := hf t (List.mem_cons_self ..)
    have sm := hn.same ht (.tup [V.int (i : Int), v])
    obtain ⟨F', s2, n2, r2⟩ := sn_enum ts vs ds (i + 1) _ _ (Nat.succ.inj h) (hr.mono sm) (hn.new ht (.tup [V.int (i : Int), v])) (fun t' ht' => by
      have : t' ≠ t := fun z => nd'.1 (z ▸ ht')
      rw [upd_ne this]; exact hf t' (List.mem_cons_of_mem _ ht')) nd'.2
    exact ⟨F', sm.trans s2, n2, .cons ((Rep.tup (.inl (.inl upd_same)) (.cons (.int _) (.cons (hv.mono sm) .nil))).mono s2) r2⟩
section
variable {X : Cx} {pins : List (Addr × Obj)} {σ : L2.St} {H : Hp} {s : Shared}
theorem enum_laid {h' : Heap} {tk S : Nat} {xs : List V} {its : List Value} {acc : Array Value} {c : Nat} {as : List Addr} (I : Inv X pins σ H s) (hz : xs.length ≤ sizeLine) (rv : Vals xs its) (hSz : s.heap.objs.size ≤ S)
    (hk : ∀ b o, s.heap.get? b = some o → h'.get? b = some o) (hS : h'.get? S = some { cls := .type "list", dict := none, data := .seq acc c, slots := #[] }) (hl : as.length = its.length) (hG : PySem.W.DieG its.toArray S h' as) (hacc : acc.toList = as.map Value.ref) :
    H S = none ∧ (∀ t ∈ as, H t = none) ∧ as.Nodup ∧ S ∉ as ∧ Inv X pins σ (upd (LiI.putT H as (enumK 0 xs)) S (.lst (as.map V.ref))) { s with heap := h', toks := tk } := by
  have lk : xs.length = its.length := rv.length
  have hSn : S ∉ as := fun z => Nat.lt_irrefl _ (hG.above _ z)
  have nd : as.Nodup := List.Pairwise.imp (fun {a b} (h : a < b) => Nat.ne_of_lt h) hG.rise
  have new : ∀ t ∈ as, H t = none := fun t ht => I.hok.fresh (Nat.le_trans hSz (Nat.le_of_lt (hG.above t ht)))
  have newS : H S = none := I.hok.fresh hSz
  rw [← putT_upd as (enumK 0 xs) H hSn]
  have atP := LiI.putT_at as (enumK 0 xs) (upd H S (.lst (as.map V.ref))) (by rw [enumK_len]; omega) nd
  have off : ∀ b, b ∉ as → b ≠ S → LiI.putT (upd H S (.lst (as.map V.ref))) as (enumK 0 xs) b = H b := fun b h1 h2 => by rw [LiI.putT_off as _ _ h1, upd_ne h2]
  have low : ∀ b o, s.heap.get? b = some o → b ∉ as ∧ b ≠ S := fun b o e => ⟨fun z => absurd (Heap.lt_size e) (Nat.not_lt.mpr (Nat.le_trans hSz (Nat.le_of_lt (hG.above b z)))), Nat.ne_of_lt (Nat.lt_of_lt_of_le (Heap.lt_size e) hSz)⟩
  have kp : ∀ b u, H b = some u → (LiI.putT (upd H S (.lst (as.map V.ref))) as (enumK 0 xs)) b = some u := fun b u e => by
    rw [off b (fun z => by rw [new b z] at e; cases e) (fun z => by rw [z, newS] at e; cases e)]
    exact e
  have eS : LiI.putT (upd H S (.lst (as.map V.ref))) as (enumK 0 xs) S = some (.lst (as.map V.ref)) := by rw [LiI.putT_off as _ _ hSn, upd_same]
  refine ⟨newS, new, nd, hSn, ?_⟩
  refine I.call' (ch := []) rfl ⟨fun b o q _ _ _ => hk b o q, fun b o q _ _ _ => ⟨o.slots, hk b o q⟩, fun b o q n _ => ?_, fun b o q _ => ⟨o, hk b o q⟩, fun b xs q => kp b _ q, fun b o u q => kp b _ q, fun b ps q => ⟨#[], by rw [kp b _ q]; simp⟩⟩ (fun b u q => ?_) I.bare fun b z => by simp at z
  · obtain ⟨z1, z2⟩ := low b o q
    rw [off b z1 z2]
    exact n
  · by_cases hb : b ∈ as
    · obtain ⟨j, pk, e1, e2, e3⟩ := LiI.paired_ix atP hb
      rw [e3] at q
      cases q
      obtain ⟨hj, t, f3⟩ := hG.pairs j b e1
      have hj' : j < its.length := by simpa using hj
      have hx : xs[j]? = some (xs[j]'(by omega)) := List.getElem?_eq_getElem (by omega)
      have e4 := enumK_get xs 0 j _ hx
      rw [Nat.zero_add] at e4
      rw [e4] at e2
      cases e2
      have rx : RelV (xs[j]'(by omega)) (its[j]) := by
        obtain ⟨y, g1, g2⟩ := LiI.paired_get rv hx
        rw [List.getElem?_eq_getElem hj'] at g1
        cases g1
        exact g2
      exact ⟨by show 2 ≤ sizeLine; decide, [.int (j : Int) t, its[j]], .cons ⟨t, rfl⟩ (.cons rx .nil), ⟨_, f3, rfl, _, rfl⟩⟩
    · by_cases hb2 : b = S
      · rw [hb2] at q ⊢
        rw [eS] at q
        cases q
        refine ⟨by rw [List.length_map]; omega, acc.toList, c, by rw [hacc]; exact LiI.vals_refs as, ?_⟩
        rw [Array.toArray_toList]
        exact hS
      · rw [off b hb hb2] at q
        exact (I.hok b u q).stay (fun d v _ y => hk d v y) (fun d y => kp d _ y) fun d xs y => kp d _ y
end
def rEnumL (K : PySem.W.Frag) : List V → Hp → VK → Prop := fun vs H Q => ∃ (a : Addr) (xs : List V), vs = [.ref a] ∧ SqL K H a xs ∧ ∀ (p : Addr) (ts : List Addr), H p = none → (∀ t, t ∈ ts → H t = none) → ts.Nodup → p ∉ ts → ts.length = xs.length → Q (.ref p) (upd (LiI.putT H ts (enumK 0 xs)) p (.lst (ts.map V.ref)))
def tListEnum (K : PySem.W.Frag) (ta : TA) : TE := fun σ H Q => ta σ H fun vs H1 => rEnumL K vs H1 Q
theorem pe_listEnum {X : Cx} {e : Expr} {ta : TA} {p p2 pos pos2 : Pos} (hc : X.calm = true) (ha : PA X [e] ta) (hg : Gl X "list") (hm : X.mg "list" = none) (hv : bootBuiltins "list" = some (.type "list")) (hgE : Gl X "enumerate") (hmE : X.mg "enumerate" = none)
    (hs : starEach [.Call (.Name "enumerate" p2) [e] [] pos2] X.env = (false, eval (.Call (.Name "enumerate" p2) [e] [] pos2) X.env) :: starEach [] X.env := by rfl) (hs2 : starEach [e] X.env = [(false, eval e X.env)] := by rfl) :
    PE X (.Call (.Name "list" p) [.Call (.Name "enumerate" p2) [e] [] pos2] [] pos) (tListEnum X.K ta) := by
  refine ⟨fun pins s σ H Q I hq => ?_⟩
  refine wpAny_Call_Name_kw (ld_blt I hg hm hv ?_)
  refine PyProof.Rows.callWith_type1 ?_ hs rfl
  rw [hs]
  show wpAny _ _ (spliced ((false, eval (.Call (.Name "enumerate" p2) [e] [] pos2) X.env) :: backTo pos (starEach [] X.env))) _ _ s
  refine Calls.spliced_cons ?_
  refine Call_ (ld_blt I hgE hmE boot_enumerate (PyProof.Rows.callWith_type1 (thn (ha.run pos2 pins s σ H _ I hq) fun us s1 ⟨vs, H1, I1, r1, q1⟩ => ?_) hs2 rfl))
  obtain ⟨a, xs, ex, hsq, q⟩ := q1
  subst ex
  cases r1 with
  | cons r rr =>
    cases rr
    cases r
    obtain ⟨its, rv, p', hz⟩ := I1.list hsq
    refine call_enumerate_list p'.isList fun h2 he hit hsz hk => ?_
    refine Calls.spliced_nil ?_
    have la : a < s1.heap.objs.size := by obtain ⟨_, x, _⟩ := p'.isList; exact Heap.lt_size x
    have lk : xs.length = its.length := rv.length
    refine PySem.W.die_call (I1.ok.hd hc) he hit (p'.isList.at fun o x => hk a o x) (Nat.succ_ne_self _) (Nat.ne_of_lt (Nat.lt_succ_of_lt la)) (Nat.ne_of_lt la) (by rw [List.size_toArray]; omega) fun h' tk acc c as hk2 hS hl hG hacc => ?_
    dsimp only at hS hl hG hk2 ⊢
    obtain ⟨k1, k2, k3, k4, J⟩ := enum_laid (tk := tk) (S := h2.objs.size) I1 hz rv (by rw [hsz]; omega) (fun b o x => hk2 b o (Nat.ne_of_lt (Nat.lt_succ_of_lt (Heap.lt_size x))) (Nat.ne_of_lt (Heap.lt_size x)) (hk b o x)) hS (by rw [hl, List.size_toArray]) hG hacc
    exact ⟨.ref _, _, J, rfl, q _ as k1 k2 k3 k4 (by rw [hl, List.size_toArray, lk])⟩
/-- list(enumerate(xs)) -/
def aLEnum (mt : Bool) (t : AA) : AE := fun e m Q X => t e m (fun ds m1 => ∃ d xs, ds = [d] ∧ asLL m1 d = some xs ∧ newL mt (nums 0 xs) m1 Q) X
theorem putT_none {p : Addr} {ts : List Addr} {kvs : List (Key × V)} {H : Hp} (h : H p = none) (hn : p ∉ ts) : LiI.putT H ts kvs p = none := by rw [LiI.putT_off ts kvs H hn]; exact h
theorem q_lenum {X : Cx} {a : Expr} {tr : AA} {p p2 pos pos2 : Pos} (mt : Bool) (hc : X.calm = true) (hm : X.mg "list" = none) (hmE : X.mg "enumerate" = none) (ha : QA X [a] tr) (hg : Gl X "list" := by rfl) (hgE : Gl X "enumerate" := by rfl)
    (hs : starEach [.Call (.Name "enumerate" p2) [a] [] pos2] X.env = (false, eval (.Call (.Name "enumerate" p2) [a] [] pos2) X.env) :: starEach [] X.env := by rfl) (hs2 : starEach [a] X.env = [(false, eval a X.env)] := by rfl) :
    QE X (.Call (.Name "list" p) [.Call (.Name "enumerate" p2) [a] [] pos2] [] pos) (aLEnum mt tr) := fun W tk =>
  (pe_listEnum hc (ha W tk) hg hm (by decide +kernel) hgE hmE hs hs2).imp fun s H Qc h => by
    obtain ⟨F, e, m, r, Q, X, he, hn, h, g, gx⟩ := h
    refine ⟨F, e, m, r, _, X, he, hn, h, fun F1 H1 m1 v d s1 n1 r1 q1 => ?_, gx⟩
    obtain ⟨d, xs, rfl, hx, q⟩ := q1
    obtain ⟨v, rfl, rv⟩ := repL1 r1
    obtain ⟨p, us, rfl, e2, r2⟩ := asLL_ok n1 rv hx
    refine ⟨p, us, rfl, e2, fun p' ts hp hts nd hpn hl => ?_⟩
    obtain ⟨F', s2, n2, r3⟩ := sn_enum ts us xs 0 H1 F1 hl r2 n1 hts nd
    exact newL_ok n2 r3 q (g.mono (s1.trans s2)) p' (putT_none hp hpn)
end Ab
namespace Ab
open PySem PySem.Spec PyProof.Rows L2
section
variable {X : Cx} {a b c : Expr} {es : List Expr} {pos : Pos} {ta tb tc : AE} {tr : AA}
/-! ### sorted(xs), of numbers -/
def bSorted (mt : Bool) : BA := fun ds m Q => ∃ (d : D) (ns : List Int), ds = [d] ∧ asLL m d = some (ns.map D.int) ∧ ns.length < 64 ∧ ∀ ns' : List Int, ns'.Perm ns → ns'.Pairwise (· ≤ ·) → newL mt (ns'.map D.int) m Q
theorem ints_rep {K : PySem.W.Frag} {F : Hp} : ∀ ns : List Int, RepL K F (ns.map V.int) (ns.map D.int)
  | [] => .nil
  | n :: ns => .cons (.int n) (ints_rep ns)
theorem s_sorted {K : PySem.W.Frag} (mt : Bool) : SA K (rSorted K) (bSorted mt) := by
  intro F H m r vs ds Q Qc hn hr h k
  obtain ⟨d, ns, rfl, hx, hl, q⟩ := h
  obtain ⟨v, rfl, rv⟩ := repL1 hr
  obtain ⟨p, us, rfl, e2, r2⟩ := asLL_ok hn rv hx
  rw [repL_ints r2] at e2
  exact ⟨p, ns, rfl, e2, hl, fun ns' p' h1 h2 hp => newL_ok hn (ints_rep ns') (q ns' h1 h2) k p' hp⟩
theorem q_sorted (mt : Bool) {p : Pos} (hm : X.mg "sorted" = none) (ha : QA X (a :: es) tr) (hg : Gl X "sorted" := by rfl)
    (he : starEach (a :: es) X.env = (false, eval a X.env) :: starEach es X.env := by rfl) (hpl : (backTo pos (starEach es X.env)).any (·.1) = false := by rfl) : QE X (.Call (.Name "sorted" p) (a :: es) [] pos) (aCB (bSorted mt) tr) :=
  q_callB cr_sorted (s_sorted mt) hm (by decide +kernel) ha hg (by decide) (by decide) he hpl
end
/-! ### ==, a tuple that holds lists -/
def vw2 (m : Mu) : D → D
  | .tup ds => .tup (ds.map (vw m))
  | d => vw m d
theorem dpAll_vw {K : PySem.W.Frag} {F H : Hp} {m : Mu} {r : Hp} (hn : Sn K F H m r) {n : Nat} : ∀ {vs : List V} {ds : List D}, RepL K F vs ds → (∀ x, x ∈ ds.map (vw m) → OkD n x) → DpAll K H vs (pys (ds.map (vw m)))
  | _, _, .nil, _ => by unfold pys; exact .nil
  | _, _, .cons h r, f => by
    rw [List.map_cons] at f ⊢
    unfold pys
    exact .cons (OkD.dpv hn (f _ (List.mem_cons_self ..)) h) (dpAll_vw hn r fun x hx => f x (List.mem_cons_of_mem _ hx))
theorem dp_vw2 {K : PySem.W.Frag} {F H : Hp} {m : Mu} {r : Hp} (hn : Sn K F H m r) {n : Nat} {d : D} (h : OkD n (vw2 m d)) {v : V} (hr : Rep K F v d) : Dp K H v (py (vw2 m d)) := by
  by_cases ht : ∃ ds, d = .tup ds
  · obtain ⟨ds, rfl⟩ := ht
    cases hr with
    | tup e q =>
      have h : OkD n (.tup (ds.map (vw m))) := h
      show Dp K H _ (py (.tup (ds.map (vw m))))
      unfold py
      cases h with
      | tup hx => exact .tup (hn.sqT e) (dpAll_vw hn q hx)
  · have e : vw2 m d = vw m d := by
      cases d <;> first | rfl | exact absurd ⟨_, rfl⟩ ht
    rw [e] at h ⊢
    exact OkD.dpv hn h hr
def bEqT : B2 := fun d e m Q => (DOk (vw2 m d) ∧ DOk (vw2 m e) ∧ Q (.bl (eqD (vw2 m d) (vw2 m e))) m) ∨ bEq d e m Q
def bNeT : B2 := fun d e m Q => (DOk (vw2 m d) ∧ DOk (vw2 m e) ∧ Q (.bl (!eqD (vw2 m d) (vw2 m e))) m) ∨ bNe d e m Q
theorem c_eqT {X : Cx} (hu : X.A.units + 64 < cLine) : Cm X .Eq bEqT := cm_or ⟨_, op_eqD hu, fun F H m r v u d e Q Qc hn h1 h2 h k => by
  obtain ⟨⟨n1, l1, o1⟩, ⟨n2, l2, o2⟩, q⟩ := h
  exact ⟨_, _, dp_vw2 hn o1 h1, dp_vw2 hn o2 h2, o1.shaped l1, o2.shaped l2, k F H m _ _ (Same.refl F) hn (.bl _) q⟩⟩ (c_eq hu)
theorem c_neT {X : Cx} (hu : X.A.units + 64 < cLine) : Cm X .NotEq bNeT := cm_or ⟨_, op_neD hu, fun F H m r v u d e Q Qc hn h1 h2 h k => by
  obtain ⟨⟨n1, l1, o1⟩, ⟨n2, l2, o2⟩, q⟩ := h
  exact ⟨_, _, dp_vw2 hn o1 h1, dp_vw2 hn o2 h2, o1.shaped l1, o2.shaped l2, k F H m _ _ (Same.refl F) hn (.bl _) q⟩⟩ (c_ne hu)
section
variable {e : De} {m : Mu} {ta tb tc : AE} {tr : AA} {d x y z : D} {xs : List D}
theorem o_eqT (h1 : DOk (vw2 m x)) (h2 : DOk (vw2 m y)) : Op2 bEqT x y m (.bl (eqD (vw2 m x) (vw2 m y))) := fun _ q => .inl ⟨h1, h2, q⟩
theorem o_neT (h1 : DOk (vw2 m x)) (h2 : DOk (vw2 m y)) : Op2 bNeT x y m (.bl (!eqD (vw2 m x) (vw2 m y))) := fun _ q => .inl ⟨h1, h2, q⟩
theorem o_neTb (h : Op2 bNe x y m d) : Op2 bNeT x y m d := fun Q q => .inr (h Q q)
theorem ev_lenum {d : D} (h : EvA tr e m [d]) (hx : asLL m d = some xs) : Ev (aLEnum false tr) e m (.lst (nums 0 xs)) := fun _ _ q => h _ _ ⟨d, xs, rfl, hx, q⟩
theorem x_lenumN {Q : QD} {X : XA} (h : tr e m (fun ds m1 => ∃ d xs, ds = [d] ∧ asLL m1 d = some xs ∧ ∀ p, m1 p = none → Q (.cell p) (mset m1 p (.lst (nums 0 xs)))) X) : aLEnum true tr e m Q X := h
/-- sorted of two -/
def srt2 (i j : Int) : List Int := if j < i then [j, i] else [i, j]
theorem perm2 {i j : Int} {ns : List Int} (h : ns.Perm [i, j]) (hs : ns.Pairwise (· ≤ ·)) : ns = srt2 i j := by
  unfold srt2
  match ns, h.length_eq with
  | [a, b], _ =>
    have ha : a ∈ [i, j] := h.subset (by simp)
    have hab : a ≤ b := by
      rw [List.pairwise_cons] at hs
      exact hs.1 b (by simp)
    have one : ∀ x y : Int, [x].Perm [y] → x = y := fun x y p => by
      have := p.subset (show x ∈ [x] by simp)
      simpa using this
    simp only [List.mem_cons, List.not_mem_nil, or_false] at ha
    rcases ha with rfl | rfl
    · have e := one _ _ h.cons_inv
      subst e
      rw [if_neg (by omega)]
    · have e := one _ _ (h.trans (List.Perm.swap a i [])).cons_inv
      subst e
      split
      · rfl
      · have : a = b := by omega
        subst this; rfl
theorem o_sort2 {i j : Int} : OpA (bSorted false) [.lst [.int i, .int j]] m (.lst ((srt2 i j).map D.int)) := fun Q q => ⟨_, [i, j], rfl, rfl, Nat.le_of_ble_eq_true rfl, fun ns' h1 h2 => by
  rw [perm2 h1 h2]; exact q⟩
end
end Ab
namespace L2
open PySem PySem.Spec PyProof.Rows
/-- C(e, ..) as a value, C's own __init__ keeping sp -/
def tMkV (C : Addr) (sp : Sp) (dvs : List V) (ta : TA) : TE := fun σ H Q => ta σ H fun vs H1 => vs.length ≤ 1000 ∧ ∀ a, H1 a = none → sp (.ref a :: (vs ++ dvs)) (upd H1 a (exo a C none)) (fun v H2 => v = .non ∧ Q (.ref a) H2) (fun _ _ _ => False)
section
variable {X : Cx} {e : Expr} {es : List Expr} {ta : TA} {p pos : Pos}
theorem pe_oex {CX : CXT} {x : Str} {C fI : Addr} {k : Nat} {fd : FuncData} {ps : List Str} {sp : Sp} {ds : List Value} {dvs : List V} (T : OexC X.K C) (iC : PySem.W.findIn X.K (.ref C) "__init__" = some (some (.ref fI))) (tI : PySem.W.typeIn X.K (.ref fI) = some (.type "function"))
    (F1 : FnOk X.prog X.w X.K X.mg X.base CX k fI fd ps sp) (hr : Room (k + 1) X.A) (hb : Binds X.K fd ps ds) (hd : Vals dvs ds) (hx : Passes CX X (fun _ _ _ => False)) (hg : Gl X x) (hm : X.mg x = some (.ref C)) (ha : PA X (e :: es) ta)
    (hdb : (x == ("__debug__" : Str)) = false := by decide) (he : starEach (e :: es) X.env = (false, eval e X.env) :: starEach es X.env := by rfl) (hpl : (backTo pos (starEach es X.env)).any (·.1) = false := by rfl) :
    PE X (.Call (.Name x p) (e :: es) [] pos) (tMkV C sp dvs ta) := by
  refine ⟨fun pins s σ H Q I h => ?_⟩
  obtain ⟨nm, q, N, bs, bm, sn, sub, ab, col, dd, k0, k1, k2, k3, k5, hC, hbm⟩ := T.cls
  refine wpAny_Call_Name_kw (ld_glob I hg hm ?_ hdb)
  refine PySem.W.callWith_K (h₀ := X.base) I.ok.mod.kin T.kC (thn (ha.run pos pins s σ H _ I h) fun us s1 ⟨vs, H1, I1, r1, hz, q1⟩ => ⟨I1.kIn, ?_⟩) he hpl
  show wpAny _ _ (call (.ref C) us) _ _ _
  obtain ⟨hp, g, dr, tk, os⟩ := s1
  have hsz : hp.objs.size ≤ hp.objs.size + 1 := Nat.le_succ _
  have hn : H1 (hp.objs.size + 1) = none := I1.hok.fresh hsz
  have hq := q1 (hp.objs.size + 1) hn
  have kk : ∀ b o, hp.get? b = some o → ((hp.push (PySem.W.kdv_tup us)).push (PySem.HandSPX.excO C hp.objs.size)).get? b = some o := fun b o e => Heap.get?_push_of_some _ (Heap.get?_push_of_some _ e)
  have hget : ((hp.push (PySem.W.kdv_tup us)).push (PySem.HandSPX.excO C hp.objs.size)).get? (hp.objs.size + 1) = some (PySem.HandSPX.excO C hp.objs.size) := by heap_get
  have I2 : Inv X pins σ (upd H1 (hp.objs.size + 1) (exo (hp.objs.size + 1) C none)) ⟨(hp.push (PySem.W.kdv_tup us)).push (PySem.HandSPX.excO C hp.objs.size), g, dr, tk, os⟩ :=
    I1.laid (t' := tk) (a := hp.objs.size + 1) (o := exo (hp.objs.size + 1) C none) (h' := (hp.push (PySem.W.kdv_tup us)).push (PySem.HandSPX.excO C hp.objs.size)) kk hsz (exo_ok hget)
  have r2 : Vals (V.ref (hp.objs.size + 1) :: (vs ++ dvs)) (Value.ref (hp.objs.size + 1) :: (us ++ ds)) := .cons rfl (r1.append hd)
  have hl : (Value.ref (hp.objs.size + 1) :: us ++ ds).length = ps.length := by
    have e := r2.length
    rw [F1.len _ _ _ _ hq] at e
    exact e.symm
  have hus : us.length ≤ sizeLine := by
    rw [← Paired.length r1, sizeLine_eq]
    omega
  refine wpAny_call (PySem.HandSPX.call_own F.excBase_ValueError (fun Y => PySem.HandSPX.refsVE_contains Y bm hbm) (I1.kIn _ _ hC) (PySem.W.looks_findIn I1.kIn iC) (fun self => PySem.W.bind_fn I1.kIn self tI) hus
    (codeAny_mono (F1.run _ X.stack _ _ ⟨Value.ref (hp.objs.size + 1) :: us, []⟩ (Value.ref (hp.objs.size + 1) :: (us ++ ds)) _ _ (fun _ _ _ => False) (hr.make C us []) (I2.env0.make C us []) (hb _ (Value.ref (hp.objs.size + 1) :: us) I2.kIn hl) r2 hq) fun r s' hq' => ?_))
  cases r with
  | error er => exact hx pins σ _ _ er s' I2 hq'
  | ok fl =>
    cases fl with
    | ret u =>
      obtain ⟨v, H2, os2, bare2, un2, hok2, rv, ev, q2⟩ := hq'
      subst ev
      obtain ⟨h2, g2, d2, t2, os'⟩ := s'
      exact ⟨rv, .ref (hp.objs.size + 1), H2, I2.call' (ch := []) os2 un2 hok2 bare2 (fun b z => absurd z (by simp)), rfl, q2⟩
    | next => exact False.elim hq'
    | brk => exact False.elim hq'
    | cont => exact False.elim hq'
end
end L2
namespace Ab
open PySem PySem.Spec PyProof.Rows L2
/-! ### exceptions as values -/
/-- an __init__ that tells a number -/
def xiSpI (K : PySem.W.Frag) (fld : Str) : Sp := fun vs H Q _ => ∃ (a C : Addr) (i : Int), vs = [.ref a, .int i] ∧ i.natAbs.log2 < 1920 ∧ (toString i : Str).length ≤ 700 ∧ OexC K C ∧ PySem.W.findIn K (.ref C) fld = some none ∧ H a = some (exo a C none) ∧
  ∀ dx, H dx = none → dx ≠ a → Q .non (upd (upd H dx (exd dx [(fld, .int i)])) a (exo a C (some dx)))
/-- an __init__ that copies a list -/
def xiSpL (K : PySem.W.Frag) (fld : Str) : Sp := fun vs H Q _ => ∃ (a C p : Addr) (ys : List V), vs = [.ref a, .ref p] ∧ OexC K C ∧ PySem.W.findIn K (.ref C) fld = some none ∧ H a = some (exo a C none) ∧ (SqL K H p ys ∨ SqT K H p ys) ∧
  ∀ l dx, H l = none → upd H l (.lst ys) dx = none → dx ≠ a → Q .non (upd (upd (upd H l (.lst ys)) dx (exd dx [(fld, .ref l)])) a (exo a C (some dx)))
def rAddS : R2 := fun x y H Q => ∃ i j, x = .str i ∧ y = .str j ∧ i.length + j.length ≤ sizeLine ∧ Q (.str (i ++ j)) H
def rStrI : List V → Hp → VK → Prop := fun xs H Q => ∃ i : Int, xs = [.int i] ∧ i.natAbs.log2 < 1920 ∧ Q (.str (toString i)) H
def rListS (K : PySem.W.Frag) : List V → Hp → VK → Prop := fun xs H Q => ∃ p ys, xs = [.ref p] ∧ (SqL K H p ys ∨ SqT K H p ys) ∧ ∀ l, H l = none → Q (.ref l) (upd H l (.lst ys))
section
variable {P : Program} {w : World} {K : PySem.W.Frag} {mg : Str → Option Value} {base : Heap}
theorem mkXInitI {x qual : Str} {params : Arguments} {body : List Stmt} {scope : Scope} {f : Addr} {fd : FuncData} {k : Nat} {nm fld m1 m2 : Str} (l1 : m1.length ≤ 1000) (l2 : m2.length ≤ 1000)
    (F : FunD K x qual params body scope [] [] f fd) (S : FnScope ["self", nm] ["self", nm] scope)
    (h1 : ∀ (cdv : Value) (A : Around) (outer : List Env) (s : Shared) (H : Hp) (E : XK), PSs (cxOf (L2.CX P w) P w K mg base ["self", nm] qual scope f cdv A outer s H E) body
      (fun D σ H => tVeI K (tCons (tVar 0) (tCons (tOp rAddS (tOp rAddS (tC (.str m1)) (tCB rStrI (tCons (tVar 1) tNil))) (tC (.str m2))) tNil)) σ H (fun _ H1 => tOst K fld (tVar 0) (tVar 1) D σ H1))) : FnOk P w K mg base (L2.CX P w) (k + 1) f fd ["self", nm] (xiSpI K fld) := by
  refine F.ok S (fun vs H Q E h => by obtain ⟨a, C, y, rfl, _⟩ := h; rfl) (fun cdv A outer s H vs Q E hr h => ?_)
  obtain ⟨a, C, i, rfl, hb, hl, T, hno, ha, hk⟩ := h
  refine ⟨_, h1 cdv A outer s H E, ?_⟩
  have ll : (m1 ++ (toString i : Str)).length = m1.length + (toString i : Str).length := Str.length_append ..
  exact ⟨.ref a, rfl, .int i, rfl, i, rfl, hb, m1, toString i, rfl, rfl, by rw [sizeLine_eq]; omega, _, m2, rfl, rfl, by rw [ll, sizeLine_eq]; omega, a, C, [_], rfl, (by show 1 ≤ 1000; decide), T, ha, .int i, rfl, .ref a, rfl, a, C, rfl, T, hno, .inl ⟨ha, fun dx n ne => hk dx n ne⟩⟩
theorem mkXInitL {x qual : Str} {params : Arguments} {body : List Stmt} {scope : Scope} {f : Addr} {fd : FuncData} {k : Nat} {nm fld msg : Str}
    (F : FunD K x qual params body scope [] [] f fd) (S : FnScope ["self", nm] ["self", nm] scope)
    (h1 : ∀ (cdv : Value) (A : Around) (outer : List Env) (s : Shared) (H : Hp) (E : XK), PSs (cxOf (L2.CX P w) P w K mg base ["self", nm] qual scope f cdv A outer s H E) body
      (fun D σ H => tVeI K (tCons (tVar 0) (tCons (tC (.str msg)) tNil)) σ H (fun _ H1 => tOst K fld (tVar 0) (tCB (rListS K) (tCons (tVar 1) tNil)) D σ H1))) : FnOk P w K mg base (L2.CX P w) (k + 1) f fd ["self", nm] (xiSpL K fld) := by
  refine F.ok S (fun vs H Q E h => by obtain ⟨a, C, p, ys, rfl, _⟩ := h; rfl) (fun cdv A outer s H vs Q E hr h => ?_)
  obtain ⟨a, C, p, ys, rfl, T, hno, ha, hs, hk⟩ := h
  refine ⟨_, h1 cdv A outer s H E, ?_⟩
  refine ⟨.ref a, rfl, a, C, [.str msg], rfl, (by show 1 ≤ 1000; decide), T, ha, .ref p, rfl, p, ys, rfl, hs, fun l hl => ⟨.ref a, rfl, a, C, rfl, T, hno, .inl ⟨?_, fun dx n ne => hk l dx hl n ne⟩⟩⟩
  have ne : a ≠ l := fun z => by rw [z, hl] at ha; cases ha
  rw [upd_ne ne]; exact ha
structure XiV (P : Program) (w : World) (K : PySem.W.Frag) (mg : Str → Option Value) (base : Heap) (k : Nat) (x fld : Str) (sp : Sp) : Prop where
  ex : ∃ (fI : Addr) (fd : FuncData) (nm : Str), OexC K (He.ga K x) ∧ PySem.W.findIn K (.ref (He.ga K x)) "__init__" = some (some (.ref fI)) ∧ PySem.W.typeIn K (.ref fI) = some (.type "function") ∧
    FnOk P w K mg base (L2.CX P w) k fI fd ["self", nm] sp ∧ Binds K fd ["self", nm] [] ∧ PySem.W.findIn K (.ref (He.ga K x)) fld = some none ∧ mg x = some (.ref (He.ga K x))
end
def aMkX (C : Addr) (f : Str) (t : AE) : AE := fun e m Q X => t e m (fun d m1 => Q (.xob C [(f, d)]) m1) X
def aMkXI (C : Addr) (f : Str) (t : AE) : AE := fun e m Q X => t e m (fun d m1 => ∃ i : Int, d = .int i ∧ i.natAbs.log2 < 1920 ∧ (toString i : Str).length ≤ 700 ∧ Q (.xob C [(f, d)]) m1) X
def aMkXL (C : Addr) (f : Str) (t : AE) : AE := fun e m Q X => t e m (fun d m1 => ∃ xs, asS m1 d = some xs ∧ Q (.xob C [(f, .lst xs)]) m1) X
def aMkX0 (C : Addr) (t : AE) : AE := fun e m Q X => t e m (fun _ m1 => Q (.xob C []) m1) X
/-- the state behind the making -/
theorem mk_sn {K : PySem.W.Frag} {F H : Hp} {m : Mu} {r : Hp} {b dx C : Addr} {fld : Str} {v : V} {d : D} (n1 : Sn K F H m r) (hb : H b = none) (hdx : upd H b (exo b C none) dx = none) (ne : dx ≠ b) (rv : Rep K F v d) :
    ∃ F', Same F F' ∧ Sn K F' (upd (upd (upd H b (exo b C none)) dx (exd dx [(fld, v)])) b (exo b C (some dx))) m r ∧ Rep K F' (.ref b) (.xob C [(fld, d)]) := by
  have hd : H dx = none := by rw [← hdx, upd_ne ne]
  have e1 : upd (upd (upd H b (exo b C none)) dx (exd dx [(fld, v)])) b (exo b C (some dx)) = upd (upd H dx (exd dx [(fld, v)])) b (exo b C (some dx)) := by
    funext z
    by_cases hz : z = b
    · rw [hz, upd_same, upd_same]
    · rw [upd_ne hz, upd_ne hz]
      by_cases hzd : z = dx
      · rw [hzd, upd_same, upd_same]
      · rw [upd_ne hzd, upd_ne hzd, upd_ne hz]
  have hb2 : upd H dx (exd dx [(fld, v)]) b = none := by rw [upd_ne (Ne.symm ne)]; exact hb
  have s1 := n1.same hd (exd dx [(fld, v)])
  have n2 := n1.new hd (exd dx [(fld, v)])
  have s2 := n2.same hb2 (exo b C (some dx))
  have n3 := n2.new hb2 (exo b C (some dx))
  rw [e1]
  exact ⟨_, s1.trans s2, n3, .xob1 upd_same (by rw [upd_ne ne, upd_same]) (rv.mono (s1.trans s2))⟩
section
variable {X : Cx} {a o : Expr} {ta : AE} {pos : Pos}
theorem q_mkX {x fld : Str} {k j : Nat} {p p2 : Pos} (E : XiV X.prog X.w X.K X.mg X.base k x fld (xiSp X.K fld)) (hr : Room j X.A) (hk : k + 1 ≤ j) (ha : QE X a ta) (hg : Gl X x := by rfl)
    (hs : starEach [a] X.env = (false, eval a X.env) :: starEach [] X.env := by rfl) (hdb : (x == ("__debug__" : Str)) = false := by decide) (hpl : (backTo p2 (starEach [] X.env)).any (·.1) = false := by rfl) :
    QE X (.Call (.Name x p) [a] [] p2) (aMkX (He.ga X.K x) fld ta) := fun W tk => by
  obtain ⟨fI, fd, nm, T, iC, tI, F1, hb, hno, gC⟩ := E.ex
  refine (pe_oex T iC tI F1 (hr.mono hk) hb .nil passL hg gC (pa_cons (ha W tk) pa_nil hs) hdb hs hpl).imp fun s H Qc ⟨F, e, m, r, Q, XX, he, hn, h, g, gx⟩ => ?_
  refine ⟨F, e, m, r, _, XX, he, hn, h, fun F1 H1 m1 v d s1 n1 r1 q1 => ?_, gx⟩
  refine ⟨by show 1 ≤ 1000; decide, fun b hb1 => ⟨b, _, v, rfl, T, hno, upd_same, fun dx hdx ne => ⟨rfl, ?_⟩⟩⟩
  obtain ⟨F', k1, n2, rr⟩ := mk_sn (fld := fld) n1 hb1 hdx ne r1
  exact g _ _ m1 _ _ (s1.trans k1) n2 rr q1
theorem q_mkXI {x fld : Str} {k j : Nat} {p p2 : Pos} (E : XiV X.prog X.w X.K X.mg X.base k x fld (xiSpI X.K fld)) (hr : Room j X.A) (hk : k + 1 ≤ j) (ha : QE X a ta) (hg : Gl X x := by rfl)
    (hs : starEach [a] X.env = (false, eval a X.env) :: starEach [] X.env := by rfl) (hdb : (x == ("__debug__" : Str)) = false := by decide) (hpl : (backTo p2 (starEach [] X.env)).any (·.1) = false := by rfl) :
    QE X (.Call (.Name x p) [a] [] p2) (aMkXI (He.ga X.K x) fld ta) := fun W tk => by
  obtain ⟨fI, fd, nm, T, iC, tI, F1, hb, hno, gC⟩ := E.ex
  refine (pe_oex T iC tI F1 (hr.mono hk) hb .nil passL hg gC (pa_cons (ha W tk) pa_nil hs) hdb hs hpl).imp fun s H Qc ⟨F, e, m, r, Q, XX, he, hn, h, g, gx⟩ => ?_
  refine ⟨F, e, m, r, _, XX, he, hn, h, fun F1 H1 m1 v d s1 n1 r1 q1 => ?_, gx⟩
  obtain ⟨i, rfl, hi, hl, q1⟩ := q1
  cases r1
  refine ⟨by show 1 ≤ 1000; decide, fun b hb1 => ⟨b, _, i, rfl, hi, hl, T, hno, upd_same, fun dx hdx ne => ⟨rfl, ?_⟩⟩⟩
  obtain ⟨F', k1, n2, rr⟩ := mk_sn (fld := fld) n1 hb1 hdx ne (.int i)
  exact g _ _ m1 _ _ (s1.trans k1) n2 rr q1
theorem q_mkXL {x fld : Str} {k j : Nat} {p p2 : Pos} (E : XiV X.prog X.w X.K X.mg X.base k x fld (xiSpL X.K fld)) (hr : Room j X.A) (hk : k + 1 ≤ j) (ha : QE X a ta) (hg : Gl X x := by rfl)
    (hs : starEach [a] X.env = (false, eval a X.env) :: starEach [] X.env := by rfl) (hdb : (x == ("__debug__" : Str)) = false := by decide) (hpl : (backTo p2 (starEach [] X.env)).any (·.1) = false := by rfl) :
    QE X (.Call (.Name x p) [a] [] p2) (aMkXL (He.ga X.K x) fld ta) := fun W tk => by
  obtain ⟨fI, fd, nm, T, iC, tI, F1, hb, hno, gC⟩ := E.ex
  refine (pe_oex T iC tI F1 (hr.mono hk) hb .nil passL hg gC (pa_cons (ha W tk) pa_nil hs) hdb hs hpl).imp fun s H Qc ⟨F, e, m, r, Q, XX, he, hn, h, g, gx⟩ => ?_
  refine ⟨F, e, m, r, _, XX, he, hn, h, fun F1 H1 m1 v d s1 n1 r1 q1 => ?_, gx⟩
  obtain ⟨xs, hx, q1⟩ := q1
  refine ⟨by show 1 ≤ 1000; decide, fun b hb1 => ?_⟩
  obtain ⟨p, ys, rfl, e2, r2⟩ := asS_ok (n1.newG hb1 (exo b (He.ga X.K x) none)) r1 hx
  refine ⟨b, _, p, ys, rfl, T, hno, upd_same, e2, fun l dx hl hdx ne => ⟨rfl, ?_⟩⟩
  have nlb : l ≠ b := fun z => by rw [z, upd_same] at hl; cases hl
  have hl1 : H1 l = none := by rw [← hl, upd_ne nlb]
  have e1 : upd (upd H1 b (exo b (He.ga X.K x) none)) l (.lst ys) = upd (upd H1 l (.lst ys)) b (exo b (He.ga X.K x) none) := by
    funext z
    by_cases hz : z = l
    · rw [hz, upd_same, upd_ne nlb, upd_same]
    · rw [upd_ne hz]
      by_cases hzb : z = b
      · rw [hzb, upd_same, upd_same]
      · rw [upd_ne hzb, upd_ne hzb, upd_ne hz]
  have sl := n1.same hl1 (.lst ys)
  have nl := n1.new hl1 (.lst ys)
  rw [e1] at hdx ⊢
  obtain ⟨F', k1, n2, rr⟩ := mk_sn (fld := fld) nl (by rw [upd_ne (Ne.symm nlb)]; exact hb1) hdx ne (Rep.lst upd_same (r2.mono sl))
  exact g _ _ m1 _ _ (s1.trans (sl.trans k1)) n2 rr q1
theorem q_mkX0 {x : Str} {p p2 : Pos} (E : ExF X.K X.mg x) (ha : QE X a ta) (hg : Gl X x := by rfl) (hs : starEach [a] X.env = (false, eval a X.env) :: starEach [] X.env := by rfl) (hdb : (x == ("__debug__" : Str)) = false := by decide) :
    QE X (.Call (.Name x p) [a] [] p2) (aMkX0 (He.ga X.K x) ta) := fun W tk => by
  refine (pe_exc1 F.excBase_ValueError E.q E.mg E.kp hg (ha W tk) hs hdb).imp fun s H Qc ⟨F, e, m, r, Q, XX, he, hn, h, g, gx⟩ => ?_
  refine ⟨F, e, m, r, _, XX, he, hn, h, fun F1 H1 m1 v d s1 n1 r1 q1 b hb => ?_, gx⟩
  exact g _ _ m1 _ _ (s1.trans (n1.same hb _)) (n1.new hb _) (.xob0 upd_same) q1
/-! ### isinstance(x, C), x an exception -/
def aIsV (K : PySem.W.Frag) (cv : Value) (t : AE) : AE := fun e m Q X => t e m (fun d m1 => ∃ C fs k, d = .xob C fs ∧ ExcC K C ∧ PySem.W.kitOne K (.ref C) cv = some k ∧ Q (.bl k) m1) X
def rIsV (K : PySem.W.Frag) : List V → Hp → VK → Prop := fun xs H Q => ∃ (a : Addr) (c : V) (cv : Value) (C : Addr) (k : Bool), xs = [.ref a, c] ∧ (H a = some (ExO (.ref C) a) ∨ ∃ dd fs, H a = some (exo a C (some dd)) ∧ H dd = some (exd dd fs)) ∧ (∀ u, RelV c u → u = cv) ∧ ExcC K C ∧ PySem.W.kitOne K (.ref C) cv = some k ∧ Q (.bl k) H
theorem call_isV : CallR X (.builtin "isinstance") (rIsV X.K) := by
  intro pins s σ H xs us Q I r h
  obtain ⟨a, c, cv, D, k, rfl, ha, hcv, C, e, q⟩ := h
  cases r with
  | cons rx rr =>
    cases rr with
    | cons rt rr =>
      cases rr
      cases rx
      have ec := hcv _ rt
      subst ec
      have hcl : (PySem.W.clsIn X.K D).isSome = true := by
        obtain ⟨cd, hc, _⟩ := PySem.W.any_some C.hd
        rw [hc]; rfl
      rcases ha with ha | ⟨dd, fs, ha, hd⟩
      · obtain ⟨⟨oe, vs, ho, hz, hd, _⟩, _, _⟩ := I.hok a _ ha
        have J : PySem.W.InstAt s.heap a oe D none := ⟨ho, hz.1, by unfold PySem.W.notCls; rw [hd] <;> rfl, by rw [hz.2]; trivial⟩
        exact PySem.W.kia_one (PySem.W.kitx_exc hcl C.hg C.hk C.hs C.ha C.hn C.ht C.hm) I.kIn J e (fun z => nomatch z) fun tk => ⟨.bl k, H, I.kept (t' := tk) fun _ _ z => z, rfl, q⟩
      · obtain ⟨t1, ho⟩ := exo_at I.hok ha
        obtain ⟨mA, hns, rel⟩ := exd_at I.hok hd
        obtain ⟨od, hod, hl⟩ := lookIn_ns hns
        have J : PySem.W.InstAt s.heap a _ D (some od) := ⟨ho, rfl, rfl, hod⟩
        exact PySem.W.kia_one (PySem.W.kitx_exc hcl C.hg C.hk C.hs C.ha C.hn C.ht C.hm) I.kIn J e (fun z => nomatch z) fun tk => ⟨.bl k, H, I.kept (t' := tk) fun _ _ z => z, rfl, q⟩
theorem Sn.ext {K : PySem.W.Frag} {F H : Hp} {m : Mu} {r : Hp} {a : Addr} {φ : Heap → Prop} (h : Sn K F H m r) (e : F a = some (.ext φ)) : H a = some (.ext φ) := by
  rcases h.cov a _ e with q | ⟨_, _, z, _⟩
  · exact q
  · cases z
theorem q_isV {x : Str} {p p2 pos : Pos} {cv : V} {cu : Value} (hm : X.mg "isinstance" = none) (hcl : PE X (.Name x p2) (tC cv)) (hcv : ∀ u, RelV cv u → u = cu) (ho : QE X o ta) (hg : Gl X "isinstance" := by rfl)
    (hs1 : starEach (o :: [.Name x p2]) X.env = (false, eval o X.env) :: starEach [.Name x p2] X.env := by rfl)
    (hs2 : starEach (.Name x p2 :: []) X.env = (false, eval (.Name x p2) X.env) :: starEach [] X.env := by rfl)
    (hpl : (backTo pos (starEach [.Name x p2] X.env)).any (·.1) = false := by rfl) :
    QE X (.Call (.Name "isinstance" p) [o, .Name x p2] [] pos) (aIsV X.K cu ta) := fun W tk => (pe_callB call_isV hg hm (by decide +kernel) (pa_cons (ho W tk) (pa_cons hcl pa_nil hs2) hs1) (by decide) (by decide) hs1 hpl).imp fun s H Qc ⟨F, e, m, r, Q, XX, he, hn, h, g, gx⟩ => by
  refine ⟨F, e, m, r, _, XX, he, hn, h, fun F1 H1 m1 v d s1 n1 r1 q1 => ?_, gx⟩
  obtain ⟨C, fs, k, rfl, hC, hk, q⟩ := q1
  cases r1 with
  | xob0 e1 => exact ⟨_, cv, cu, C, k, rfl, .inl (n1.ext e1), hcv, hC, hk, g F1 H1 m1 _ _ s1 n1 (.bl k) q⟩
  | xob1 e1 e2 _ => exact ⟨_, cv, cu, C, k, rfl, .inr ⟨_, _, n1.ext e1, n1.ext e2⟩, hcv, hC, hk, g F1 H1 m1 _ _ s1 n1 (.bl k) q⟩
/-! ### x.f, x an exception -/
def aXoF (K : PySem.W.Frag) (f : Str) (t : AE) : AE := fun e m Q X => t e m (fun d m1 => ∃ C v, d = .xob C [(f, v)] ∧ XfC K C ∧ PySem.W.findIn K (.ref C) f = some none ∧ Q v m1) X
def tXoF (K : PySem.W.Frag) (n : Str) (te : TE) : TE := fun σ H Q => te σ H fun x H1 => ∃ (a C dd : Addr) (fs : List (Str × V)) (v : V), x = .ref a ∧ H1 a = some (exo a C (some dd)) ∧ H1 dd = some (exd dd fs) ∧ fs.lookup n = some v ∧ XfC K C ∧ PySem.W.findIn K (.ref C) n = some none ∧ Q v H1
theorem pe_xoF {e : Expr} {te : TE} {n : Str} (he : PE X e te) (hb : attributeBase e n X.env (eval e X.env) = eval e X.env := by rfl) : PE X (.Attribute e n pos) (tXoF X.K n te) := by
  refine ⟨fun pins s σ H Q I h => ?_⟩
  refine attr_of hb (thn (he.run pins s σ H _ I h) fun u s1 hh => ?_)
  obtain ⟨x, H1, I1, rx, a, C, dd, fs, v, ex, ea, ed, l, T, hno, q⟩ := hh
  subst ex
  obtain rfl : u = Value.ref a := rx
  obtain ⟨t1, ho⟩ := exo_at I1.hok ea
  obtain ⟨mA, hns, hr⟩ := exd_at I1.hok ed
  obtain ⟨od, hod, hl⟩ := lookIn_ns hns
  obtain ⟨u, hu, ru⟩ := RelO.some_of (v := v) (o := mA n) (by rw [← l]; exact hr n)
  have J : PySem.W.InstAt s1.heap a _ C (some od) := ⟨ho, rfl, rfl, hod⟩
  exact HandSPX.exc_get I1.kIn J T.ga T.gg T.exC (PySem.W.findObj_own T.hdC hno rfl (by rw [hl, hu])) (handed_of ru) ⟨v, H1, I1.tok _, ru, q⟩
theorem q_xoF {f : Str} {e : Expr} (he : QE X e ta) (hb : attributeBase e f X.env (eval e X.env) = eval e X.env := by rfl) : QE X (.Attribute e f pos) (aXoF X.K f ta) := fun W tk => (pe_xoF (he W tk) hb).imp fun s H Qc ⟨F, e, m, r, Q, XX, he, hn, h, g, gx⟩ => by
  refine ⟨F, e, m, r, _, XX, he, hn, h, fun F1 H1 m1 v d s1 n1 r1 q1 => ?_, gx⟩
  obtain ⟨C, w, rfl, hC, hno, q⟩ := q1
  cases r1 with
  | xob1 e1 e2 r2 => exact ⟨_, C, _, _, _, rfl, n1.ext e1, n1.ext e2, by rw [List.lookup_cons_self], hC, hno, g F1 H1 m1 _ _ s1 n1 r2 q⟩
end
section
variable {e : De} {m : Mu} {ta tb tc : AE} {tr : AA} {d x y z : D} {xs : List D}
theorem ev_mkX {C : Addr} {f : Str} (h : Ev ta e m d) : Ev (aMkX C f ta) e m (.xob C [(f, d)]) := fun _ _ q => h _ _ q
theorem ev_mkX0 {C : Addr} (h : Ev ta e m d) : Ev (aMkX0 C ta) e m (.xob C []) := fun _ _ q => h _ _ q
theorem ev_mkXI {C : Addr} {f : Str} {i : Int} (h : Ev ta e m (.int i)) (h1 : i.natAbs.log2 < 1920) (h2 : (toString i : Str).length ≤ 700) : Ev (aMkXI C f ta) e m (.xob C [(f, .int i)]) := fun _ _ q => h _ _ ⟨i, rfl, h1, h2, q⟩
theorem ev_mkXL {C : Addr} {f : Str} (h : Ev ta e m d) (hx : asS m d = some xs) : Ev (aMkXL C f ta) e m (.xob C [(f, .lst xs)]) := fun _ _ q => h _ _ ⟨xs, hx, q⟩
theorem ev_isV {K : PySem.W.Frag} {C : Addr} {fs : List (Str × D)} {k : Bool} {cv : Value} (h : Ev ta e m (.xob C fs)) (hC : ExcC K C) (hk : PySem.W.kitOne K (.ref C) cv = some k) : Ev (aIsV K cv ta) e m (.bl k) := fun _ _ q => h _ _ ⟨C, fs, k, rfl, hC, hk, q⟩
theorem ev_xoF {K : PySem.W.Frag} {C : Addr} {f : Str} (h : Ev ta e m (.xob C [(f, d)])) (hC : XfC K C) (hno : PySem.W.findIn K (.ref C) f = some none) : Ev (aXoF K f ta) e m d := fun _ _ q => h _ _ ⟨C, d, rfl, hC, hno, q⟩
end
/-! ### a tuple target in a comprehension -/
section
variable {X : Cx} {pos : Pos}
theorem qg_tupB {s : Shared} {H : Hp} {scope : Scope} {cenv : Env} {fp : List Addr} {es : List Expr} {k : Nat} {t : AGs} {n : Nat} {is : List Nat} {g1 : WX → TGs} (hc : X.calm = true) (h : QGs (X.blk s H scope cenv fp) es t is g1) (hn : es.length = n := by rfl)
    (hp : ∀ {t' : TGs}, PGs (X.blk s H scope cenv fp) es t' → PG (X.blk s H scope cenv fp) (.Tuple es k pos) (gTup X.K n t') := by intro t' hh; exact pg_tup rfl hh) : QG (X.blk s H scope cenv fp) (.Tuple es k pos) (agTup n t) is (fun W => gTup X.K n (g1 W)) :=
  qg_tup (X := X.blk s H scope cenv fp) hc h hn hp
end
end Ab
namespace L_k05
open PySem PySem.Spec PyProof.Rows L2 Ab
/-! ### the steps -/
theorem mulLe {a b c d : Int} (h1 : a ≤ b) (h2 : c ≤ d) (h3 : 0 ≤ c) (h4 : 0 ≤ b) : a * c ≤ b * d := Int.mul_le_mul h1 h2 h3 h4
local macro_rules | `(tactic| walk_at "sd") => `(tactic| first | with_reducible assumption | omega | exact rfl | decide | exact ⟨by decide, by decide +kernel⟩ | exact ⟨by decide, by decide, by decide +kernel⟩ | exact Or.inl (Or.inl ⟨by omega, by omega⟩) | exact Or.inl (Or.inr ⟨by omega, by omega⟩) | exact Nat.le_of_ble_eq_true rfl)
local macro_rules | `(tactic| walk_at "op") => `(tactic| first
  | ((with_reducible apply o_add) <;> walk_at "sd")
  | ((with_reducible apply o_sub) <;> walk_at "sd")
  | ((with_reducible apply o_mulI) <;> walk_at "sd")
  | ((with_reducible apply o_divI) <;> walk_at "sd")
  | ((with_reducible apply o_mod) <;> walk_at "sd")
  | ((with_reducible apply o_powL) <;> walk_at "sd")
  | ((with_reducible apply o_pow) <;> walk_at "sd")
  | ((with_reducible apply o_shr) <;> walk_at "sd")
  | ((with_reducible apply o_lt) <;> walk_at "sd")
  | ((with_reducible apply o_le) <;> walk_at "sd")
  | ((with_reducible apply o_gt) <;> walk_at "sd")
  | ((with_reducible apply o_ge) <;> walk_at "sd")
  | ((with_reducible apply o_eq) <;> walk_at "sd")
  | ((with_reducible apply o_ne) <;> walk_at "sd")
  | ((with_reducible apply o_eqS) <;> walk_at "sd")
  | ((with_reducible apply o_neS) <;> walk_at "sd")
  | ((with_reducible apply o_eqB) <;> walk_at "sd")
  | ((with_reducible apply o_neB) <;> walk_at "sd")
  | ((with_reducible apply o_is) <;> walk_at "sd")
  | ((with_reducible apply o_isn) <;> walk_at "sd")
  | ((with_reducible apply o_ixT) <;> walk_at "sd")
  | ((with_reducible apply o_ixL) <;> walk_at "sd")
  | ((with_reducible apply o_ixScr) <;> walk_at "sd")
  | ((with_reducible apply o_ixS) <;> walk_at "sd")
  | ((with_reducible apply o_addS) <;> walk_at "sd")
  | ((with_reducible apply o_addLL) <;> walk_at "sd")
  | ((with_reducible apply o_ltS) <;> walk_at "sd")
  | ((with_reducible apply o_leS) <;> walk_at "sd")
  | ((with_reducible apply o_ixC) <;> walk_at "sd")
  | ((with_reducible apply o_inS) <;> walk_at "sd")
  | ((with_reducible apply o_inLL) <;> walk_at "sd")
  | ((with_reducible apply o_inT) <;> walk_at "sd")
  | ((with_reducible apply o_lenS) <;> walk_at "sd")
  | ((with_reducible apply o_lenL) <;> walk_at "sd")
  | ((with_reducible apply o_lenT) <;> walk_at "sd")
  | ((with_reducible apply o_lenScr) <;> walk_at "sd")
  | ((with_reducible apply o_lenC) <;> walk_at "sd")
  | ((with_reducible apply o_listL) <;> walk_at "sd")
  | ((with_reducible apply o_listT) <;> walk_at "sd")
  | ((with_reducible apply o_listC) <;> walk_at "sd")
  | ((with_reducible apply o_tupL) <;> walk_at "sd")
  | ((with_reducible apply o_tupT) <;> walk_at "sd")
  | ((with_reducible apply o_tupC) <;> walk_at "sd")
  | ((with_reducible apply o_strI) <;> walk_at "sd")
  | ((with_reducible apply o_strS) <;> walk_at "sd")
  | ((with_reducible apply o_intI) <;> walk_at "sd")
  | ((with_reducible apply o_intB) <;> walk_at "sd")
  | ((with_reducible apply o_max2) <;> walk_at "sd")
  | ((with_reducible apply o_min2) <;> walk_at "sd")
  | ((with_reducible apply o_neg) <;> walk_at "sd")
  | ((with_reducible apply o_slS) <;> walk_at "sd")
  | ((with_reducible apply o_slL) <;> walk_at "sd")
  | ((with_reducible apply o_slScr) <;> walk_at "sd")
  | ((with_reducible apply o_join) <;> walk_at "sd")
  | ((with_reducible apply o_split) <;> walk_at "sd")
  | ((with_reducible apply ty_int) <;> walk_at "sd")
  | ((with_reducible apply ty_intB) <;> walk_at "sd")
  | ((with_reducible apply ty_intS) <;> walk_at "sd")
  | ((with_reducible apply ty_bb) <;> walk_at "sd")
  | ((with_reducible apply ty_bi) <;> walk_at "sd")
  | ((with_reducible apply ty_bs) <;> walk_at "sd")
  | ((with_reducible apply ty_str) <;> walk_at "sd")
  | ((with_reducible apply ty_strI) <;> walk_at "sd")
  | ((with_reducible apply ty_strB) <;> walk_at "sd")
  | ((with_reducible apply ty_lst) <;> walk_at "sd")
  | ((with_reducible apply ty_lstI) <;> walk_at "sd")
  | ((with_reducible apply ty_lstS) <;> walk_at "sd")
  | ((with_reducible apply ty_tup) <;> walk_at "sd")
  | ((with_reducible apply ty_tupI) <;> walk_at "sd")
  | ((with_reducible apply ty_tupS) <;> walk_at "sd")
  | ((with_reducible apply ty_nonI) <;> walk_at "sd")
  | ((with_reducible apply ty_nonS) <;> walk_at "sd")
  | ((with_reducible apply ty_cellL) <;> walk_at "sd")
  | ((with_reducible apply td_str) <;> walk_at "sd")
  | ((with_reducible apply td_lst) <;> walk_at "sd")
  | ((with_reducible apply td_cell) <;> walk_at "sd"))
local macro_rules | `(tactic| walk_at "ev") => `(tactic| first
  | with_reducible exact ev_c
  | with_reducible exact ev_nil
  | with_reducible exact ev_noP
  | ((with_reducible apply ev_var); exact rfl)
  | ((with_reducible apply ev_cons); (· walk_at "ev"); (· walk_at "ev"))
  | ((with_reducible apply ev_op2); (· walk_at "ev"); (· walk_at "ev"); (· walk_at "op"))
  | ((with_reducible apply ev_opA); (· walk_at "ev"); (· walk_at "op"))
  | ((with_reducible apply ev_op1); (· walk_at "ev"); (· walk_at "op"))
  | ((with_reducible apply ev_opM); (· walk_at "ev"); (· walk_at "ev"); (· walk_at "op"); (· walk_at "op"))
  | ((with_reducible apply ev_isi); (· walk_at "ev"); (· walk_at "op"))
  | ((with_reducible apply ev_sl); (· walk_at "ev"); (· walk_at "ev"); (· walk_at "ev"); (· walk_at "op"))
  | ((with_reducible apply ev_tupG); (· walk_at "ev"); exact Nat.le_of_ble_eq_true rfl)
  | ((with_reducible apply ev_lstG); (· walk_at "ev"); exact Nat.le_of_ble_eq_true rfl)
  | ((with_reducible apply ev_P); walk_at "ev")
  | ((with_reducible apply ev_chainG); (· walk_at "ev"); (· walk_at "ev"); (· walk_at "op"); (· intro _; walk_at "ev"); (· intro _; walk_at "op"))
  | ((with_reducible apply ev_notV); walk_at "ev")
  | ((with_reducible apply et_B); walk_at "ev")
  | ((with_reducible apply et_not); walk_at "ev")
  | ((with_reducible apply et_and); (· walk_at "ev"); (· intro _; walk_at "ev"))
  | ((with_reducible apply et_or); (· walk_at "ev"); (· intro _; walk_at "ev"))
  | ((with_reducible apply ev_andV); (· walk_at "ev"); (· intro _; walk_at "ev"))
  | ((with_reducible apply ev_orV); (· walk_at "ev"); (· intro _; walk_at "ev"))
  | with_reducible assumption)
structure KX (K : PySem.W.Frag) : Prop where
  kitM : KitM K ["BadWord", "TooMany", "BadLine", "NoKind", "BadName", "Doubled", "NoSuch", "BadNumbers", "BadLanes", "BadRoom", "Open", "Loose", "NotCalm", "IsDoor", "BadRow", "Lacks", "Full", "TooFast"]
  ecs : EcS K ["BadWord", "TooMany", "BadLine", "NoKind", "BadName", "Doubled", "NoSuch", "BadNumbers", "BadLanes", "BadRoom", "Open", "Loose", "NotCalm", "IsDoor", "BadRow", "Lacks", "Full", "TooFast"]
  xf_BadLine_line : L2.XfC K (He.ga K "BadLine") ∧ PySem.W.findIn K (.ref (He.ga K "BadLine")) "line" = some none
  xf_NoKind_word : L2.XfC K (He.ga K "NoKind") ∧ PySem.W.findIn K (.ref (He.ga K "NoKind")) "word" = some none
  xf_BadName_name : L2.XfC K (He.ga K "BadName") ∧ PySem.W.findIn K (.ref (He.ga K "BadName")) "name" = some none
  xf_Doubled_name : L2.XfC K (He.ga K "Doubled") ∧ PySem.W.findIn K (.ref (He.ga K "Doubled")) "name" = some none
  xf_NoSuch_name : L2.XfC K (He.ga K "NoSuch") ∧ PySem.W.findIn K (.ref (He.ga K "NoSuch")) "name" = some none
  xf_BadNumbers_name : L2.XfC K (He.ga K "BadNumbers") ∧ PySem.W.findIn K (.ref (He.ga K "BadNumbers")) "name" = some none
  xf_BadLanes_name : L2.XfC K (He.ga K "BadLanes") ∧ PySem.W.findIn K (.ref (He.ga K "BadLanes")) "name" = some none
  xf_BadRoom_name : L2.XfC K (He.ga K "BadRoom") ∧ PySem.W.findIn K (.ref (He.ga K "BadRoom")) "name" = some none
  xf_Open_name : L2.XfC K (He.ga K "Open") ∧ PySem.W.findIn K (.ref (He.ga K "Open")) "name" = some none
  xf_Loose_name : L2.XfC K (He.ga K "Loose") ∧ PySem.W.findIn K (.ref (He.ga K "Loose")) "name" = some none
  xf_NotCalm_name : L2.XfC K (He.ga K "NotCalm") ∧ PySem.W.findIn K (.ref (He.ga K "NotCalm")) "name" = some none
  xf_IsDoor_name : L2.XfC K (He.ga K "IsDoor") ∧ PySem.W.findIn K (.ref (He.ga K "IsDoor")) "name" = some none
  xf_BadRow_name : L2.XfC K (He.ga K "BadRow") ∧ PySem.W.findIn K (.ref (He.ga K "BadRow")) "name" = some none
  xf_Lacks_lane : L2.XfC K (He.ga K "Lacks") ∧ PySem.W.findIn K (.ref (He.ga K "Lacks")) "lane" = some none
  xf_Full_lane : L2.XfC K (He.ga K "Full") ∧ PySem.W.findIn K (.ref (He.ga K "Full")) "lane" = some none
  xf_TooFast_ring : L2.XfC K (He.ga K "TooFast") ∧ PySem.W.findIn K (.ref (He.ga K "TooFast")) "ring" = some none
/-! _law_kinds -/
def t__law_kinds (K : PySem.W.Frag) : AS :=
    (aSeq (aSet 1 (aLst false (aCons (aIsV K (.ref (He.ga K "BadWord")) (aVar 0)) (aCons (aIsV K (.ref (He.ga K "TooMany")) (aVar 0)) (aCons (aIsV K (.ref (He.ga K "BadLine")) (aVar 0)) (aCons (aIsV K (.ref (He.ga K "NoKind")) (aVar 0)) aNil))))))
    (aSeq (aSet 1 (aOp (bAdd false) (aVar 1) (aLst false (aCons (aIsV K (.ref (He.ga K "BadName")) (aVar 0)) (aCons (aIsV K (.ref (He.ga K "Doubled")) (aVar 0)) (aCons (aIsV K (.ref (He.ga K "NoSuch")) (aVar 0)) (aCons (aIsV K (.ref (He.ga K "BadNumbers")) (aVar 0)) aNil)))))))
    (aSeq (aSet 1 (aOp (bAdd false) (aVar 1) (aLst false (aCons (aIsV K (.ref (He.ga K "BadLanes")) (aVar 0)) (aCons (aIsV K (.ref (He.ga K "BadRoom")) (aVar 0)) (aCons (aIsV K (.ref (He.ga K "Open")) (aVar 0)) (aCons (aIsV K (.ref (He.ga K "Loose")) (aVar 0)) aNil)))))))
    (aSeq (aSet 1 (aOp (bAdd false) (aVar 1) (aLst false (aCons (aIsV K (.ref (He.ga K "NotCalm")) (aVar 0)) (aCons (aIsV K (.ref (He.ga K "IsDoor")) (aVar 0)) (aCons (aIsV K (.ref (He.ga K "BadRow")) (aVar 0)) (aCons (aIsV K (.ref (He.ga K "Lacks")) (aVar 0)) aNil)))))))
    (aSeq (aSet 1 (aOp (bAdd false) (aVar 1) (aLst false (aCons (aIsV K (.ref (He.ga K "Full")) (aVar 0)) (aCons (aIsV K (.ref (He.ga K "TooFast")) (aVar 0)) aNil)))))
    (aRet (aLc false (aiRng1 (aCons (aC (.int 18)) aNil)) (agName 2) (aB (aOp bIx (aVar 1) (aVar 2))) (aVar 2) [2])))))))
abbrev N__law_kinds : List Str := ["_law_e", "_law_some", "_law_k"]
def CS5 : List Str := ["BadWord", "TooMany", "BadLine", "NoKind", "BadName", "Doubled", "NoSuch", "BadNumbers", "BadLanes", "BadRoom", "Open", "Loose", "NotCalm", "IsDoor", "BadRow", "Lacks", "Full", "TooFast"]
theorem cs_mem : ∀ i, i < 18 → CS5.getD i "" ∈ CS5 := fun i hi => by
  rw [List.getD_eq_getElem?_getD, List.getElem?_eq_getElem (show i < CS5.length from hi)]
  exact List.getElem_mem _
theorem one18 : ∀ i, i < 18 → (List.range 18).filter (fun k => decide (i = k)) = [i] := by decide +kernel
def isB (i : Nat) : D → Bool
  | .int k => decide ((i : Int) = k)
  | _ => false
theorem one_rng {i : Nat} (hi : i < 18) : (rng 0 18).filter (isB i) = [.int i] := by
  have e : rng 0 18 = (List.range 18).map fun (k : Nat) => D.int (k : Int) := by
    unfold rng
    refine List.map_congr_left fun k _ => ?_
    rw [Int.zero_add]
  rw [e, List.filter_map]
  have e2 : (isB i ∘ fun k : Nat => D.int (k : Int)) = fun k => decide (i = k) := by
    funext k
    show decide ((i : Int) = (k : Int)) = _
    by_cases h : i = k
    · subst h; rw [decide_eq_true rfl, decide_eq_true rfl]
    · rw [decide_eq_false h, decide_eq_false (by omega)]
  rw [e2, one18 i hi]; rfl
def sp__law_kinds (K : PySem.W.Frag) : ASp := fun ds m Q _ => KX K ∧ ∃ (i : Nat) (fs : List (Str × D)), i < 18 ∧ ds = [.xob (He.ga K (CS5.getD i "")) fs] ∧ Q (.lst [.int i]) m
theorem len__law_kinds {K : PySem.W.Frag} (ds : List D) (m : Mu) (Q : QD) (XX : XA) (h : sp__law_kinds K ds m Q XX) : ds.length = 1 := by
  obtain ⟨_, i, fs, _, rfl, _⟩ := h; rfl
theorem pure__law_kinds {K : PySem.W.Frag} (ds : List D) (m : Mu) (Q : QD) (XX : XA) (h : sp__law_kinds K ds m Q XX) : t__law_kinds K (endsOf Q XX) (slots N__law_kinds ds) m := by
  obtain ⟨kx, i, fs, hi, rfl, h⟩ := h
  have is : ∀ (j : Nat) {e : De} {m : Mu}, j < 18 → e[0]? = some (some (.xob (He.ga K (CS5.getD i "")) fs)) → Ev (aIsV K (.ref (He.ga K (CS5.getD j ""))) (aVar 0)) e m (.bl (decide (i = j))) := fun j _ _ hj he => ev_isV (ev_var he) (kx.ecs _ (cs_mem i hi)).1 (kx.kitM i j hi hj)
  refine k_seq (k_set (ev_lst (ev_cons (is 0 (by decide) rfl) (ev_cons (is 1 (by decide) rfl) (ev_cons (is 2 (by decide) rfl) (ev_cons (is 3 (by decide) rfl) ev_nil))))) (k_seq (k_set (ev_op2 (ev_var rfl) (ev_lst (ev_cons (is 4 (by decide) rfl) (ev_cons (is 5 (by decide) rfl) (ev_cons (is 6 (by decide) rfl) (ev_cons (is 7 (by decide) rfl) ev_nil))))) (o_addLL (Nat.le_of_ble_eq_true rfl))) (k_seq (k_set (ev_op2 (ev_var rfl) (ev_lst (ev_cons (is 8 (by decide) rfl) (ev_cons (is 9 (by decide) rfl) (ev_cons (is 10 (by decide) rfl) (ev_cons (is 11 (by decide) rfl) ev_nil))))) (o_addLL (Nat.le_of_ble_eq_true rfl))) (k_seq (k_set (ev_op2 (ev_var rfl) (ev_lst (ev_cons (is 12 (by decide) rfl) (ev_cons (is 13 (by decide) rfl) (ev_cons (is 14 (by decide) rfl) (ev_cons (is 15 (by decide) rfl) ev_nil))))) (o_addLL (Nat.le_of_ble_eq_true rfl))) (k_seq (k_set (ev_op2 (ev_var rfl) (ev_lst (ev_cons (is 16 (by decide) rfl) (ev_cons (is 17 (by decide) rfl) ev_nil))) (o_addLL (Nat.le_of_ble_eq_true rfl))) ?_)))))))))
  have hL : ∀ j, j < 18 → (((([D.bl (decide (i = 0)), .bl (decide (i = 1)), .bl (decide (i = 2)), .bl (decide (i = 3))] ++ [D.bl (decide (i = 4)), .bl (decide (i = 5)), .bl (decide (i = 6)), .bl (decide (i = 7))]) ++ [D.bl (decide (i = 8)), .bl (decide (i = 9)), .bl (decide (i = 10)), .bl (decide (i = 11))]) ++ [D.bl (decide (i = 12)), .bl (decide (i = 13)), .bl (decide (i = 14)), .bl (decide (i = 15))]) ++ [D.bl (decide (i = 16)), .bl (decide (i = 17))])[j]? = some (.bl (decide (i = j)))
    | 0, _ => rfl
    | 1, _ => rfl
    | 2, _ => rfl
    | 3, _ => rfl
    | 4, _ => rfl
    | 5, _ => rfl
    | 6, _ => rfl
    | 7, _ => rfl
    | 8, _ => rfl
    | 9, _ => rfl
    | 10, _ => rfl
    | 11, _ => rfl
    | 12, _ => rfl
    | 13, _ => rfl
    | 14, _ => rfl
    | 15, _ => rfl
    | 16, _ => rfl
    | 17, _ => rfl
    | n + 18, hn => absurd hn (by omega)
  have e := one_rng hi
  have h : Q (.lst (((rng 0 18).filter (isB i)).map id)) m := by rw [e]; exact h
  refine k_ret (ev_lcF (isB i) id (ei_rng1 (n := 18) (ev_cons ev_c ev_nil) (by omega) (by omega)) trivial (by show (rng 0 18).length < _; rw [rng_len, sizeLine_eq]; omega) (fun d hd => ?_)) h
  obtain ⟨j, hj, rfl⟩ := rng_mem hd
  rw [Int.zero_add]
  exact ⟨_, bnd_name, et_B (ev_op2 (ev_var rfl) (ev_var rfl) (o_ixL (by
    refine (atI_natA (hL j hj)).trans ?_
    show _ = some (D.bl (decide ((i : Int) = (j : Int))))
    by_cases hq : i = j
    · subst hq; rw [decide_eq_true rfl, decide_eq_true rfl]
    · rw [decide_eq_false hq, decide_eq_false (by omega)]))), fun _ => ev_var rfl⟩
/-! _law_made -/
def t__law_made (K : PySem.W.Frag) : AS :=
    (aSeq (aSet 3 (aLst false (aCons (aMkX0 (He.ga K "BadWord") (aVar 0)) (aCons (aMkX0 (He.ga K "TooMany") (aVar 0)) (aCons (aMkXI (He.ga K "BadLine") "line" (aVar 1)) (aCons (aMkX (He.ga K "NoKind") "word" (aVar 0)) (aCons (aMkX (He.ga K "BadName") "name" (aVar 0)) (aCons (aMkX (He.ga K "Doubled") "name" (aVar 0)) (aCons (aMkX (He.ga K "NoSuch") "name" (aVar 0)) aNil)))))))))
    (aSeq (aSet 3 (aOp (bAdd false) (aVar 3) (aLst false (aCons (aMkX (He.ga K "BadNumbers") "name" (aVar 0)) (aCons (aMkX (He.ga K "BadLanes") "name" (aVar 0)) (aCons (aMkX (He.ga K "BadRoom") "name" (aVar 0)) (aCons (aMkX (He.ga K "Open") "name" (aVar 0)) (aCons (aMkX (He.ga K "Loose") "name" (aVar 0)) (aCons (aMkX (He.ga K "NotCalm") "name" (aVar 0)) aNil)))))))))
    (aRet (aOp (bAdd false) (aVar 3) (aLst false (aCons (aMkX (He.ga K "IsDoor") "name" (aVar 0)) (aCons (aMkX (He.ga K "BadRow") "name" (aVar 0)) (aCons (aMkX (He.ga K "Lacks") "lane" (aVar 0)) (aCons (aMkX (He.ga K "Full") "lane" (aVar 0)) (aCons (aMkXL (He.ga K "TooFast") "ring" (aVar 2)) aNil))))))))))
abbrev N__law_made : List Str := ["_law_word_here", "_law_number", "_law_rows", "_law_some"]
def madeL (K : PySem.W.Frag) (w : Str) (n : Int) (xs : List D) : List D := [.xob (He.ga K "BadWord") [], .xob (He.ga K "TooMany") [], .xob (He.ga K "BadLine") [("line", .int n)], .xob (He.ga K "NoKind") [("word", .str w)], .xob (He.ga K "BadName") [("name", .str w)], .xob (He.ga K "Doubled") [("name", .str w)], .xob (He.ga K "NoSuch") [("name", .str w)], .xob (He.ga K "BadNumbers") [("name", .str w)], .xob (He.ga K "BadLanes") [("name", .str w)], .xob (He.ga K "BadRoom") [("name", .str w)], .xob (He.ga K "Open") [("name", .str w)], .xob (He.ga K "Loose") [("name", .str w)], .xob (He.ga K "NotCalm") [("name", .str w)], .xob (He.ga K "IsDoor") [("name", .str w)], .xob (He.ga K "BadRow") [("name", .str w)], .xob (He.ga K "Lacks") [("lane", .str w)], .xob (He.ga K "Full") [("lane", .str w)], .xob (He.ga K "TooFast") [("ring", .lst xs)]]
theorem made_get {K : PySem.W.Frag} {w : Str} {n : Int} {xs : List D} : ∀ (i : Nat) (d : D), (madeL K w n xs)[i]? = some d → i < 18 ∧ ∃ fs, d = .xob (He.ga K (CS5.getD i "")) fs
  | 0, d, h => by cases h; exact ⟨by decide, _, rfl⟩
  | 1, d, h => by cases h; exact ⟨by decide, _, rfl⟩
  | 2, d, h => by cases h; exact ⟨by decide, _, rfl⟩
  | 3, d, h => by cases h; exact ⟨by decide, _, rfl⟩
  | 4, d, h => by cases h; exact ⟨by decide, _, rfl⟩
  | 5, d, h => by cases h; exact ⟨by decide, _, rfl⟩
  | 6, d, h => by cases h; exact ⟨by decide, _, rfl⟩
  | 7, d, h => by cases h; exact ⟨by decide, _, rfl⟩
  | 8, d, h => by cases h; exact ⟨by decide, _, rfl⟩
  | 9, d, h => by cases h; exact ⟨by decide, _, rfl⟩
  | 10, d, h => by cases h; exact ⟨by decide, _, rfl⟩
  | 11, d, h => by cases h; exact ⟨by decide, _, rfl⟩
  | 12, d, h => by cases h; exact ⟨by decide, _, rfl⟩
  | 13, d, h => by cases h; exact ⟨by decide, _, rfl⟩
  | 14, d, h => by cases h; exact ⟨by decide, _, rfl⟩
  | 15, d, h => by cases h; exact ⟨by decide, _, rfl⟩
  | 16, d, h => by cases h; exact ⟨by decide, _, rfl⟩
  | 17, d, h => by cases h; exact ⟨by decide, _, rfl⟩
  | k + 18, d, h => by
    have := (List.getElem?_eq_some_iff.mp h).1
    have e : (madeL K w n xs).length = 18 := rfl
    omega
def sp__law_made (K : PySem.W.Frag) : ASp := fun ds m Q _ => ∃ (w : Str) (n : Int) (d : D) (xs : List D), ds = [.str w, .int n, d] ∧ asS m d = some xs ∧ n.natAbs.log2 < 1920 ∧ (toString n : Str).length ≤ 700 ∧ Q (.lst (madeL K w n xs)) m
theorem len__law_made {K : PySem.W.Frag} (ds : List D) (m : Mu) (Q : QD) (XX : XA) (h : sp__law_made K ds m Q XX) : ds.length = 3 := by
  obtain ⟨w, n, d, xs, rfl, _⟩ := h; rfl
theorem pure__law_made {K : PySem.W.Frag} (ds : List D) (m : Mu) (Q : QD) (XX : XA) (h : sp__law_made K ds m Q XX) : t__law_made K (endsOf Q XX) (slots N__law_made ds) m := by
  obtain ⟨w, n, d, xs, rfl, hx, hb, hl, h⟩ := h
  exact k_seq (k_set (ev_lst (ev_cons (ev_mkX0 (ev_var rfl)) (ev_cons (ev_mkX0 (ev_var rfl)) (ev_cons (ev_mkXI (ev_var rfl) hb hl) (ev_cons (ev_mkX (ev_var rfl)) (ev_cons (ev_mkX (ev_var rfl)) (ev_cons (ev_mkX (ev_var rfl)) (ev_cons (ev_mkX (ev_var rfl)) ev_nil)))))))) (k_seq (k_set (ev_op2 (ev_var rfl) (ev_lst (ev_cons (ev_mkX (ev_var rfl)) (ev_cons (ev_mkX (ev_var rfl)) (ev_cons (ev_mkX (ev_var rfl)) (ev_cons (ev_mkX (ev_var rfl)) (ev_cons (ev_mkX (ev_var rfl)) (ev_cons (ev_mkX (ev_var rfl)) ev_nil))))))) (o_addLL (Nat.le_of_ble_eq_true rfl))) (k_ret (ev_op2 (ev_var rfl) (ev_lst (ev_cons (ev_mkX (ev_var rfl)) (ev_cons (ev_mkX (ev_var rfl)) (ev_cons (ev_mkX (ev_var rfl)) (ev_cons (ev_mkX (ev_var rfl)) (ev_cons (ev_mkXL (ev_var rfl) hx) ev_nil)))))) (o_addLL (Nat.le_of_ble_eq_true rfl))) h))))
/-! _law_mix -/
def t__law_mix : AS :=
    (aSeq (aSet 2 (aOp bMod (aOp (bAdd false) (aOp (bAdd false) (aOp bMul (aOp bMod (aVar 0) (aC (.int 2147483647))) (aC (.int 48271))) (aOp bMul (aC (.int 7919)) (aVar 1))) (aC (.int 11))) (aC (.int 2147483647))))
    (aSeq (aSet 2 (aOp bMod (aOp bMul (aVar 2) (aVar 2)) (aC (.int 2147483629))))
    (aRet (aOp bMod (aOp bMul (aOp (bAdd false) (aVar 2) (aOp bMul (aC (.int 613)) (aVar 1))) (aVar 2)) (aC (.int 2147483587))))))
abbrev N__law_mix : List Str := ["_law_cell_here", "_law_k", "_law_number"]
def mix (c k : Int) : Int :=
  ((((c % 2147483647 * 48271 + 7919 * k + 11) % 2147483647) * ((c % 2147483647 * 48271 + 7919 * k + 11) % 2147483647) % 2147483629) + 613 * k) * (((c % 2147483647 * 48271 + 7919 * k + 11) % 2147483647) * ((c % 2147483647 * 48271 + 7919 * k + 11) % 2147483647) % 2147483629) % 2147483587
theorem mix_b (c k : Int) : 0 ≤ mix c k ∧ mix c k < 2147483587 := ⟨Int.emod_nonneg _ (by decide), Int.emod_lt_of_pos _ (by decide)⟩
def sp__law_mix : ASp := fun ds m Q _ => ∃ c k : Int, ds = [.int c, .int k] ∧ 0 ≤ k ∧ k < 1000000000 ∧ Q (.int (mix c k)) m
theorem len__law_mix (ds : List D) (m : Mu) (Q : QD) (XX : XA) (h : sp__law_mix ds m Q XX) : ds.length = 2 := by
  obtain ⟨c, k, rfl, _⟩ := h; rfl
theorem pure__law_mix (ds : List D) (m : Mu) (Q : QD) (XX : XA) (h : sp__law_mix ds m Q XX) : t__law_mix (endsOf Q XX) (slots N__law_mix ds) m := by
  obtain ⟨c, k, rfl, h0, h1, h⟩ := h
  have a1 := Int.emod_nonneg c (show (2147483647 : Int) ≠ 0 by decide)
  have a2 := Int.emod_lt_of_pos c (show (0 : Int) < 2147483647 by decide)
  refine k_seq (k_set (by walk_at "ev") (k_seq ?_))
  unfold mix at h
  generalize (c % 2147483647 * 48271 + 7919 * k + 11) = x at *
  have b1 := Int.emod_nonneg x (show (2147483647 : Int) ≠ 0 by decide)
  have b2 := Int.emod_lt_of_pos x (show (0 : Int) < 2147483647 by decide)
  generalize x % 2147483647 = y at *
  refine k_set (by walk_at "ev") ?_
  generalize y * y = z at *
  have c1 := Int.emod_nonneg z (show (2147483629 : Int) ≠ 0 by decide)
  have c2 := Int.emod_lt_of_pos z (show (0 : Int) < 2147483629 by decide)
  exact k_ret (by walk_at "ev") h
theorem ev__law_mix {tr : AA} {e : De} {m : Mu} {c k : Int} (h : EvA tr e m [.int c, .int k]) (h0 : 0 ≤ k) (h1 : k < 1000000000) : Ev (aCall sp__law_mix [] tr) e m (.int (mix c k)) := ev_call h fun Q X q => ⟨c, k, rfl, h0, h1, q⟩
local macro_rules | `(tactic| walk_at "ev") => `(tactic| ((with_reducible apply ev__law_mix); (· walk_at "ev"); all_goals walk_at "sd"))
/-! _law_word -/
def t__law_word : AS :=
    (aSeq (aSet 1 (aC (.str "abcdefghijklmnopqrstuvwxyz0123456789")))
    (aRet (aBM "str" bJoin (aC (.str "")) (aCons (aLc false (aiRng1 (aCons (aOp bMod (aVar 0) (aC (.int 9))) aNil)) (agName 2) aYes (aOp bIx (aVar 1) (aOp bMod (aCall sp__law_mix [] (aCons (aVar 0) (aCons (aVar 2) aNil))) (aC (.int 36)))) [2]) aNil))))
abbrev N__law_word : List Str := ["_law_cell_here", "_law_letters", "_law_k"]
def lcT : Str := "abcdefghijklmnopqrstuvwxyz0123456789"
theorem lc_len : lcT.cps.toList.length = 36 := by decide +kernel
def ltc (i : Int) : Nat := lcT.cps.toList.getD i.toNat 97
theorem ltc_ix {i : Int} (h0 : 0 ≤ i) (h1 : i < 36) : atI lcT.cps.toList i = some (ltc i) := by
  have h : i.toNat < lcT.cps.toList.length := by have := lc_len; omega
  refine atI_int h0 ?_
  unfold ltc
  rw [List.getD_eq_getElem?_getD, List.getElem?_eq_getElem h]; rfl
theorem ltc_all : ∀ n, n < 36 → lcT.cps.toList.getD n 97 < 0x110000 := by decide +kernel
theorem ltc_lt {i : Int} (h0 : 0 ≤ i) (h1 : i < 36) : ltc i < 0x110000 := ltc_all i.toNat (by omega)
def wdL (c : Int) : List Nat := (List.range (c % 9).toNat).map fun (k : Nat) => ltc (mix c k % 36)
def wd (c : Int) : Str := ⟨(wdL c).toArray⟩
theorem wdL_len (c : Int) : (wdL c).length ≤ 8 := by
  have a1 := Int.emod_lt_of_pos c (show (0 : Int) < 9 by decide)
  unfold wdL; rw [List.length_map, List.length_range]; omega
theorem wd_ok (c : Int) : PyData.strOk (wd c) = true := by
  refine (TxOk.list (n := 8) (wdL_len c) fun x hx => ?_).ok
  unfold wdL at hx
  obtain ⟨k, _, rfl⟩ := List.mem_map.mp hx
  exact ltc_lt (Int.emod_nonneg _ (by decide)) (Int.emod_lt_of_pos _ (by decide))
def sp__law_word : ASp := fun ds m Q _ => ∃ c : Int, ds = [.int c] ∧ Q (.str (wd c)) m
theorem len__law_word (ds : List D) (m : Mu) (Q : QD) (XX : XA) (h : sp__law_word ds m Q XX) : ds.length = 1 := by
  obtain ⟨c, rfl, _⟩ := h; rfl
theorem pure__law_word (ds : List D) (m : Mu) (Q : QD) (XX : XA) (h : sp__law_word ds m Q XX) : t__law_word (endsOf Q XX) (slots N__law_word ds) m := by
  obtain ⟨c, rfl, h⟩ := h
  have la : lcT.length ≤ sizeLine := by rw [len_tl, lc_len, sizeLine_eq]; omega
  have a0 := Int.emod_nonneg c (show (9 : Int) ≠ 0 by decide)
  have a1 := Int.emod_lt_of_pos c (show (0 : Int) < 9 by decide)
  have e : Txt.join "" ((wdL c).map fun x => (⟨#[x]⟩ : Str)) = wd c := join_signs (wdL c)
  rw [← e] at h
  refine k_seq (k_set (d := .str lcT) ev_c (k_ret (ev_opM ev_c (ev_cons (ev_lcM (fun d => match d with | .int k => .str ⟨#[ltc (mix c k % 36)]⟩ | d => d) (ei_rng1 (n := c % 9) (ev_cons (ev_op2 (ev_var rfl) ev_c (o_mod (by decide))) ev_nil) (by omega) (by omega)) trivial (by rw [rng_len, sizeLine_eq]; omega) (fun d hd => ?_)) ev_nil) (o_join (ys := (wdL c).map fun x => (⟨#[x]⟩ : Str)) ?_ ?_) td_str) h))
  · obtain ⟨i, hi, rfl⟩ := rng_mem hd
    exact ⟨_, bnd_name, ev_op2 (ev_var rfl) (ev_op2 (ev__law_mix (ev_cons (ev_var rfl) (ev_cons (ev_var rfl) ev_nil)) (by omega) (by omega)) ev_c (o_mod (by decide))) (o_ixS la (ltc_ix (Int.emod_nonneg _ (by decide)) (Int.emod_lt_of_pos _ (by decide))))⟩
  · unfold rng wdL
    rw [List.map_map, List.map_map, List.map_map]
    refine List.map_congr_left fun k _ => ?_
    show D.str ⟨#[ltc (mix c (0 + (k : Int)) % 36)]⟩ = _
    rw [Int.zero_add]; rfl
  · have := wdL_len c
    rw [signs_sum, List.length_map]
    show _ + _ * 0 ≤ _
    omega
theorem ev__law_word {tr : AA} {e : De} {m : Mu} {c : Int} (h : EvA tr e m [.int c]) : Ev (aCall sp__law_word [] tr) e m (.str (wd c)) := ev_call h fun Q X q => ⟨c, rfl, q⟩
/-! _law_cell -/
def t__law_cell : AS :=
    (aSeq (aIfS (aB (aOp bLt (aVar 1) (aCB bLen (aCons (aVar 0) aNil))))
    (aRet (aOp bIx (aVar 0) (aVar 1)))
    aNext)
    (aRet (aOp (bAdd false) (aOp bMul (aC (.int 41)) (aVar 1)) (aC (.int 3)))))
abbrev N__law_cell : List Str := ["_law_script", "_law_k"]
def cel (ns : List Int) (k : Int) : Int := if k < ns.length then ns.getD k.toNat 0 else 41 * k + 3
def sp__law_cell : ASp := fun ds m Q _ => ∃ (ns : List Int) (k : Int), ds = [.scr ns, .int k] ∧ 0 ≤ k ∧ k < 1000000 ∧ Q (.int (cel ns k)) m
theorem len__law_cell (ds : List D) (m : Mu) (Q : QD) (XX : XA) (h : sp__law_cell ds m Q XX) : ds.length = 2 := by
  obtain ⟨ns, k, rfl, _⟩ := h; rfl
theorem pure__law_cell (ds : List D) (m : Mu) (Q : QD) (XX : XA) (h : sp__law_cell ds m Q XX) : t__law_cell (endsOf Q XX) (slots N__law_cell ds) m := by
  obtain ⟨ns, k, rfl, h0, h1, h⟩ := h
  refine k_seq (k_if (et_B (ev_lt (ev_var rfl) (ev_lenL (xs := ns.map D.int) (ev_cons (ev_var rfl) ev_nil) rfl))) (fun hc => k_ret (ev_ixScr (x := .int (ns.getD k.toNat 0)) (ev_var rfl) (ev_var rfl) (atI_int h0 ?_)) ?_) (fun hc => k_next (k_ret (by walk_at "ev") ?_)))
  · have hc := of_decide_eq_true hc
    rw [List.length_map] at hc
    rw [List.getElem?_map, List.getD_eq_getElem?_getD, List.getElem?_eq_getElem (by omega)]; rfl
  · have hc := of_decide_eq_true hc
    rw [List.length_map] at hc
    unfold cel at h; rw [if_pos hc] at h; exact h
  · have hc := of_decide_eq_false hc
    rw [List.length_map] at hc
    unfold cel at h; rw [if_neg hc] at h; exact h
theorem ev__law_cell {tr : AA} {e : De} {m : Mu} {ns : List Int} {k : Int} (h : EvA tr e m [.scr ns, .int k]) (h0 : 0 ≤ k) (h1 : k < 1000000) : Ev (aCall sp__law_cell [] tr) e m (.int (cel ns k)) := ev_call h fun Q X q => ⟨ns, k, rfl, h0, h1, q⟩
local macro_rules | `(tactic| walk_at "ev") => `(tactic| ((with_reducible apply ev__law_cell); (· walk_at "ev"); all_goals walk_at "sd"))
/-! law -/
def t_law (K : PySem.W.Frag) : AS :=
    (aSeq (aSet 1 (aCall sp__law_word [] (aCons (aCall sp__law_cell [] (aCons (aVar 0) (aCons (aC (.int 0)) aNil))) aNil)))
    (aSeq (aSet 2 (aOp bMod (aCall sp__law_cell [] (aCons (aVar 0) (aCons (aC (.int 1)) aNil))) (aOp bPow (aC (.int 10)) (aC (.int 9)))))
    (aSeq (aSet 3 (aLc false (aiSeq (aSl false (aVar 0) (aP (aC (.int 2))) (aP (aC (.int 12))))) (agName 8) aYes (aTup (aCons (aCall sp__law_word [] (aCons (aVar 8) aNil)) (aCons (aCall sp__law_word [] (aCons (aOp bDiv (aVar 8) (aC (.int 9))) aNil)) (aCons (aVar 2) (aCons (aC (.str "")) (aCons (aC (.str "again")) aNil)))))) [8]))
    (aSeq (aSet 4 (aCB (bList true) (aCons (aVar 3) aNil)))
    (aSeq (aSet 5 (aCall (sp__law_made K) [] (aCons (aVar 1) (aCons (aVar 2) (aCons (aVar 4) aNil)))))
    (aSeq (aDrop (aBM "list" bAppend (aVar 4) (aCons (aC (.int 1)) aNil)))
    (aSeq (aFor (aiEnum (aCons (aVar 5) aNil)) (agTup 2 (agCons (agName 7) (agCons (agName 6) agNil)))
    (aIfS (aOr (aB (aOp bNe (aCall (sp__law_kinds K) [] (aCons (aVar 6) aNil)) (aLst false (aCons (aVar 7) aNil)))) (aOr (aNot (aB (aIsV K (.ref (He.ga K "LaneError")) (aVar 6)))) (aNot (aB (aIsV K (.type "ValueError") (aVar 6))))))
    (aRet (aC (.bl false)))
    aNext))
    (aSeq (aIfS (aOr (aB (aOp bNe (aXoF K "line" (aOp bIx (aVar 5) (aC (.int 2)))) (aVar 2))) (aOr (aB (aOp bNe (aXoF K "word" (aOp bIx (aVar 5) (aC (.int 3)))) (aVar 1))) (aB (aOp bNe (aXoF K "ring" (aOp bIx (aVar 5) (aC (.int 17)))) (aVar 3)))))
    (aRet (aC (.bl false)))
    aNext)
    (aSeq (aFor (aiSeq (aSl false (aVar 5) (aP (aC (.int 4))) (aP (aC (.int 15))))) (agName 6)
    (aIfS (aB (aOp bNe (aXoF K "name" (aVar 6)) (aVar 1)))
    (aRet (aC (.bl false)))
    aNext))
    (aRet (aAndV (aOp bEq (aXoF K "lane" (aOp bIx (aVar 5) (aC (.int 15)))) (aVar 1)) (aOp bEq (aXoF K "lane" (aOp bIx (aVar 5) (aC (.int 16)))) (aVar 1)))))))))))))
abbrev N_law : List Str := ["_law_script", "_law_word_here", "_law_number", "_law_rows", "_law_handed", "_law_made_here", "_law_e", "_law_k", "_law_cell_here"]
theorem log_small {n : Nat} (h : n < 2 ^ 64) : n.log2 < 1920 := by
  by_cases q : n = 0
  · subst q; decide
  · have : n.log2 < 64 := (Nat.log2_lt q).mpr h
    omega
theorem num_len {n : Nat} (h : n < 10 ^ 9) : (Str.ofString (toString ((n : Nat) : Int))).length ≤ 9 := by
  have tl1 : (Str.ofString (toString (n : Int))).cps.toList = TL.numL n := TL.tl_num n
  rw [len_tl, tl1]; exact TL.numL_len (by decide) h
def rowD (n : Int) : D → D
  | .int c => .tup [.str (wd c), .str (wd (c / 9)), .int n, .str "", .str "again"]
  | d => d
theorem rows_dok {ns : List Int} {n : Int} {l h : Option Int} : DOk (.lst ((cut (ns.map D.int) l h).map (rowD n))) := ⟨2, by decide, .lst fun x hx => by
  obtain ⟨d, hd, rfl⟩ := List.mem_map.mp hx
  obtain ⟨c, _, rfl⟩ := List.mem_map.mp (mem_cut hd)
  refine .tup fun z hz => ?_
  simp only [List.mem_cons, List.not_mem_nil, or_false] at hz
  rcases hz with rfl | rfl | rfl | rfl | rfl
  · exact .str (wd_ok c)
  · exact .str (wd_ok _)
  · exact .int
  · exact .str (by decide +kernel)
  · exact .str (by decide +kernel)⟩
theorem int1_dok (i : Int) : DOk (.lst [.int i]) := ⟨1, by decide, .lst fun x hx => by rw [List.mem_singleton.mp hx]; exact .int⟩
theorem cut_le {xs : List D} {l h : Option Int} : (cut xs l h).length ≤ xs.length := by
  unfold cut
  rw [List.length_take, List.length_drop]; omega
def sp_law (K : PySem.W.Frag) : ASp := fun ds m Q _ => KX K ∧ ∃ ns : List Int, ds = [.scr ns] ∧ ns.length ≤ 63 ∧ ∀ m', Q (.bl true) m'
theorem len_law {K : PySem.W.Frag} (ds : List D) (m : Mu) (Q : QD) (XX : XA) (h : sp_law K ds m Q XX) : ds.length = 1 := by
  obtain ⟨_, a, rfl, _⟩ := h; rfl
theorem pure_law {K : PySem.W.Frag} (ds : List D) (m : Mu) (Q : QD) (XX : XA) (h : sp_law K ds m Q XX) : t_law K (endsOf Q XX) (slots N_law ds) m := by
  obtain ⟨kx, ns, rfl, hns, h⟩ := h
  refine k_seq (k_set (ev__law_word (ev_cons (ev__law_cell (ev_cons (ev_var rfl) (ev_cons ev_c ev_nil)) (by decide) (by decide)) ev_nil)) (k_seq (k_set (ev_op2 (ev__law_cell (ev_cons (ev_var rfl) (ev_cons ev_c ev_nil)) (by decide) (by decide)) (ev_op2 ev_c ev_c (o_powL (by walk_at "sd"))) (o_mod (by decide))) (k_seq ?_))))
  generalize wd (cel ns 0) = w
  have n0 := Int.emod_nonneg (cel ns 1) (show (10 ^ 9 : Int) ≠ 0 by decide)
  have n1 := Int.emod_lt_of_pos (cel ns 1) (show (0 : Int) < 10 ^ 9 by decide)
  obtain ⟨n, en⟩ : ∃ n : Nat, cel ns 1 % 10 ^ 9 = n := ⟨(cel ns 1 % 10 ^ 9).toNat, by omega⟩
  rw [en] at n0 n1 ⊢
  have hb : (n : Int).natAbs.log2 < 1920 := log_small (n := n) (by omega)
  have hl : (toString (n : Int) : Str).length ≤ 700 := by have : (toString (n : Int) : Str).length ≤ 9 := num_len (n := n) (by omega); omega
  refine k_set (ev_lcM (rowD n) (ei_seq (ev_sl (ev_var rfl) (ev_P ev_c) (ev_P ev_c) o_slScr) rfl) rfl (by have := cut_le (xs := ns.map D.int) (l := some 2) (h := some 12); rw [List.length_map] at this; rw [sizeLine_eq]; omega) fun d hd => ?_) (k_seq ?_)
  · obtain ⟨c, _, rfl⟩ := List.mem_map.mp (mem_cut hd)
    exact ⟨_, bnd_name, ev_tup (ev_cons (ev__law_word (ev_cons (ev_var rfl) ev_nil)) (ev_cons (ev__law_word (ev_cons (ev_op2 (ev_var rfl) ev_c (o_divI (by walk_at "sd"))) ev_nil)) (ev_cons (ev_var rfl) (ev_cons ev_c (ev_cons ev_c ev_nil)))))⟩
  have dok := rows_dok (ns := ns) (n := n) (l := some 2) (h := some 12)
  have hR : ((cut (ns.map D.int) (some 2) (some 12)).map (rowD n)).length ≤ 63 := by
    have := cut_le (xs := ns.map D.int) (l := some 2) (h := some 12)
    rw [List.length_map] at this ⊢; omega
  generalize (cut (ns.map D.int) (some 2) (some 12)).map (rowD n) = R at dok hR
  refine k_setX (x_listN (ev_cons (ev_var rfl) ev_nil) fun p hp => k_seq ?_)
  have hm : mset m p (.lst R) p = some (.lst R) := mset_same
  generalize mset m p (.lst R) = m1 at hm
  refine k_setC (ev_cons (ev_var rfl) (ev_cons (ev_var rfl) (ev_cons (ev_var rfl) ev_nil))) ⟨w, n, _, R, rfl, by show oL (m1 p) = _; rw [hm]; rfl, hb, hl, k_seq (k_append (ev_var rfl) (ev_cons ev_c ev_nil) hm (by rw [sizeLine_eq]; omega) (k_seq ?_))⟩
  generalize mset m1 p (.lst (R ++ [.int 1])) = m2
  refine k_for (ei_enum (xs := madeL K w n R) (ev_cons (ev_var rfl) ev_nil) rfl) (fun _ e' m' => ∃ a b, e' = [some (.scr ns), some (.str w), some (.int n), some (.lst R), some (.cell p), some (.lst (madeL K w n R)), a, b, none]) ⟨_, _, rfl⟩ (fun _ _ _ _ => rfl) ?_ ?_
  · rintro i d e' m' hd ⟨a, b, rfl⟩
    have hi : i < (madeL K w n R).length := by
      have := (List.getElem?_eq_some_iff.mp hd).1
      rw [nums_len] at this; exact this
    rw [nums_get _ 0 i _ (List.getElem?_eq_getElem hi)] at hd
    cases hd
    obtain ⟨h18, fs, hfs⟩ := made_get i _ (List.getElem?_eq_getElem hi)
    rw [hfs, Nat.zero_add]
    obtain ⟨ec, k1, k2⟩ := kx.ecs _ (cs_mem i h18)
    refine bnd_tup (bnds_cons bnd_name (bnds_cons bnd_name bnds_nil)) rfl _ _ _ (k_ifF (et_or (et_B (ev_op2 (x := .lst [.int i]) (y := .lst [.int i]) (ev_call (ev_cons (ev_var rfl) ev_nil) fun Q X q => ⟨kx, i, fs, h18, rfl, q⟩) (ev_lst (ev_cons (ev_var rfl) ev_nil)) (o_neD (int1_dok i) (int1_dok i)))) fun _ => et_or (et_not (et_B (ev_isV (ev_var rfl) ec k1))) fun _ => et_not (et_B (ev_isV (ev_var rfl) ec k2))) ?_ (k_next ⟨_, _, rfl⟩))
    show (!eqD (.lst [.int i]) (.lst [.int i]) || (!true || !true)) = false
    rw [eqD_refl (int1_dok i)]; rfl
  rintro e' m' ⟨a, b, rfl⟩
  refine k_seq (k_ifF (et_or (et_B (ev_op2 (ev_xoF (ev_op2 (ev_var rfl) ev_c (o_ixL (atI_int (by decide) rfl))) kx.xf_BadLine_line.1 kx.xf_BadLine_line.2) (ev_var rfl) o_ne)) fun _ => et_or (et_B (ev_op2 (ev_xoF (ev_op2 (ev_var rfl) ev_c (o_ixL (atI_int (by decide) rfl))) kx.xf_NoKind_word.1 kx.xf_NoKind_word.2) (ev_var rfl) o_neS)) fun _ => et_B (ev_op2 (x := .lst R) (y := .lst R) (ev_xoF (ev_op2 (ev_var rfl) ev_c (o_ixL (atI_int (by decide) rfl))) kx.xf_TooFast_ring.1 kx.xf_TooFast_ring.2) (ev_var rfl) (o_neD dok dok))) ?_ (k_next (k_seq ?_)))
  · show (!decide ((n : Int) = n) || (!decide (w = w) || !eqD (.lst R) (.lst R))) = false
    rw [eqD_refl dok, decide_eq_true rfl, decide_eq_true rfl]; rfl
  have ec : cut (madeL K w n R) (some 4) (some 15) = [.xob (He.ga K "BadName") [("name", .str w)], .xob (He.ga K "Doubled") [("name", .str w)], .xob (He.ga K "NoSuch") [("name", .str w)], .xob (He.ga K "BadNumbers") [("name", .str w)], .xob (He.ga K "BadLanes") [("name", .str w)], .xob (He.ga K "BadRoom") [("name", .str w)], .xob (He.ga K "Open") [("name", .str w)], .xob (He.ga K "Loose") [("name", .str w)], .xob (He.ga K "NotCalm") [("name", .str w)], .xob (He.ga K "IsDoor") [("name", .str w)], .xob (He.ga K "BadRow") [("name", .str w)]] := rfl
  refine k_for (ei_seq (xs := cut (madeL K w n R) (some 4) (some 15)) (ev_sl (ev_var rfl) (ev_P ev_c) (ev_P ev_c) o_slL) rfl) (fun _ e' m' => ∃ a b, e' = [some (.scr ns), some (.str w), some (.int n), some (.lst R), some (.cell p), some (.lst (madeL K w n R)), a, b, none]) ⟨_, _, rfl⟩ (fun _ _ _ _ => rfl) ?_ ?_
  · rintro i d e' m' hd ⟨a, b, rfl⟩
    have hd := List.mem_of_getElem? hd
    rw [ec] at hd
    have : ∃ C, d = .xob C [("name", .str w)] ∧ XfC K C ∧ PySem.W.findIn K (.ref C) "name" = some none := by
      simp only [List.mem_cons, List.not_mem_nil, or_false] at hd
      rcases hd with rfl | rfl | rfl | rfl | rfl | rfl | rfl | rfl | rfl | rfl | rfl
      · exact ⟨_, rfl, kx.xf_BadName_name.1, kx.xf_BadName_name.2⟩
      · exact ⟨_, rfl, kx.xf_Doubled_name.1, kx.xf_Doubled_name.2⟩
      · exact ⟨_, rfl, kx.xf_NoSuch_name.1, kx.xf_NoSuch_name.2⟩
      · exact ⟨_, rfl, kx.xf_BadNumbers_name.1, kx.xf_BadNumbers_name.2⟩
      · exact ⟨_, rfl, kx.xf_BadLanes_name.1, kx.xf_BadLanes_name.2⟩
      · exact ⟨_, rfl, kx.xf_BadRoom_name.1, kx.xf_BadRoom_name.2⟩
      · exact ⟨_, rfl, kx.xf_Open_name.1, kx.xf_Open_name.2⟩
      · exact ⟨_, rfl, kx.xf_Loose_name.1, kx.xf_Loose_name.2⟩
      · exact ⟨_, rfl, kx.xf_NotCalm_name.1, kx.xf_NotCalm_name.2⟩
      · exact ⟨_, rfl, kx.xf_IsDoor_name.1, kx.xf_IsDoor_name.2⟩
      · exact ⟨_, rfl, kx.xf_BadRow_name.1, kx.xf_BadRow_name.2⟩
    obtain ⟨C, rfl, x1, x2⟩ := this
    exact bnd_name _ _ _ (k_ifF (et_B (ev_op2 (ev_xoF (ev_var rfl) x1 x2) (ev_var rfl) o_neS)) (by rw [decide_eq_true rfl]; rfl) (k_next ⟨_, _, rfl⟩))
  · rintro e' m' ⟨a, b, rfl⟩
    refine k_ret (ev_andV (ev_op2 (ev_xoF (ev_op2 (ev_var rfl) ev_c (o_ixL (atI_int (by decide) rfl))) kx.xf_Lacks_lane.1 kx.xf_Lacks_lane.2) (ev_var rfl) o_eqS) fun _ => ev_op2 (ev_xoF (ev_op2 (ev_var rfl) ev_c (o_ixL (atI_int (by decide) rfl))) kx.xf_Full_lane.1 kx.xf_Full_lane.2) (ev_var rfl) o_eqS) ?_
    rw [decide_eq_true rfl]
    exact h m'
theorem law_true {K : PySem.W.Frag} (kx : KX K) (ns : List Int) (hl : ns.length ≤ 63) : sp_law K [.scr ns] (fun _ => none) (fun d _ => d = .bl true) (fun _ _ => False) := ⟨kx, ns, rfl, hl, fun _ => rfl⟩
def topS (i : Nat) : Stmt := PySem.Challenge.pw_holdlane_k05_refusals_apart.main.body.getD i (.Pass ⟨0, 0, 0, 0⟩)
/-- what the top has written -/
structure Gf (K : PySem.W.Frag) (mg : Str → Option Value) : Prop where
  free_isinstance : mg "isinstance" = none
  gcl_NoKind : mg "NoKind" = some (.ref (He.ga K "NoKind"))
  gcl_BadLine : mg "BadLine" = some (.ref (He.ga K "BadLine"))
  gcl_TooMany : mg "TooMany" = some (.ref (He.ga K "TooMany"))
  gcl_BadWord : mg "BadWord" = some (.ref (He.ga K "BadWord"))
  gcl_BadNumbers : mg "BadNumbers" = some (.ref (He.ga K "BadNumbers"))
  gcl_NoSuch : mg "NoSuch" = some (.ref (He.ga K "NoSuch"))
  gcl_Doubled : mg "Doubled" = some (.ref (He.ga K "Doubled"))
  gcl_BadName : mg "BadName" = some (.ref (He.ga K "BadName"))
  gcl_Loose : mg "Loose" = some (.ref (He.ga K "Loose"))
  gcl_Open : mg "Open" = some (.ref (He.ga K "Open"))
  gcl_BadRoom : mg "BadRoom" = some (.ref (He.ga K "BadRoom"))
  gcl_BadLanes : mg "BadLanes" = some (.ref (He.ga K "BadLanes"))
  gcl_Lacks : mg "Lacks" = some (.ref (He.ga K "Lacks"))
  gcl_BadRow : mg "BadRow" = some (.ref (He.ga K "BadRow"))
  gcl_IsDoor : mg "IsDoor" = some (.ref (He.ga K "IsDoor"))
  gcl_NotCalm : mg "NotCalm" = some (.ref (He.ga K "NotCalm"))
  gcl_TooFast : mg "TooFast" = some (.ref (He.ga K "TooFast"))
  gcl_Full : mg "Full" = some (.ref (He.ga K "Full"))
  free_range : mg "range" = none
  free_str : mg "str" = none
  exc_TooMany : ExF K mg "TooMany"
  exc_BadWord : ExF K mg "BadWord"
  free_list : mg "list" = none
  free_len : mg "len" = none
  free_enumerate : mg "enumerate" = none
  gcl_LaneError : mg "LaneError" = some (.ref (He.ga K "LaneError"))
  free_ValueError : mg "ValueError" = none
section
variable {P : Program} {w : World} {K : PySem.W.Frag} {mg : Str → Option Value} {base : Heap}
theorem xsc_BadLanes : FnScope ["self", "name"] ["self", "name"] (defScope (inClass (topS 10) 0)) := ⟨rfl, rfl, rfl, by decide +kernel, rfl, by decide +kernel, by decide +kernel⟩
theorem xv_BadLanes (gL : mg "LaneError" = some (.ref (He.ga K "LaneError"))) (L : LanC K (He.ga K "LaneError")) {f : Addr} {fd : FuncData} (F : FunD K "__init__" "BadLanes.__init__" (defArgs (inClass (topS 10) 0)) (defBody (inClass (topS 10) 0)) (defScope (inClass (topS 10) 0)) [] [] f fd) : FnOk P w K mg base (L2.CX P w) 1 f fd ["self", "name"] (xiSp K "name") :=
  mkXInit (k := 0) F xsc_BadLanes gL L (fun cdv A outer s H E => pss_cons (ps_expr (pe_lane (by rfl) (by exact gL) (by exact L) (pa_cons (pe_var (i := 0) rfl (Or.inl rfl)) (pa_cons pe_str pa_nil)))) (pss_one (ps_ost (pe_var (i := 0) rfl (Or.inl rfl)) (pe_var (i := 1) rfl (Or.inl rfl)))))
theorem xsc_BadLine : FnScope ["self", "line"] ["self", "line"] (defScope (inClass (topS 4) 0)) := ⟨rfl, rfl, rfl, by decide +kernel, rfl, by decide +kernel, by decide +kernel⟩
theorem xv_BadLine (gL : mg "LaneError" = some (.ref (He.ga K "LaneError"))) (L : LanC K (He.ga K "LaneError")) (hS : mg "str" = none) {f : Addr} {fd : FuncData} (F : FunD K "__init__" "BadLine.__init__" (defArgs (inClass (topS 4) 0)) (defBody (inClass (topS 4) 0)) (defScope (inClass (topS 4) 0)) [] [] f fd) : FnOk P w K mg base (L2.CX P w) 1 f fd ["self", "line"] (xiSpI K "line") :=
  mkXInitI (k := 0) (m1 := "row ") (m2 := " has not its form") (by decide +kernel) (by decide +kernel) F xsc_BadLine (fun cdv A outer s H E => pss_cons (ps_expr (pe_lane (by rfl) (by exact gL) (by exact L) (pa_cons (pe_var (i := 0) rfl (Or.inl rfl)) (pa_cons (pe_op op_add_str (pe_op op_add_str pe_str (pe_callTy call_str_int (by rfl) (by exact hS) (by decide +kernel) (pa_cons (pe_var (i := 1) rfl (Or.inl rfl)) pa_nil) (by decide) (by decide) (by rfl) (by rfl))) pe_str) pa_nil)))) (pss_one (ps_ost (pe_var (i := 0) rfl (Or.inl rfl)) (pe_var (i := 1) rfl (Or.inl rfl)))))
theorem xsc_BadName : FnScope ["self", "name"] ["self", "name"] (defScope (inClass (topS 6) 0)) := ⟨rfl, rfl, rfl, by decide +kernel, rfl, by decide +kernel, by decide +kernel⟩
theorem xv_BadName (gL : mg "LaneError" = some (.ref (He.ga K "LaneError"))) (L : LanC K (He.ga K "LaneError")) {f : Addr} {fd : FuncData} (F : FunD K "__init__" "BadName.__init__" (defArgs (inClass (topS 6) 0)) (defBody (inClass (topS 6) 0)) (defScope (inClass (topS 6) 0)) [] [] f fd) : FnOk P w K mg base (L2.CX P w) 1 f fd ["self", "name"] (xiSp K "name") :=
  mkXInit (k := 0) F xsc_BadName gL L (fun cdv A outer s H E => pss_cons (ps_expr (pe_lane (by rfl) (by exact gL) (by exact L) (pa_cons (pe_var (i := 0) rfl (Or.inl rfl)) (pa_cons pe_str pa_nil)))) (pss_one (ps_ost (pe_var (i := 0) rfl (Or.inl rfl)) (pe_var (i := 1) rfl (Or.inl rfl)))))
theorem xsc_BadNumbers : FnScope ["self", "name"] ["self", "name"] (defScope (inClass (topS 9) 0)) := ⟨rfl, rfl, rfl, by decide +kernel, rfl, by decide +kernel, by decide +kernel⟩
theorem xv_BadNumbers (gL : mg "LaneError" = some (.ref (He.ga K "LaneError"))) (L : LanC K (He.ga K "LaneError")) {f : Addr} {fd : FuncData} (F : FunD K "__init__" "BadNumbers.__init__" (defArgs (inClass (topS 9) 0)) (defBody (inClass (topS 9) 0)) (defScope (inClass (topS 9) 0)) [] [] f fd) : FnOk P w K mg base (L2.CX P w) 1 f fd ["self", "name"] (xiSp K "name") :=
  mkXInit (k := 0) F xsc_BadNumbers gL L (fun cdv A outer s H E => pss_cons (ps_expr (pe_lane (by rfl) (by exact gL) (by exact L) (pa_cons (pe_var (i := 0) rfl (Or.inl rfl)) (pa_cons pe_str pa_nil)))) (pss_one (ps_ost (pe_var (i := 0) rfl (Or.inl rfl)) (pe_var (i := 1) rfl (Or.inl rfl)))))
theorem xsc_BadRoom : FnScope ["self", "name"] ["self", "name"] (defScope (inClass (topS 11) 0)) := ⟨rfl, rfl, rfl, by decide +kernel, rfl, by decide +kernel, by decide +kernel⟩
theorem xv_BadRoom (gL : mg "LaneError" = some (.ref (He.ga K "LaneError"))) (L : LanC K (He.ga K "LaneError")) {f : Addr} {fd : FuncData} (F : FunD K "__init__" "BadRoom.__init__" (defArgs (inClass (topS 11) 0)) (defBody (inClass (topS 11) 0)) (defScope (inClass (topS 11) 0)) [] [] f fd) : FnOk P w K mg base (L2.CX P w) 1 f fd ["self", "name"] (xiSp K "name") :=
  mkXInit (k := 0) F xsc_BadRoom gL L (fun cdv A outer s H E => pss_cons (ps_expr (pe_lane (by rfl) (by exact gL) (by exact L) (pa_cons (pe_var (i := 0) rfl (Or.inl rfl)) (pa_cons pe_str pa_nil)))) (pss_one (ps_ost (pe_var (i := 0) rfl (Or.inl rfl)) (pe_var (i := 1) rfl (Or.inl rfl)))))
theorem xsc_BadRow : FnScope ["self", "name"] ["self", "name"] (defScope (inClass (topS 16) 0)) := ⟨rfl, rfl, rfl, by decide +kernel, rfl, by decide +kernel, by decide +kernel⟩
theorem xv_BadRow (gL : mg "LaneError" = some (.ref (He.ga K "LaneError"))) (L : LanC K (He.ga K "LaneError")) {f : Addr} {fd : FuncData} (F : FunD K "__init__" "BadRow.__init__" (defArgs (inClass (topS 16) 0)) (defBody (inClass (topS 16) 0)) (defScope (inClass (topS 16) 0)) [] [] f fd) : FnOk P w K mg base (L2.CX P w) 1 f fd ["self", "name"] (xiSp K "name") :=
  mkXInit (k := 0) F xsc_BadRow gL L (fun cdv A outer s H E => pss_cons (ps_expr (pe_lane (by rfl) (by exact gL) (by exact L) (pa_cons (pe_var (i := 0) rfl (Or.inl rfl)) (pa_cons pe_str pa_nil)))) (pss_one (ps_ost (pe_var (i := 0) rfl (Or.inl rfl)) (pe_var (i := 1) rfl (Or.inl rfl)))))
theorem xsc_Doubled : FnScope ["self", "name"] ["self", "name"] (defScope (inClass (topS 7) 0)) := ⟨rfl, rfl, rfl, by decide +kernel, rfl, by decide +kernel, by decide +kernel⟩
theorem xv_Doubled (gL : mg "LaneError" = some (.ref (He.ga K "LaneError"))) (L : LanC K (He.ga K "LaneError")) {f : Addr} {fd : FuncData} (F : FunD K "__init__" "Doubled.__init__" (defArgs (inClass (topS 7) 0)) (defBody (inClass (topS 7) 0)) (defScope (inClass (topS 7) 0)) [] [] f fd) : FnOk P w K mg base (L2.CX P w) 1 f fd ["self", "name"] (xiSp K "name") :=
  mkXInit (k := 0) F xsc_Doubled gL L (fun cdv A outer s H E => pss_cons (ps_expr (pe_lane (by rfl) (by exact gL) (by exact L) (pa_cons (pe_var (i := 0) rfl (Or.inl rfl)) (pa_cons pe_str pa_nil)))) (pss_one (ps_ost (pe_var (i := 0) rfl (Or.inl rfl)) (pe_var (i := 1) rfl (Or.inl rfl)))))
theorem xsc_Full : FnScope ["self", "lane"] ["self", "lane"] (defScope (inClass (topS 18) 0)) := ⟨rfl, rfl, rfl, by decide +kernel, rfl, by decide +kernel, by decide +kernel⟩
theorem xv_Full (gL : mg "LaneError" = some (.ref (He.ga K "LaneError"))) (L : LanC K (He.ga K "LaneError")) {f : Addr} {fd : FuncData} (F : FunD K "__init__" "Full.__init__" (defArgs (inClass (topS 18) 0)) (defBody (inClass (topS 18) 0)) (defScope (inClass (topS 18) 0)) [] [] f fd) : FnOk P w K mg base (L2.CX P w) 1 f fd ["self", "lane"] (xiSp K "lane") :=
  mkXInit (k := 0) F xsc_Full gL L (fun cdv A outer s H E => pss_cons (ps_expr (pe_lane (by rfl) (by exact gL) (by exact L) (pa_cons (pe_var (i := 0) rfl (Or.inl rfl)) (pa_cons pe_str pa_nil)))) (pss_one (ps_ost (pe_var (i := 0) rfl (Or.inl rfl)) (pe_var (i := 1) rfl (Or.inl rfl)))))
theorem xsc_IsDoor : FnScope ["self", "name"] ["self", "name"] (defScope (inClass (topS 15) 0)) := ⟨rfl, rfl, rfl, by decide +kernel, rfl, by decide +kernel, by decide +kernel⟩
theorem xv_IsDoor (gL : mg "LaneError" = some (.ref (He.ga K "LaneError"))) (L : LanC K (He.ga K "LaneError")) {f : Addr} {fd : FuncData} (F : FunD K "__init__" "IsDoor.__init__" (defArgs (inClass (topS 15) 0)) (defBody (inClass (topS 15) 0)) (defScope (inClass (topS 15) 0)) [] [] f fd) : FnOk P w K mg base (L2.CX P w) 1 f fd ["self", "name"] (xiSp K "name") :=
  mkXInit (k := 0) F xsc_IsDoor gL L (fun cdv A outer s H E => pss_cons (ps_expr (pe_lane (by rfl) (by exact gL) (by exact L) (pa_cons (pe_var (i := 0) rfl (Or.inl rfl)) (pa_cons pe_str pa_nil)))) (pss_one (ps_ost (pe_var (i := 0) rfl (Or.inl rfl)) (pe_var (i := 1) rfl (Or.inl rfl)))))
theorem xsc_Lacks : FnScope ["self", "lane"] ["self", "lane"] (defScope (inClass (topS 17) 0)) := ⟨rfl, rfl, rfl, by decide +kernel, rfl, by decide +kernel, by decide +kernel⟩
theorem xv_Lacks (gL : mg "LaneError" = some (.ref (He.ga K "LaneError"))) (L : LanC K (He.ga K "LaneError")) {f : Addr} {fd : FuncData} (F : FunD K "__init__" "Lacks.__init__" (defArgs (inClass (topS 17) 0)) (defBody (inClass (topS 17) 0)) (defScope (inClass (topS 17) 0)) [] [] f fd) : FnOk P w K mg base (L2.CX P w) 1 f fd ["self", "lane"] (xiSp K "lane") :=
  mkXInit (k := 0) F xsc_Lacks gL L (fun cdv A outer s H E => pss_cons (ps_expr (pe_lane (by rfl) (by exact gL) (by exact L) (pa_cons (pe_var (i := 0) rfl (Or.inl rfl)) (pa_cons pe_str pa_nil)))) (pss_one (ps_ost (pe_var (i := 0) rfl (Or.inl rfl)) (pe_var (i := 1) rfl (Or.inl rfl)))))
theorem xsc_Loose : FnScope ["self", "name"] ["self", "name"] (defScope (inClass (topS 13) 0)) := ⟨rfl, rfl, rfl, by decide +kernel, rfl, by decide +kernel, by decide +kernel⟩
theorem xv_Loose (gL : mg "LaneError" = some (.ref (He.ga K "LaneError"))) (L : LanC K (He.ga K "LaneError")) {f : Addr} {fd : FuncData} (F : FunD K "__init__" "Loose.__init__" (defArgs (inClass (topS 13) 0)) (defBody (inClass (topS 13) 0)) (defScope (inClass (topS 13) 0)) [] [] f fd) : FnOk P w K mg base (L2.CX P w) 1 f fd ["self", "name"] (xiSp K "name") :=
  mkXInit (k := 0) F xsc_Loose gL L (fun cdv A outer s H E => pss_cons (ps_expr (pe_lane (by rfl) (by exact gL) (by exact L) (pa_cons (pe_var (i := 0) rfl (Or.inl rfl)) (pa_cons pe_str pa_nil)))) (pss_one (ps_ost (pe_var (i := 0) rfl (Or.inl rfl)) (pe_var (i := 1) rfl (Or.inl rfl)))))
theorem xsc_NoKind : FnScope ["self", "word"] ["self", "word"] (defScope (inClass (topS 5) 0)) := ⟨rfl, rfl, rfl, by decide +kernel, rfl, by decide +kernel, by decide +kernel⟩
theorem xv_NoKind (gL : mg "LaneError" = some (.ref (He.ga K "LaneError"))) (L : LanC K (He.ga K "LaneError")) {f : Addr} {fd : FuncData} (F : FunD K "__init__" "NoKind.__init__" (defArgs (inClass (topS 5) 0)) (defBody (inClass (topS 5) 0)) (defScope (inClass (topS 5) 0)) [] [] f fd) : FnOk P w K mg base (L2.CX P w) 1 f fd ["self", "word"] (xiSp K "word") :=
  mkXInit (k := 0) F xsc_NoKind gL L (fun cdv A outer s H E => pss_cons (ps_expr (pe_lane (by rfl) (by exact gL) (by exact L) (pa_cons (pe_var (i := 0) rfl (Or.inl rfl)) (pa_cons pe_str pa_nil)))) (pss_one (ps_ost (pe_var (i := 0) rfl (Or.inl rfl)) (pe_var (i := 1) rfl (Or.inl rfl)))))
theorem xsc_NoSuch : FnScope ["self", "name"] ["self", "name"] (defScope (inClass (topS 8) 0)) := ⟨rfl, rfl, rfl, by decide +kernel, rfl, by decide +kernel, by decide +kernel⟩
theorem xv_NoSuch (gL : mg "LaneError" = some (.ref (He.ga K "LaneError"))) (L : LanC K (He.ga K "LaneError")) {f : Addr} {fd : FuncData} (F : FunD K "__init__" "NoSuch.__init__" (defArgs (inClass (topS 8) 0)) (defBody (inClass (topS 8) 0)) (defScope (inClass (topS 8) 0)) [] [] f fd) : FnOk P w K mg base (L2.CX P w) 1 f fd ["self", "name"] (xiSp K "name") :=
  mkXInit (k := 0) F xsc_NoSuch gL L (fun cdv A outer s H E => pss_cons (ps_expr (pe_lane (by rfl) (by exact gL) (by exact L) (pa_cons (pe_var (i := 0) rfl (Or.inl rfl)) (pa_cons pe_str pa_nil)))) (pss_one (ps_ost (pe_var (i := 0) rfl (Or.inl rfl)) (pe_var (i := 1) rfl (Or.inl rfl)))))
theorem xsc_NotCalm : FnScope ["self", "name"] ["self", "name"] (defScope (inClass (topS 14) 0)) := ⟨rfl, rfl, rfl, by decide +kernel, rfl, by decide +kernel, by decide +kernel⟩
theorem xv_NotCalm (gL : mg "LaneError" = some (.ref (He.ga K "LaneError"))) (L : LanC K (He.ga K "LaneError")) {f : Addr} {fd : FuncData} (F : FunD K "__init__" "NotCalm.__init__" (defArgs (inClass (topS 14) 0)) (defBody (inClass (topS 14) 0)) (defScope (inClass (topS 14) 0)) [] [] f fd) : FnOk P w K mg base (L2.CX P w) 1 f fd ["self", "name"] (xiSp K "name") :=
  mkXInit (k := 0) F xsc_NotCalm gL L (fun cdv A outer s H E => pss_cons (ps_expr (pe_lane (by rfl) (by exact gL) (by exact L) (pa_cons (pe_var (i := 0) rfl (Or.inl rfl)) (pa_cons pe_str pa_nil)))) (pss_one (ps_ost (pe_var (i := 0) rfl (Or.inl rfl)) (pe_var (i := 1) rfl (Or.inl rfl)))))
theorem xsc_Open : FnScope ["self", "name"] ["self", "name"] (defScope (inClass (topS 12) 0)) := ⟨rfl, rfl, rfl, by decide +kernel, rfl, by decide +kernel, by decide +kernel⟩
theorem xv_Open (gL : mg "LaneError" = some (.ref (He.ga K "LaneError"))) (L : LanC K (He.ga K "LaneError")) {f : Addr} {fd : FuncData} (F : FunD K "__init__" "Open.__init__" (defArgs (inClass (topS 12) 0)) (defBody (inClass (topS 12) 0)) (defScope (inClass (topS 12) 0)) [] [] f fd) : FnOk P w K mg base (L2.CX P w) 1 f fd ["self", "name"] (xiSp K "name") :=
  mkXInit (k := 0) F xsc_Open gL L (fun cdv A outer s H E => pss_cons (ps_expr (pe_lane (by rfl) (by exact gL) (by exact L) (pa_cons (pe_var (i := 0) rfl (Or.inl rfl)) (pa_cons pe_str pa_nil)))) (pss_one (ps_ost (pe_var (i := 0) rfl (Or.inl rfl)) (pe_var (i := 1) rfl (Or.inl rfl)))))
theorem xsc_TooFast : FnScope ["self", "ring"] ["self", "ring"] (defScope (inClass (topS 19) 0)) := ⟨rfl, rfl, rfl, by decide +kernel, rfl, by decide +kernel, by decide +kernel⟩
theorem xv_TooFast (gL : mg "LaneError" = some (.ref (He.ga K "LaneError"))) (L : LanC K (He.ga K "LaneError")) (hS : mg "list" = none) {f : Addr} {fd : FuncData} (F : FunD K "__init__" "TooFast.__init__" (defArgs (inClass (topS 19) 0)) (defBody (inClass (topS 19) 0)) (defScope (inClass (topS 19) 0)) [] [] f fd) : FnOk P w K mg base (L2.CX P w) 1 f fd ["self", "ring"] (xiSpL K "ring") :=
  mkXInitL (k := 0) F xsc_TooFast (fun cdv A outer s H E => pss_cons (ps_expr (pe_lane (by rfl) (by exact gL) (by exact L) (pa_cons (pe_var (i := 0) rfl (Or.inl rfl)) (pa_cons pe_str pa_nil)))) (pss_one (ps_ost (pe_var (i := 0) rfl (Or.inl rfl)) (pe_callTy call_list_of (by rfl) (by exact hS) (by decide +kernel) (pa_cons (pe_var (i := 1) rfl (Or.inl rfl)) pa_nil) (by decide) (by decide) (by rfl) (by rfl)))))
theorem sc__law_kinds : FnScope N__law_kinds ["_law_e"] (defScope (topS 24)) := ⟨rfl, rfl, rfl, by decide +kernel, rfl, by decide +kernel, by decide +kernel⟩
theorem ok__law_kinds (T : Gf K mg) {f : Addr} {fd : FuncData} (F : FunD K "_law_kinds" "_law_kinds" (defArgs (topS 24)) (defBody (topS 24)) (defScope (topS 24)) [] [] f fd) : FnOk P w K mg base (L2.CX P w) 1 f fd ["_law_e"] (spOf K (sp__law_kinds K)) :=
  mkFn (t := t__law_kinds K) F sc__law_kinds len__law_kinds (fun cdv A outer s H E hr => by
    unfold t__law_kinds
    exact (qss_cons (qs_set 1 sc__law_kinds.nd (q_lst false (qa_cons (q_isV T.free_isinstance (pe_cls T.gcl_BadWord) relV_ref (qv 0)) (qa_cons (q_isV T.free_isinstance (pe_cls T.gcl_TooMany) relV_ref (qv 0)) (qa_cons (q_isV T.free_isinstance (pe_cls T.gcl_BadLine) relV_ref (qv 0)) (qa_cons (q_isV T.free_isinstance (pe_cls T.gcl_NoKind) relV_ref (qv 0)) qa_nil))))))
    (qss_cons (qs_set 1 sc__law_kinds.nd (q_add false (qv 1) (q_lst false (qa_cons (q_isV T.free_isinstance (pe_cls T.gcl_BadName) relV_ref (qv 0)) (qa_cons (q_isV T.free_isinstance (pe_cls T.gcl_Doubled) relV_ref (qv 0)) (qa_cons (q_isV T.free_isinstance (pe_cls T.gcl_NoSuch) relV_ref (qv 0)) (qa_cons (q_isV T.free_isinstance (pe_cls T.gcl_BadNumbers) relV_ref (qv 0)) qa_nil)))))))
    (qss_cons (qs_set 1 sc__law_kinds.nd (q_add false (qv 1) (q_lst false (qa_cons (q_isV T.free_isinstance (pe_cls T.gcl_BadLanes) relV_ref (qv 0)) (qa_cons (q_isV T.free_isinstance (pe_cls T.gcl_BadRoom) relV_ref (qv 0)) (qa_cons (q_isV T.free_isinstance (pe_cls T.gcl_Open) relV_ref (qv 0)) (qa_cons (q_isV T.free_isinstance (pe_cls T.gcl_Loose) relV_ref (qv 0)) qa_nil)))))))
    (qss_cons (qs_set 1 sc__law_kinds.nd (q_add false (qv 1) (q_lst false (qa_cons (q_isV T.free_isinstance (pe_cls T.gcl_NotCalm) relV_ref (qv 0)) (qa_cons (q_isV T.free_isinstance (pe_cls T.gcl_IsDoor) relV_ref (qv 0)) (qa_cons (q_isV T.free_isinstance (pe_cls T.gcl_BadRow) relV_ref (qv 0)) (qa_cons (q_isV T.free_isinstance (pe_cls T.gcl_Lacks) relV_ref (qv 0)) qa_nil)))))))
    (qss_cons (qs_set 1 sc__law_kinds.nd (q_add false (qv 1) (q_lst false (qa_cons (q_isV T.free_isinstance (pe_cls T.gcl_Full) relV_ref (qv 0)) (qa_cons (q_isV T.free_isinstance (pe_cls T.gcl_TooFast) relV_ref (qv 0)) qa_nil)))))
    (qss_one (qs_ret (q_lc false [("_law_k", 2)] rfl sc__law_kinds.nd (qi_range1 T.free_range (qa_cons q_int qa_nil)) (blkOk_by (N := N__law_kinds) (sc := defScope (topS 24)) (by decide +kernel)) (fun _ _ _ _ _ => (qg_name 2 sc__law_kinds.nd)) (fun _ _ _ _ _ => (qts_one (qt_val (q_ix (hu_of hr) (qv 1) (qv 2))))) (fun _ _ _ _ _ => (qv 2))))))))))) pure__law_kinds
theorem sc__law_made : FnScope N__law_made ["_law_word_here", "_law_number", "_law_rows"] (defScope (topS 25)) := ⟨rfl, rfl, rfl, by decide +kernel, rfl, by decide +kernel, by decide +kernel⟩
theorem ok__law_made (T : Gf K mg) (V_BadLanes : XiV P w K mg base 1 "BadLanes" "name" (xiSp K "name")) (V_BadLine : XiV P w K mg base 1 "BadLine" "line" (xiSpI K "line")) (V_BadName : XiV P w K mg base 1 "BadName" "name" (xiSp K "name")) (V_BadNumbers : XiV P w K mg base 1 "BadNumbers" "name" (xiSp K "name")) (V_BadRoom : XiV P w K mg base 1 "BadRoom" "name" (xiSp K "name")) (V_BadRow : XiV P w K mg base 1 "BadRow" "name" (xiSp K "name")) (V_Doubled : XiV P w K mg base 1 "Doubled" "name" (xiSp K "name")) (V_Full : XiV P w K mg base 1 "Full" "lane" (xiSp K "lane")) (V_IsDoor : XiV P w K mg base 1 "IsDoor" "name" (xiSp K "name")) (V_Lacks : XiV P w K mg base 1 "Lacks" "lane" (xiSp K "lane")) (V_Loose : XiV P w K mg base 1 "Loose" "name" (xiSp K "name")) (V_NoKind : XiV P w K mg base 1 "NoKind" "word" (xiSp K "word")) (V_NoSuch : XiV P w K mg base 1 "NoSuch" "name" (xiSp K "name")) (V_NotCalm : XiV P w K mg base 1 "NotCalm" "name" (xiSp K "name")) (V_Open : XiV P w K mg base 1 "Open" "name" (xiSp K "name")) (V_TooFast : XiV P w K mg base 1 "TooFast" "ring" (xiSpL K "ring")) {f : Addr} {fd : FuncData} (F : FunD K "_law_made" "_law_made" (defArgs (topS 25)) (defBody (topS 25)) (defScope (topS 25)) [] [] f fd) : FnOk P w K mg base (L2.CX P w) 3 f fd ["_law_word_here", "_law_number", "_law_rows"] (spOf K (sp__law_made K)) :=
  mkFn (t := t__law_made K) F sc__law_made len__law_made (fun cdv A outer s H E hr => by
    unfold t__law_made
    exact (qss_cons (qs_set 3 sc__law_made.nd (q_lst false (qa_cons (q_mkX0 T.exc_BadWord (qv 0)) (qa_cons (q_mkX0 T.exc_TooMany (qv 0)) (qa_cons (q_mkXI V_BadLine hr (by decide) (qv 1)) (qa_cons (q_mkX V_NoKind hr (by decide) (qv 0)) (qa_cons (q_mkX V_BadName hr (by decide) (qv 0)) (qa_cons (q_mkX V_Doubled hr (by decide) (qv 0)) (qa_cons (q_mkX V_NoSuch hr (by decide) (qv 0)) qa_nil)))))))))
    (qss_cons (qs_set 3 sc__law_made.nd (q_add false (qv 3) (q_lst false (qa_cons (q_mkX V_BadNumbers hr (by decide) (qv 0)) (qa_cons (q_mkX V_BadLanes hr (by decide) (qv 0)) (qa_cons (q_mkX V_BadRoom hr (by decide) (qv 0)) (qa_cons (q_mkX V_Open hr (by decide) (qv 0)) (qa_cons (q_mkX V_Loose hr (by decide) (qv 0)) (qa_cons (q_mkX V_NotCalm hr (by decide) (qv 0)) qa_nil)))))))))
    (qss_one (qs_ret (q_add false (qv 3) (q_lst false (qa_cons (q_mkX V_IsDoor hr (by decide) (qv 0)) (qa_cons (q_mkX V_BadRow hr (by decide) (qv 0)) (qa_cons (q_mkX V_Lacks hr (by decide) (qv 0)) (qa_cons (q_mkX V_Full hr (by decide) (qv 0)) (qa_cons (q_mkXL V_TooFast hr (by decide) (qv 2)) qa_nil)))))))))))) pure__law_made
theorem sc__law_mix : FnScope N__law_mix ["_law_cell_here", "_law_k"] (defScope (topS 22)) := ⟨rfl, rfl, rfl, by decide +kernel, rfl, by decide +kernel, by decide +kernel⟩
theorem ok__law_mix (T : Gf K mg) {f : Addr} {fd : FuncData} (F : FunD K "_law_mix" "_law_mix" (defArgs (topS 22)) (defBody (topS 22)) (defScope (topS 22)) [] [] f fd) : FnOk P w K mg base (L2.CX P w) 1 f fd ["_law_cell_here", "_law_k"] (spOf K sp__law_mix) :=
  mkFn (t := t__law_mix) F sc__law_mix len__law_mix (fun cdv A outer s H E hr => by
    unfold t__law_mix
    exact (qss_cons (qs_set 2 sc__law_mix.nd (q_mod (q_add false (q_add false (q_mul (q_mod (qv 0) q_int) q_int) (q_mul q_int (qv 1))) q_int) q_int))
    (qss_cons (qs_set 2 sc__law_mix.nd (q_mod (q_mul (qv 2) (qv 2)) q_int))
    (qss_one (qs_ret (q_mod (q_mul (q_add false (qv 2) (q_mul q_int (qv 1))) (qv 2)) q_int)))))) pure__law_mix
theorem sc__law_word : FnScope N__law_word ["_law_cell_here"] (defScope (topS 23)) := ⟨rfl, rfl, rfl, by decide +kernel, rfl, by decide +kernel, by decide +kernel⟩
theorem ok__law_word (T : Gf K mg) (G__law_mix : Df P w K mg base 1 "_law_mix" [] sp__law_mix) {f : Addr} {fd : FuncData} (F : FunD K "_law_word" "_law_word" (defArgs (topS 23)) (defBody (topS 23)) (defScope (topS 23)) [] [] f fd) : FnOk P w K mg base (L2.CX P w) 2 f fd ["_law_cell_here"] (spOf K sp__law_word) :=
  mkFn (t := t__law_word) F sc__law_word len__law_word (fun cdv A outer s H E hr => by
    unfold t__law_word
    exact (qss_cons (qs_set 1 sc__law_word.nd q_str)
    (qss_one (qs_ret (q_bm s_join PySem.F.plainAttrs_str PySem.F.slot_str_join PySem.F.type_str_join mt_join q_str (qa_cons (q_lc false [("_law_k", 2)] rfl sc__law_word.nd (qi_range1 T.free_range (qa_cons (q_mod (qv 0) q_int) qa_nil)) (blkOk_by (N := N__law_word) (sc := defScope (topS 23)) (by decide +kernel)) (fun _ _ _ _ _ => (qg_name 2 sc__law_word.nd)) (fun _ _ _ _ _ => qts_nil) (fun _ _ _ _ _ => (q_ix (hu_of hr) (qv 1) (q_mod (q_call G__law_mix hr (by decide) (qa_cons (qv 0) (qa_cons (qv 2) qa_nil))) q_int)))) qa_nil)))))) pure__law_word
theorem sc__law_cell : FnScope N__law_cell ["_law_script", "_law_k"] (defScope (topS 21)) := ⟨rfl, rfl, rfl, by decide +kernel, rfl, by decide +kernel, by decide +kernel⟩
theorem ok__law_cell (T : Gf K mg) {f : Addr} {fd : FuncData} (F : FunD K "_law_cell" "_law_cell" (defArgs (topS 21)) (defBody (topS 21)) (defScope (topS 21)) [] [] f fd) : FnOk P w K mg base (L2.CX P w) 1 f fd ["_law_script", "_law_k"] (spOf K sp__law_cell) :=
  mkFn (t := t__law_cell) F sc__law_cell len__law_cell (fun cdv A outer s H E hr => by
    unfold t__law_cell
    exact (qss_cons (qs_if (qt_c c_lt (qv 1) (q_len T.free_len (qa_cons (qv 0) qa_nil)))
    (qss_one (qs_ret (q_ix (hu_of hr) (qv 0) (qv 1))))
    qss_nil)
    (qss_one (qs_ret (q_add false (q_mul q_int (qv 1)) q_int))))) pure__law_cell
theorem sc_law : FnScope N_law ["_law_script"] (defScope (topS 26)) := ⟨rfl, rfl, rfl, by decide +kernel, rfl, by decide +kernel, by decide +kernel⟩
theorem ok_law (T : Gf K mg) (G__law_kinds : Df P w K mg base 1 "_law_kinds" [] (sp__law_kinds K)) (G__law_made : Df P w K mg base 3 "_law_made" [] (sp__law_made K)) (G__law_word : Df P w K mg base 2 "_law_word" [] sp__law_word) (G__law_cell : Df P w K mg base 1 "_law_cell" [] sp__law_cell) {f : Addr} {fd : FuncData} (F : FunD K "law" "law" (defArgs (topS 26)) (defBody (topS 26)) (defScope (topS 26)) [] [] f fd) : FnOk P w K mg base (L2.CX P w) 4 f fd ["_law_script"] (spOf K (sp_law K)) :=
  mkFn (t := t_law K) F sc_law len_law (fun cdv A outer s H E hr => by
    unfold t_law
    exact (qss_cons (qs_set 1 sc_law.nd (q_call G__law_word hr (by decide) (qa_cons (q_call G__law_cell hr (by decide) (qa_cons (qv 0) (qa_cons q_int qa_nil))) qa_nil)))
    (qss_cons (qs_set 2 sc_law.nd (q_mod (q_call G__law_cell hr (by decide) (qa_cons (qv 0) (qa_cons q_int qa_nil))) (q_pow q_int q_int)))
    (qss_cons (qs_setLc false 3 [("_law_cell_here", 8)] rfl sc_law.nd (qi_seq (q_slice false (qv 0) (qo_some q_int) (qo_some q_int))) (blkOk_by (N := N_law) (sc := defScope (topS 26)) (by decide +kernel)) (fun _ _ _ _ _ => (qg_name 8 sc_law.nd)) (fun _ _ _ _ _ => qts_nil) (fun _ _ _ _ _ => (q_tup (qa_cons (q_call G__law_word hr (by decide) (qa_cons (qv 8) qa_nil)) (qa_cons (q_call G__law_word hr (by decide) (qa_cons (q_div (qv 8) q_int) qa_nil)) (qa_cons (qv 2) (qa_cons q_str (qa_cons q_str qa_nil))))))) (sw_true rfl rfl rfl (by decide +kernel)))
    (qss_cons (qs_set 4 sc_law.nd (q_list true rfl T.free_list (qa_cons (qv 3) qa_nil)))
    (qss_cons (qs_set 5 sc_law.nd (q_call G__law_made hr (by decide) (qa_cons (qv 1) (qa_cons (qv 2) (qa_cons (qv 4) qa_nil)))))
    (qss_cons (qs_expr (q_bm s_append PySem.F.plainAttrs_list PySem.F.slot_list_append PySem.F.type_list_append mt_append (qv 4) (qa_cons q_int qa_nil)))
    (qss_cons (qs_for rfl (qi_enum T.free_enumerate (qa_cons (qv 5) qa_nil)) (qg_tup rfl (qgs_cons (qg_name 7 sc_law.nd) (qgs_cons (qg_name 6 sc_law.nd) qgs_nil)))
    (qss_one (qs_if (QW.pt (qw_or (qt_c (c_ne hr.units) (q_call G__law_kinds hr (by decide) (qa_cons (qv 6) qa_nil)) (q_lst false (qa_cons (qv 7) qa_nil))) (qw_or (qt_not (qt_val (q_isV T.free_isinstance (pe_cls T.gcl_LaneError) relV_ref (qv 6)))) (qw_or1 (qt_not (qt_val (q_isV T.free_isinstance (pe_ty T.free_ValueError (by decide +kernel)) relV_ty (qv 6))))))))
    (qss_one (qs_ret q_bl))
    qss_nil)))
    (qss_cons (qs_if (QW.pt (qw_or (qt_c (c_ne hr.units) (q_xoF (q_ix (hu_of hr) (qv 5) q_int)) (qv 2)) (qw_or (qt_c (c_ne hr.units) (q_xoF (q_ix (hu_of hr) (qv 5) q_int)) (qv 1)) (qw_or1 (qt_c (c_ne hr.units) (q_xoF (q_ix (hu_of hr) (qv 5) q_int)) (qv 3))))))
    (qss_one (qs_ret q_bl))
    qss_nil)
    (qss_cons (qs_for rfl (qi_seq (q_slice false (qv 5) (qo_some q_int) (qo_some q_int))) (qg_name 6 sc_law.nd)
    (qss_one (qs_if (qt_c (c_ne hr.units) (q_xoF (qv 6)) (qv 1))
    (qss_one (qs_ret q_bl))
    qss_nil)))
    (qss_one (qs_ret (q_and (q_c (c_eq hr.units) (q_xoF (q_ix (hu_of hr) (qv 5) q_int)) (qv 1)) (q_one (q_c (c_eq hr.units) (q_xoF (q_ix (hu_of hr) (qv 5) q_int)) (qv 1)))))))))))))))) pure_law
end
def fn : List He.DefD := [⟨("_law_kinds", none), "_law_kinds", "_law_kinds", defArgs (topS 24), defBody (topS 24), defScope (topS 24), [], []⟩,
  ⟨("_law_made", none), "_law_made", "_law_made", defArgs (topS 25), defBody (topS 25), defScope (topS 25), [], []⟩,
  ⟨("_law_mix", none), "_law_mix", "_law_mix", defArgs (topS 22), defBody (topS 22), defScope (topS 22), [], []⟩,
  ⟨("_law_word", none), "_law_word", "_law_word", defArgs (topS 23), defBody (topS 23), defScope (topS 23), [], []⟩,
  ⟨("_law_cell", none), "_law_cell", "_law_cell", defArgs (topS 21), defBody (topS 21), defScope (topS 21), [], []⟩,
  ⟨("law", none), "law", "law", defArgs (topS 26), defBody (topS 26), defScope (topS 26), [], []⟩,
  ⟨("BadLanes", some "__init__"), "__init__", "BadLanes.__init__", defArgs (inClass (topS 10) 0), defBody (inClass (topS 10) 0), defScope (inClass (topS 10) 0), [], []⟩,
  ⟨("BadLine", some "__init__"), "__init__", "BadLine.__init__", defArgs (inClass (topS 4) 0), defBody (inClass (topS 4) 0), defScope (inClass (topS 4) 0), [], []⟩,
  ⟨("BadName", some "__init__"), "__init__", "BadName.__init__", defArgs (inClass (topS 6) 0), defBody (inClass (topS 6) 0), defScope (inClass (topS 6) 0), [], []⟩,
  ⟨("BadNumbers", some "__init__"), "__init__", "BadNumbers.__init__", defArgs (inClass (topS 9) 0), defBody (inClass (topS 9) 0), defScope (inClass (topS 9) 0), [], []⟩,
  ⟨("BadRoom", some "__init__"), "__init__", "BadRoom.__init__", defArgs (inClass (topS 11) 0), defBody (inClass (topS 11) 0), defScope (inClass (topS 11) 0), [], []⟩,
  ⟨("BadRow", some "__init__"), "__init__", "BadRow.__init__", defArgs (inClass (topS 16) 0), defBody (inClass (topS 16) 0), defScope (inClass (topS 16) 0), [], []⟩,
  ⟨("Doubled", some "__init__"), "__init__", "Doubled.__init__", defArgs (inClass (topS 7) 0), defBody (inClass (topS 7) 0), defScope (inClass (topS 7) 0), [], []⟩,
  ⟨("Full", some "__init__"), "__init__", "Full.__init__", defArgs (inClass (topS 18) 0), defBody (inClass (topS 18) 0), defScope (inClass (topS 18) 0), [], []⟩,
  ⟨("IsDoor", some "__init__"), "__init__", "IsDoor.__init__", defArgs (inClass (topS 15) 0), defBody (inClass (topS 15) 0), defScope (inClass (topS 15) 0), [], []⟩,
  ⟨("Lacks", some "__init__"), "__init__", "Lacks.__init__", defArgs (inClass (topS 17) 0), defBody (inClass (topS 17) 0), defScope (inClass (topS 17) 0), [], []⟩,
  ⟨("Loose", some "__init__"), "__init__", "Loose.__init__", defArgs (inClass (topS 13) 0), defBody (inClass (topS 13) 0), defScope (inClass (topS 13) 0), [], []⟩,
  ⟨("NoKind", some "__init__"), "__init__", "NoKind.__init__", defArgs (inClass (topS 5) 0), defBody (inClass (topS 5) 0), defScope (inClass (topS 5) 0), [], []⟩,
  ⟨("NoSuch", some "__init__"), "__init__", "NoSuch.__init__", defArgs (inClass (topS 8) 0), defBody (inClass (topS 8) 0), defScope (inClass (topS 8) 0), [], []⟩,
  ⟨("NotCalm", some "__init__"), "__init__", "NotCalm.__init__", defArgs (inClass (topS 14) 0), defBody (inClass (topS 14) 0), defScope (inClass (topS 14) 0), [], []⟩,
  ⟨("Open", some "__init__"), "__init__", "Open.__init__", defArgs (inClass (topS 12) 0), defBody (inClass (topS 12) 0), defScope (inClass (topS 12) 0), [], []⟩,
  ⟨("TooFast", some "__init__"), "__init__", "TooFast.__init__", defArgs (inClass (topS 19) 0), defBody (inClass (topS 19) 0), defScope (inClass (topS 19) 0), [], []⟩]
def fa : List He.Fa := [.free "isinstance", .glo "NoKind", .glo "BadLine", .glo "TooMany", .glo "BadWord", .glo "BadNumbers", .glo "NoSuch", .glo "Doubled", .glo "BadName", .glo "Loose", .glo "Open", .glo "BadRoom", .glo "BadLanes", .glo "Lacks", .glo "BadRow", .glo "IsDoor", .glo "NotCalm", .glo "TooFast", .glo "Full", .free "range", .free "str", .exc "TooMany", .glo "TooMany", .exc "BadWord", .glo "BadWord", .free "list", .free "len", .free "enumerate", .glo "LaneError", .free "ValueError", .glo "_law_kinds", .glo "_law_made", .glo "_law_mix", .glo "_law_word", .glo "_law_cell", .glo "law", .glo "LaneError", .meth "BadLanes" "__init__", .noat "BadLanes" "name", .glo "BadLanes", .meth "BadLine" "__init__", .noat "BadLine" "line", .glo "BadLine", .meth "BadName" "__init__", .noat "BadName" "name", .glo "BadName", .meth "BadNumbers" "__init__", .noat "BadNumbers" "name", .glo "BadNumbers", .meth "BadRoom" "__init__", .noat "BadRoom" "name", .glo "BadRoom", .meth "BadRow" "__init__", .noat "BadRow" "name", .glo "BadRow", .meth "Doubled" "__init__", .noat "Doubled" "name", .glo "Doubled", .meth "Full" "__init__", .noat "Full" "lane", .glo "Full", .meth "IsDoor" "__init__", .noat "IsDoor" "name", .glo "IsDoor", .meth "Lacks" "__init__", .noat "Lacks" "lane", .glo "Lacks", .meth "Loose" "__init__", .noat "Loose" "name", .glo "Loose", .meth "NoKind" "__init__", .noat "NoKind" "word", .glo "NoKind", .meth "NoSuch" "__init__", .noat "NoSuch" "name", .glo "NoSuch", .meth "NotCalm" "__init__", .noat "NotCalm" "name", .glo "NotCalm", .meth "Open" "__init__", .noat "Open" "name", .glo "Open", .meth "TooFast" "__init__", .noat "TooFast" "ring", .glo "TooFast"]
def xa : List Xa := [.kitM ["BadWord", "TooMany", "BadLine", "NoKind", "BadName", "Doubled", "NoSuch", "BadNumbers", "BadLanes", "BadRoom", "Open", "Loose", "NotCalm", "IsDoor", "BadRow", "Lacks", "Full", "TooFast"], .ecs ["BadWord", "TooMany", "BadLine", "NoKind", "BadName", "Doubled", "NoSuch", "BadNumbers", "BadLanes", "BadRoom", "Open", "Loose", "NotCalm", "IsDoor", "BadRow", "Lacks", "Full", "TooFast"], .xf "BadLine" "line", .xf "NoKind" "word", .xf "BadName" "name", .xf "Doubled" "name", .xf "NoSuch" "name", .xf "BadNumbers" "name", .xf "BadLanes" "name", .xf "BadRoom" "name", .xf "Open" "name", .xf "Loose" "name", .xf "NotCalm" "name", .xf "IsDoor" "name", .xf "BadRow" "name", .xf "Lacks" "lane", .xf "Full" "lane", .xf "TooFast" "ring", .oex "BadLanes", .oex "BadLine", .oex "BadName", .oex "BadNumbers", .oex "BadRoom", .oex "BadRow", .oex "Doubled", .oex "Full", .oex "IsDoor", .oex "Lacks", .oex "Loose", .oex "NoKind", .oex "NoSuch", .oex "NotCalm", .oex "Open", .oex "TooFast", .lan "LaneError"]
abbrev R : PySem.W.OpenRow := PySem.W.OpenLaw.row PySem.Challenge.rw_holdlane_k05_refusals_apart
abbrev hk : PySem.W.Hook := hookE 6 fa fn xa
def ob (s : PySem.W.SharedT) : AlE := obsEG 6 fa fn xa (HandSHeadRun.getT s)
theorem ob_eq (s : PySem.W.SharedT) : ob s = hk.obs s.abs := obsEG_eq (HandSHeadRun.getT_eq s)
def loose : List Str := ("LaneError" : Str) :: ("BadWord" : Str) :: ("TooMany" : Str) :: ("BadLine" : Str) :: ("NoKind" : Str) :: ("BadName" : Str) :: ("Doubled" : Str) :: ("NoSuch" : Str) :: ("BadNumbers" : Str) :: ("BadLanes" : Str) :: ("BadRoom" : Str) :: ("Open" : Str) :: ("Loose" : Str) :: ("NotCalm" : Str) :: ("IsDoor" : Str) :: ("BadRow" : Str) :: ("Lacks" : Str) :: ("Full" : Str) :: ("TooFast" : Str) :: ("_law_cell" : Str) :: ("_law_mix" : Str) :: ("_law_word" : Str) :: ("_law_kinds" : Str) :: ("_law_made" : Str) :: []
theorem run (w : World) : HandSHeadRun.RunEq R (PySem.W.view R.prog [26]) hk ob 40000 loose w := by
  intro os
  kernel_rfl
theorem facts {P : Program} {w : World} {K : PySem.W.Frag} {h : Heap} {mg : Str → Option Value} {f : Addr} (X : K.In h) (G : h.Ns mainGlobals mg) (hfa : mg ("law" : Str) = some (.ref f)) (c0 : SaysE fa fn xa K) :
    ∃ fd : FuncData, KX K ∧ (∀ (s : Shared) (v : Value), BindsTo s fd ⟨[v], []⟩ [("_law_script", v)]) ∧ ∀ base : Heap, K.In base → base.Ns mainGlobals mg → FnOk P w K mg base (CXe P) 4 f fd ["_law_script"] (spOf K (sp_law K)) := by
  have c := c0.d
  have T : Gf K mg := ⟨He.free_ok X G (c.fact 0), He.glo_ok X G (c.fact 1), He.glo_ok X G (c.fact 2), He.glo_ok X G (c.fact 3), He.glo_ok X G (c.fact 4), He.glo_ok X G (c.fact 5), He.glo_ok X G (c.fact 6), He.glo_ok X G (c.fact 7), He.glo_ok X G (c.fact 8), He.glo_ok X G (c.fact 9), He.glo_ok X G (c.fact 10), He.glo_ok X G (c.fact 11), He.glo_ok X G (c.fact 12), He.glo_ok X G (c.fact 13), He.glo_ok X G (c.fact 14), He.glo_ok X G (c.fact 15), He.glo_ok X G (c.fact 16), He.glo_ok X G (c.fact 17), He.glo_ok X G (c.fact 18), He.free_ok X G (c.fact 19), He.free_ok X G (c.fact 20), (let q := He.exc_ok (x := "TooMany") (c.fact 21); ⟨q.1, q.2.1, q.2.2.1, q.2.2.2, He.glo_ok X G (c.fact 22)⟩), (let q := He.exc_ok (x := "BadWord") (c.fact 23); ⟨q.1, q.2.1, q.2.2.1, q.2.2.2, He.glo_ok X G (c.fact 24)⟩), He.free_ok X G (c.fact 25), He.free_ok X G (c.fact 26), He.free_ok X G (c.fact 27), He.glo_ok X G (c.fact 28), He.free_ok X G (c.fact 29)⟩
  obtain ⟨fd__law_kinds, F__law_kinds⟩ := c.def_ 0 (d := fn[0]) rfl
  obtain ⟨fd__law_made, F__law_made⟩ := c.def_ 1 (d := fn[1]) rfl
  obtain ⟨fd__law_mix, F__law_mix⟩ := c.def_ 2 (d := fn[2]) rfl
  obtain ⟨fd__law_word, F__law_word⟩ := c.def_ 3 (d := fn[3]) rfl
  obtain ⟨fd__law_cell, F__law_cell⟩ := c.def_ 4 (d := fn[4]) rfl
  obtain ⟨fd_law, F_law⟩ := c.def_ 5 (d := fn[5]) rfl
  obtain ⟨fd_XBadLanes, F_XBadLanes⟩ := c.def_ 6 (d := fn[6]) rfl
  obtain ⟨fd_XBadLine, F_XBadLine⟩ := c.def_ 7 (d := fn[7]) rfl
  obtain ⟨fd_XBadName, F_XBadName⟩ := c.def_ 8 (d := fn[8]) rfl
  obtain ⟨fd_XBadNumbers, F_XBadNumbers⟩ := c.def_ 9 (d := fn[9]) rfl
  obtain ⟨fd_XBadRoom, F_XBadRoom⟩ := c.def_ 10 (d := fn[10]) rfl
  obtain ⟨fd_XBadRow, F_XBadRow⟩ := c.def_ 11 (d := fn[11]) rfl
  obtain ⟨fd_XDoubled, F_XDoubled⟩ := c.def_ 12 (d := fn[12]) rfl
  obtain ⟨fd_XFull, F_XFull⟩ := c.def_ 13 (d := fn[13]) rfl
  obtain ⟨fd_XIsDoor, F_XIsDoor⟩ := c.def_ 14 (d := fn[14]) rfl
  obtain ⟨fd_XLacks, F_XLacks⟩ := c.def_ 15 (d := fn[15]) rfl
  obtain ⟨fd_XLoose, F_XLoose⟩ := c.def_ 16 (d := fn[16]) rfl
  obtain ⟨fd_XNoKind, F_XNoKind⟩ := c.def_ 17 (d := fn[17]) rfl
  obtain ⟨fd_XNoSuch, F_XNoSuch⟩ := c.def_ 18 (d := fn[18]) rfl
  obtain ⟨fd_XNotCalm, F_XNotCalm⟩ := c.def_ 19 (d := fn[19]) rfl
  obtain ⟨fd_XOpen, F_XOpen⟩ := c.def_ 20 (d := fn[20]) rfl
  obtain ⟨fd_XTooFast, F_XTooFast⟩ := c.def_ 21 (d := fn[21]) rfl
  have e := hfa.symm.trans (He.glo_ok X G (c.fact 35 (f := .glo "law") rfl))
  cases e
  have b := FunD.bindsA (ps := ["_law_script"]) F_law fun _ _ _ _ _ _ us hl => match us, hl with | [_], _ => rfl
  have hkx : KX K := ⟨kitM_ok (c0.x 0 (f := .kitM ["BadWord", "TooMany", "BadLine", "NoKind", "BadName", "Doubled", "NoSuch", "BadNumbers", "BadLanes", "BadRoom", "Open", "Loose", "NotCalm", "IsDoor", "BadRow", "Lacks", "Full", "TooFast"]) rfl), ecs_ok (c0.x 1 (f := .ecs ["BadWord", "TooMany", "BadLine", "NoKind", "BadName", "Doubled", "NoSuch", "BadNumbers", "BadLanes", "BadRoom", "Open", "Loose", "NotCalm", "IsDoor", "BadRow", "Lacks", "Full", "TooFast"]) rfl), xf_ok (c0.x 2 (f := .xf "BadLine" "line") rfl), xf_ok (c0.x 3 (f := .xf "NoKind" "word") rfl), xf_ok (c0.x 4 (f := .xf "BadName" "name") rfl), xf_ok (c0.x 5 (f := .xf "Doubled" "name") rfl), xf_ok (c0.x 6 (f := .xf "NoSuch" "name") rfl), xf_ok (c0.x 7 (f := .xf "BadNumbers" "name") rfl), xf_ok (c0.x 8 (f := .xf "BadLanes" "name") rfl), xf_ok (c0.x 9 (f := .xf "BadRoom" "name") rfl), xf_ok (c0.x 10 (f := .xf "Open" "name") rfl), xf_ok (c0.x 11 (f := .xf "Loose" "name") rfl), xf_ok (c0.x 12 (f := .xf "NotCalm" "name") rfl), xf_ok (c0.x 13 (f := .xf "IsDoor" "name") rfl), xf_ok (c0.x 14 (f := .xf "BadRow" "name") rfl), xf_ok (c0.x 15 (f := .xf "Lacks" "lane") rfl), xf_ok (c0.x 16 (f := .xf "Full" "lane") rfl), xf_ok (c0.x 17 (f := .xf "TooFast" "ring") rfl)⟩
  refine ⟨fd_law, hkx, fun s v => b s [v] rfl, fun base _ _ => ?_⟩
  have gL := He.glo_ok X G (c.fact 36 (f := .glo "LaneError") rfl)
  have hLan := lanB_ok (c0.x 34 (f := .lan "LaneError") rfl)
  have V_BadLanes : XiV P w K mg base 1 "BadLanes" "name" (xiSp K "name") := let mt := He.meth_ok (c.fact 37 (f := .meth "BadLanes" "__init__") rfl); ⟨⟨_, fd_XBadLanes, "name", oexB_ok (c0.x 18 (f := .oex "BadLanes") rfl), mt.at_, beq_iff_eq.mp mt.fn, xv_BadLanes gL hLan F_XBadLanes, FunD.bindsN F_XBadLanes (fun _ _ _ _ _ _ us hl => match us, hl with | [_, _], _ => rfl), He.noat_ok (c.fact 38 (f := .noat "BadLanes" "name") rfl), He.glo_ok X G (c.fact 39 (f := .glo "BadLanes") rfl)⟩⟩
  have V_BadLine : XiV P w K mg base 1 "BadLine" "line" (xiSpI K "line") := let mt := He.meth_ok (c.fact 40 (f := .meth "BadLine" "__init__") rfl); ⟨⟨_, fd_XBadLine, "line", oexB_ok (c0.x 19 (f := .oex "BadLine") rfl), mt.at_, beq_iff_eq.mp mt.fn, xv_BadLine gL hLan T.free_str F_XBadLine, FunD.bindsN F_XBadLine (fun _ _ _ _ _ _ us hl => match us, hl with | [_, _], _ => rfl), He.noat_ok (c.fact 41 (f := .noat "BadLine" "line") rfl), He.glo_ok X G (c.fact 42 (f := .glo "BadLine") rfl)⟩⟩
  have V_BadName : XiV P w K mg base 1 "BadName" "name" (xiSp K "name") := let mt := He.meth_ok (c.fact 43 (f := .meth "BadName" "__init__") rfl); ⟨⟨_, fd_XBadName, "name", oexB_ok (c0.x 20 (f := .oex "BadName") rfl), mt.at_, beq_iff_eq.mp mt.fn, xv_BadName gL hLan F_XBadName, FunD.bindsN F_XBadName (fun _ _ _ _ _ _ us hl => match us, hl with | [_, _], _ => rfl), He.noat_ok (c.fact 44 (f := .noat "BadName" "name") rfl), He.glo_ok X G (c.fact 45 (f := .glo "BadName") rfl)⟩⟩
  have V_BadNumbers : XiV P w K mg base 1 "BadNumbers" "name" (xiSp K "name") := let mt := He.meth_ok (c.fact 46 (f := .meth "BadNumbers" "__init__") rfl); ⟨⟨_, fd_XBadNumbers, "name", oexB_ok (c0.x 21 (f := .oex "BadNumbers") rfl), mt.at_, beq_iff_eq.mp mt.fn, xv_BadNumbers gL hLan F_XBadNumbers, FunD.bindsN F_XBadNumbers (fun _ _ _ _ _ _ us hl => match us, hl with | [_, _], _ => rfl), He.noat_ok (c.fact 47 (f := .noat "BadNumbers" "name") rfl), He.glo_ok X G (c.fact 48 (f := .glo "BadNumbers") rfl)⟩⟩
  have V_BadRoom : XiV P w K mg base 1 "BadRoom" "name" (xiSp K "name") := let mt := He.meth_ok (c.fact 49 (f := .meth "BadRoom" "__init__") rfl); ⟨⟨_, fd_XBadRoom, "name", oexB_ok (c0.x 22 (f := .oex "BadRoom") rfl), mt.at_, beq_iff_eq.mp mt.fn, xv_BadRoom gL hLan F_XBadRoom, FunD.bindsN F_XBadRoom (fun _ _ _ _ _ _ us hl => match us, hl with | [_, _], _ => rfl), He.noat_ok (c.fact 50 (f := .noat "BadRoom" "name") rfl), He.glo_ok X G (c.fact 51 (f := .glo "BadRoom") rfl)⟩⟩
  have V_BadRow : XiV P w K mg base 1 "BadRow" "name" (xiSp K "name") := let mt := He.meth_ok (c.fact 52 (f := .meth "BadRow" "__init__") rfl); ⟨⟨_, fd_XBadRow, "name", oexB_ok (c0.x 23 (f := .oex "BadRow") rfl), mt.at_, beq_iff_eq.mp mt.fn, xv_BadRow gL hLan F_XBadRow, FunD.bindsN F_XBadRow (fun _ _ _ _ _ _ us hl => match us, hl with | [_, _], _ => rfl), He.noat_ok (c.fact 53 (f := .noat "BadRow" "name") rfl), He.glo_ok X G (c.fact 54 (f := .glo "BadRow") rfl)⟩⟩
  have V_Doubled : XiV P w K mg base 1 "Doubled" "name" (xiSp K "name") := let mt := He.meth_ok (c.fact 55 (f := .meth "Doubled" "__init__") rfl); ⟨⟨_, fd_XDoubled, "name", oexB_ok (c0.x 24 (f := .oex "Doubled") rfl), mt.at_, beq_iff_eq.mp mt.fn, xv_Doubled gL hLan F_XDoubled, FunD.bindsN F_XDoubled (fun _ _ _ _ _ _ us hl => match us, hl with | [_, _], _ => rfl), He.noat_ok (c.fact 56 (f := .noat "Doubled" "name") rfl), He.glo_ok X G (c.fact 57 (f := .glo "Doubled") rfl)⟩⟩
  have V_Full : XiV P w K mg base 1 "Full" "lane" (xiSp K "lane") := let mt := He.meth_ok (c.fact 58 (f := .meth "Full" "__init__") rfl); ⟨⟨_, fd_XFull, "lane", oexB_ok (c0.x 25 (f := .oex "Full") rfl), mt.at_, beq_iff_eq.mp mt.fn, xv_Full gL hLan F_XFull, FunD.bindsN F_XFull (fun _ _ _ _ _ _ us hl => match us, hl with | [_, _], _ => rfl), He.noat_ok (c.fact 59 (f := .noat "Full" "lane") rfl), He.glo_ok X G (c.fact 60 (f := .glo "Full") rfl)⟩⟩
  have V_IsDoor : XiV P w K mg base 1 "IsDoor" "name" (xiSp K "name") := let mt := He.meth_ok (c.fact 61 (f := .meth "IsDoor" "__init__") rfl); ⟨⟨_, fd_XIsDoor, "name", oexB_ok (c0.x 26 (f := .oex "IsDoor") rfl), mt.at_, beq_iff_eq.mp mt.fn, xv_IsDoor gL hLan F_XIsDoor, FunD.bindsN F_XIsDoor (fun _ _ _ _ _ _ us hl => match us, hl with | [_, _], _ => rfl), He.noat_ok (c.fact 62 (f := .noat "IsDoor" "name") rfl), He.glo_ok X G (c.fact 63 (f := .glo "IsDoor") rfl)⟩⟩
  have V_Lacks : XiV P w K mg base 1 "Lacks" "lane" (xiSp K "lane") := let mt := He.meth_ok (c.fact 64 (f := .meth "Lacks" "__init__") rfl); ⟨⟨_, fd_XLacks, "lane", oexB_ok (c0.x 27 (f := .oex "Lacks") rfl), mt.at_, beq_iff_eq.mp mt.fn, xv_Lacks gL hLan F_XLacks, FunD.bindsN F_XLacks (fun _ _ _ _ _ _ us hl => match us, hl with | [_, _], _ => rfl), He.noat_ok (c.fact 65 (f := .noat "Lacks" "lane") rfl), He.glo_ok X G (c.fact 66 (f := .glo "Lacks") rfl)⟩⟩
  have V_Loose : XiV P w K mg base 1 "Loose" "name" (xiSp K "name") := let mt := He.meth_ok (c.fact 67 (f := .meth "Loose" "__init__") rfl); ⟨⟨_, fd_XLoose, "name", oexB_ok (c0.x 28 (f := .oex "Loose") rfl), mt.at_, beq_iff_eq.mp mt.fn, xv_Loose gL hLan F_XLoose, FunD.bindsN F_XLoose (fun _ _ _ _ _ _ us hl => match us, hl with | [_, _], _ => rfl), He.noat_ok (c.fact 68 (f := .noat "Loose" "name") rfl), He.glo_ok X G (c.fact 69 (f := .glo "Loose") rfl)⟩⟩
  have V_NoKind : XiV P w K mg base 1 "NoKind" "word" (xiSp K "word") := let mt := He.meth_ok (c.fact 70 (f := .meth "NoKind" "__init__") rfl); ⟨⟨_, fd_XNoKind, "word", oexB_ok (c0.x 29 (f := .oex "NoKind") rfl), mt.at_, beq_iff_eq.mp mt.fn, xv_NoKind gL hLan F_XNoKind, FunD.bindsN F_XNoKind (fun _ _ _ _ _ _ us hl => match us, hl with | [_, _], _ => rfl), He.noat_ok (c.fact 71 (f := .noat "NoKind" "word") rfl), He.glo_ok X G (c.fact 72 (f := .glo "NoKind") rfl)⟩⟩
  have V_NoSuch : XiV P w K mg base 1 "NoSuch" "name" (xiSp K "name") := let mt := He.meth_ok (c.fact 73 (f := .meth "NoSuch" "__init__") rfl); ⟨⟨_, fd_XNoSuch, "name", oexB_ok (c0.x 30 (f := .oex "NoSuch") rfl), mt.at_, beq_iff_eq.mp mt.fn, xv_NoSuch gL hLan F_XNoSuch, FunD.bindsN F_XNoSuch (fun _ _ _ _ _ _ us hl => match us, hl with | [_, _], _ => rfl), He.noat_ok (c.fact 74 (f := .noat "NoSuch" "name") rfl), He.glo_ok X G (c.fact 75 (f := .glo "NoSuch") rfl)⟩⟩
  have V_NotCalm : XiV P w K mg base 1 "NotCalm" "name" (xiSp K "name") := let mt := He.meth_ok (c.fact 76 (f := .meth "NotCalm" "__init__") rfl); ⟨⟨_, fd_XNotCalm, "name", oexB_ok (c0.x 31 (f := .oex "NotCalm") rfl), mt.at_, beq_iff_eq.mp mt.fn, xv_NotCalm gL hLan F_XNotCalm, FunD.bindsN F_XNotCalm (fun _ _ _ _ _ _ us hl => match us, hl with | [_, _], _ => rfl), He.noat_ok (c.fact 77 (f := .noat "NotCalm" "name") rfl), He.glo_ok X G (c.fact 78 (f := .glo "NotCalm") rfl)⟩⟩
  have V_Open : XiV P w K mg base 1 "Open" "name" (xiSp K "name") := let mt := He.meth_ok (c.fact 79 (f := .meth "Open" "__init__") rfl); ⟨⟨_, fd_XOpen, "name", oexB_ok (c0.x 32 (f := .oex "Open") rfl), mt.at_, beq_iff_eq.mp mt.fn, xv_Open gL hLan F_XOpen, FunD.bindsN F_XOpen (fun _ _ _ _ _ _ us hl => match us, hl with | [_, _], _ => rfl), He.noat_ok (c.fact 80 (f := .noat "Open" "name") rfl), He.glo_ok X G (c.fact 81 (f := .glo "Open") rfl)⟩⟩
  have V_TooFast : XiV P w K mg base 1 "TooFast" "ring" (xiSpL K "ring") := let mt := He.meth_ok (c.fact 82 (f := .meth "TooFast" "__init__") rfl); ⟨⟨_, fd_XTooFast, "ring", oexB_ok (c0.x 33 (f := .oex "TooFast") rfl), mt.at_, beq_iff_eq.mp mt.fn, xv_TooFast gL hLan T.free_list F_XTooFast, FunD.bindsN F_XTooFast (fun _ _ _ _ _ _ us hl => match us, hl with | [_, _], _ => rfl), He.noat_ok (c.fact 83 (f := .noat "TooFast" "ring") rfl), He.glo_ok X G (c.fact 84 (f := .glo "TooFast") rfl)⟩⟩
  have G__law_kinds : Df P w K mg base 1 "_law_kinds" [] (sp__law_kinds K) := ⟨_, fd__law_kinds, ["_law_e"], [], [], ok__law_kinds T F__law_kinds, He.glo_ok X G (c.fact 30 (f := .glo "_law_kinds") rfl), F__law_kinds.kp, FunD.bindsN F__law_kinds (fun _ _ _ _ _ _ us hl => match us, hl with | [_], _ => rfl), .nil, fun _ => .nil⟩
  have G__law_made : Df P w K mg base 3 "_law_made" [] (sp__law_made K) := ⟨_, fd__law_made, ["_law_word_here", "_law_number", "_law_rows"], [], [], ok__law_made T V_BadLanes V_BadLine V_BadName V_BadNumbers V_BadRoom V_BadRow V_Doubled V_Full V_IsDoor V_Lacks V_Loose V_NoKind V_NoSuch V_NotCalm V_Open V_TooFast F__law_made, He.glo_ok X G (c.fact 31 (f := .glo "_law_made") rfl), F__law_made.kp, FunD.bindsN F__law_made (fun _ _ _ _ _ _ us hl => match us, hl with | [_, _, _], _ => rfl), .nil, fun _ => .nil⟩
  have G__law_mix : Df P w K mg base 1 "_law_mix" [] sp__law_mix := ⟨_, fd__law_mix, ["_law_cell_here", "_law_k"], [], [], ok__law_mix T F__law_mix, He.glo_ok X G (c.fact 32 (f := .glo "_law_mix") rfl), F__law_mix.kp, FunD.bindsN F__law_mix (fun _ _ _ _ _ _ us hl => match us, hl with | [_, _], _ => rfl), .nil, fun _ => .nil⟩
  have G__law_word : Df P w K mg base 2 "_law_word" [] sp__law_word := ⟨_, fd__law_word, ["_law_cell_here"], [], [], ok__law_word T G__law_mix F__law_word, He.glo_ok X G (c.fact 33 (f := .glo "_law_word") rfl), F__law_word.kp, FunD.bindsN F__law_word (fun _ _ _ _ _ _ us hl => match us, hl with | [_], _ => rfl), .nil, fun _ => .nil⟩
  have G__law_cell : Df P w K mg base 1 "_law_cell" [] sp__law_cell := ⟨_, fd__law_cell, ["_law_script", "_law_k"], [], [], ok__law_cell T F__law_cell, He.glo_ok X G (c.fact 34 (f := .glo "_law_cell") rfl), F__law_cell.kp, FunD.bindsN F__law_cell (fun _ _ _ _ _ _ us hl => match us, hl with | [_, _], _ => rfl), .nil, fun _ => .nil⟩
  exact FnOk.toE (ok_law T G__law_kinds G__law_made G__law_word G__law_cell F_law)
end L_k05
open PySem PySem.W PySem.Calls PyProof.Rows
set_option maxRecDepth 100000 in
set_option maxHeartbeats 0 in
theorem PySem.Challenge.cw_holdlane_k05_refusals_apart_holds : PySem.Challenge.rw_holdlane_k05_refusals_apart.Holds := by
  w_on; o_law
  refine HandSHeadRun.head_any (r := OpenLaw.row PySem.Challenge.rw_holdlane_k05_refusals_apart) (q := view (OpenLaw.row PySem.Challenge.rw_holdlane_k05_refusals_apart).prog [26]) (H := L_k05.hk) (ob := L_k05.ob) (M := 40000) (loose := L_k05.loose) (d := HandSHeadRun.topDef (OpenLaw.row PySem.Challenge.rw_holdlane_k05_refusals_apart).prog 26) (kwd := []) L_k05.ob_eq
    (by kernel_rfl) (fun s => by kernel_rfl) L_k05.run (by kernel_rfl) (by kernel_rfl) (by kernel_rfl) (by rfl) (by first | assumption | decide +kernel) (by decide +kernel) ⟨rfl, rfl, rfl, rfl, rfl, by decide +kernel⟩ ?hw ?hc
  case hw => w_witness2
  case hc =>
    refine L2.walk_ofE (l := PySem.Challenge.rw_holdlane_k05_refusals_apart) (n := 63) (k := 4) (x := "_law_script") (CX := Ab.CXe (PySem.Challenge.rw_holdlane_k05_refusals_apart).prog) rfl (by decide) (by kernel_rfl) ⟨rfl, by decide, by decide⟩ ?F ?C
    case F =>
      intro w mg fa h Y G hmg0
      obtain ⟨K, KX, c⟩ := Y
      have hmg : mg ("law" : PySem.Str) = some (.ref fa) := by
        have e : (HandSHeadRun.topDef (OpenLaw.row PySem.Challenge.rw_holdlane_k05_refusals_apart).prog 26).name = ("law" : PySem.Str) := by kernel_rfl
        rw [← e]
        exact hmg0
      obtain ⟨fd, hkx, hb, hF⟩ := L_k05.facts (P := (PySem.Challenge.rw_holdlane_k05_refusals_apart).prog) (w := w) KX G hmg c
      exact ⟨K, fd, Ab.spOf K (L_k05.sp_law K), KX, hb, fun H a ns hl hO hS => Ab.lawEnd (L_k05.law_true hkx) H a ns hl hO hS, hF⟩
    case C => exact Ab.cxe_none
